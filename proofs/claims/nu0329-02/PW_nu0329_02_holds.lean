import PyProof.Rows.All
import Wide.All
import OpenK.AllK
import Wide.FinOn
import KE.KPar
import PySem.Challenge.RW_nu0329_02
open PySem PySem.W PyProof.Rows PySem.Calls PySem.Spec
set_option Elab.async false
set_option autoImplicit false
set_option linter.all false
section
namespace Mine

/-- abstract values -/
inductive AV where
  | none | bool (b : Bool) | int (i : Int) | str (s : Str) | tup (l : List AV) | lst (l : List AV) | obj (i : Nat)
/-- abstract objects that may change -/
inductive AO where
  | list (l : List AV)
  | inst (C : Addr) (fs : List (Nat × AV))
  | dict (ks : List Int)
structure ASt where
  env : List (Option AV)
  heap : List AO

noncomputable def atNames : List Str := ["source", "errors", "place", "words", "kind", "value", "rows", "places"]
noncomputable def atName (n : Nat) : Str := atNames.getD n "?"

abbrev Led := List (Addr × Obj)
abbrev tupO (vs : List Value) : Obj := { cls := .type "tuple", data := .seq vs.toArray }
abbrev lstO (vs : List Value) (n : Nat) : Obj := listOf vs.toArray n

mutual
inductive RV (hb : Heap) (ρ : List (List Addr)) (N : Led) : AV → Value → Prop
  | none : RV hb ρ N .none .none
  | bool (b : Bool) : RV hb ρ N (.bool b) (.bool b)
  | int (i : Int) (t : Tok) : RV hb ρ N (.int i) (.int i t)
  | str (s : Str) (t : Tok) : RV hb ρ N (.str s) (.str s t)
  | tup {l : List AV} {a : Addr} {vs : List Value} (h : (a, tupO vs) ∈ N) (r : RVs hb ρ N l vs) : RV hb ρ N (.tup l) (.ref a)
  | lst {l : List AV} {a : Addr} {vs : List Value} {n : Nat} (h : (a, lstO vs n) ∈ N) (ho : a ∉ ρ.flatten) (r : RVs hb ρ N l vs) : RV hb ρ N (.lst l) (.ref a)
  | lstB {l : List AV} {a : Addr} {vs : List Value} (h : hb.IsList a vs.toArray) (r : RVs hb ρ N l vs) : RV hb ρ N (.lst l) (.ref a)
  | obj {i : Nat} {a : Addr} {as : List Addr} (h : ρ[i]? = some (a :: as)) : RV hb ρ N (.obj i) (.ref a)
inductive RVs (hb : Heap) (ρ : List (List Addr)) (N : Led) : List AV → List Value → Prop
  | nil : RVs hb ρ N [] []
  | cons {a : AV} {v : Value} {l : List AV} {vs : List Value} (h : RV hb ρ N a v) (r : RVs hb ρ N l vs) : RVs hb ρ N (a :: l) (v :: vs)
end

theorem RVs.length {hb : Heap} {ρ : List (List Addr)} {N : Led} {l : List AV} {vs : List Value} (h : RVs hb ρ N l vs) : vs.length = l.length := by
  induction l generalizing vs with
  | nil => cases h; rfl
  | cons a l ih => cases h with | cons h r => rw [List.length_cons, List.length_cons, ih r]
theorem RVs.get {hb : Heap} {ρ : List (List Addr)} {N : Led} {l : List AV} {vs : List Value} (h : RVs hb ρ N l vs) {i : Nat} {a : AV} (e : l[i]? = some a) : ∃ v, vs[i]? = some v ∧ RV hb ρ N a v := by
  induction l generalizing vs i with
  | nil => cases e
  | cons b l ih =>
    cases h with
    | cons h r =>
      cases i with
      | zero => cases e; exact ⟨_, rfl, h⟩
      | succ i => exact ih r e
theorem RVs.append {hb : Heap} {ρ : List (List Addr)} {N : Led} {l l' : List AV} {vs vs' : List Value} (h : RVs hb ρ N l vs) (h' : RVs hb ρ N l' vs') : RVs hb ρ N (l ++ l') (vs ++ vs') := by
  induction l generalizing vs with
  | nil => cases h; exact h'
  | cons b l ih => cases h with | cons h r => exact .cons h (ih r)
theorem RVs.split {hb : Heap} {ρ : List (List Addr)} {N : Led} {l l' : List AV} {ws : List Value} (h : RVs hb ρ N (l ++ l') ws) : ∃ vs vs', ws = vs ++ vs' ∧ RVs hb ρ N l vs ∧ RVs hb ρ N l' vs' := by
  induction l generalizing ws with
  | nil => exact ⟨[], ws, rfl, .nil, h⟩
  | cons b l ih =>
    cases h with
    | cons h r =>
      obtain ⟨vs, vs', rfl, h1, h2⟩ := ih r
      exact ⟨_ :: vs, vs', rfl, .cons h h1, h2⟩
theorem RVs.set {hb : Heap} {ρ : List (List Addr)} {N : Led} {l : List AV} {vs : List Value} (h : RVs hb ρ N l vs) {i : Nat} {a : AV} {v : Value} (e : RV hb ρ N a v) : RVs hb ρ N (l.set i a) (vs.set i v) := by
  induction l generalizing vs i with
  | nil => cases h; exact .nil
  | cons b l ih =>
    cases h with
    | cons h r =>
      cases i with
      | zero => exact .cons e r
      | succ i => exact .cons h (ih r)
theorem RVs.reverse {hb : Heap} {ρ : List (List Addr)} {N : Led} {l : List AV} {vs : List Value} (h : RVs hb ρ N l vs) : RVs hb ρ N l.reverse vs.reverse := by
  induction l generalizing vs with
  | nil => cases h; exact .nil
  | cons b l ih => cases h with | cons h r => rw [List.reverse_cons, List.reverse_cons]; exact (ih r).append (.cons h .nil)
theorem RVs.take {hb : Heap} {ρ : List (List Addr)} {N : Led} {l : List AV} {vs : List Value} (h : RVs hb ρ N l vs) (n : Nat) : RVs hb ρ N (l.take n) (vs.take n) := by
  induction l generalizing vs n with
  | nil => cases h; cases n <;> exact .nil
  | cons b l ih => cases h with | cons h r => cases n with | zero => exact .nil | succ n => exact .cons h (ih r n)

/-- what never changes, whatever the program does: tuples, and lists that no abstract object owns -/
noncomputable def Frozen (ρ : List (List Addr)) (q : Addr) (o : Obj) : Prop := o.cls = .type "tuple" ∨ (o.cls = .type "list" ∧ q ∉ ρ.flatten)
structure Grow (ρ ρ' : List (List Addr)) (N N' : Led) : Prop where
  fr : ∀ q o, (q, o) ∈ N → Frozen ρ q o → (q, o) ∈ N'
  ex : ∀ (i : Nat) (x : List Addr), ρ[i]? = some x → ρ'[i]? = some x
  ow : ∀ q o, (q, o) ∈ N → q ∉ ρ.flatten → q ∉ ρ'.flatten

mutual
theorem RV.mono {hb : Heap} {ρ ρ' : List (List Addr)} {N N' : Led} (g : Grow ρ ρ' N N') : ∀ {a : AV} {v : Value}, RV hb ρ N a v → RV hb ρ' N' a v
  | _, _, .none => .none
  | _, _, .bool b => .bool b
  | _, _, .int i t => .int i t
  | _, _, .str s t => .str s t
  | _, _, .tup h r => .tup (g.fr _ _ h (.inl rfl)) (RVs.mono g r)
  | _, _, .lst h ho r => .lst (g.fr _ _ h (.inr ⟨rfl, ho⟩)) (g.ow _ _ h ho) (RVs.mono g r)
  | _, _, .lstB h r => .lstB h (RVs.mono g r)
  | _, _, .obj h => .obj (g.ex _ _ h)
theorem RVs.mono {hb : Heap} {ρ ρ' : List (List Addr)} {N N' : Led} (g : Grow ρ ρ' N N') : ∀ {l : List AV} {vs : List Value}, RVs hb ρ N l vs → RVs hb ρ' N' l vs
  | _, _, .nil => .nil
  | _, _, .cons h r => .cons (RV.mono g h) (RVs.mono g r)
end

/-- a field's entry in an instance's dict -/
structure FRel (P : Params) (hb : Heap) (ρ : List (List Addr)) (N : Led) (f : Nat × AV) (e : DictEntry) : Prop where
  key : ∃ t, e.key = .str (atName f.1) t
  hash : e.hash = PyData.keyHash P (atName f.1)
  val : RV hb ρ N f.2 e.val
inductive FRels (P : Params) (hb : Heap) (ρ : List (List Addr)) (N : Led) : List (Nat × AV) → List DictEntry → Prop
  | nil : FRels P hb ρ N [] []
  | cons {f : Nat × AV} {e : DictEntry} {fs : List (Nat × AV)} {es : List DictEntry} (h : FRel P hb ρ N f e) (r : FRels P hb ρ N fs es) : FRels P hb ρ N (f :: fs) (e :: es)
theorem FRels.mono {P : Params} {hb : Heap} {ρ ρ' : List (List Addr)} {N N' : Led} (g : Grow ρ ρ' N N') {fs : List (Nat × AV)} {es : List DictEntry} (h : FRels P hb ρ N fs es) : FRels P hb ρ' N' fs es := by
  induction h with
  | nil => exact .nil
  | cons h _ ih => exact .cons ⟨h.key, h.hash, h.val.mono g⟩ ih


/-- an attribute of an own class's objects may be read and stored -/
structure AttrOk (K : Frag) (C : Addr) (name : Str) : Prop where
  pg : plainGet K C name = true
  hd : hasDictIn K C = true
  fi : ∃ attr, findIn K (.ref C) name = some attr ∧ noGet K attr = true
  se : findIn K (.ref C) "__setattr__" = some (some (.builtin "object.__setattr__"))
  po : plainOver K C = true
  tk : takerIn K C name = some none
structure MethOk (K : Frag) (C : Addr) (name : Str) (f : Addr) : Prop where
  pg : plainGet K C name = true
  fi : findIn K (.ref C) name = some (some (.ref f))
  fn : isFn K (.ref f) = true
  kp : keepIn K (.ref f) = true
structure NewOk (K : Frag) (C f : Addr) : Prop where
  made : makesIn K C = true
  fi : findIn K (.ref C) "__init__" = some (some (.ref f))
  fn : isFn K (.ref f) = true
  kp : keepIn K (.ref C) = true
/-- the program's run that everything is said of -/
structure Gl where
  prog : Program
  w : World
  K : Frag
  p : Program
  loose : List Str
  mean : ExcName → Option Value
  mg : Str → Option Value
  mb : Str → Option Value
  ct : List (Addr × Nat)
  mt : List (Str × Addr × Addr)
  ctOk : ∀ p ∈ ct, p.2 < 8 ∧ AttrOk K p.1 (atName p.2)
  mtOk : ∀ q ∈ mt, MethOk K q.2.1 q.1 q.2.2 ∧ q.1 ∉ atNames

/-- a frame: a def's body under way -/
structure Cx (G : Gl) where
  A : Around
  qual : Str
  sc : Scope
  fa : Addr
  cd : Value
  outer : List Env
  A₀ : Around
  base : Heap
  h₀ : Heap
  L : Addr
  gens : Array GenState
  drawn : Drawn
  os : OsState
  lv : Nat
  B : Below A₀ base outer h₀
  X : G.K.In h₀
  T : Top G.p G.loose G.mean G.mg G.mb h₀
  hA : A.frames = some (envOf qual sc L fa cd :: outer)
  hh : A.handled = none
  hk : sc.kind = .function
  nd : (sc.names.map (·.1)).Nodup
  hd : A.depth + 3 * lv < recursionLimit
  hu : A.units + 40 * lv + 400 < cLine
abbrev Cx.env {G : Gl} (c : Cx G) : Env := envOf c.qual c.sc c.L c.fa c.cd
abbrev Cx.M {G : Gl} (_ : Cx G) : Model := model G.prog G.w

/-- what the caller keeps: pending values, and ledger rows that no abstract object owns -/
structure Fm where
  as : List AV
  vs : List Value
  xs : Led
abbrev Fm.push (f : Fm) (a : AV) (v : Value) : Fm := ⟨a :: f.as, v :: f.vs, f.xs⟩

/-- the ledger bears an abstract object at its own addresses -/
noncomputable def RO (G : Gl) (hb : Heap) (ρ : List (List Addr)) (N : Led) (as : List Addr) : AO → Prop
  | .list l => ∃ a vs n, as = [a] ∧ (a, lstO vs n) ∈ N ∧ RVs hb ρ N l vs
  | .inst C fs => ∃ x dx es n, as = [x, dx] ∧ (x, instObj C dx) ∈ N ∧ (dx, dictOf es n) ∈ N ∧ FRels G.w.params hb ρ N fs es ∧ (∀ f ∈ fs, (C, f.1) ∈ G.ct) ∧ fs.length ≤ 100
  | .dict ks => ∃ a o kvs D, as = [a] ∧ (a, o) ∈ N ∧ (a == sysModules) = false ∧ o.IsDictOf (intKind G.prog G.w) kvs ∧ PyProof.V.FlatPairs PyData.int kvs D ∧
      (∀ i, (Spec.lookup (PyData.int i) D).isSome = ks.contains i) ∧ D.length ≤ ks.length

structure RelD {G : Gl} (c : Cx G) (st : ASt) (fm : Fm) (s : Shared) (ρ : List (List Addr)) (N : Led) (m : Str → Option Value) : Prop where
  F : Fr c.h₀ c.L s.heap m
  nw : News c.h₀ c.L s.heap N
  nd : (N.map (·.1)).Nodup
  ow : ρ.flatten.Nodup
  len : ρ.length = st.heap.length
  env : ∀ (i : Nat) (a : AV), st.env[i]? = some (some a) → ∃ x v, c.sc.names[i]? = some (x, .local) ∧ m x = some v ∧ RV c.base ρ N a v
  heap : ∀ (i : Nat) (o : AO), st.heap[i]? = some o → ∃ as, ρ[i]? = some as ∧ RO G c.base ρ N as o
  pend : RVs c.base ρ N fm.as fm.vs
  xs : ∀ p ∈ fm.xs, p ∈ N ∧ p.1 ∉ ρ.flatten ∧ p.2.cls ≠ .type "list" ∧ p.2.cls ≠ .type "tuple"
  g : s.gens = c.gens ∧ s.drawn = c.drawn ∧ s.os = c.os
noncomputable def Rel {G : Gl} (c : Cx G) (st : ASt) (fm : Fm) (s : Shared) : Prop := ∃ ρ N m, RelD c st fm s ρ N m


theorem upd_mem {d : Addr} {o o' : Obj} {N N' : Led} (u : Upd d o o' N N') : ∀ p ∈ N, p.1 ≠ d → p ∈ N' := by
  obtain ⟨pre, post, rfl, rfl, _, _⟩ := u.split
  intro p hp hd
  rcases List.mem_append.mp hp with h | h
  · exact List.mem_append_left _ h
  · rcases List.mem_cons.mp h with rfl | h
    · exact absurd rfl hd
    · exact List.mem_append_right _ (List.mem_cons_of_mem _ h)
theorem upd_new {d : Addr} {o o' : Obj} {N N' : Led} (u : Upd d o o' N N') : (d, o') ∈ N' := by
  obtain ⟨pre, post, rfl, rfl, _, _⟩ := u.split
  exact List.mem_append_right _ (.head _)
theorem upd_old {d : Addr} {o o' : Obj} {N N' : Led} (u : Upd d o o' N N') : (d, o) ∈ N := by
  obtain ⟨pre, post, rfl, rfl, _, _⟩ := u.split
  exact List.mem_append_right _ (.head _)
theorem upd_keys {d : Addr} {o o' : Obj} {N N' : Led} (u : Upd d o o' N N') : N'.map (·.1) = N.map (·.1) := by
  obtain ⟨pre, post, rfl, rfl, _, _⟩ := u.split
  simp
theorem upd_of {d : Addr} {o o' : Obj} : ∀ {N : Led}, (N.map (·.1)).Nodup → (d, o) ∈ N → ∃ N', Upd d o o' N N'
  | p :: N, nd, h => by
    rw [List.map_cons, List.nodup_cons] at nd
    rcases List.mem_cons.mp h with rfl | h
    · exact ⟨_, .head fun q hq e => nd.1 (e ▸ List.mem_map_of_mem (f := (·.1)) hq)⟩
    · obtain ⟨N', u⟩ := upd_of (o' := o') nd.2 h
      exact ⟨_, .tail (fun e => nd.1 (e ▸ List.mem_map_of_mem (f := (·.1)) h)) u⟩
theorem mem_one {N : Led} (nd : (N.map (·.1)).Nodup) {d : Addr} {o o' : Obj} (h : (d, o) ∈ N) (h' : (d, o') ∈ N) : o = o' := by
  induction N with
  | nil => cases h
  | cons p N ih =>
    rw [List.map_cons, List.nodup_cons] at nd
    rcases List.mem_cons.mp h with rfl | h1
    · rcases List.mem_cons.mp h' with e | h2
      · cases e; rfl
      · exact absurd (List.mem_map_of_mem (f := (·.1)) h2) nd.1
    · rcases List.mem_cons.mp h' with rfl | h2
      · exact absurd (List.mem_map_of_mem (f := (·.1)) h1) nd.1
      · exact ih nd.2 h1 h2

theorem grow_cons {ρ : List (List Addr)} {N : Led} (p : Addr × Obj) : Grow ρ ρ N (p :: N) := ⟨fun _ _ h _ => .tail _ h, fun _ _ h => h, fun _ _ _ h => h⟩
theorem grow_sub {ρ : List (List Addr)} {N N' : Led} (h : ∀ p ∈ N, p ∈ N') : Grow ρ ρ N N' := ⟨fun _ _ h' _ => h _ h', fun _ _ h => h, fun _ _ _ h => h⟩
theorem grow_own {ρ : List (List Addr)} {N N' : Led} {as : List Addr} (hs : ∀ p ∈ N, p ∈ N') (hf : ∀ p ∈ N, p.1 ∉ as) : Grow ρ (ρ ++ [as]) N N' := by
  refine ⟨fun _ _ h _ => hs _ h, fun i x h => ?_, fun q o h ho hq => ?_⟩
  · rw [List.getElem?_append_left (List.getElem?_eq_some_iff.mp h).1]; exact h
  · rw [List.flatten_append, List.mem_append] at hq
    rcases hq with hq | hq
    · exact ho hq
    · exact hf _ h (by simpa using hq)
theorem grow_upd {ρ : List (List Addr)} {N N' : Led} {d : Addr} {o o' : Obj} (nd : (N.map (·.1)).Nodup) (u : Upd d o o' N N') (h1 : o.cls ≠ .type "tuple") (h2 : o.cls = .type "list" → d ∈ ρ.flatten) : Grow ρ ρ N N' := by
  refine ⟨fun q x h hz => upd_mem u _ h fun e => ?_, fun _ _ h => h, fun _ _ _ h => h⟩
  have e : q = d := e
  subst e
  have : x = o := mem_one nd h (upd_old u)
  subst this
  rcases hz with hz | ⟨hz, hw⟩
  · exact h1 hz
  · exact hw (h2 hz)

theorem RO.mono {G : Gl} {hb : Heap} {ρ ρ' : List (List Addr)} {N N' : Led} {as : List Addr} {o : AO} (h : RO G hb ρ N as o) (g : Grow ρ ρ' N N') (k : ∀ a ∈ as, ∀ x, (a, x) ∈ N → (a, x) ∈ N') : RO G hb ρ' N' as o := by
  cases o with
  | list l =>
    obtain ⟨a, vs, n, rfl, h1, h2⟩ := h
    exact ⟨a, vs, n, rfl, k _ (.head _) _ h1, h2.mono g⟩
  | inst C fs =>
    obtain ⟨x, dx, es, n, rfl, h1, h2, h3, h4⟩ := h
    exact ⟨x, dx, es, n, rfl, k _ (.head _) _ h1, k _ (.tail _ (.head _)) _ h2, h3.mono g, h4⟩
  | dict ks =>
    obtain ⟨a, o, kvs, D, rfl, h1, r⟩ := h
    exact ⟨a, o, kvs, D, rfl, k _ (.head _) _ h1, r⟩
theorem RO.mem {G : Gl} {hb : Heap} {ρ : List (List Addr)} {N : Led} {as : List Addr} {o : AO} (h : RO G hb ρ N as o) : ∀ a ∈ as, ∃ x, (a, x) ∈ N := by
  cases o with
  | list l => obtain ⟨a, vs, n, rfl, h1, h2⟩ := h; intro b hb; cases List.mem_singleton.mp hb; exact ⟨_, h1⟩
  | inst C fs =>
    obtain ⟨x, dx, es, n, rfl, h1, h2, h3⟩ := h
    intro b hb
    rcases List.mem_cons.mp hb with rfl | hb
    · exact ⟨_, h1⟩
    · cases List.mem_singleton.mp hb; exact ⟨_, h2⟩
  | dict ks => obtain ⟨a, o, kvs, D, rfl, h1, r⟩ := h; intro b hb; cases List.mem_singleton.mp hb; exact ⟨_, h1⟩

theorem own_mem {ρ : List (List Addr)} {i : Nat} {as : List Addr} (h : ρ[i]? = some as) {a : Addr} (ha : a ∈ as) : a ∈ ρ.flatten := List.mem_flatten.mpr ⟨as, List.mem_of_getElem? h, ha⟩
theorem own_apart : ∀ {ρ : List (List Addr)}, ρ.flatten.Nodup → ∀ {i j : Nat} {as bs : List Addr}, ρ[i]? = some as → ρ[j]? = some bs → i ≠ j → ∀ a ∈ as, a ∉ bs
  | [], _, _, _, _, _, h, _, _ => by cases h
  | r :: ρ, nd, i, j, as, bs, h1, h2, hij => by
    rw [List.flatten_cons, List.nodup_append] at nd
    obtain ⟨_, n2, n3⟩ := nd
    cases i with
    | zero =>
      cases j with
      | zero => exact absurd rfl hij
      | succ j =>
        cases h1
        exact fun a ha hb => n3 a ha a (own_mem (by simpa using h2) hb) rfl
    | succ i =>
      cases j with
      | zero =>
        cases h2
        exact fun a ha hb => n3 a hb a (own_mem (by simpa using h1) ha) rfl
      | succ j => exact own_apart n2 (by simpa using h1) (by simpa using h2) (fun e => hij (by rw [e]))

section
variable {G : Gl} {c : Cx G} {st : ASt} {fm : Fm} {s : Shared} {ρ : List (List Addr)} {N N' : Led} {m : Str → Option Value} {h' : Heap} {k : Nat}

/-- the same ledger, another heap -/
theorem RelD.same (r : RelD c st fm s ρ N m) (F : Fr c.h₀ c.L h' m) (nw : News c.h₀ c.L h' N) : RelD c st fm { s with heap := h', toks := k } ρ N m :=
  ⟨F, nw, r.nd, r.ow, r.len, r.env, r.heap, r.pend, r.xs, r.g⟩
theorem RelD.toks (r : RelD c st fm s ρ N m) : RelD c st fm { s with toks := k } ρ N m := ⟨r.F, r.nw, r.nd, r.ow, r.len, r.env, r.heap, r.pend, r.xs, r.g⟩
/-- another ledger that bears all of the old -/
theorem RelD.more (r : RelD c st fm s ρ N m) (F : Fr c.h₀ c.L h' m) (nw : News c.h₀ c.L h' N') (nd : (N'.map (·.1)).Nodup) (hs : ∀ p ∈ N, p ∈ N') : RelD c st fm { s with heap := h', toks := k } ρ N' m := by
  have g : Grow ρ ρ N N' := grow_sub hs
  refine ⟨F, nw, nd, r.ow, r.len, fun i a e => ?_, fun i o e => ?_, r.pend.mono g, fun p hp => ⟨hs _ (r.xs p hp).1, (r.xs p hp).2⟩, r.g⟩
  · obtain ⟨x, v, h1, h2, h3⟩ := r.env i a e
    exact ⟨x, v, h1, h2, h3.mono g⟩
  · obtain ⟨as, h1, h2⟩ := r.heap i o e
    exact ⟨as, h1, h2.mono g fun _ _ _ h => hs _ h⟩
theorem nd_cons {q : Addr} {o : Obj} (nd : (N.map (·.1)).Nodup) (l : ∀ p ∈ N, p.1 ≠ q) : (((q, o) :: N).map (·.1)).Nodup := by
  rw [List.map_cons, List.nodup_cons]
  refine ⟨fun h => ?_, nd⟩
  obtain ⟨p, hp, e⟩ := List.mem_map.mp h
  exact l p hp e
/-- a frozen object is made -/
theorem RelD.frozen {q : Addr} {o : Obj} (r : RelD c st fm s ρ N m) (F : Fr c.h₀ c.L h' m) (nw : News c.h₀ c.L h' ((q, o) :: N)) (l : ∀ p ∈ N, p.1 ≠ q) : RelD c st fm { s with heap := h', toks := k } ρ ((q, o) :: N) m :=
  r.more F nw (nd_cons r.nd l) fun _ h => .tail _ h
theorem RelD.off {q : Addr} (r : RelD c st fm s ρ N m) (l : ∀ p ∈ N, p.1 ≠ q) : q ∉ ρ.flatten := by
  intro h
  obtain ⟨as, h1, h2⟩ := List.mem_flatten.mp h
  obtain ⟨i, hi⟩ := List.getElem?_of_mem h1
  have hlt : i < st.heap.length := r.len ▸ (List.getElem?_eq_some_iff.mp hi).1
  obtain ⟨as', e1, e2⟩ := r.heap i _ (List.getElem?_eq_getElem hlt)
  rw [hi] at e1
  cases e1
  obtain ⟨x, hx⟩ := e2.mem q h2
  exact l _ hx rfl
/-- a pending value is taken, or another one is put -/
theorem RelD.fmTo {fm' : Fm} (r : RelD c st fm s ρ N m) (h : RVs c.base ρ N fm'.as fm'.vs) (hx : fm'.xs = fm.xs) : RelD c st fm' s ρ N m := ⟨r.F, r.nw, r.nd, r.ow, r.len, r.env, r.heap, h, hx ▸ r.xs, r.g⟩
theorem RelD.push {a : AV} {v : Value} (r : RelD c st fm s ρ N m) (h : RV c.base ρ N a v) : RelD c st (fm.push a v) s ρ N m := r.fmTo (.cons h r.pend) rfl
theorem RelD.top {a : AV} {v : Value} (r : RelD c st (fm.push a v) s ρ N m) : RV c.base ρ N a v := by cases r.pend with | cons h _ => exact h
theorem RelD.pop {a : AV} {v : Value} (r : RelD c st (fm.push a v) s ρ N m) : RelD c st fm s ρ N m := r.fmTo (by cases r.pend with | cons _ h => exact h) rfl
/-- a new object of the call's own, at addresses that are new -/
theorem RelD.own {as : List Addr} {o : AO} (r : RelD c st fm s ρ N m) (F : Fr c.h₀ c.L h' m) (nw : News c.h₀ c.L h' N') (nd : (N'.map (·.1)).Nodup) (hs : ∀ p ∈ N, p ∈ N') (hf : ∀ p ∈ N, p.1 ∉ as) (ha : as.Nodup)
    (ho : RO G c.base (ρ ++ [as]) N' as o) : RelD c { st with heap := st.heap ++ [o] } fm { s with heap := h', toks := k } (ρ ++ [as]) N' m := by
  have g : Grow ρ (ρ ++ [as]) N N' := grow_own hs hf
  have off : ∀ a ∈ as, a ∉ ρ.flatten := fun a h => r.off fun p hp e => hf p hp (e ▸ h)
  refine ⟨F, nw, nd, ?_, by simp [r.len], fun i a e => ?_, fun i x e => ?_, r.pend.mono g, fun p hp => ⟨hs _ (r.xs p hp).1, g.ow _ _ (r.xs p hp).1 (r.xs p hp).2.1, (r.xs p hp).2.2⟩, r.g⟩
  · rw [List.flatten_append, List.nodup_append]
    refine ⟨r.ow, by simpa using ha, fun a h1 b h2 e => ?_⟩
    subst e
    exact off a (by simpa using h2) h1
  · obtain ⟨x, v, h1, h2, h3⟩ := r.env i a e
    exact ⟨x, v, h1, h2, h3.mono g⟩
  · by_cases hi : i < st.heap.length
    · rw [List.getElem?_append_left hi] at e
      obtain ⟨bs, h1, h2⟩ := r.heap i x e
      exact ⟨bs, g.ex _ _ h1, h2.mono g fun _ _ _ h => hs _ h⟩
    · rw [List.getElem?_append_right (by omega)] at e
      have hi0 : i - st.heap.length = 0 := by
        have := (List.getElem?_eq_some_iff.mp e).1
        simp at this; omega
      rw [hi0] at e
      cases e
      have hi' : i = ρ.length := by rw [r.len]; omega
      subst hi'
      exact ⟨as, by simp, ho⟩
/-- an object of the call's own turns -/
theorem RelD.upd {d : Addr} {o o' : Obj} {i : Nat} {as : List Addr} {x' : AO} (r : RelD c st fm s ρ N m) (F : Fr c.h₀ c.L h' m) (nw : News c.h₀ c.L h' N') (u : Upd d o o' N N') (hi : ρ[i]? = some as) (hd : d ∈ as)
    (h1 : o.cls ≠ .type "tuple") (ho : RO G c.base ρ N' as x') : RelD c { st with heap := st.heap.set i x' } fm { s with heap := h', toks := k } ρ N' m := by
  have g : Grow ρ ρ N N' := grow_upd r.nd u h1 fun _ => own_mem hi hd
  refine ⟨F, nw, by rw [upd_keys u]; exact r.nd, r.ow, by simp [r.len], fun j a e => ?_, fun j y e => ?_, r.pend.mono g, fun p hp => ⟨upd_mem u _ (r.xs p hp).1 fun e => (r.xs p hp).2.1 (e ▸ own_mem hi hd), (r.xs p hp).2⟩, r.g⟩
  · obtain ⟨x, v, h1, h2, h3⟩ := r.env j a e
    exact ⟨x, v, h1, h2, h3.mono g⟩
  · have hlt : i < st.heap.length := r.len ▸ (List.getElem?_eq_some_iff.mp hi).1
    by_cases hj : j = i
    · subst hj
      rw [List.getElem?_set_self hlt] at e
      cases e
      exact ⟨as, hi, ho⟩
    · rw [List.getElem?_set_ne (fun e => hj e.symm)] at e
      obtain ⟨bs, e1, e2⟩ := r.heap j y e
      exact ⟨bs, e1, e2.mono g fun a ha z hz => upd_mem u _ hz fun q => own_apart r.ow e1 hi hj a ha ((show a = d from q).symm ▸ hd)⟩
/-- a row of the frame's own turns (an iterator) -/
theorem RelD.updX {d : Addr} {o o' : Obj} {xs : Led} (r : RelD c st { fm with xs := (d, o) :: xs } s ρ N m) (F : Fr c.h₀ c.L h' m) (nw : News c.h₀ c.L h' N') (u : Upd d o o' N N') (hx : ∀ p ∈ xs, p.1 ≠ d)
    (h1 : o'.cls ≠ .type "list" ∧ o'.cls ≠ .type "tuple") : RelD c st { fm with xs := (d, o') :: xs } { s with heap := h', toks := k } ρ N' m := by
  obtain ⟨x1, x2, x3⟩ := r.xs _ (.head _)
  have g : Grow ρ ρ N N' := grow_upd r.nd u x3.2 fun e => absurd e x3.1
  refine ⟨F, nw, by rw [upd_keys u]; exact r.nd, r.ow, r.len, fun j a e => ?_, fun j y e => ?_, r.pend.mono g, fun p hp => ?_, r.g⟩
  · obtain ⟨x, v, h1, h2, h3⟩ := r.env j a e
    exact ⟨x, v, h1, h2, h3.mono g⟩
  · obtain ⟨bs, e1, e2⟩ := r.heap j y e
    exact ⟨bs, e1, e2.mono g fun a ha z hz => upd_mem u _ hz fun q => x2 ((show a = d from q) ▸ own_mem e1 ha)⟩
  · rcases List.mem_cons.mp hp with rfl | hp
    · exact ⟨upd_new u, x2, h1⟩
    · exact ⟨upd_mem u _ (r.xs p (.tail _ hp)).1 (hx p hp), (r.xs p (.tail _ hp)).2⟩
end

end Mine
end
section
namespace Mine

abbrev noE : Value → Shared → Prop := fun _ _ => False
/-- a tree that hands on a value -/
noncomputable def Gives {G : Gl} (c : Cx G) (t : Sem Value) (fm : Fm) (s : Shared) (P : AV → ASt → Prop) : Prop :=
  ∀ Q : Value → Shared → Prop, (∀ a v st' s', P a st' → Rel c st' (fm.push a v) s' → Q v s') → wpAny c.M c.A t Q noE s
noncomputable def TE {G : Gl} (c : Cx G) (e : PySem.Expr) (st : ASt) (P : AV → ASt → Prop) : Prop := ∀ fm s, Rel c st fm s → Gives c (eval e c.env) fm s P

theorem Gives.mono {G : Gl} {c : Cx G} {t : Sem Value} {fm : Fm} {s : Shared} {P P' : AV → ASt → Prop} (h : Gives c t fm s P) (k : ∀ a st, P a st → P' a st) : Gives c t fm s P' :=
  fun Q q => h Q fun a v st' s' p r => q a v st' s' (k a st' p) r

section
variable {G : Gl} {c : Cx G} {st : ASt} {fm : Fm} {s : Shared}
theorem Rel.pop {a : AV} {v : Value} (r : Rel c st (fm.push a v) s) : Rel c st fm s := let ⟨ρ, N, m, d⟩ := r; ⟨ρ, N, m, d.pop⟩
theorem Rel.toks {k : Nat} (r : Rel c st fm s) : Rel c st fm { s with toks := k } := let ⟨ρ, N, m, d⟩ := r; ⟨ρ, N, m, d.toks⟩
theorem Rel.flat {a : AV} {v : Value} (r : Rel c st fm s) (h : ∀ hb ρ N, RV hb ρ N a v) : Rel c st (fm.push a v) s := let ⟨ρ, N, m, d⟩ := r; ⟨ρ, N, m, d.push (h _ _ _)⟩
theorem Rel.int {i : Int} {t : Tok} {k : Nat} (r : Rel c st fm s) : Rel c st (fm.push (.int i) (.int i t)) { s with toks := k } := r.toks.flat fun _ _ _ => .int i t
theorem Rel.str {x : Str} {t : Tok} {k : Nat} (r : Rel c st fm s) : Rel c st (fm.push (.str x) (.str x t)) { s with toks := k } := r.toks.flat fun _ _ _ => .str x t
theorem Rel.bool {b : Bool} (r : Rel c st fm s) : Rel c st (fm.push (.bool b) (.bool b)) s := r.flat fun _ _ _ => .bool b
theorem Rel.none (r : Rel c st fm s) : Rel c st (fm.push .none .none) s := r.flat fun _ _ _ => .none
theorem Rel.popInt {i : Int} {v : Value} (r : Rel c st (fm.push (.int i) v) s) : ∃ t, v = .int i t := by
  obtain ⟨ρ, N, m, d⟩ := r
  cases d.top with | int _ t => exact ⟨t, rfl⟩
theorem Rel.popStr {x : Str} {v : Value} (r : Rel c st (fm.push (.str x) v) s) : ∃ t, v = .str x t := by
  obtain ⟨ρ, N, m, d⟩ := r
  cases d.top with | str _ t => exact ⟨t, rfl⟩
theorem Rel.popBool {b : Bool} {v : Value} (r : Rel c st (fm.push (.bool b) v) s) : v = .bool b := by
  obtain ⟨ρ, N, m, d⟩ := r
  cases d.top with | bool _ => rfl
theorem Rel.popNone {v : Value} (r : Rel c st (fm.push .none v) s) : v = .none := by
  obtain ⟨ρ, N, m, d⟩ := r
  cases d.top with | none => rfl
end

/-- a binary operation -/
noncomputable def Bin (op : Operator) (a b : AV) (k : AV → Prop) : Prop := match a, b with
  | .int x, .int y => (match op with
    | .Add => k (.int (x + y))
    | .Sub => k (.int (x - y))
    | .Mult => IntMulOk x y ∧ k (.int (x * y))
    | .FloorDiv => (y ≠ 0 ∧ Builtin.divisionGoesByPylong x y = false) ∧ k (.int (x.fdiv y))
    | .Mod => y ≠ 0 ∧ k (.int (x.fmod y))
    | .Pow => (0 ≤ y ∧ (Builtin.Int.intBits x : Int) * y ≤ 2 ^ 27) ∧ k (.int (x ^ y.toNat))
    | _ => False)
  | .str x, .str y => (match op with
    | .Add => x.length + y.length ≤ sizeLine ∧ k (.str (x ++ y))
    | _ => False)
  | .str x, .int n => (match op with
    | .Mult => MulOk x n ∧ k (.str (Txt.mul x n))
    | _ => False)
  | _, _ => False

section
variable {G : Gl} {c : Cx G} {st : ASt} {fm : Fm} {s : Shared}
theorem bin_sound {op : Operator} {a b : AV} {v u : Value} {P : AV → ASt → Prop} (r : Rel c st ((fm.push a v).push b u) s) (h : Bin op a b fun x => P x st) : Gives c (binaryOp op v u) fm s P := by
  intro Q q
  unfold Bin at h
  split at h
  · rename_i x y
    obtain ⟨t, rfl⟩ := r.popInt
    have r := r.pop
    obtain ⟨t', rfl⟩ := r.popInt
    have r := r.pop
    cases op <;> first | exact h.elim | skip
    · exact add_int (q _ _ _ _ h r.int)
    · exact sub_int (q _ _ _ _ h r.int)
    · exact mul_int (q _ _ _ _ h.2 r.int) h.1
    · exact mod_int' h.1 (q _ _ _ _ h.2 r.int)
    · exact pow_int h.1.1 h.1.2 (q _ _ _ _ h.2 r.int)
    · exact floordiv_int h.1.1 (q _ _ _ _ h.2 r.int) (.inl h.1.2)
  · rename_i x y
    obtain ⟨t, rfl⟩ := r.popStr
    have r := r.pop
    obtain ⟨t', rfl⟩ := r.popStr
    have r := r.pop
    cases op <;> first | exact h.elim | skip
    exact SBL.add (fun t' k _ => q _ _ _ _ h.2 r.str) h.1
  · rename_i x n
    obtain ⟨t, rfl⟩ := r.popInt
    have r := r.pop
    obtain ⟨t', rfl⟩ := r.popStr
    have r := r.pop
    cases op <;> first | exact h.elim | skip
    exact SB.mul h.1 (fun t' k => q _ _ _ _ h.2 r.str)
  · exact h.elim

theorem TE.bin {l r : PySem.Expr} {op : Operator} {pos : Pos} {P : AV → ASt → Prop} (h : TE c l st fun a st1 => TE c r st1 fun b st2 => Bin op a b fun x => P x st2) : TE c (.BinOp l op r pos) st P := by
  intro fm s hr Q q
  refine wpAny_BinOp (h fm s hr _ fun a v st1 s1 h1 r1 => h1 _ _ r1 _ fun b u st2 s2 h2 r2 => ?_)
  exact bin_sound r2 h2 Q q
theorem TE.int {i : Int} {k : Nat} {pos : Pos} {P : AV → ASt → Prop} (h : P (.int i) st) : TE c (.Constant (.int i) k pos) st P := fun _ _ hr _ q => wpAny_Constant_int (q _ _ _ _ h hr.int)
theorem TE.str {x : Str} {k : Nat} {pos : Pos} {P : AV → ASt → Prop} (h : P (.str x) st) : TE c (.Constant (.str x) k pos) st P := fun _ _ hr _ q => Constant_str (q _ _ _ _ h hr.str)
theorem TE.bool {b : Bool} {k : Nat} {pos : Pos} {P : AV → ASt → Prop} (h : P (.bool b) st) : TE c (.Constant (.bool b) k pos) st P := fun _ _ hr _ q => wpAny_Constant_bool (q _ _ _ _ h hr.bool)
theorem TE.none {k : Nat} {pos : Pos} {P : AV → ASt → Prop} (h : P .none st) : TE c (.Constant .none k pos) st P := fun _ _ hr _ q => wpAny_Constant_none (q _ _ _ _ h hr.none)

theorem lookup_of_get {names : List (Str × NameKind)} (nd : (names.map (·.1)).Nodup) {i : Nat} {x : Str} {k : NameKind} (h : names[i]? = some (x, k)) : names.lookup x = some k := by
  induction names generalizing i with
  | nil => cases h
  | cons p r ih =>
    rw [List.map_cons, List.nodup_cons] at nd
    cases i with
    | zero => cases h; simp
    | succ i =>
      have h' : r[i]? = some (x, k) := by simpa using h
      have hne : x ≠ p.1 := fun e => nd.1 (e ▸ List.mem_map_of_mem (f := (·.1)) (List.mem_of_getElem? h'))
      rw [List.lookup_cons, beq_eq_false_iff_ne.mpr hne]
      exact ih nd.2 h'
theorem TE.loc {i : Nat} {x : Str} {a : AV} {pos : Pos} {P : AV → ASt → Prop} (hx : c.sc.names[i]? = some (x, .local)) (hd : (x == ("__debug__" : Str)) = false) (he : st.env[i]? = some (some a)) (h : P a st) : TE c (.Name x pos) st P := by
  intro fm s hr Q q
  obtain ⟨ρ, N, m, d⟩ := hr
  obtain ⟨y, v, h1, h2, h3⟩ := d.env i a he
  rw [hx] at h1
  cases h1
  exact ld d.F h2 (q _ _ _ _ h ⟨ρ, N, m, d.push h3⟩) c.hk (lookup_of_get c.nd hx) hd
theorem TE.globInt {x : Str} {i : Int} {t : Tok} {pos : Pos} {P : AV → ASt → Prop} (hx : c.sc.names.lookup x = some .globalImplicit) (hd : (x == ("__debug__" : Str)) = false) (hg : nsIn G.K mainGlobals x = some (some (.int i t))) (h : P (.int i) st) : TE c (.Name x pos) st P := by
  intro fm s hr Q q
  obtain ⟨ρ, N, m, d⟩ := hr
  exact name_K d.F c.X (topRead_of c.T) hg (q _ _ _ _ h ⟨ρ, N, m, d.push (.int i t)⟩) c.hk hx hd
/-- a global name, whatever it names -/
theorem name_any {x : Str} {v : Value} {pos : Pos} {Q : Value → Shared → Prop} (hr : Rel c st fm s) (hx : c.sc.names.lookup x = some .globalImplicit) (hd : (x == ("__debug__" : Str)) = false) (hg : nsIn G.K mainGlobals x = some (some v)) (h : Q v s) :
    wpAny c.M c.A (eval (.Name x pos) c.env) Q noE s := by
  obtain ⟨ρ, N, m, d⟩ := hr
  exact name_K d.F c.X (topRead_of c.T) hg h c.hk hx hd
theorem name_blt {x : Str} {v : Value} {pos : Pos} {Q : Value → Shared → Prop} (hr : Rel c st fm s) (hx : c.sc.names.lookup x = some .globalImplicit) (hd : (x == ("__debug__" : Str)) = false) (hg : nsIn G.K mainGlobals x = some none) (hb : bootBuiltins x = some v) (hn : x ≠ "__name__") (h : Q v s) :
    wpAny c.M c.A (eval (.Name x pos) c.env) Q noE s := by
  obtain ⟨ρ, N, m, d⟩ := hr
  exact name_B d.F c.X (topRead_of c.T) hg hb hn h c.hk hx hd
end

/-- plain data, as the library's comparisons read it -/
noncomputable def isPlain : Nat → AV → Bool
  | _, .none => true
  | _, .bool _ => true
  | _, .int _ => true
  | _, .str x => PyData.strOk x
  | n + 1, .tup l => l.all (isPlain n)
  | n + 1, .lst l => l.all (isPlain n)
  | _, _ => false
mutual
noncomputable def toPy : AV → PyData
  | .none => .none
  | .bool b => .bool b
  | .int i => .int i
  | .str x => .str x
  | .tup l => .tuple (toPys l)
  | .lst l => .list (toPys l)
  | .obj _ => .none
noncomputable def toPys : List AV → List PyData
  | [] => []
  | a :: l => toPy a :: toPys l
end

section
variable {hb h : Heap} {ρ : List (List Addr)} {N : Led}
mutual
theorem reads_of {L : Addr} {h₀ : Heap} (W : News h₀ L h N) (k : ∀ b o, hb.get? b = some o → h.get? b = some o) : ∀ {a : AV} {v : Value} (n : Nat), RV hb ρ N a v → isPlain n a = true → ∃ as, Reads h v (toPy a) as
  | _, _, _, .none, _ => ⟨_, Reads.none⟩
  | _, _, _, .bool b, _ => ⟨_, Reads.bool b⟩
  | _, _, _, .int i t, _ => ⟨_, Reads.int i t⟩
  | _, _, _, .str x t, _ => ⟨_, Reads.str x t⟩
  | _, _, 0, .tup _ _, hk => by simp [isPlain] at hk
  | _, _, 0, .lst _ _ _, hk => by simp [isPlain] at hk
  | _, _, 0, .lstB _ _, hk => by simp [isPlain] at hk
  | _, _, n + 1, .tup hm r, hk => by
    obtain ⟨as, q⟩ := readsAll_of W k n r (by simpa [isPlain] using hk)
    rw [toPy]
    exact ⟨as, reads_tuple_at (W.get hm) rfl rfl (by simpa using q)⟩
  | _, _, n + 1, .lst hm _ r, hk => by
    obtain ⟨as, q⟩ := readsAll_of W k n r (by simpa [isPlain] using hk)
    rw [toPy]
    exact ⟨_, reads_list_at (W.get hm) rfl rfl (by simpa [PySem.W.listOf] using q)⟩
  | _, _, n + 1, .lstB hm r, hk => by
    obtain ⟨as, q⟩ := readsAll_of W k n r (by simpa [isPlain] using hk)
    rw [toPy]
    obtain ⟨o, h1, h2, n', h3⟩ := hm
    exact ⟨_, reads_list_at (k _ _ h1) h2 h3 (by simpa using q)⟩
  | _, _, n, .obj _, hk => by cases n <;> simp [isPlain] at hk
theorem readsAll_of {L : Addr} {h₀ : Heap} (W : News h₀ L h N) (k : ∀ b o, hb.get? b = some o → h.get? b = some o) : ∀ {l : List AV} {vs : List Value} (n : Nat), RVs hb ρ N l vs → (∀ a ∈ l, isPlain n a = true) → ∃ as, ReadsAll h vs (toPys l) as
  | _, _, _, .nil, _ => ⟨_, ReadsAll.nil⟩
  | _, _, n, .cons hd r, hk => by
    obtain ⟨as, q⟩ := reads_of W k n hd (hk _ (.head _))
    obtain ⟨bs, p⟩ := readsAll_of W k n r fun a hm => hk a (.tail _ hm)
    rw [toPys]
    exact ⟨_, ReadsAll.cons q p⟩
end
end
theorem lay_of : ∀ (n : Nat) (a : AV), isPlain n a = true → (toPy a).canLay0 = true ∧ (toPy a).depth ≤ n := by
  have all : ∀ (n : Nat), (∀ d, isPlain n d = true → (toPy d).canLay0 = true ∧ (toPy d).depth ≤ n) → ∀ ds : List AV, (∀ d ∈ ds, isPlain n d = true) → PyData.canLayAll0 (toPys ds) = true ∧ PyData.depthAll (toPys ds) ≤ n := by
    intro n ih ds
    induction ds with
    | nil => intro _; simp [toPys, PyData.canLayAll0, PyData.depthAll]
    | cons d ds hi =>
      intro h
      have h1 := ih d (h d (.head _))
      have h2 := hi fun e he => h e (.tail _ he)
      simp only [toPys, PyData.canLayAll0, PyData.depthAll, h1.1, h2.1, Bool.and_self, true_and]
      have a1 := h1.2
      have a2 := h2.2
      omega
  intro n
  induction n with
  | zero =>
    intro d h
    cases d <;> simp_all [isPlain, toPy, PyData.canLay0, PyData.depth]
  | succ n ih =>
    intro d h
    cases d with
    | none => simp [toPy, PyData.canLay0, PyData.depth]
    | bool b => simp [toPy, PyData.canLay0, PyData.depth]
    | int i => simp [toPy, PyData.canLay0, PyData.depth]
    | str x => simp [isPlain] at h; simp [toPy, PyData.canLay0, PyData.depth, h]
    | obj i => simp [isPlain] at h
    | tup ds =>
      have q := all n ih ds (by simpa [isPlain] using h)
      have q2 := q.2
      simp only [toPy, PyData.canLay0, PyData.depth, q.1, true_and]
      omega
    | lst ds =>
      have q := all n ih ds (by simpa [isPlain] using h)
      have q2 := q.2
      simp only [toPy, PyData.canLay0, PyData.depth, q.1, true_and]
      omega

noncomputable def strsOf : List AV → Option (List Str)
  | [] => some []
  | .str x :: l => (strsOf l).map (x :: ·)
  | _ => none
/-- a list object's items, where the value is one -/
noncomputable def seqOf (hp : List AO) : AV → Option (List AV)
  | .lst l => some l
  | .obj i => match hp[i]? with
    | some (.list l) => some l
    | _ => none
  | _ => none
/-- a list object, looked at as its items -/
noncomputable def view (hp : List AO) : AV → AV
  | .obj i => match hp[i]? with
    | some (.list l) => .lst l
    | _ => .obj i
  | a => a
/-- a comparison -/
noncomputable def Cmp (hp : List AO) (op : CmpOp) (a b : AV) (k : Bool → Prop) : Prop := match op with
  | .Lt => (match a, b with
    | .int x, .int y => k (decide (x < y))
    | .str x, .str y => k (decide (x.cps.toList < y.cps.toList))
    | _, _ => False)
  | .LtE => (match a, b with
    | .int x, .int y => k (decide (x ≤ y))
    | .str x, .str y => k (!decide (y.cps.toList < x.cps.toList))
    | _, _ => False)
  | .Gt => (match a, b with
    | .int x, .int y => k (decide (y < x))
    | _, _ => False)
  | .GtE => (match a, b with
    | .int x, .int y => k (decide (y ≤ x))
    | _, _ => False)
  | .Eq => (match a, b with
    | .int x, .int y => k (x == y)
    | .str x, .str y => k (x == y)
    | a, b => (isPlain 8 (view hp a) = true ∧ isPlain 8 (view hp b) = true) ∧ k (PyData.eqv (toPy (view hp a)) (toPy (view hp b))))
  | .NotEq => (match a, b with
    | .int x, .int y => k (x != y)
    | .str x, .str y => k (x != y)
    | a, b => (isPlain 8 (view hp a) = true ∧ isPlain 8 (view hp b) = true) ∧ k (!PyData.eqv (toPy (view hp a)) (toPy (view hp b))))
  | .In => (match a, b with
    | .str y, .str x => k (!(Builtin.Str.occurrences x y 0 x.length 1).isEmpty)
    | .str x, .tup l => (match strsOf l with
      | some ys => k (ys.any (· == x))
      | none => False)
    | _, _ => False)
  | .NotIn => (match a, b with
    | .int i, .obj j => (match hp[j]? with
      | some (.dict ks) => k (!ks.contains i)
      | _ => False)
    | _, _ => False)
  | _ => False

theorem strs_of {hb : Heap} {ρ : List (List Addr)} {N : Led} : ∀ {l : List AV} {vs : List Value} {ys : List Str}, RVs hb ρ N l vs → strsOf l = some ys → StrsAre vs ys := by
  intro l
  induction l with
  | nil => intro vs ys r h; cases r; cases h; exact .nil
  | cons a l ih =>
    intro vs ys r h
    cases r with
    | cons r1 r2 =>
      cases a <;> simp only [strsOf, Option.map_eq_some_iff, reduceCtorEq] at h
      obtain ⟨zs, h1, rfl⟩ := h
      cases r1
      exact .cons _ _ (ih r2 h1)

section
variable {G : Gl} {c : Cx G} {st : ASt} {fm : Fm} {s : Shared}
theorem readsV {a : AV} {v : Value} {ρ : List (List Addr)} {N : Led} {m : Str → Option Value} (d : RelD c st fm s ρ N m) (r : RV c.base ρ N a v) (h : isPlain 8 (view st.heap a) = true) : ∃ as, Reads s.heap v (toPy (view st.heap a)) as := by
  have k : ∀ b o, c.base.get? b = some o → s.heap.get? b = some o := fun b o e => d.F.keep b o (c.B.stays b o e)
  by_cases hv : ∃ i l, a = .obj i ∧ st.heap[i]? = some (.list l)
  · obtain ⟨i, l, rfl, hi⟩ := hv
    have e : view st.heap (.obj i) = .lst l := by simp [view, hi]
    rw [e] at h ⊢
    cases r with
    | obj hρ =>
      obtain ⟨as, h1, b, vs, n, rfl, h2, h3⟩ := d.heap i _ hi
      rw [hρ] at h1
      cases h1
      obtain ⟨bs, q⟩ := readsAll_of d.nw k 7 h3 (by simpa [isPlain] using h)
      rw [toPy]
      exact ⟨_, reads_list_at (d.nw.get h2) rfl rfl (by simpa [PySem.W.listOf] using q)⟩
  · have e : view st.heap a = a := by
      cases a with
      | obj i =>
        simp only [view]
        split
        · rename_i l hl; exact absurd ⟨i, l, rfl, hl⟩ hv
        · rfl
      | _ => rfl
    rw [e] at h ⊢
    exact reads_of d.nw k 8 r h
theorem shaped_of {a : AV} (h : isPlain 8 a = true) : SeqAt.shaped (toPy a) = true := by
  have q := lay_of 8 a h
  unfold SeqAt.shaped
  rw [q.1, Bool.true_and]
  exact decide_eq_true (Nat.le_trans q.2 (by decide))
theorem cx_units : c.A.units + 64 < cLine := by have := c.hu; omega

theorem cmp_sound {op : CmpOp} {a b : AV} {v u : Value} {P : Bool → ASt → Prop} {Q : Value → Shared → Prop} (r : Rel c st ((fm.push a v).push b u) s) (h : Cmp st.heap op a b fun x => P x st)
    (q : ∀ x st' s', P x st' → Rel c st' fm s' → Q (.bool x) s') : wpAny c.M c.A (compareOp op v u) Q noE s := by
  have eqs : (isPlain 8 (view st.heap a) = true ∧ isPlain 8 (view st.heap b) = true) → ∃ as bs, Reads s.heap v (toPy (view st.heap a)) as ∧ Reads s.heap u (toPy (view st.heap b)) bs := by
    intro hp
    obtain ⟨ρ, N, m, d⟩ := r
    obtain ⟨as, ra⟩ := readsV d.pop d.pop.top hp.1
    obtain ⟨bs, rb⟩ := readsV d d.top hp.2
    exact ⟨as, bs, ra, rb⟩
  unfold Cmp at h
  cases op <;> dsimp only at h <;> first | exact h.elim | skip
  · split at h
    · obtain ⟨t, rfl⟩ := r.popInt
      obtain ⟨t', rfl⟩ := r.pop.popInt
      exact eq_int (q _ _ _ h r.pop.pop)
    · obtain ⟨t, rfl⟩ := r.popStr
      obtain ⟨t', rfl⟩ := r.pop.popStr
      exact eq_str (q _ _ _ h r.pop.pop)
    · obtain ⟨as, bs, ra, rb⟩ := eqs h.1
      exact eq_dataH ra rb (shaped_of h.1.1) (shaped_of h.1.2) cx_units (q _ _ _ h.2 r.pop.pop)
  · split at h
    · obtain ⟨t, rfl⟩ := r.popInt
      obtain ⟨t', rfl⟩ := r.pop.popInt
      exact ne_int (q _ _ _ h r.pop.pop)
    · obtain ⟨t, rfl⟩ := r.popStr
      obtain ⟨t', rfl⟩ := r.pop.popStr
      exact ne_str (q _ _ _ h r.pop.pop)
    · obtain ⟨as, bs, ra, rb⟩ := eqs h.1
      exact ne_dataH ra rb (shaped_of h.1.1) (shaped_of h.1.2) cx_units (q _ _ _ h.2 r.pop.pop)
  · split at h
    · obtain ⟨t, rfl⟩ := r.popInt
      obtain ⟨t', rfl⟩ := r.pop.popInt
      exact lt_int (q _ _ _ h r.pop.pop)
    · obtain ⟨t, rfl⟩ := r.popStr
      obtain ⟨t', rfl⟩ := r.pop.popStr
      exact lt_str (q _ _ _ h r.pop.pop)
    · exact h.elim
  · split at h
    · obtain ⟨t, rfl⟩ := r.popInt
      obtain ⟨t', rfl⟩ := r.pop.popInt
      exact le_int (q _ _ _ h r.pop.pop)
    · obtain ⟨t, rfl⟩ := r.popStr
      obtain ⟨t', rfl⟩ := r.pop.popStr
      exact PySem.P.le_str (q _ _ _ h r.pop.pop)
    · exact h.elim
  · split at h
    · obtain ⟨t, rfl⟩ := r.popInt
      obtain ⟨t', rfl⟩ := r.pop.popInt
      exact gt_int (q _ _ _ h r.pop.pop)
    · exact h.elim
  · split at h
    · obtain ⟨t, rfl⟩ := r.popInt
      obtain ⟨t', rfl⟩ := r.pop.popInt
      exact ge_int (q _ _ _ h r.pop.pop)
    · exact h.elim
  · split at h
    · obtain ⟨t, rfl⟩ := r.popStr
      obtain ⟨t', rfl⟩ := r.pop.popStr
      exact in_str (q _ _ _ h r.pop.pop)
    · split at h
      · rename_i ys hy
        obtain ⟨t, rfl⟩ := r.pop.popStr
        obtain ⟨ρ, N, m, d⟩ := r
        cases d.top with
        | tup hm hr => exact in_tuple_strs ⟨_, d.nw.get hm, rfl, _, rfl⟩ (strs_of hr hy) (q _ _ _ h ⟨ρ, N, m, d.pop.pop⟩)
      · exact h.elim
    · exact h.elim
  · split at h
    · split at h
      · rename_i ks hj
        obtain ⟨t, rfl⟩ := r.pop.popInt
        obtain ⟨ρ, N, m, d⟩ := r
        cases d.top with
        | obj hρ =>
          obtain ⟨as, h1, a, o, kvs, D, rfl, h2, h3, h4, h5, h6, h7⟩ := d.heap _ _ hj
          rw [hρ] at h1
          cases h1
          refine notin_intTab (TabAt.ofNews d.nw h2 h3 h4 h5) ?_
          rw [h6]
          exact q _ _ _ h ⟨ρ, N, m, d.pop.pop.toks⟩
      · exact h.elim
    · exact h.elim
end
end Mine
end
section
namespace Mine

/-- a test -/
noncomputable def TT {G : Gl} (c : Cx G) (e : PySem.Expr) (st : ASt) (P : Bool → ASt → Prop) : Prop :=
  ∀ fm s, Rel c st fm s → ∀ Q : Bool → Shared → Prop, (∀ b st' s', P b st' → Rel c st' fm s' → Q b s') → wpAny c.M c.A (PySem.isTrue e c.env (eval e c.env)) Q noE s
/-- a value's two ways, where it is a bool -/
noncomputable def onB (a : AV) (k : Bool → Prop) : Prop := match a with
  | .bool b => k b
  | _ => False
noncomputable def fork (b : Bool) (k1 k2 : Prop) : Prop := (b = true → k1) ∧ (b = false → k2)

section
variable {G : Gl} {c : Cx G} {st : ASt} {fm : Fm} {s : Shared}
theorem TE.cmp {l r : PySem.Expr} {op : CmpOp} {pos : Pos} {P : AV → ASt → Prop} (hm : behindInMarks op r = false) (h : TE c l st fun a st1 => TE c r st1 fun b st2 => Cmp st2.heap op a b fun x => P (.bool x) st2) : TE c (.Compare l [op] [r] pos) st P := by
  intro fm s hr Q q
  refine wpAny_Compare1 (h fm s hr _ fun a v st1 s1 h1 r1 => h1 _ _ r1 _ fun b u st2 s2 h2 r2 => ?_) hm
  exact cmp_sound (P := fun x st => P (.bool x) st) r2 h2 fun x st' s' p r => q _ _ _ _ p r.bool
theorem TT.cmp {l r : PySem.Expr} {op : CmpOp} {pos : Pos} {P : Bool → ASt → Prop} (hm : behindInMarks op r = false) (h : TE c l st fun a st1 => TE c r st1 fun b st2 => Cmp st2.heap op a b fun x => P x st2) : TT c (.Compare l [op] [r] pos) st P := by
  intro fm s hr Q q
  refine wpAny_isTrue_Compare1 (h fm s hr _ fun a v st1 s1 h1 r1 => h1 _ _ r1 _ fun b u st2 s2 h2 r2 => ?_) hm
  exact cmp_sound (P := P) r2 h2 fun x st' s' p r => wpAny_truthy_bool (q _ _ _ p r)
theorem fork_ite {b : Bool} {k1 k2 : Prop} (h : fork b k1 k2) : if b = true then k1 else k2 := by
  cases b with
  | true => rw [if_pos rfl]; exact h.1 rfl
  | false => rw [if_neg Bool.false_ne_true]; exact h.2 rfl
theorem TT.plain {e : PySem.Expr} {P : Bool → ASt → Prop} (he : PySem.isTrue e c.env (eval e c.env) = (do let v ← eval e c.env; standAt e.pos; holding [v] (truthy v))) (h : TE c e st fun a st1 => onB a fun b => P b st1) : TT c e st P := by
  intro fm s hr Q q
  refine isTrue_plain (h fm s hr _ fun a v st1 s1 h1 r1 => ?_) he
  cases a <;> first | exact h1.elim | skip
  cases r1.popBool
  exact wpAny_truthy_bool (q _ _ _ h1 r1.pop)
theorem TT.and2 {x : PySem.Expr} {rest : List PySem.Expr} {pos : Pos} {P : Bool → ASt → Prop} (h : TT c x st fun b st1 => fork b (TT c (.BoolOp .And rest pos) st1 P) (P false st1)) : TT c (.BoolOp .And (x :: rest) pos) st P := by
  intro fm s hr Q q
  refine isTrue_and (h fm s hr _ fun b st1 s1 h1 r1 => fork_ite ⟨fun hb => ?_, fun hb => q _ _ _ (h1.2 hb) r1⟩)
  exact h1.1 hb fm s1 r1 Q q
theorem TT.or2 {x : PySem.Expr} {rest : List PySem.Expr} {pos : Pos} {P : Bool → ASt → Prop} (h : TT c x st fun b st1 => fork b (P true st1) (TT c (.BoolOp .Or rest pos) st1 P)) : TT c (.BoolOp .Or (x :: rest) pos) st P := by
  intro fm s hr Q q
  refine isTrue_or (h fm s hr _ fun b st1 s1 h1 r1 => fork_ite ⟨fun hb => q _ _ _ (h1.1 hb) r1, fun hb => ?_⟩)
  exact h1.2 hb fm s1 r1 Q q
theorem TT.and0 {pos : Pos} {P : Bool → ASt → Prop} (h : P true st) : TT c (.BoolOp .And [] pos) st P := fun _ _ hr _ q => isTrue_and_nil (q _ _ _ h hr)
theorem TT.or0 {pos : Pos} {P : Bool → ASt → Prop} (h : P false st) : TT c (.BoolOp .Or [] pos) st P := fun _ _ hr _ q => isTrue_or_nil (q _ _ _ h hr)
theorem TE.and2 {x y : PySem.Expr} {rest : List PySem.Expr} {pos : Pos} {P : AV → ASt → Prop} (h : TE c x st fun a st1 => onB a fun b => fork b (TE c (.BoolOp .And (y :: rest) pos) st1 P) (P (.bool false) st1)) : TE c (.BoolOp .And (x :: y :: rest) pos) st P := by
  intro fm s hr Q q
  refine BoolOp_and (h fm s hr _ fun a v st1 s1 h1 r1 => ?_)
  cases a <;> first | exact h1.elim | skip
  rename_i b
  cases r1.popBool
  refine wpAny_truthy_bool (fork_ite ⟨fun hb => h1.1 hb fm s1 r1.pop Q q, fun hb => ?_⟩)
  subst hb
  exact q _ _ _ _ (h1.2 rfl) r1
theorem TE.or2 {x y : PySem.Expr} {rest : List PySem.Expr} {pos : Pos} {P : AV → ASt → Prop} (h : TE c x st fun a st1 => onB a fun b => fork b (P (.bool true) st1) (TE c (.BoolOp .Or (y :: rest) pos) st1 P)) : TE c (.BoolOp .Or (x :: y :: rest) pos) st P := by
  intro fm s hr Q q
  refine BoolOp_or (h fm s hr _ fun a v st1 s1 h1 r1 => ?_)
  cases a <;> first | exact h1.elim | skip
  rename_i b
  cases r1.popBool
  refine wpAny_truthy_bool (fork_ite ⟨fun hb => ?_, fun hb => h1.2 hb fm s1 r1.pop Q q⟩)
  subst hb
  exact q _ _ _ _ (h1.1 rfl) r1
theorem TE.bool1 {x : PySem.Expr} {op : BoolOp} {pos : Pos} {P : AV → ASt → Prop} (h : TE c x st P) : TE c (.BoolOp op [x] pos) st P := fun fm s hr Q q => BoolOp_one (h fm s hr Q q)
theorem TE.ite {t b o : PySem.Expr} {pos : Pos} {P : AV → ASt → Prop} (h : TT c t st fun x st1 => fork x (TE c b st1 P) (TE c o st1 P)) : TE c (.IfExp t b o pos) st P := by
  intro fm s hr Q q
  exact wpAny_IfExp (h fm s hr _ fun x st1 s1 h1 r1 => fork_ite ⟨fun hb => h1.1 hb fm s1 r1 Q q, fun hb => h1.2 hb fm s1 r1 Q q⟩)

/-- several expressions, one behind the other -/
noncomputable def TEs {G : Gl} (c : Cx G) (t : List (Bool × Sem Value)) (st : ASt) (P : List AV → ASt → Prop) : Prop :=
  ∀ fm s, Rel c st fm s → ∀ Q : List Value → Shared → Prop, (∀ as vs st' s', as.length = vs.length → P as st' → Rel c st' ⟨as ++ fm.as, vs ++ fm.vs, fm.xs⟩ s' → Q vs s') → wpAny c.M c.A (spliced t) Q noE s
theorem TEs.nil {P : List AV → ASt → Prop} (h : P [] st) : TEs c [] st P := fun _ _ hr _ q => spliced_nil (q [] [] _ _ rfl h hr)
theorem TEs.cons {e : PySem.Expr} {rest : List (Bool × Sem Value)} {P : List AV → ASt → Prop} (h : TE c e st fun a st1 => TEs c rest st1 fun as st2 => P (a :: as) st2) : TEs c ((false, eval e c.env) :: rest) st P := by
  intro fm s hr Q q
  refine spliced_cons (h fm s hr _ fun a v st1 s1 h1 r1 => h1 _ _ r1 _ fun as vs st2 s2 hl h2 r2 => ?_)
  refine q (a :: as) (v :: vs) _ _ (by simp [hl]) h2 ?_
  obtain ⟨ρ, N, m, d⟩ := r2
  refine ⟨ρ, N, m, d.fmTo ?_ rfl⟩
  obtain ⟨vs1, vs2, e1, p1, p2⟩ := d.pend.split
  have hl1 : vs1.length = vs.length := by rw [p1.length, hl]
  obtain ⟨rfl, rfl⟩ := List.append_inj e1.symm hl1
  cases p2 with
  | cons p3 p4 => exact .cons p3 (p1.append p4)
end

section
variable {G : Gl} {c : Cx G} {st : ASt} {fm : Fm} {s : Shared}
/-- a tuple -/
theorem Rel.tup {as : List AV} {vs : List Value} {Q : Value → Shared → Prop} {P : AV → ASt → Prop} (hr : Rel c st ⟨as ++ fm.as, vs ++ fm.vs, fm.xs⟩ s) (hl : as.length = vs.length) (hsz : as.length ≤ sizeLine) (h : P (.tup as) st)
    (q : ∀ a v st' s', P a st' → Rel c st' (fm.push a v) s' → Q v s') : wpAny c.M c.A (newTuple vs) Q noE s := by
  obtain ⟨ρ, N, m, d⟩ := hr
  obtain ⟨vs1, vs2, e1, p1, p2⟩ := d.pend.split
  obtain ⟨rfl, rfl⟩ := List.append_inj e1 (by rw [p1.length, hl])
  have fresh : ∀ p ∈ N, p.1 ≠ s.heap.objs.size := fun p hp => Nat.ne_of_lt (Heap.lt_size (d.nw p hp).1)
  refine newTuple_N d.F d.nw (fun h' F' N' => ?_) (by omega)
  have d' := d.frozen (k := s.toks) F' N' fresh
  refine q _ _ _ _ h ⟨ρ, _, m, d'.fmTo (.cons (.tup (.head _) (p1.mono (grow_cons _))) (p2.mono (grow_cons _))) rfl⟩
/-- a list that nobody will turn -/
theorem Rel.lst {as : List AV} {vs : List Value} {Q : Value → Shared → Prop} {P : AV → ASt → Prop} (hr : Rel c st ⟨as ++ fm.as, vs ++ fm.vs, fm.xs⟩ s) (hl : as.length = vs.length) (hsz : as.length ≤ sizeLine) (h : P (.lst as) st)
    (q : ∀ a v st' s', P a st' → Rel c st' (fm.push a v) s' → Q v s') : wpAny c.M c.A (newList vs) Q noE s := by
  obtain ⟨ρ, N, m, d⟩ := hr
  obtain ⟨vs1, vs2, e1, p1, p2⟩ := d.pend.split
  obtain ⟨rfl, rfl⟩ := List.append_inj e1 (by rw [p1.length, hl])
  refine newList_K d.F d.nw (fun l h' F' N' fresh => ?_) (by omega)
  have fr : ∀ p ∈ N, p.1 ≠ l := fun p hp => Nat.ne_of_lt (fresh p hp)
  have d' := d.frozen (k := s.toks) F' N' fr
  refine q _ _ _ _ h ⟨ρ, _, m, d'.fmTo (.cons (.lst (.head _) (d.off fr) (p1.mono (grow_cons _))) (p2.mono (grow_cons _))) rfl⟩
/-- a list of the call's own -/
theorem Rel.newL {as : List AV} {vs : List Value} {Q : Value → Shared → Prop} {P : AV → ASt → Prop} (hr : Rel c st ⟨as ++ fm.as, vs ++ fm.vs, fm.xs⟩ s) (hl : as.length = vs.length) (hsz : as.length ≤ sizeLine)
    (h : P (.obj st.heap.length) { st with heap := st.heap ++ [.list as] }) (q : ∀ a v st' s', P a st' → Rel c st' (fm.push a v) s' → Q v s') : wpAny c.M c.A (newList vs) Q noE s := by
  obtain ⟨ρ, N, m, d⟩ := hr
  obtain ⟨vs1, vs2, e1, p1, p2⟩ := d.pend.split
  obtain ⟨rfl, rfl⟩ := List.append_inj e1 (by rw [p1.length, hl])
  refine newList_K d.F d.nw (fun l h' F' N' fresh => ?_) (by omega)
  have fr : ∀ p ∈ N, p.1 ≠ l := fun p hp => Nat.ne_of_lt (fresh p hp)
  have g : Grow ρ (ρ ++ [[l]]) N ((l, lstO vs 0) :: N) := grow_own (fun p hp => .tail _ hp) fun p hp => by simpa using fr p hp
  have d' := d.own (k := s.toks) (as := [l]) (o := .list as) F' N' (nd_cons d.nd fr) (fun p hp => .tail _ hp) (fun p hp => by simpa using fr p hp) (by simp) ⟨l, vs, 0, rfl, .head _, p1.mono g⟩
  refine q _ _ _ _ h ⟨_, _, m, d'.fmTo (.cons (.obj (as := []) (by simp [d.len])) (p2.mono g)) rfl⟩
end
end Mine
end
section
namespace Mine

theorem atName_inj' : ∀ i, i < 8 → ∀ j, j < 8 → atName i = atName j → i = j := by decide +kernel
theorem atName_inj (i j : Nat) (hi : i < 8) (hj : j < 8) (h : atName i = atName j) : i = j := atName_inj' i hi j hj h
theorem atName_mem : ∀ i : Nat, i < 8 → atName i ∈ atNames := by decide +kernel
noncomputable def putA (k : Nat) (v : AV) : List (Nat × AV) → List (Nat × AV)
  | [] => [(k, v)]
  | f :: r => if f.1 = k then (k, v) :: r else f :: putA k v r

section
variable {P : Params} {hb : Heap} {ρ : List (List Addr)} {N : Led}
theorem FRels.length {fs : List (Nat × AV)} {es : List DictEntry} (h : FRels P hb ρ N fs es) : es.length = fs.length := by
  induction h with
  | nil => rfl
  | cons _ _ ih => simp [ih]
theorem FRels.noref {fs : List (Nat × AV)} {es : List DictEntry} (h : FRels P hb ρ N fs es) : es.any (·.refKey) = false := by
  induction h with
  | nil => rfl
  | cons h _ ih =>
    obtain ⟨t, e⟩ := h.key
    rw [List.any_cons, ih]
    simp [DictEntry.refKey, e]
theorem FRels.get {fs : List (Nat × AV)} {es : List DictEntry} (h : FRels P hb ρ N fs es) (k8 : ∀ f ∈ fs, f.1 < 8) {k : Nat} (hk : k < 8) {a : AV} (e : fs.lookup k = some a) : ∃ v, getL (atName k) es = some (some v) ∧ RV hb ρ N a v := by
  suffices ∃ x, es.find? (·.key.isStr (atName k)) = some x ∧ RV hb ρ N a x.val by
    obtain ⟨x, h1, h2⟩ := this
    exact ⟨x.val, by unfold getL; rw [h1], h2⟩
  induction h with
  | nil => cases e
  | cons h r ih =>
    rename_i f x fs es
    obtain ⟨t, hx⟩ := h.key
    rw [List.lookup_cons] at e
    by_cases q : k = f.1
    · subst q
      simp only [beq_self_eq_true] at e
      cases e
      exact ⟨x, by rw [List.find?_cons]; simp [hx, Value.isStr], h.val⟩
    · rw [beq_eq_false_iff_ne.mpr q] at e
      obtain ⟨y, h1, h2⟩ := ih (fun g hg => k8 g (.tail _ hg)) e
      refine ⟨y, ?_, h2⟩
      have hne : atName f.1 ≠ atName k := fun z => q (atName_inj _ _ (k8 f (.head _)) hk z).symm
      rw [List.find?_cons]
      simp only [hx, Value.isStr, beq_eq_false_iff_ne.mpr hne]
      exact h1
theorem FRels.miss {fs : List (Nat × AV)} {es : List DictEntry} (h : FRels P hb ρ N fs es) (k8 : ∀ f ∈ fs, f.1 < 8) {name : Str} (hn : name ∉ atNames) : getL name es = some none := by
  have : es.find? (·.key.isStr name) = none := by
    induction h with
    | nil => rfl
    | cons h r ih =>
      rename_i f x fs es
      obtain ⟨t, hx⟩ := h.key
      rw [List.find?_cons]
      have hne : atName f.1 ≠ name := fun z => hn (z ▸ atName_mem _ (k8 f (.head _)))
      simp only [hx, Value.isStr, beq_eq_false_iff_ne.mpr hne]
      exact ih fun g hg => k8 g (.tail _ hg)
  unfold getL
  rw [this, h.noref]
  rfl
theorem FRels.some {fs : List (Nat × AV)} {es : List DictEntry} (h : FRels P hb ρ N fs es) (name : Str) : (getL name es).isSome = true := by
  unfold getL
  split
  · rfl
  · rw [h.noref]; rfl
theorem FRels.put {fs : List (Nat × AV)} {es : List DictEntry} (h : FRels P hb ρ N fs es) (k8 : ∀ f ∈ fs, f.1 < 8) {k : Nat} (hk : k < 8) {a : AV} {v : Value} {t : Tok} (r : RV hb ρ N a v) :
    FRels P hb ρ N (putA k a fs) (putL (atName k) (PyData.keyHash P (atName k)) (.str (atName k) t) v es) := by
  induction h with
  | nil => exact .cons ⟨⟨t, rfl⟩, rfl, r⟩ .nil
  | cons h q ih =>
    rename_i f x fs es
    obtain ⟨t', hx⟩ := h.key
    unfold putA putL
    by_cases e : f.1 = k
    · subst e
      simp only [hx, Value.isStr, beq_self_eq_true, if_true]
      exact .cons ⟨⟨t', rfl⟩, h.hash, r⟩ q
    · have hne : atName f.1 ≠ atName k := fun z => e (atName_inj _ _ (k8 f (.head _)) hk z)
      simp only [if_neg e, hx, Value.isStr, beq_eq_false_iff_ne.mpr hne, Bool.false_eq_true, if_false]
      exact .cons h (ih fun g hg => k8 g (.tail _ hg))
end
theorem putA_mem {k : Nat} {v : AV} : ∀ {fs : List (Nat × AV)}, ∀ f ∈ putA k v fs, f.1 = k ∨ f ∈ fs
  | [], f, h => by cases List.mem_singleton.mp h; exact .inl rfl
  | g :: r, f, h => by
    unfold putA at h
    split at h
    · rcases List.mem_cons.mp h with rfl | h
      · exact .inl rfl
      · exact .inr (.tail _ h)
    · rcases List.mem_cons.mp h with rfl | h
      · exact .inr (.head _)
      · exact (putA_mem f h).imp id (.tail _)
theorem putA_len {k : Nat} {v : AV} : ∀ {fs : List (Nat × AV)}, (putA k v fs).length ≤ fs.length + 1
  | [] => by simp [putA]
  | g :: r => by
    unfold putA
    split
    · simp
    · have := putA_len (k := k) (v := v) (fs := r)
      simp; omega

/-- an attribute's value -/
noncomputable def Attr (hp : List AO) (a : AV) (k : Nat) (P : AV → Prop) : Prop := match a with
  | .obj i => (match hp[i]? with
    | some (.inst _ fs) => (match fs.lookup k with
      | some v => P v
      | none => False)
    | _ => False)
  | _ => False
/-- an attribute stored -/
noncomputable def SetAttr (G : Gl) (hp : List AO) (a : AV) (k : Nat) (v : AV) (P : List AO → Prop) : Prop := match a with
  | .obj i => (match hp[i]? with
    | some (.inst C fs) => (G.ct.contains (C, k) = true ∧ fs.length ≤ 90) ∧ P (hp.set i (.inst C (putA k v fs)))
    | _ => False)
  | _ => False

theorem dict_tup : (Value.type "dict") ≠ .type "tuple" := by intro z; injection z with z; exact absurd z (by decide)
theorem dict_lst : (Value.type "dict") ≠ .type "list" := by intro z; injection z with z; exact absurd z (by decide)
theorem lst_tup : (Value.type "list") ≠ .type "tuple" := by intro z; injection z with z; exact absurd z (by decide)
theorem own_nd : ∀ {ρ : List (List Addr)}, ρ.flatten.Nodup → ∀ {i : Nat} {as : List Addr}, ρ[i]? = some as → as.Nodup
  | [], _, _, _, h => by cases h
  | r :: ρ, nd, i, as, h => by
    rw [List.flatten_cons, List.nodup_append] at nd
    cases i with
    | zero => cases h; exact nd.1
    | succ i => exact own_nd nd.2.1 (by simpa using h)
section
variable {G : Gl} {c : Cx G} {st : ASt} {fm : Fm} {s : Shared}
theorem lookup_mem {k : Nat} {v : AV} : ∀ {fs : List (Nat × AV)}, fs.lookup k = some v → (k, v) ∈ fs
  | [], h => by cases h
  | f :: r, h => by
    rw [List.lookup_cons] at h
    by_cases e : k = f.1
    · subst e
      simp only [beq_self_eq_true] at h
      cases h
      exact .head _
    · rw [beq_eq_false_iff_ne.mpr e] at h
      exact .tail _ (lookup_mem h)
theorem attr_sound {a : AV} {o : Value} {k : Nat} {expr : Bool} {P : AV → ASt → Prop} (hk : k < 8) (r : Rel c st (fm.push a o) s) (h : Attr st.heap a k fun v => P v st) : Gives c (getAttr o (atName k) expr) fm s P := by
  intro Q q
  unfold Attr at h
  split at h
  · split at h
    · rename_i C fs hi
      split at h
      · rename_i v hv
        obtain ⟨ρ, N, m, d⟩ := r
        cases d.top with
        | obj hρ =>
          obtain ⟨as, e1, x, dx, es, n, rfl, h2, h3, h4, h5, _⟩ := d.heap _ _ hi
          rw [hρ] at e1
          cases e1
          have k8 : ∀ f ∈ fs, f.1 < 8 := fun f hf => (G.ctOk _ (h5 f hf)).1
          obtain ⟨u, g1, g2⟩ := h4.get k8 hk hv
          have ok := (G.ctOk _ (h5 _ (lookup_mem hv))).2
          obtain ⟨at', fi, ng⟩ := ok.fi
          have hh : handedIn u = true := by cases g2 <;> rfl
          exact get_own d.F c.X (InstAt.of_news d.nw h2 h3) ok.pg ok.hd fi ng g1 hh (q _ _ _ _ h ⟨ρ, N, m, (d.pop.toks).push g2⟩)
      · exact h.elim
    · exact h.elim
  · exact h.elim
theorem TE.attr {x : Str} {xp : Pos} {k : Nat} {pos : Pos} {P : AV → ASt → Prop} (hk : k < 8) (h : TE c (.Name x xp) st fun a st1 => Attr st1.heap a k fun v => P v st1) : TE c (.Attribute (.Name x xp) (atName k) pos) st P := by
  intro fm s hr Q q
  exact Attribute_Name_ (h fm s hr _ fun a v st1 s1 h1 r1 => attr_sound hk r1 h1 Q q)
theorem setAttr_sound {a b : AV} {o u : Value} {k : Nat} {Q : Unit → Shared → Prop} {P : ASt → Prop} (hk : k < 8) (r : Rel c st ((fm.push b u).push a o) s) (h : SetAttr G st.heap a k b fun hp => P { st with heap := hp })
    (q : ∀ st' s', P st' → Rel c st' fm s' → Q () s') : wpAny c.M c.A (setAttr o (atName k) u) Q noE s := by
  unfold SetAttr at h
  split at h
  · split at h
    · rename_i C fs hi
      obtain ⟨ρ, N, m, d⟩ := r
      cases d.top with
      | obj hρ =>
        obtain ⟨as, e1, x, dx, es, n, rfl, h2, h3, h4, h5, h6⟩ := d.heap _ _ hi
        rw [hρ] at e1
        cases e1
        have k8 : ∀ f ∈ fs, f.1 < 8 := fun f hf => (G.ctOk _ (h5 f hf)).1
        have hm : (C, k) ∈ G.ct := by simpa using h.1.1
        have ok := (G.ctOk _ hm).2
        obtain ⟨N', U⟩ := upd_of (o' := dictOf (putL (atName k) (PyData.keyHash G.w.params (atName k)) (.str (atName k) (s.toks + 1)) u es) (putN (atName k) es n)) d.nd h3
        have fr : FRels G.w.params c.base ρ N (putA k b fs) (putL (atName k) (PyData.keyHash G.w.params (atName k)) (.str (atName k) (s.toks + 1)) u es) := h4.put k8 hk d.pop.top
        have hlen := fr.length
        have hl2 := putA_len (k := k) (v := b) (fs := fs)
        refine set_dict d.F c.X d.nw (InstAt.of_news d.nw h2 h3) rfl ok.se ok.po ok.tk ok.hd (h4.some _) rfl U (by omega) fun h' F' N1 => ?_
        have g : Grow ρ ρ N N' := grow_upd d.nd U dict_tup fun z => absurd z dict_lst
        have hxd := own_nd d.ow hρ
        rw [List.nodup_cons] at hxd
        have hxd := fun z => hxd.1 (List.mem_singleton.mpr z)
        refine q _ _ h.2 ⟨ρ, N', m, d.pop.pop.upd F' N1 U hρ (.tail _ (.head _)) dict_tup ⟨_, dx, _, _, rfl, upd_mem U _ h2 hxd, upd_new U, fr.mono g, fun f hf => ?_, by omega⟩⟩
        rcases putA_mem f hf with e | hf
        · rw [e]; exact hm
        · exact h5 f hf
    · exact h.elim
  · exact h.elim
end
end Mine
end
section
namespace Mine

/-- neither starred nor a slice -/
noncomputable def plainE : PySem.Expr → Bool
  | .Starred .. => false
  | .Slice .. => false
  | _ => true
theorem star_cons {e : PySem.Expr} {rest : List PySem.Expr} {env : Env} (h : plainE e = true) : starEach (e :: rest) env = (false, eval e env) :: starEach rest env := by
  cases e <;> first | rfl | simp [plainE] at h
theorem back_cons {e : PySem.Expr} {rest : List PySem.Expr} {env : Env} {pos : Pos} (h : plainE e = true) : backTo pos (starEach (e :: rest) env) = (false, eval e env) :: backTo pos (starEach rest env) := by
  rw [star_cons h]; rfl
theorem back_any {env : Env} {pos : Pos} : ∀ {es : List PySem.Expr}, es.all plainE = true → (backTo pos (starEach es env)).any (·.1) = false
  | [], _ => rfl
  | e :: es, h => by
    rw [List.all_cons, Bool.and_eq_true] at h
    rw [back_cons h.1, List.any_cons, back_any h.2]
    rfl
theorem sub_plain {e : PySem.Expr} {o i : Value} (h : plainE e = true) : subscripted e false o i = operate [o, i] (getItem o i) := by
  cases e <;> first | rfl | simp [plainE] at h
theorem let_str {e : PySem.Expr} {x : Str} {t : Tok} (r : Value) : letTemporaryGo e (.str x t) r = pure () := by cases e <;> rfl

/-- an item -/
noncomputable def Idx (hp : List AO) (a i : AV) (k : AV → Prop) : Prop := match i with
  | .int x => (match a with
    | .str s => (0 ≤ x ∧ x < s.length ∧ s.length ≤ sizeLine) ∧ k (.str (Txt.item s x))
    | .tup l => (0 ≤ x ∧ x < 2 ^ 62) ∧ ∃ v, l[x.toNat]? = some v ∧ k v
    | a => (match seqOf hp a with
      | some l => (0 ≤ x ∧ x < 2 ^ 62) ∧ ∃ v, l[x.toNat]? = some v ∧ k v
      | none => False))
  | _ => False
/-- a text's run between two places -/
noncomputable def Slc (a i j : AV) (k : AV → Prop) : Prop := match a, i, j with
  | .str s, .int x, .int y => s.length ≤ sizeLine ∧ k (.str (Txt.slice s (some x) (some y)))
  | _, _, _ => False
/-- a list's first items -/
noncomputable def Upto (hp : List AO) (a j : AV) (k : AV → Prop) : Prop := match j with
  | .int y => (match seqOf hp a with
    | some l => (0 ≤ y ∧ l.length ≤ sizeLine) ∧ k (.lst (l.take y.toNat))
    | none => False)
  | _ => False

section
variable {G : Gl} {c : Cx G} {st : ASt} {fm : Fm} {s : Shared}
theorem TE.tup {elts : List PySem.Expr} {k : Nat} {pos : Pos} {P : AV → ASt → Prop} (h : TEs c (backTo pos (starEach elts c.env)) st fun as st1 => as.length ≤ sizeLine ∧ P (.tup as) st1) : TE c (.Tuple elts k pos) st P := by
  intro fm s hr Q q
  exact Tuple_ (h fm s hr _ fun as vs st1 s1 hl h1 r1 => r1.tup hl h1.1 h1.2 q)
theorem TE.lst {elts : List PySem.Expr} {pos : Pos} {P : AV → ASt → Prop} (h : TEs c (backTo pos (starEach elts c.env)) st fun as st1 => as.length ≤ sizeLine ∧ P (.lst as) st1) : TE c (.List elts pos) st P := by
  intro fm s hr Q q
  exact List_ (h fm s hr _ fun as vs st1 s1 hl h1 r1 => r1.lst hl h1.1 h1.2 q)
theorem TE.newL {elts : List PySem.Expr} {pos : Pos} {P : AV → ASt → Prop} (h : TEs c (backTo pos (starEach elts c.env)) st fun as st1 => as.length ≤ sizeLine ∧ P (.obj st1.heap.length) { st1 with heap := st1.heap ++ [.list as] }) : TE c (.List elts pos) st P := by
  intro fm s hr Q q
  exact List_ (h fm s hr _ fun as vs st1 s1 hl h1 r1 => r1.newL hl h1.1 h1.2 q)
theorem TEs.star {e : PySem.Expr} {rest : List PySem.Expr} {pos : Pos} {P : List AV → ASt → Prop} (hp : plainE e = true) (h : TE c e st fun a st1 => TEs c (backTo pos (starEach rest c.env)) st1 fun as st2 => P (a :: as) st2) :
    TEs c (backTo pos (starEach (e :: rest) c.env)) st P := by
  rw [back_cons hp]
  exact TEs.cons h

/-- a list that stands in the heap -/
theorem RelD.listAt {a : AV} {v : Value} {l : List AV} {ρ : List (List Addr)} {N : Led} {m : Str → Option Value} (d : RelD c st fm s ρ N m) (r : RV c.base ρ N a v) (h : seqOf st.heap a = some l) :
    ∃ x vs, v = .ref x ∧ s.heap.IsList x vs.toArray ∧ RVs c.base ρ N l vs := by
  cases a <;> simp only [seqOf, Option.some.injEq, reduceCtorEq] at h
  · subst h
    cases r with
    | lst hm _ r => exact ⟨_, _, rfl, ⟨_, d.nw.get hm, rfl, _, rfl⟩, r⟩
    | lstB hm r =>
      obtain ⟨o, h1, h2⟩ := hm
      exact ⟨_, _, rfl, ⟨o, d.F.keep _ _ (c.B.stays _ _ h1), h2⟩, r⟩
  · split at h
    · rename_i i l' hi
      cases h
      cases r with
      | obj hρ =>
        obtain ⟨as, e1, x, vs, n, rfl, h2, h3⟩ := d.heap _ _ hi
        rw [hρ] at e1
        cases e1
        exact ⟨_, _, rfl, ⟨_, d.nw.get h2, rfl, _, rfl⟩, h3⟩
    · cases h
theorem idx_sound {a i : AV} {v u : Value} {value slice : PySem.Expr} {P : AV → ASt → Prop} (hp : plainE slice = true) (r : Rel c st ((fm.push a v).push i u) s) (h : Idx st.heap a i fun x => P x st) : Gives c (subscriptTail value slice v u) fm s P := by
  intro Q q
  unfold Idx at h
  split at h
  · obtain ⟨t, rfl⟩ := r.popInt
    have r := r.pop
    split at h
    · rename_i x _ _ s'
      obtain ⟨t', rfl⟩ := r.popStr
      have hsz := h.1.2.2
      rw [sizeLine_eq] at hsz
      have hfit : fitsSsize x = true := fitsSsize_of (N := 9223372036854775808) (by omega) (by omega) (Int.le_refl _)
      exact item_str hfit (by omega) h.1.2.1 (fun _ => q _ _ _ _ h.2 r.pop.str) (sub_plain hp) let_str
    · obtain ⟨⟨h1, h2⟩, w, h3, h4⟩ := h
      obtain ⟨ρ, N, m, d⟩ := r
      cases d.top with
      | tup hm hr =>
        obtain ⟨w', g1, g2⟩ := hr.get h3
        have hlt := (List.getElem?_eq_some_iff.mp g1).1
        exact item_tupleT ⟨_, d.nw.get hm, rfl, _, rfl⟩ (by omega) (by omega) (PySem.seqIndex_of h1 (by omega)) g1 (q _ _ _ _ h4 ⟨ρ, N, m, d.pop.push g2⟩) (sub_plain hp)
    · split at h
      · rename_i l hl
        obtain ⟨⟨h1, h2⟩, w, h3, h4⟩ := h
        obtain ⟨ρ, N, m, d⟩ := r
        obtain ⟨x, vs, rfl, g0, g3⟩ := d.pop.listAt d.top hl
        obtain ⟨w', g1, g2⟩ := g3.get h3
        exact tail_any g0.typeIs slot_list_getitem.lookup (wpAny_getItem_list g0 h1 (by omega) (by simpa using g1) (q _ _ _ _ h4 ⟨ρ, N, m, d.pop.push g2⟩)) (sub_plain hp)
      · exact h.elim
  · exact h.elim
theorem TE.idx {value slice : PySem.Expr} {pos : Pos} {P : AV → ASt → Prop} (hp : plainE slice = true) (h : TE c value st fun a st1 => TE c slice st1 fun i st2 => Idx st2.heap a i fun x => P x st2) : TE c (.Subscript value slice pos) st P := by
  intro fm s hr Q q
  exact Subscript_ (h fm s hr _ fun a v st1 s1 h1 r1 => h1 _ _ r1 _ fun i u st2 s2 h2 r2 => idx_sound hp r2 h2 Q q)
theorem TE.slc {value lo hi : PySem.Expr} {p pos : Pos} {P : AV → ASt → Prop} (h : TE c value st fun a st1 => TE c lo st1 fun i st2 => TE c hi st2 fun j st3 => Slc a i j fun x => P x st3) : TE c (.Subscript value (.Slice (some lo) (some hi) Option.none p) pos) st P := by
  intro fm s hr Q q
  refine Subscript_ (h fm s hr _ fun a v st1 s1 h1 r1 => wpAny_Slice (evalPart_some_step (h1 _ _ r1 _ fun i u st2 s2 h2 r2 => evalPart_some_step (h2 _ _ r2 _ fun j z st3 s3 h3 r3 => evalPart_none_step ?_))))
  unfold Slc at h3
  dsimp only at h3
  split at h3
  · obtain ⟨t, rfl⟩ := r3.popInt
    have r3 := r3.pop
    obtain ⟨t', rfl⟩ := r3.popInt
    have r3 := r3.pop
    obtain ⟨t'', rfl⟩ := r3.popStr
    have r3 := r3.pop
    obtain ⟨ρ, N, m, d⟩ := r3
    refine kba_turn (value' := .Name (PySem.Str.ofString "_") ⟨0, 0, 0, 0⟩) (fun _ => rfl) (slice_strN_ss_len d.F d.nw (fun h' t' k F' N' _ => q _ _ _ _ h3.2 ⟨ρ, N, m, (d.same F' N').push (.str _ _)⟩) rfl (fun _ => rfl) h3.1)
  · exact h3.elim
theorem TE.upto {x : Str} {xp : Pos} {hi : PySem.Expr} {p pos : Pos} {P : AV → ASt → Prop} (h : TE c (.Name x xp) st fun a st1 => TE c hi st1 fun j st2 => Upto st2.heap a j fun x => P x st2) : TE c (.Subscript (.Name x xp) (.Slice Option.none (some hi) Option.none p) pos) st P := by
  intro fm s hr Q q
  refine Subscript_ (h fm s hr _ fun a v st1 s1 h1 r1 => wpAny_Slice (evalPart_none_step (evalPart_some_step (h1 _ _ r1 _ fun j z st2 s2 h2 r2 => evalPart_none_step ?_))))
  unfold Upto at h2
  dsimp only at h2
  split at h2
  · split at h2
    · rename_i l hl
      obtain ⟨⟨h0, hz⟩, h2⟩ := h2
      obtain ⟨t, rfl⟩ := r2.popInt
      have r2 := r2.pop
      obtain ⟨ρ, N, m, d⟩ := r2
      obtain ⟨b, vs, rfl, g1, g2⟩ := d.listAt d.top hl
      have hlen := g2.length
      refine kmk_slice (lo := Option.none) (hi := some _) d.F d.nw g1 .none (.int _ _) (fun D h' F' N' fresh => ?_) rfl (fun _ => rfl) (by simp only [List.size_toArray]; omega)
      have fr : ∀ p ∈ N, p.1 ≠ D := fun p hp => Nat.ne_of_lt (fresh p hp)
      have d' := d.pop.frozen (k := s2.toks) F' N' fr
      refine q _ _ _ _ h2 ⟨ρ, _, m, d'.push (.lst (vs := vs.take _) (n := 0) ?_ (d.off fr) ((g2.take _).mono (grow_cons _)))⟩
      rename_i y _
      have e : slicePick vs.toArray Option.none (some y) Option.none = (vs.take y.toNat).toArray := by
        have e : sliceBounds Option.none (some y) Option.none vs.toArray.size = (((0 : Nat) : Int), ((min y.toNat vs.toArray.size : Nat) : Int), 1) := by
          simp only [sliceBounds, Option.getD_none, show (1 : Int) > 0 by decide, if_true, if_neg (show ¬ (y < 0) by omega)]
          congr 1
          congr 1
          omega
        rw [kmk_pick_nat _ e]
        simp [kmk_take_min]
      rw [e]
      exact .head _
    · exact h2.elim
  · exact h2.elim
end
end Mine
end
section
namespace Mine

/-- what a call of a def (or of a class) comes to -/
noncomputable def TF (G : Gl) (n : Nat) (f : Addr) (args : List AV) (hp : List AO) (P : AV → List AO → Prop) : Prop :=
  ∀ (c : Cx G), n ≤ c.lv → ∀ (env : List (Option AV)) (fm : Fm) (s : Shared) (vs : List Value) (Q : Value → Shared → Prop), args.length = vs.length → Rel c ⟨env, hp⟩ ⟨args ++ fm.as, vs ++ fm.vs, fm.xs⟩ s →
    (∀ r v hp' s', P r hp' → Rel c ⟨env, hp'⟩ (fm.push r v) s' → Q v s') → wpAny c.M c.A (call (.ref f) vs) Q noE s
theorem TF.mono {G : Gl} {n : Nat} {f : Addr} {args : List AV} {hp : List AO} {P P' : AV → List AO → Prop} (h : TF G n f args hp P) (k : ∀ r hp, P r hp → P' r hp) : TF G n f args hp P' :=
  fun c hn env fm s vs Q hl hr q => h c hn env fm s vs Q hl hr fun r v hp' s' p => q r v hp' s' (k _ _ p)

section
variable {G : Gl} {c : Cx G} {st : ASt} {fm : Fm} {s : Shared}
theorem Rel.inK (r : Rel c st fm s) : G.K.In s.heap := by
  obtain ⟨ρ, N, m, d⟩ := r
  exact Frag.In.keeps c.X d.F.keep
theorem evalArgs_all {M : Model} {A : Around} {E : Value → Shared → Prop} {f : Value} {trees : List (Bool × Sem Value)} {Q : Args → Shared → Prop} (hs : trees.any (·.1) = false) (h : wpAny M A (spliced trees) (fun vs s' => Q ⟨vs, []⟩ s') E s) : wpAny M A (evalArgs f true trees []) Q E s := by
  cases trees with
  | nil =>
    unfold evalArgs
    show wpAny M A (spliced [] >>= _) Q E s
    refine wpAny_bind (wpAny_mono h (fun vs s' h' => ?_) fun _ _ x => x)
    refine wpAny_holding ?_
    exact wpAny_bind (wpAny_pure (wpAny_bind (wpAny_pure (wpAny_pure h'))))
  | cons p rest =>
    obtain ⟨b, x⟩ := p
    cases b with
    | true => simp at hs
    | false => exact evalArgs_plain h
/-- a call with plain arguments -/
theorem callWith_any {pos : Pos} {f : Value} {first : List Value} {args : List PySem.Expr} {Q : Value → Shared → Prop} {P : List AV → ASt → Prop} (hk : keepIn G.K f = true) (ha : args.all plainE = true) (hr : Rel c st fm s)
    (h : TEs c (backTo pos (starEach args c.env)) st P) (q : ∀ as vs st' s', as.length = vs.length → P as st' → Rel c st' ⟨as ++ fm.as, vs ++ fm.vs, fm.xs⟩ s' → wpAny c.M c.A (call f (first ++ vs)) Q noE s') :
    wpAny c.M c.A (callWith pos f first (backTo pos (starEach args c.env)) []) Q noE s :=
  callWith_of (P := fun h => G.K.In h) (by rw [back_any ha]; rfl) (keeps_K hk) (evalArgs_all (back_any ha) (h fm s hr _ fun as vs st' s' hl p r => ⟨r.inK, q as vs st' s' hl p r⟩))
theorem callWith_blt {pos : Pos} {id : String} {first : List Value} {args : List PySem.Expr} {Q : Value → Shared → Prop} {P : List AV → ASt → Prop} (ha : args.all plainE = true) (hr : Rel c st fm s)
    (h : TEs c (backTo pos (starEach args c.env)) st P) (q : ∀ as vs st' s', as.length = vs.length → P as st' → Rel c st' ⟨as ++ fm.as, vs ++ fm.vs, fm.xs⟩ s' → wpAny c.M c.A (call (.builtin id) (first ++ vs)) Q noE s') :
    wpAny c.M c.A (callWith pos (.builtin id) first (backTo pos (starEach args c.env)) []) Q noE s :=
  Calls.callWith_builtin (back_any ha) (evalArgs_all (back_any ha) (h fm s hr _ fun as vs st' s' hl p r => q as vs st' s' hl p r))
theorem callWith_typ {pos : Pos} {T : String} {args : List PySem.Expr} {Q : Value → Shared → Prop} {P : List AV → ASt → Prop} (ha : args.all plainE = true) (hr : Rel c st fm s)
    (h : TEs c (backTo pos (starEach args c.env)) st P) (q : ∀ as vs st' s', as.length = vs.length → P as st' → Rel c st' ⟨as ++ fm.as, vs ++ fm.vs, fm.xs⟩ s' → wpAny c.M c.A (call (.type T) vs) Q noE s') :
    wpAny c.M c.A (callWith pos (.type T) [] (backTo pos (starEach args c.env)) []) Q noE s :=
  PyProof.Rows.callWith_type (back_any ha) (evalArgs_all (back_any ha) (h fm s hr _ fun as vs st' s' hl p r => q as vs st' s' hl p r))

/-- a call of a def, or of a class, by its name -/
theorem TE.call {n : Nat} {x : Str} {f : Addr} {p pos : Pos} {args : List PySem.Expr} {P : AV → ASt → Prop} (hn : n ≤ c.lv) (hx : c.sc.names.lookup x = some .globalImplicit) (hd : (x == ("__debug__" : Str)) = false) (hg : nsIn G.K mainGlobals x = some (some (.ref f)))
    (hk : keepIn G.K (.ref f) = true) (ha : args.all plainE = true) (h : TEs c (backTo pos (starEach args c.env)) st fun as st1 => TF G n f as st1.heap fun r hp => P r { st1 with heap := hp }) : TE c (.Call (.Name x p) args [] pos) st P := by
  intro fm s hr Q q
  refine Call_Name rfl (name_any hr hx hd hg (callWith_any hk ha hr h fun as vs st' s' hl hf r => ?_))
  exact hf c hn st'.env fm s' vs Q hl r fun r v hp' s2 hp hr => q _ _ _ _ hp hr

noncomputable def notCall : PySem.Expr → Bool
  | .Call .. => false
  | _ => true
theorem base_plain {o : PySem.Expr} {name : Str} {env : Env} {t : Sem Value} (h : notCall o = true) : attributeBase o name env t = t := by
  cases o <;> first | rfl | simp [notCall] at h
theorem back_len {env : Env} {pos : Pos} : ∀ {es : List PySem.Expr}, es.all plainE = true → (backTo pos (starEach es env)).all (fun x => !x.1) = true
  | [], _ => rfl
  | e :: es, h => by
    rw [List.all_cons, Bool.and_eq_true] at h
    rw [back_cons h.1, List.all_cons, back_len h.2]
    rfl
theorem meth_rule {o : PySem.Expr} {name : Str} {apos pos : Pos} {args : List PySem.Expr} {Q : Value → Shared → Prop} (ho : notCall o = true) (ha : args.all plainE = true) (hl : args.length < 30) (hpos : (apos.endLine == pos.line) = true)
    (h : wpAny c.M c.A (eval o c.env) (fun ov s₁ => ∀ pl, wpAny c.M c.A (getMethod ov name pl) (fun fx s₂ => wpAny c.M c.A (callWith pos fx.1 fx.2 (backTo pos (starEach args c.env)) []) Q noE s₂) noE s₁) noE s) :
    wpAny c.M c.A (eval (.Call (.Attribute o name apos) args [] pos) c.env) Q noE s := by
  have hf : methodCallForm (args.length + ([] : List Keyword).length) (backTo pos (starEach args c.env)) (backToKw pos (keywordEach [] c.env)) = true := by
    unfold methodCallForm
    rw [back_len ha]
    simp [backToKw, keywordEach, hl]
  rw [arm_eval_Call, base_plain ho]
  refine wpAny_bind (wpAny_mono h (fun ov s₁ h₁ => wpAny_bind (wpAny_standAt ?_)) fun _ _ x => x)
  unfold methodCall
  rw [hf]
  refine wpAny_bind (wpAny_holding ?_)
  refine wpAny_mono (h₁ _) (fun fx s₂ h₂ => ?_) fun _ _ x => x
  unfold methodCallPos
  simp only [hpos, Bool.not_true, Bool.false_or, if_true]
  exact wpAny_bind (wpAny_pure h₂)
/-- a call of a method of an own class -/
theorem TE.meth {n : Nat} {o : PySem.Expr} {name : Str} {C f : Addr} {apos pos : Pos} {args : List PySem.Expr} {P : AV → ASt → Prop} (hn : n ≤ c.lv) (hm : (name, C, f) ∈ G.mt) (ho : notCall o = true) (ha : args.all plainE = true) (hl : args.length < 30) (hpos : (apos.endLine == pos.line) = true)
    (h : TE c o st fun a st1 => ∃ i fs, a = .obj i ∧ st1.heap[i]? = some (.inst C fs) ∧ TEs c (backTo pos (starEach args c.env)) st1 fun as st2 => TF G n f (.obj i :: as) st2.heap fun r hp => P r { st2 with heap := hp }) :
    TE c (.Call (.Attribute o name apos) args [] pos) st P := by
  intro fm s hr Q q
  obtain ⟨mk, hni⟩ := G.mtOk _ hm
  refine meth_rule ho ha hl hpos (h fm s hr _ fun a v st1 s1 h1 r1 pl => ?_)
  obtain ⟨i, fs, rfl, hi, h1⟩ := h1
  have r0 := r1
  obtain ⟨ρ, N, m, d⟩ := r1
  cases d.top with
  | obj hρ =>
    obtain ⟨as, e1, x, dx, es, k, rfl, h2, h3, h4, h5, h6⟩ := d.heap _ _ hi
    rw [hρ] at e1
    cases e1
    have k8 : ∀ f ∈ fs, f.1 < 8 := fun f hf => (G.ctOk _ (h5 f hf)).1
    refine method_inst d.F c.X (InstAt.of_news d.nw h2 h3) mk.pg mk.fi mk.fn (h4.miss k8 hni) ?_
    refine callWith_any mk.kp ha r0 h1 fun as vs st' s' hl hf r => ?_
    refine hf c hn st'.env fm s' (_ :: vs) Q (by simp [hl]) ?_ fun r v hp' s2 hp hr => q _ _ _ _ hp hr
    obtain ⟨ρ', N', m', d'⟩ := r
    refine ⟨ρ', N', m', d'.fmTo ?_ rfl⟩
    obtain ⟨vs1, vs2, e1, p1, p2⟩ := d'.pend.split
    obtain ⟨rfl, rfl⟩ := List.append_inj e1 (by rw [p1.length, hl])
    cases p2 with
    | cons p3 p4 => exact .cons p3 (p1.append p4)
end
end Mine
end
section
namespace Mine

inductive AFl where
  | next | brk | cont | ret (a : AV)
noncomputable def retOf : AFl → AV
  | .ret a => a
  | _ => .none
noncomputable def FlowOk {G : Gl} (c : Cx G) (st : ASt) (fm : Fm) (s : Shared) : AFl → Flow → Prop
  | .next, .next => Rel c st fm s
  | .brk, .brk => Rel c st fm s
  | .cont, .cont => Rel c st fm s
  | .ret a, .ret v => Rel c st (fm.push a v) s
  | _, _ => False
/-- a tree that does something -/
noncomputable def Does {G : Gl} (c : Cx G) (t : Sem Flow) (st : ASt) (P : AFl → ASt → Prop) : Prop :=
  ∀ fm s, Rel c st fm s → ∀ Q : Flow → Shared → Prop, (∀ fl f st' s', P fl st' → FlowOk c st' fm s' fl f → Q f s') → wpAny c.M c.A t Q noE s
abbrev TS {G : Gl} (c : Cx G) (b : Stmt) (st : ASt) (P : AFl → ASt → Prop) : Prop := Does c (exec b c.env) st P
abbrev TSs {G : Gl} (c : Cx G) (b : List Stmt) (st : ASt) (P : AFl → ASt → Prop) : Prop := Does c (execs b c.env) st P

theorem env_pack {hb : Heap} {ρ : List (List Addr)} {N : Led} : ∀ (env : List (Option AV)) {look : Nat → Value → Prop}, (∀ (i : Nat) (a : AV), env[i]? = some (some a) → ∃ v, look i v ∧ RV hb ρ N a v) →
    ∃ eas evs, RVs hb ρ N eas evs ∧ ∀ ρ' N', RVs hb ρ' N' eas evs → ∀ (i : Nat) (a : AV), env[i]? = some (some a) → ∃ v, look i v ∧ RV hb ρ' N' a v
  | [], _, _ => ⟨[], [], .nil, fun _ _ _ i a e => by simp at e⟩
  | o :: env, look, h => by
    obtain ⟨eas, evs, h1, h2⟩ := env_pack env (look := fun i v => look (i + 1) v) fun i a e => h (i + 1) a (by simpa using e)
    cases o with
    | none =>
      refine ⟨eas, evs, h1, fun ρ' N' r i a e => ?_⟩
      cases i with
      | zero => simp at e
      | succ i => exact h2 ρ' N' r i a (by simpa using e)
    | some b =>
      obtain ⟨v, g1, g2⟩ := h 0 b rfl
      refine ⟨b :: eas, v :: evs, .cons g2 h1, fun ρ' N' r i a e => ?_⟩
      cases r with
      | cons r1 r2 =>
        cases i with
        | zero => simp at e; subst e; exact ⟨v, g1, r1⟩
        | succ i => exact h2 ρ' N' r2 i a (by simpa using e)
theorem lookup_append {x : Str} : ∀ {l l' : List (Str × Value)}, (l ++ l').lookup x = (l.lookup x).or (l'.lookup x)
  | [], _ => by simp
  | p :: l, l' => by
    rw [List.cons_append, List.lookup_cons, List.lookup_cons]
    cases h : x == p.1 with
    | true => simp
    | false => simp [lookup_append (l := l)]
theorem zip_rev_miss {x : Str} : ∀ {names : List Str} {vs : List Value}, x ∉ names → (names.zip vs).reverse.lookup x = none
  | [], _, _ => by simp
  | _ :: _, [], _ => by simp
  | n :: names, v :: vs, h => by
    rw [List.zip_cons_cons, List.reverse_cons, lookup_append, zip_rev_miss fun hx => h (.tail _ hx)]
    have hne : x ≠ n := fun e => h (e ▸ .head _)
    simp [List.lookup_cons, beq_eq_false_iff_ne.mpr hne]
theorem zip_rev_look : ∀ {names : List Str} {vs : List Value}, names.Nodup → ∀ {i : Nat} {x : Str} {v : Value}, names[i]? = some x → vs[i]? = some v → (names.zip vs).reverse.lookup x = some v
  | [], _, _, i, _, _, h, _ => by simp at h
  | _ :: _, [], _, i, _, _, _, h => by simp at h
  | n :: names, w :: vs, nd, i, x, v, h1, h2 => by
    rw [List.nodup_cons] at nd
    rw [List.zip_cons_cons, List.reverse_cons, lookup_append]
    cases i with
    | zero =>
      cases h1; cases h2
      rw [zip_rev_miss nd.1]
      simp
    | succ i => rw [zip_rev_look nd.2 (by simpa using h1) (by simpa using h2)]; rfl

/-- a def of the text's, as the written part has it -/
structure DefAt (K : Frag) (f : Addr) (names : List Str) (body : List Stmt) (scope : Scope) (das : List AV) (qual : Str) (cdv : Value) : Prop where
  at' : ∃ oc od osl name params dV kV doc pm an ct dvs, K.lookup f = some ⟨oc, od, .func (fnOf name qual params body scope dV kV doc pm an cdv ct), osl⟩ ∧ (∀ hb ρ N, RVs hb ρ N das dvs) ∧
    ∀ (s : Shared), K.In s.heap → ∀ vs : List Value, vs.length + das.length = names.length → BindsTo s (fnOf name qual params body scope dV kV doc pm an cdv ct) ⟨vs, []⟩ (names.zip (vs ++ dvs))
  code : codeIn K cdv qual = true
  pre : scope.names.take names.length = names.map fun x => (x, NameKind.local)
  nd : (scope.names.map (·.1)).Nodup
  co : scope.isCoroutine = false
  gen : scope.isGenerator = false
  kind : scope.kind = .function
  cell : ∀ x ∈ scope.names, x.2 ≠ .cell

section
variable {G : Gl}
theorem pre_names {names : List Str} {scope : Scope} (h : scope.names.take names.length = names.map fun x => (x, NameKind.local)) {i : Nat} {x : Str} (hx : names[i]? = some x) : scope.names[i]? = some (x, .local) := by
  have hlt := (List.getElem?_eq_some_iff.mp hx).1
  have e := congrArg (fun l => l[i]?) h
  simp only [List.getElem?_take, if_pos hlt, List.getElem?_map, hx] at e
  exact e
theorem names_nodup {names : List Str} {scope : Scope} (h : scope.names.take names.length = names.map fun x => (x, NameKind.local)) (nd : (scope.names.map (·.1)).Nodup) : names.Nodup := by
  have e := congrArg (List.map (·.1)) h
  have q : (names.map fun x => (x, NameKind.local)).map (·.1) = names := by simp [List.map_map, Function.comp_def]
  rw [q, List.map_take] at e
  rw [← e]
  exact nd.sublist (List.take_sublist _ _)
/-- a def's call by its body -/
theorem code_in {c : Cx G} {n : Nat} {f : Addr} {names : List Str} {body : List Stmt} {scope : Scope} {das : List AV} {qual : Str} {cdv : Value} (D : DefAt G.K f names body scope das qual cdv) {A : Around} (hAf : A.frames = some (c.env :: c.outer)) (hAh : A.handled = none)
    (hAd : A.depth + 3 * n < recursionLimit) (hAd0 : A.depth < recursionLimit) (hAu : A.units + 3 + 40 * n + 400 < cLine) (hAd1 : A.depth + 1 + 3 * n < recursionLimit)
    {env : List (Option AV)} {hp : List AO} {fm : Fm} {s : Shared} {args : List AV} {vs : List Value} {P : AV → List AO → Prop} {R : Result → Shared → Prop} (hl : args.length = vs.length) (hn : args.length + das.length = names.length)
    (hr : Rel c ⟨env, hp⟩ ⟨args ++ fm.as, vs ++ fm.vs, fm.xs⟩ s)
    (hb : ∀ c' : Cx G, c'.lv = n → c'.sc = scope → TSs c' body ⟨(args ++ das).map some ++ List.replicate (scope.names.length - names.length) none, hp⟩ fun fl st' => P (retOf fl) st'.heap)
    (q : ∀ r v hp' s', P r hp' → Rel c ⟨env, hp'⟩ (fm.push r v) s' → R (.ok (.ret v)) s') : codeAny c.M A (.call (.ref f) ⟨vs, []⟩) R s := by
  obtain ⟨oc, od, osl, name, params, dV, kV, doc, pm, an, ct, dvs, hlook, hdv, hbind⟩ := D.at'
  have hK := hr.inK
  obtain ⟨ρ, N, m, d⟩ := hr
  obtain ⟨vs1, vs2, e1, p1, p2⟩ := d.pend.split
  obtain ⟨rfl, rfl⟩ := List.append_inj e1 (by rw [p1.length, hl])
  obtain ⟨eas, evs, he1, he2⟩ := env_pack env (look := fun i v => ∃ x, c.sc.names[i]? = some (x, .local) ∧ m x = some v) fun i a e => by
    obtain ⟨x, v, h1, h2, h3⟩ := d.env i a e
    exact ⟨v, ⟨x, h1, h2⟩, h3⟩
  have hpar := p1.append (hdv c.base ρ N)
  have hz : ∀ y ∈ names.zip (vs ++ dvs), scope.names.lookup y.1 = some .local := by
    intro y hy
    obtain ⟨i, hi⟩ := List.getElem?_of_mem (List.of_mem_zip hy).1
    exact lookup_of_get D.nd (pre_names D.pre hi)
  refine code_def c.B d.F c.X d.nw c.T hAf rfl c.hk hlook D.code hAd0 (hbind s hK vs (by omega)) hz (fun g L' h₁ FG F' N' B' X' T' => ?_) D.co D.gen D.kind D.cell
  let c' : Cx G := ⟨A.deeper (envOf qual scope L' f cdv), qual, scope, f, cdv, c.env :: c.outer, A, c.base, g, L', c.gens, c.drawn, c.os, n, B', X', T', by simp [Around.deeper, hAf], hAh, D.kind, D.nd, by simp only [Around.deeper]; omega, by simp only [Around.deeper]; omega⟩
  have d' : RelD c' ⟨(args ++ das).map some ++ List.replicate (scope.names.length - names.length) none, hp⟩ ⟨eas ++ fm.as, evs ++ fm.vs, fm.xs⟩ { heap := h₁, gens := s.gens, drawn := s.drawn, toks := s.toks + (names.zip (vs ++ dvs)).length, os := s.os } ρ N (fun y => (names.zip (vs ++ dvs)).reverse.lookup y) := by
    refine ⟨F', N', d.nd, d.ow, d.len, fun i a e => ?_, d.heap, he1.append p2, d.xs, d.g⟩
    have hi : i < (args ++ das).length := by
      by_cases hi : i < (args ++ das).length
      · exact hi
      · rw [List.getElem?_append_right (by simpa using hi)] at e
        rw [List.getElem?_replicate] at e
        split at e <;> simp at e
    rw [List.getElem?_append_left (by simpa using hi), List.getElem?_map] at e
    obtain ⟨b, hb1, hb2⟩ := Option.map_eq_some_iff.mp e
    cases hb2
    obtain ⟨v, hv1, hv2⟩ := hpar.get hb1
    have hin : i < names.length := by rw [← hn]; simpa using hi
    exact ⟨names[i], v, pre_names D.pre (List.getElem?_eq_getElem hin), zip_rev_look (names_nodup D.pre D.nd) (List.getElem?_eq_getElem hin) hv1, hv2⟩
  have fin : ∀ r v st' s', P r st'.heap → Rel c' st' (Fm.push ⟨eas ++ fm.as, evs ++ fm.vs, fm.xs⟩ r v) s' → LeaveK c.h₀ c.L m g R v s' := by
    intro r v st' s' hP hr'
    obtain ⟨ρ', N2, m', d2⟩ := hr'
    refine leaveK_ d2.F d2.nw fun F3 N3 => q r v st'.heap s' hP ⟨ρ', N2, m, ?_⟩
    obtain ⟨evs1, vs3, e3, p3, p4⟩ := d2.pop.pend.split
    obtain ⟨rfl, rfl⟩ := List.append_inj e3 (by rw [p3.length, he1.length])
    refine ⟨F3, N3, d2.nd, d2.ow, d2.len, fun i a e => ?_, d2.heap, .cons d2.top p4, d2.xs, d2.g⟩
    obtain ⟨v, ⟨x, h1, h2⟩, h3⟩ := he2 ρ' N2 p3 i a e
    exact ⟨x, v, h1, h2, h3⟩
  refine wpAny_mono (hb c' rfl rfl ⟨eas ++ fm.as, evs ++ fm.vs, fm.xs⟩ _ ⟨ρ, N, _, d'⟩ (fun fl s' => LeaveK c.h₀ c.L m g R (match fl with | .ret v => v | _ => .none) s') fun fl fw st' s' hP hf => ?_) (fun _ _ x => x) fun _ _ x => x.elim
  cases fl <;> cases fw <;> first | exact hf.elim | skip
  · exact fin .none .none st' s' hP hf.none
  · exact fin .none .none st' s' hP hf.none
  · exact fin .none .none st' s' hP hf.none
  · exact fin _ _ st' s' hP hf
theorem TF.of {n : Nat} {f : Addr} {names : List Str} {body : List Stmt} {scope : Scope} {das : List AV} {qual : Str} {cdv : Value} (D : DefAt G.K f names body scope das qual cdv) {args : List AV} {hp : List AO} {P : AV → List AO → Prop}
    (hn : args.length + das.length = names.length)
    (hb : ∀ c' : Cx G, n ≤ c'.lv → c'.sc = scope → TSs c' body ⟨(args ++ das).map some ++ List.replicate (scope.names.length - names.length) none, hp⟩ fun fl st' => P (retOf fl) st'.heap) : TF G (n + 1) f args hp P := by
  intro c hlv env fm s vs Q hl hr q
  have h1 := c.hd
  have h2 := c.hu
  refine wpAny_call (code_in (n := c.lv - 1) D c.hA c.hh (by omega) (by omega) (by omega) (by omega) hl hn hr (fun c' h => hb c' (by omega)) fun r v hp' s' hP hr => q r v hp' s' hP hr)
end
end Mine
end
section
namespace Mine
section
variable {G : Gl}
theorem under_frames (A : Around) (C : Addr) (vals : List Value) : (A.under (.builtin "type.__call__" ⟨.ref C :: vals, []⟩)).frames = A.frames := rfl
theorem under_handled (A : Around) (C : Addr) (vals : List Value) : (A.under (.builtin "type.__call__" ⟨.ref C :: vals, []⟩)).handled = A.handled := rfl
/-- an object of an own class is made -/
theorem TF.new {n : Nat} {C fI : Addr} {names : List Str} {body : List Stmt} {scope : Scope} {das : List AV} {qual : Str} {cdv : Value} (W : NewOk G.K C fI) (D : DefAt G.K fI names body scope das qual cdv) {args : List AV} {hp : List AO} {P : AV → List AO → Prop}
    (hn : args.length + 1 + das.length = names.length)
    (hb : ∀ c' : Cx G, n ≤ c'.lv → c'.sc = scope → TSs c' body ⟨((.obj hp.length :: args) ++ das).map some ++ List.replicate (scope.names.length - names.length) none, hp ++ [.inst C []]⟩ fun fl st' => retOf fl = .none ∧ P (.obj hp.length) st'.heap) : TF G (n + 1) C args hp P := by
  intro c hlv env fm s vs Q hl hr q
  have h1 := c.hd
  have h2 := c.hu
  obtain ⟨ρ, N, m, d⟩ := hr
  refine call_cls d.F c.X d.nw W.made W.fi W.fn fun x dx h' F' N' fresh hx => ?_
  have f1 : ∀ p ∈ N, p.1 ≠ dx := fun p hp => Nat.ne_of_lt (fresh p hp)
  have f2 : ∀ p ∈ N, p.1 ≠ x := fun p hp => Nat.ne_of_lt (Nat.lt_trans (fresh p hp) hx)
  have hne : x ≠ dx := Nat.ne_of_gt hx
  have hf : ∀ p ∈ N, p.1 ∉ [x, dx] := fun p hp => by
    rw [List.mem_cons, List.mem_singleton, not_or]
    exact ⟨f2 p hp, f1 p hp⟩
  have hs : ∀ p ∈ N, p ∈ (x, instObj C dx) :: (dx, dictOf [] 0) :: N := fun p hp => .tail _ (.tail _ hp)
  have nd : (((x, instObj C dx) :: (dx, dictOf [] 0) :: N).map (·.1)).Nodup := nd_cons (nd_cons d.nd f1) fun p hp => by
    rcases List.mem_cons.mp hp with rfl | hp
    · exact hne.symm
    · exact f2 p hp
  have g : Grow ρ (ρ ++ [[x, dx]]) N ((x, instObj C dx) :: (dx, dictOf [] 0) :: N) := grow_own hs hf
  have d' := d.own (k := s.toks) (o := .inst C []) F' N' nd hs hf (by simp [hne]) ⟨x, dx, [], 0, rfl, .head _, .tail _ (.head _), .nil, by simp, by simp⟩
  obtain ⟨vs1, vs2, e1, p1, p2⟩ := d'.pend.split
  obtain ⟨rfl, rfl⟩ := List.append_inj e1 (by rw [p1.length, hl])
  have ob : RV c.base (ρ ++ [[x, dx]]) ((x, instObj C dx) :: (dx, dictOf [] 0) :: N) (.obj hp.length) (.ref x) := .obj (as := [dx]) (by simp [d.len])
  have r' : Rel c ⟨env, hp ++ [.inst C []]⟩ ⟨(.obj hp.length :: args) ++ (fm.push (.obj hp.length) (.ref x)).as, (.ref x :: vs) ++ (fm.push (.obj hp.length) (.ref x)).vs, fm.xs⟩ { s with heap := h' } :=
    ⟨_, _, m, d'.fmTo (.cons ob (p1.append (.cons ob p2))) rfl⟩
  have u1 := depth_under_make c.A C vs
  have u2 := units_under_make c.A C vs
  refine code_in (A := c.A.under (.builtin "type.__call__" ⟨.ref C :: vs, []⟩)) (n := c.lv - 1) (fm := fm.push (.obj hp.length) (.ref x)) D ((under_frames _ _ _).trans c.hA) ((under_handled _ _ _).trans c.hh) (by omega) (by omega) (by omega) (by omega) (by simp [hl]) (by simp; omega) r' (P := fun r hp' => r = .none ∧ P (.obj hp.length) hp')
    (fun c' h hs => hb c' (by omega) hs) fun r v hp' s' hP hr => ?_
  obtain ⟨rfl, hP⟩ := hP
  have hv := hr.popNone
  subst hv
  exact ⟨rfl, q _ _ _ _ hP hr.pop⟩
end

section
variable {G : Gl} {c : Cx G} {st : ASt} {fm : Fm} {s : Shared}
theorem TSs.nil {P : AFl → ASt → Prop} (h : P .next st) : TSs c [] st P := fun _ _ hr _ q => wpAny_execs_nil (q .next .next _ _ h hr)
theorem TSs.cons {b : Stmt} {rest : List Stmt} {P : AFl → ASt → Prop} (h : TS c b st fun fl st1 => match fl with | .next => TSs c rest st1 P | fl => P fl st1) : TSs c (b :: rest) st P := by
  intro fm s hr Q q
  refine wpAny_execs_cons (h fm s hr _ fun fl f st1 s1 h1 r1 => ?_)
  cases fl <;> cases f <;> first | exact r1.elim | skip
  · exact h1 fm s1 r1 Q q
  · exact q .brk .brk _ _ h1 r1
  · exact q .cont .cont _ _ h1 r1
  · exact q (.ret _) (.ret _) _ _ h1 r1
theorem TS.ret {e : PySem.Expr} {pos : Pos} {P : AFl → ASt → Prop} (h : TE c e st fun a st1 => P (.ret a) st1) : TS c (.Return (some e) pos) st P := by
  intro fm s hr Q q
  exact wpAny_Return_some (h fm s hr _ fun a v st1 s1 h1 r1 => q (.ret a) (.ret v) _ _ h1 r1)
theorem TS.ret0 {pos : Pos} {P : AFl → ASt → Prop} (h : P (.ret .none) st) : TS c (.Return none pos) st P := by
  intro fm s hr Q q
  exact wpAny_Return_none (q (.ret .none) (.ret .none) _ _ h hr.none)
theorem TS.brk {pos : Pos} {P : AFl → ASt → Prop} (h : P .brk st) : TS c (.Break pos) st P := fun _ _ hr _ q => wpAny_Break (q .brk .brk _ _ h hr)
theorem TS.cont {pos : Pos} {P : AFl → ASt → Prop} (h : P .cont st) : TS c (.Continue pos) st P := fun _ _ hr _ q => wpAny_Continue (q .cont .cont _ _ h hr)
theorem TS.pass {pos : Pos} {P : AFl → ASt → Prop} (h : P .next st) : TS c (.Pass pos) st P := fun _ _ hr _ q => wpAny_Pass (q .next .next _ _ h hr)
theorem TS.ife {t : PySem.Expr} {b o : List Stmt} {pos : Pos} {P : AFl → ASt → Prop} (h : TT c t st fun x st1 => fork x (TSs c b st1 P) (TSs c o st1 P)) : TS c (.If t b o pos) st P := by
  intro fm s hr Q q
  exact wpAny_If (h fm s hr _ fun x st1 s1 h1 r1 => fork_ite ⟨fun hb => h1.1 hb fm s1 r1 Q q, fun hb => h1.2 hb fm s1 r1 Q q⟩)
theorem noE_own : PassesOwn c.M c.A c.env noE := fun _ _ h => h.elim
/-- a local is stored -/
theorem store_sound {i : Nat} {x : Str} {a : AV} {v : Value} {Q : Unit → Shared → Prop} (hx : c.sc.names[i]? = some (x, .local)) (r : Rel c st (fm.push a v) s) (q : ∀ s', Rel c { st with env := st.env.set i (some a) } fm s' → Q () s') : wpAny c.M c.A (storeName c.env x v) Q noE s := by
  obtain ⟨ρ, N, m, d⟩ := r
  refine stN d.F d.nw (fun h' F' N' => q _ ⟨ρ, N, _, F', N', d.nd, d.ow, d.len, fun j b e => ?_, d.heap, d.pop.pend, d.xs, d.g⟩) c.hk (lookup_of_get c.nd hx)
  by_cases hj : j = i
  · subst hj
    have hlt : j < st.env.length := by
      have := (List.getElem?_eq_some_iff.mp e).1
      simpa using this
    rw [List.getElem?_set_self hlt] at e
    cases e
    exact ⟨x, v, hx, if_pos rfl, d.top⟩
  · rw [List.getElem?_set_ne (fun e => hj e.symm)] at e
    obtain ⟨y, u, h1, h2, h3⟩ := d.env j b e
    refine ⟨y, u, h1, ?_, h3⟩
    rw [if_neg]
    · exact h2
    · intro e'
      subst e'
      have g1 : (c.sc.names.map (·.1))[j]? = some y := by simp [h1]
      have g2 : (c.sc.names.map (·.1))[i]? = some y := by simp [hx]
      exact hj ((List.getElem?_inj (List.getElem?_eq_some_iff.mp g1).1 c.nd).mp (g1.trans g2.symm))
theorem TS.set {i : Nat} {x : Str} {e : PySem.Expr} {p pos : Pos} {P : AFl → ASt → Prop} (hx : c.sc.names[i]? = some (x, .local)) (hw : swapsWith e (some (.Name x p)) pos.line c.env = pure false) (h : TE c e st fun a st1 => P .next { st1 with env := st1.env.set i (some a) }) :
    TS c (.Assign [.Name x p] e pos) st P := by
  intro fm s hr Q q
  exact wpAny_Assign_Name (h fm s hr _ fun a v st1 s1 h1 r1 => store_sound hx r1 fun s' r' => q .next .next _ _ h1 r') hw
theorem TS.setAttr {o e : PySem.Expr} {k : Nat} {p pos : Pos} {P : AFl → ASt → Prop} (hk : k < 8) (hw : swapsWith e (some (.Attribute o (atName k) p)) pos.line c.env = pure false)
    (h : TE c e st fun b st1 => TE c o st1 fun a st2 => SetAttr G st2.heap a k b fun hp => P .next { st2 with heap := hp }) : TS c (.Assign [.Attribute o (atName k) p] e pos) st P := by
  intro fm s hr Q q
  exact plainObj_wpAny_Assign_Attribute (h fm s hr _ fun b v st1 s1 h1 r1 => h1 _ _ r1 _ fun a u st2 s2 h2 r2 => setAttr_sound (P := fun st' => P .next st') hk r2 h2 fun st' s' p r => q .next .next _ _ p r) hw
theorem TS.exp {e : PySem.Expr} {pos : Pos} {P : AFl → ASt → Prop} (hi : interactive c.env = false) (hw : swapsWith e none pos.line c.env = pure false) (h : TE c e st fun _ st1 => P .next st1) : TS c (.Expr e pos) st P := by
  intro fm s hr Q q
  exact wpAny_Expr_any (h fm s hr _ fun a v st1 s1 h1 r1 => q .next .next _ _ h1 r1.pop) hi hw
end
end Mine
end
section
namespace Mine
section
variable {G : Gl} {c : Cx G} {st : ASt} {fm : Fm} {s : Shared}
/-- a while, by an invariant and a measure -/
theorem TS.whl {t : PySem.Expr} {b : List Stmt} {pos : Pos} {P : AFl → ASt → Prop} (inv : ASt → Prop) (μ : ASt → Nat) (h0 : inv st)
    (h : ∀ st1, inv st1 → TT c t st1 fun x st2 => fork x (TSs c b st2 fun fl st3 => match fl with | .brk => P .next st3 | .ret a => P (.ret a) st3 | _ => inv st3 ∧ μ st3 < μ st1) (P .next st2)) : TS c (.While t b [] pos) st P := by
  intro fm s hr Q q
  have all : ∀ (n : Nat) (st1 : ASt), μ st1 < n → inv st1 → ∀ s1, Rel c st1 fm s1 → WhlRest G.prog G.w c.A noE c.env t b [] Q 1 s1 := by
    intro n
    induction n with
    | zero => intro st1 hm; exact absurd hm (Nat.not_lt_zero _)
    | succ n ih =>
      intro st1 hm hi s1 r1
      refine whl_turn noE_own (h st1 hi fm s1 r1 _ fun x st2 s2 h2 r2 => ?_)
      cases x with
      | false => exact WhlIf.no rfl (wpAny_execs_nil (q .next .next _ _ (h2.2 rfl) r2))
      | true =>
        refine WhlIf.yes rfl (h2.1 rfl fm s2 r2 _ fun fl f st3 s3 h3 r3 => ?_)
        cases fl <;> cases f <;> first | exact r3.elim | skip
        · exact ih st3 (by omega) h3.1 s3 r3
        · exact q .next .next _ _ h3 r3
        · exact ih st3 (by omega) h3.1 s3 r3
        · exact q (.ret _) (.ret _) _ _ h3 r3
  exact whl_start 1 (all _ st (Nat.lt_succ_self _) h0 s hr)

/-- the frame's own row turns -/
theorem RelD.touchX {d : Addr} {o o' : Obj} {as : List AV} {vs : List Value} {xs : Led} {ρ : List (List Addr)} {N : Led} {m : Str → Option Value} {h' : Heap} {k : Nat} (r : RelD c st ⟨as, vs, (d, o) :: xs⟩ s ρ N m) (hx : ∀ p ∈ xs, p.1 ≠ d) (hs : Heap.SameBut d s.heap h') (ho : h'.get? d = some o')
    (h1 : o'.cls ≠ .type "list" ∧ o'.cls ≠ .type "tuple") : ∃ N', RelD c st ⟨as, vs, (d, o') :: xs⟩ { s with heap := h', toks := k } ρ N' m := by
  obtain ⟨x1, x2, x3⟩ := r.xs _ (.head _)
  obtain ⟨N', U⟩ := upd_of (o' := o') r.nd x1
  have hd := r.nw _ x1
  refine ⟨N', r.updX (fm := ⟨as, vs, xs⟩) ⟨?_, fun b y e => ?_, r.F.above⟩ (fun p hp => ?_) U hx h1⟩
  · obtain ⟨y, es, ep, g1, g2⟩ := r.F.ns
    exact ⟨y, es, ep, (hs.2 _ (Ne.symm hd.2.1)).trans g1, g2⟩
  · have hb : b ≠ d := fun e' => by subst e'; rw [hd.2.2] at e; cases e
    exact (hs.2 b hb).trans (r.F.keep b y e)
  · obtain ⟨pre, post, e1, rfl, e3, e4⟩ := U.split
    rcases List.mem_append.mp hp with hp | hp
    · have q := r.nw p (e1 ▸ List.mem_append_left _ hp)
      exact ⟨(hs.2 _ (e3 p hp)).trans q.1, q.2⟩
    · rcases List.mem_cons.mp hp with rfl | hp
      · exact ⟨ho, hd.2⟩
      · have q := r.nw p (e1 ▸ List.mem_append_right _ (.tail _ hp))
        exact ⟨(hs.2 _ (e4 p hp)).trans q.1, q.2⟩
/-- the frame's own row is forgotten -/
theorem RelD.dropX {d : Addr} {o : Obj} {as : List AV} {vs : List Value} {xs : Led} {ρ : List (List Addr)} {N : Led} {m : Str → Option Value} {h' : Heap} {k : Nat} (r : RelD c st ⟨as, vs, (d, o) :: xs⟩ s ρ N m) (hx : ∀ p ∈ xs, p.1 ≠ d) (hs : Heap.ExtBut d s.heap h') :
    ∃ N', RelD c st ⟨as, vs, xs⟩ { s with heap := h', toks := k } ρ N' m := by
  obtain ⟨x1, x2, x3⟩ := r.xs _ (.head _)
  have hd := r.nw _ x1
  have hm : ∀ p, p ∈ N.filter (fun p => decide (p.1 ≠ d)) ↔ p ∈ N ∧ p.1 ≠ d := fun p => by simp
  have g : Grow ρ ρ N (N.filter fun p => decide (p.1 ≠ d)) := by
    refine ⟨fun q y hq hz => (hm _).mpr ⟨hq, fun e => ?_⟩, fun _ _ h => h, fun _ _ _ h => h⟩
    have e : q = d := e
    subst e
    have : y = o := mem_one r.nd hq x1
    subst this
    rcases hz with hz | hz
    · exact x3.2 hz
    · exact x3.1 hz.1
  refine ⟨N.filter fun p => decide (p.1 ≠ d), ⟨?_, fun b y e => ?_, r.F.above⟩, fun p hp => ?_, ?_, r.ow, r.len, fun j a e => ?_, fun j y e => ?_, r.pend.mono g, fun p hp => ?_, r.g⟩
  · obtain ⟨y, es, ep, g1, g2⟩ := r.F.ns
    exact ⟨y, es, ep, hs _ _ (Ne.symm hd.2.1) g1, g2⟩
  · have hb : b ≠ d := fun e' => by subst e'; rw [hd.2.2] at e; cases e
    exact hs b y hb (r.F.keep b y e)
  · obtain ⟨h1, h2⟩ := (hm p).mp hp
    have q := r.nw p h1
    exact ⟨hs _ _ h2 q.1, q.2⟩
  · exact r.nd.sublist ((List.filter_sublist (l := N)).map _)
  · obtain ⟨x, v, h1, h2, h3⟩ := r.env j a e
    exact ⟨x, v, h1, h2, h3.mono g⟩
  · obtain ⟨bs, e1, e2⟩ := r.heap j y e
    exact ⟨bs, e1, e2.mono g fun a ha z hz => (hm _).mpr ⟨hz, fun q => x2 ((show a = d from q) ▸ own_mem e1 ha)⟩⟩
  · have q := r.xs p (.tail _ hp)
    exact ⟨(hm p).mpr ⟨q.1, hx p hp⟩, q.2⟩
/-- a row of the frame's own is made -/
theorem RelD.pushX {o : Obj} {as : List AV} {vs : List Value} {xs : Led} {ρ : List (List Addr)} {N : Led} {m : Str → Option Value} (r : RelD c st ⟨as, vs, xs⟩ s ρ N m) (hf : o.isFreed = false) (h1 : o.cls ≠ .type "list" ∧ o.cls ≠ .type "tuple") :
    RelD c st ⟨as, vs, (s.heap.objs.size, o) :: xs⟩ { s with heap := s.heap.push o } ρ ((s.heap.objs.size, o) :: N) m ∧ ∀ p ∈ xs, p.1 ≠ s.heap.objs.size := by
  have fresh : ∀ p ∈ N, p.1 ≠ s.heap.objs.size := fun p hp => Nat.ne_of_lt (Heap.lt_size (r.nw p hp).1)
  have d := r.frozen (k := s.toks) (r.F.push o) (News.push r.F r.nw o hf) fresh
  refine ⟨⟨d.F, d.nw, d.nd, d.ow, d.len, d.env, d.heap, d.pend, fun p hp => ?_, d.g⟩, fun p hp => fresh p (r.xs p hp).1⟩
  rcases List.mem_cons.mp hp with rfl | hp
  · exact ⟨.head _, r.off fresh, h1⟩
  · exact d.xs p hp

/-- the heart of every for -/
theorem for_core {it : Addr} {items : List AV} {src : AV} {sv : Value} {i : Nat} {x : Str} {xp : Pos} {b : List Stmt} {P : AFl → ASt → Prop} {R : Result → Shared → Prop} (Jt : Nat → Obj → Prop) (hx : c.sc.names[i]? = some (x, .local)) (hxs : ∀ p ∈ fm.xs, p.1 ≠ it)
    (hitem : ∀ (k : Nat) (a : AV), items[k]? = some a → ∀ st s o (Q : Option Value → Shared → Prop), Jt k o → Rel c st ⟨src :: fm.as, sv :: fm.vs, (it, o) :: fm.xs⟩ s →
      (∀ v s' o', Jt (k + 1) o' → Rel c st ⟨a :: src :: fm.as, v :: sv :: fm.vs, (it, o') :: fm.xs⟩ s' → Q (some v) s') → wpAny c.M c.A (pyNext (.ref it)) Q noE s)
    (hend : ∀ st s o (Q : Option Value → Shared → Prop), Jt items.length o → Rel c st ⟨src :: fm.as, sv :: fm.vs, (it, o) :: fm.xs⟩ s → (∀ s', Rel c st fm s' → Q none s') → wpAny c.M c.A (pyNext (.ref it)) Q noE s)
    (inv : Nat → ASt → Prop) (turn : ∀ (k : Nat) (a : AV), items[k]? = some a → ∀ st1, inv k st1 → TSs c b { st1 with env := st1.env.set i (some a) } fun fl st2 => match fl with | .brk => P .next st2 | .ret r => P (.ret r) st2 | _ => inv (k + 1) st2)
    (done : ∀ st1, inv items.length st1 → P .next st1) {o₀ : Obj} (h0 : inv 0 st) (hj : Jt 0 o₀) (hr : Rel c st ⟨src :: fm.as, sv :: fm.vs, (it, o₀) :: fm.xs⟩ s)
    (q : ∀ fl f st' s', P fl st' → (match fl with | .next => f = .next ∧ Rel c st' fm s' | .ret a => ∃ v, f = .ret v ∧ Rel c st' (fm.push a v) s' | _ => False) → R (.ok f) s') :
    codeAny c.M c.A (.forLoop (.Name x xp) (.ref it) b [] c.env) R s := by
  refine codeAny_forLoop_any (fun n s => ∃ k st1 o, k ≤ items.length ∧ n = items.length - k ∧ inv k st1 ∧ Jt k o ∧ Rel c st1 ⟨src :: fm.as, sv :: fm.vs, (it, o) :: fm.xs⟩ s) ?_ items.length ⟨0, st, o₀, Nat.zero_le _, rfl, h0, hj, hr⟩
  rintro n s1 ⟨k, st1, o, hk, rfl, hi, hjo, r1⟩
  have mono : ∀ {Q : Option Value → Shared → Prop} {E : Value → Shared → Prop} {s : Shared}, wpAny c.M c.A (pyNext (.ref it)) Q noE s → wpAny c.M c.A (pyNext (.ref it)) Q E s := fun h => wpAny_mono h (fun _ _ x => x) fun _ _ x => x.elim
  cases he : items[k]? with
  | none =>
    have hk' : k = items.length := by
      have := List.getElem?_eq_none_iff.mp he
      omega
    subst hk'
    refine mono (hend st1 s1 o _ hjo r1 fun s' r' => ?_)
    exact wpAny_execs_nil (q .next .next _ _ (done st1 hi) ⟨rfl, r'⟩)
  | some a =>
    have hlt := (List.getElem?_eq_some_iff.mp he).1
    refine mono (hitem k a he st1 s1 o _ hjo r1 fun v s' o' hj' r' => ?_)
    refine wpAny_pure (wpAny_assign_Name (wpAny_mono (store_sound (fm := ⟨src :: fm.as, sv :: fm.vs, (it, o') :: fm.xs⟩) (Q := fun _ s2 => Rel c { st1 with env := st1.env.set i (some a) } ⟨src :: fm.as, sv :: fm.vs, (it, o') :: fm.xs⟩ s2) hx r' fun s2 r2 => r2) (fun _ s2 r2 => ?_) fun _ _ x => x.elim))
    refine wpAny_mono (turn k a he st1 hi ⟨src :: fm.as, sv :: fm.vs, (it, o') :: fm.xs⟩ s2 r2 (fun f s3 => match f with | .next => ∃ m, m < items.length - k ∧ _ | .cont => ∃ m, m < items.length - k ∧ _ | .brk => R (.ok .next) s3 | .ret v => R (.ok (.ret v)) s3) fun fl f st3 s3 h3 r3 => ?_) (fun _ _ x => by first | exact x | (rename_i f _; cases f <;> exact x)) fun _ _ x => x.elim
    have dropx : ∀ {as : List AV} {vs : List Value}, Rel c st3 ⟨as, vs, (it, o') :: fm.xs⟩ s3 → Rel c st3 ⟨as, vs, fm.xs⟩ s3 := by
      rintro as vs ⟨ρ, N, m, d⟩
      obtain ⟨N', d'⟩ := d.dropX (h' := s3.heap) (k := s3.toks) hxs fun _ _ _ h => h
      exact ⟨ρ, N', m, d'⟩
    cases fl <;> cases f <;> first | exact r3.elim | skip
    · exact ⟨items.length - (k + 1), by omega, k + 1, st3, o', by omega, rfl, h3, hj', r3⟩
    · refine q .next .next _ _ h3 ⟨rfl, ?_⟩
      exact (dropx r3).pop (fm := fm)
    · exact ⟨items.length - (k + 1), by omega, k + 1, st3, o', by omega, rfl, h3, hj', r3⟩
    · refine q (.ret _) (.ret _) _ _ h3 ⟨_, rfl, ?_⟩
      obtain ⟨ρ, N, m, d⟩ := dropx r3
      refine ⟨ρ, N, m, d.fmTo ?_ rfl⟩
      cases d.pend with
      | cons p1 p2 => cases p2 with | cons p3 p4 => exact .cons p1 p4
end
end Mine
end
section
namespace Mine
theorem it_ok {o : Obj} {T : String} (h : o.cls = .type T) (h1 : T ≠ "list") (h2 : T ≠ "tuple") : o.cls ≠ .type "list" ∧ o.cls ≠ .type "tuple" := by
  rw [h]
  exact ⟨fun z => h1 (by injection z), fun z => h2 (by injection z)⟩
noncomputable def notSet : PySem.Expr → Bool
  | .Set .. => false
  | _ => true
theorem folded_plain {e : PySem.Expr} {env : Env} (h : notSet e = true) (v : Value) : foldedSetIterable e env v = pure v := by
  cases e <;> first | rfl | simp [notSet] at h
/-- a loop's word: the invariant, the turn, the end -/
noncomputable def Loop {G : Gl} (c : Cx G) (items : List AV) (i : Nat) (b : List Stmt) (st : ASt) (P : AFl → ASt → Prop) : Prop :=
  ∃ inv : Nat → ASt → Prop, inv 0 st ∧ (∀ (k : Nat) (a : AV), items[k]? = some a → ∀ st1, inv k st1 → TSs c b { st1 with env := st1.env.set i (some a) } fun fl st2 => match fl with | .brk => P .next st2 | .ret r => P (.ret r) st2 | _ => inv (k + 1) st2) ∧
    ∀ st1, inv items.length st1 → P .next st1
section
variable {G : Gl} {c : Cx G} {st : ASt} {fm : Fm} {s : Shared}
theorem loop_end {Q : Flow → Shared → Prop} {P : AFl → ASt → Prop} (q : ∀ fl f st' s', P fl st' → FlowOk c st' fm s' fl f → Q f s') :
    ∀ fl f st' s', P fl st' → (match fl with | .next => f = .next ∧ Rel c st' fm s' | .ret a => ∃ v, f = .ret v ∧ Rel c st' (fm.push a v) s' | _ => False) → Q f s' := by
  intro fl f st' s' p h
  cases fl with
  | next => obtain ⟨rfl, r⟩ := h; exact q .next .next _ _ p r
  | ret a => obtain ⟨v, rfl, r⟩ := h; exact q (.ret a) (.ret v) _ _ p r
  | brk => exact h.elim
  | cont => exact h.elim
theorem TS.forL {i : Nat} {x : Str} {xp pos : Pos} {iter : PySem.Expr} {b : List Stmt} {P : AFl → ASt → Prop} (hx : c.sc.names[i]? = some (x, .local)) (hs : notSet iter = true)
    (h : TE c iter st fun a st1 => ∃ l, a = .lst l ∧ Loop c l i b st1 P) : TS c (.For (.Name x xp) iter b [] pos) st P := by
  intro fm s hr Q q
  refine wpAny_For (h fm s hr _ fun a v st1 s1 h1 r1 => ?_) (folded_plain hs)
  obtain ⟨l, rfl, inv, i0, turn, done⟩ := h1
  obtain ⟨ρ, N, m, d⟩ := r1
  obtain ⟨y, vs, rfl, g1, g2⟩ := d.listAt d.top rfl
  refine wpAny_pyIter_list g1 ?_
  obtain ⟨d', hx'⟩ := d.pushX (o := { cls := .type "list_iterator", data := .fields #[.ref y, .int 0 0] }) rfl (it_ok rfl (by decide) (by decide))
  refine for_core (fm := fm) (src := .lst l) (sv := .ref y) (items := l) (fun k o => o.cls = .type "list_iterator" ∧ o.data = .fields #[.ref y, .int k 0]) hx hx' ?_ ?_ inv turn done i0 ⟨rfl, rfl⟩ ⟨ρ, _, m, d'⟩
    (loop_end q)
  · rintro k a hk st s o Q ⟨j1, j2⟩ ⟨ρ, N, m, d⟩ q
    obtain ⟨y', vs, e, g1, g2⟩ := d.listAt (by cases d.pend with | cons h _ => exact h) rfl
    cases e
    obtain ⟨u, u1, u2⟩ := g2.get hk
    refine wpAny_pyNext_list_item ⟨o, (d.nw _ (d.xs _ (.head _)).1).1, j1, j2⟩ g1 (by simpa using u1) fun h' hit hs => ?_
    obtain ⟨o', ho', c', e'⟩ := hit
    obtain ⟨N', d'⟩ := (d.push u2).touchX (k := s.toks) hx' hs ho' (it_ok c' (by decide) (by decide))
    exact q u _ o' ⟨c', e'⟩ ⟨ρ, N', m, d'⟩
  · rintro st s o Q ⟨j1, j2⟩ ⟨ρ, N, m, d⟩ q
    obtain ⟨y', vs, e, g1, g2⟩ := d.listAt (by cases d.pend with | cons h _ => exact h) rfl
    cases e
    refine wpAny_pyNext_list_end c.hh ⟨o, (d.nw _ (d.xs _ (.head _)).1).1, j1, j2⟩ g1 (by simp [g2.length]) fun h' hs => ?_
    obtain ⟨N', d'⟩ := d.dropX (k := s.toks) hx' hs
    exact q _ ⟨ρ, N', m, d'.pop (fm := fm)⟩
theorem strItems {x : Str} {k : Nat} {a : AV} (h : (x.cps.toList.map fun n => AV.str ⟨#[n]⟩)[k]? = some a) : ∃ n, x.cps[k]? = some n ∧ a = .str ⟨#[n]⟩ := by
  rw [List.getElem?_map] at h
  obtain ⟨n, h1, h2⟩ := Option.map_eq_some_iff.mp h
  exact ⟨n, by simpa using h1, h2.symm⟩
theorem TS.forS {i : Nat} {x : Str} {xp pos : Pos} {iter : PySem.Expr} {b : List Stmt} {P : AFl → ASt → Prop} (hx : c.sc.names[i]? = some (x, .local)) (hs : notSet iter = true)
    (h : TE c iter st fun a st1 => ∃ y : Str, a = .str y ∧ Loop c (y.cps.toList.map fun n => AV.str ⟨#[n]⟩) i b st1 P) : TS c (.For (.Name x xp) iter b [] pos) st P := by
  intro fm s hr Q q
  refine wpAny_For (h fm s hr _ fun a v st1 s1 h1 r1 => ?_) (folded_plain hs)
  obtain ⟨y, rfl, inv, i0, turn, done⟩ := h1
  obtain ⟨t, rfl⟩ := r1.popStr
  obtain ⟨ρ, N, m, d⟩ := r1
  have run : ∀ T : String, T ≠ "list" → T ≠ "tuple" →
      (∀ (it : Addr) (k n : Nat) (s : Shared) (Q : Option Value → Shared → Prop), s.heap.IsStrIter it T y t k → y.cps[k]? = some n → (∀ h', h'.IsStrIter it T y t (k + 1) → Heap.SameBut it s.heap h' → Q (some (.str ⟨#[n]⟩ s.toks)) { s with heap := h', toks := s.toks + 1 }) → wpAny c.M c.A (pyNext (.ref it)) Q noE s) →
      (∀ (it : Addr) (k : Nat) (s : Shared) (Q : Option Value → Shared → Prop), s.heap.IsStrIter it T y t k → y.cps[k]? = none → (∀ h', Heap.ExtBut it s.heap h' → Q none { s with heap := h' }) → wpAny c.M c.A (pyNext (.ref it)) Q noE s) →
      codeAny c.M c.A (.forLoop (.Name x xp) (.ref s1.heap.objs.size) b [] c.env) (fun r s' => match r with | .ok f => Q f s' | .error e => cameBackBy c.M c.A c.env noE e s')
        { s1 with heap := s1.heap.push { cls := .type T, data := .fields #[.str y t, .int 0 0] } } := by
    intro T h1 h2 item fin
    obtain ⟨d', hx'⟩ := d.pushX (o := { cls := .type T, data := .fields #[.str y t, .int 0 0] }) rfl (it_ok rfl h1 h2)
    refine for_core (fm := fm) (src := .str y) (sv := .str y t) (items := y.cps.toList.map fun n => AV.str ⟨#[n]⟩) (fun k o => o.cls = .type T ∧ o.data = .fields #[.str y t, .int k 0]) hx hx' ?_ ?_ inv turn done i0 ⟨rfl, rfl⟩ ⟨ρ, _, m, d'⟩
      (loop_end q)
    · rintro k a hk st s o Q ⟨j1, j2⟩ ⟨ρ, N, m, d⟩ q
      obtain ⟨n, hn, rfl⟩ := strItems hk
      refine item _ k n s Q ⟨o, (d.nw _ (d.xs _ (.head _)).1).1, j1, j2⟩ hn fun h' hit hs => ?_
      obtain ⟨o', ho', c', e'⟩ := hit
      obtain ⟨N', d'⟩ := (d.push (a := .str ⟨#[n]⟩) (v := .str ⟨#[n]⟩ s.toks) (.str _ _)).touchX (k := s.toks + 1) hx' hs ho' (it_ok c' h1 h2)
      exact q _ _ o' ⟨c', e'⟩ ⟨ρ, N', m, d'⟩
    · rintro st s o Q ⟨j1, j2⟩ ⟨ρ, N, m, d⟩ q
      refine fin _ _ s Q ⟨o, (d.nw _ (d.xs _ (.head _)).1).1, j1, j2⟩ (by simp) fun h' hs => ?_
      obtain ⟨N', d'⟩ := d.dropX (k := s.toks) hx' hs
      exact q _ ⟨ρ, N', m, d'.pop (fm := fm)⟩
  cases ha : y.cps.all (· < 128) with
  | true => exact wpAny_pyIter_ascii ha (run "str_ascii_iterator" (by decide) (by decide) (fun it k n s Q h1 h2 h3 => wpAny_pyNext_ascii_item h1 h2 h3) fun it k s Q h1 h2 h3 => wpAny_pyNext_ascii_end c.hh h1 h2 h3)
  | false => exact wpAny_pyIter_wide ha (run "str_iterator" (by decide) (by decide) (fun it k n s Q h1 h2 h3 => wpAny_pyNext_wide_item h1 h2 h3) fun it k s Q h1 h2 h3 => wpAny_pyNext_wide_end c.hh h1 h2 h3)

/-- for over range(n) -/
noncomputable def upItems (n : Int) : List AV := (List.range n.toNat).map fun (k : Nat) => AV.int (k : Int)
theorem TS.forR {i : Nat} {x : Str} {xp np rp pos : Pos} {e : PySem.Expr} {b : List Stmt} {P : AFl → ASt → Prop} (hx : c.sc.names[i]? = some (x, .local)) (hg : c.sc.names.lookup (PySem.Str.ofString "range") = some .globalImplicit) (hk : nsIn G.K mainGlobals "range" = some none) (hp : plainE e = true)
    (h : TE c e st fun a st1 => ∃ n : Int, a = .int n ∧ (-(2 ^ 40) ≤ n ∧ n ≤ 2 ^ 40) ∧ Loop c (upItems n) i b st1 P) : TS c (.For (.Name x xp) (.Call (.Name "range" np) [e] [] rp) b [] pos) st P := by
  intro fm s hr Q q
  refine wpAny_For (Call_Name rfl (name_blt hr hg (by decide) hk (by rfl) (by decide) (callWith_typ (P := fun as st1 => ∃ a, as = [a] ∧ ∃ n : Int, a = .int n ∧ (-(2 ^ 40) ≤ n ∧ n ≤ 2 ^ 40) ∧ Loop c (upItems n) i b st1 P) (by simp [hp]) hr ?_ fun as vs st1 s1 hl h1 r1 => ?_))) (folded_plain rfl)
  · refine TEs.star hp fun fm s hr Q q => h fm s hr Q fun a v st1 s1 h1 r1 => q a v st1 s1 (TEs.nil ⟨a, rfl, h1⟩) r1
  · obtain ⟨a, rfl, n, rfl, ⟨n1, n2⟩, inv, i0, turn, done⟩ := h1
    match vs, hl with
    | [v], _ =>
      have r1 : Rel c st1 (fm.push (.int n) v) s1 := r1
      obtain ⟨t, rfl⟩ := r1.popInt
      obtain ⟨ρ, N, m, d⟩ := r1
      refine PySem.call_range_1 ?_
      refine wpAny_pyIter_range (IsRange.new ..) (small_one (by omega) (by omega) (by omega) (by omega)) ?_
      have fresh : ∀ p ∈ N, p.1 ≠ s1.heap.objs.size := fun p hp => Nat.ne_of_lt (Heap.lt_size (d.nw p hp).1)
      have d1 := d.frozen (k := s1.toks + 1 + 1) (d.F.push { cls := .type "range", data := .fields #[.int 0 s1.toks, .int n t, .int 1 (s1.toks + 1)] }) (News.push d.F d.nw _ rfl) fresh
      obtain ⟨d', hx'⟩ := d1.pushX (o := { cls := .type "range_iterator", data := .fields #[rawInt 0, rawInt (Builtin.Range.rangeSize 0 n 1), rawInt 1] }) rfl (it_ok rfl (by decide) (by decide))
      have hsz : Builtin.Range.rangeSize 0 n 1 = (n.toNat : Int) := by rw [rangeSize_one]; split <;> omega
      refine for_core (fm := fm) (src := .int n) (sv := .int n t) (items := upItems n) (fun k o => o = { cls := .type "range_iterator", data := .fields #[rawInt (k : Int), rawInt ((n.toNat : Int) - k), rawInt 1] }) hx hx' ?_ ?_ inv turn done i0 (by rw [hsz]; simp) ⟨ρ, _, m, d'⟩
        (loop_end q)
      · rintro k a hk st s o Q rfl ⟨ρ, N, m, d⟩ q
        have hk' : k < n.toNat ∧ a = .int (k : Int) := by
          unfold upItems at hk
          rw [List.getElem?_map] at hk
          obtain ⟨j, h1, h2⟩ := Option.map_eq_some_iff.mp hk
          have := List.getElem?_eq_some_iff.mp h1
          obtain ⟨h3, h4⟩ := this
          simp at h3 h4
          subst h4
          exact ⟨by omega, h2.symm⟩
        obtain ⟨hk1, rfl⟩ := hk'
        have hit : IsRangeIter s.heap _ (k : Int) ((n.toNat : Int) - k) 1 := (d.nw _ (d.xs _ (.head _)).1).1
        refine wpAny_pyNext_range_item hit (by omega) fun h' hit' hs => ?_
        obtain ⟨N', d'⟩ := (d.push (a := .int (k : Int)) (v := .int (k : Int) s.toks) (.int _ _)).touchX (k := s.toks + 1) hx' hs hit' (it_ok rfl (by decide) (by decide))
        refine q _ _ _ ?_ ⟨ρ, N', m, d'⟩
        have e1 : ((n.toNat : Int) - k - 1) = (n.toNat : Int) - ((k + 1 : Nat) : Int) := by omega
        rw [e1]
        rfl
      · rintro st s o Q rfl ⟨ρ, N, m, d⟩ q
        have hl : (upItems n).length = n.toNat := by simp [upItems]
        have hit : IsRangeIter s.heap _ ((upItems n).length : Int) ((n.toNat : Int) - (upItems n).length) 1 := (d.nw _ (d.xs _ (.head _)).1).1
        refine wpAny_pyNext_range_end c.hh hit (by omega) fun h' hs => ?_
        obtain ⟨N', d'⟩ := d.dropX (k := s.toks) hx' hs
        exact q _ ⟨ρ, N', m, d'.pop (fm := fm)⟩
end
end Mine
end
section
namespace Mine
section
variable {G : Gl} {c : Cx G} {st : ASt} {fm : Fm} {s : Shared}
/-- what an augmented assignment does with two values -/
noncomputable def Aug (op : Operator) (a b : AV) (k : AV → Prop) : Prop := match a, b with
  | .int x, .int y => (match op with
    | .Add => k (.int (x + y))
    | .Sub => k (.int (x - y))
    | .FloorDiv => (y ≠ 0 ∧ Builtin.divisionGoesByPylong x y = false) ∧ k (.int (x.fdiv y))
    | _ => False)
  | .str x, .str y => (match op with
    | .Add => x.length + y.length ≤ sizeLine ∧ k (.str (x ++ y))
    | _ => False)
  | _, _ => False
theorem aug_sound {op : Operator} {a b : AV} {v u : Value} {P : AV → ASt → Prop} (r : Rel c st ((fm.push a v).push b u) s) (h : Aug op a b fun x => P x st) : Gives c (inplaceOp op v u) fm s P := by
  intro Q q
  unfold Aug at h
  split at h
  · obtain ⟨t, rfl⟩ := r.popInt
    have r := r.pop
    obtain ⟨t', rfl⟩ := r.popInt
    have r := r.pop
    cases op <;> first | exact h.elim | skip
    · exact iadd_int (q _ _ _ _ h r.int)
    · exact isub_int (q _ _ _ _ h r.int)
    · exact ifloordiv_int h.1.1 (q _ _ _ _ h.2 r.int) (.inl h.1.2)
  · obtain ⟨t, rfl⟩ := r.popStr
    have r := r.pop
    obtain ⟨t', rfl⟩ := r.popStr
    have r := r.pop
    cases op <;> first | exact h.elim | skip
    exact SBL.iadd (fun t' k _ => q _ _ _ _ h.2 r.str) h.1
  · exact h.elim
theorem TS.aug {i : Nat} {x : Str} {e : PySem.Expr} {op : Operator} {p pos : Pos} {a : AV} {P : AFl → ASt → Prop} (hx : c.sc.names[i]? = some (x, .local)) (ha : st.env[i]? = some (some a))
    (h : TE c e st fun b st1 => Aug op a b fun v => P .next { st1 with env := st1.env.set i (some v) }) : TS c (.AugAssign (.Name x p) op e pos) st P := by
  intro fm s hr Q q
  obtain ⟨ρ, N, m, d⟩ := hr
  obtain ⟨y, v, h1, h2, h3⟩ := d.env i a ha
  rw [hx] at h1
  cases h1
  refine wpAny_AugAssign_Name (ldn d.F h2 ?_ c.hk (lookup_of_get c.nd hx))
  refine h _ _ (show Rel c st (fm.push a v) s from ⟨ρ, N, m, d.push h3⟩) _ fun b u st1 s1 h1 r1 => ?_
  exact aug_sound (P := fun v st1 => P .next { st1 with env := st1.env.set i (some v) }) r1 h1 _ fun w z st2 s2 h2 r2 => store_sound hx r2 fun s' r' => q .next .next _ _ h2 r'

/-- a list's item stored -/
noncomputable def SetIdx (hp : List AO) (a i v : AV) (P : List AO → Prop) : Prop := match a, i with
  | .obj j, .int x => (match hp[j]? with
    | some (.list l) => (0 ≤ x ∧ x < (l.length : Int) ∧ l.length ≤ sizeLine) ∧ P (hp.set j (.list (l.set x.toNat v)))
    | _ => False)
  | _, _ => False

theorem ki_setL_of : ∀ {l : List Value} {k : Nat} {v : Value}, k < l.length → ki_setL l k v = some (l.set k v)
  | [], k, v, h => by simp at h
  | x :: r, 0, v, _ => rfl
  | x :: r, k + 1, v, h => by
    unfold ki_setL
    rw [ki_setL_of (by simpa using h)]
    rfl
theorem setIdx_sound {a i v : AV} {av iv vv : Value} {P : ASt → Prop} {Q : Unit → Shared → Prop} (r : Rel c st (((fm.push v vv).push a av).push i iv) s) (h : SetIdx st.heap a i v fun hp => P { st with heap := hp }) (q : ∀ st' s', P st' → Rel c st' fm s' → Q () s') :
    wpAny c.M c.A (setItem av iv vv) Q noE s := by
  unfold SetIdx at h
  split at h
  · rename_i _ _ j x
    split at h
    · rename_i l hj
      obtain ⟨⟨h0, h1, h2⟩, h3⟩ := h
      obtain ⟨t, rfl⟩ := r.popInt
      obtain ⟨ρ, N, m, d⟩ := r
      have d1 := d.pop
      cases d1.top with
      | obj hρ =>
        obtain ⟨as, e1, b, vs, n, rfl, g1, g2⟩ := d1.heap _ _ hj
        rw [hρ] at e1
        cases e1
        have hl := g2.length
        rw [sizeLine_eq] at h2
        obtain ⟨N', u⟩ := upd_of (o' := lstO (vs.set x.toNat vv) n) d1.nd g1
        refine ki_set d1.F d1.nw h0 (by omega) (ki_setL_of (by simp only []; omega)) u fun h' F' N2 => ?_
        have g : Grow ρ ρ N N' := grow_upd d1.nd u lst_tup fun _ => own_mem hρ (.head _)
        have d2 := d1.upd (k := s.toks) (i := j) (x' := .list (l.set x.toNat v)) F' N2 u hρ (.head _) lst_tup ⟨_, _, n, rfl, upd_new u, (g2.mono g).set (d1.pop.top.mono g)⟩
        exact q _ _ h3 ⟨ρ, N', m, d2.pop.pop⟩
    · exact h.elim
  · exact h.elim
theorem TS.setIdx {o i e : PySem.Expr} {p pos : Pos} {P : AFl → ASt → Prop} (hw : swapsWith e (some (.Subscript o i p)) pos.line c.env = pure false)
    (h : TE c e st fun v st1 => TE c o st1 fun a st2 => TE c i st2 fun b st3 => SetIdx st3.heap a b v fun hp => P .next { st3 with heap := hp }) : TS c (.Assign [.Subscript o i p] e pos) st P := by
  intro fm s hr Q q
  exact wpAny_Assign_Subscript (h fm s hr _ fun v vv st1 s1 h1 r1 => h1 _ _ r1 _ fun a av st2 s2 h2 r2 => h2 _ _ r2 _ fun b bv st3 s3 h3 r3 => setIdx_sound (P := fun st' => P .next st') r3 h3 fun st' s' p r => q .next .next _ _ p r) hw
theorem getIdx_sound {a i : AV} {v u : Value} {P : AV → ASt → Prop} (r : Rel c st ((fm.push a v).push i u) s) (h : ∃ l x w, seqOf st.heap a = some l ∧ i = .int x ∧ (0 ≤ x ∧ l.length ≤ sizeLine) ∧ l[x.toNat]? = some w ∧ P w st)
    {Q : Value → Shared → Prop} (q : ∀ w z st' s', P w st' → Rel c st' (((fm.push a v).push i u).push w z) s' → Q z s') : wpAny c.M c.A (getItem v u) Q noE s := by
  obtain ⟨l, x, w, hl, rfl, ⟨h1, h2⟩, h3, h4⟩ := h
  obtain ⟨t, rfl⟩ := r.popInt
  obtain ⟨ρ, N, m, d⟩ := r
  obtain ⟨y, vs, rfl, g0, g3⟩ := d.pop.listAt d.pop.top hl
  obtain ⟨w', g1, g2⟩ := g3.get h3
  have hlt := (List.getElem?_eq_some_iff.mp g1).1
  have hlen := g3.length
  rw [sizeLine_eq] at h2
  exact wpAny_getItem_list g0 h1 (by omega) (by simpa using g1) (q _ _ _ _ h4 ⟨ρ, N, m, d.push g2⟩)
/-- `l[i] op= e` -/
theorem TS.augIdx {o i e : PySem.Expr} {op : Operator} {p pos : Pos} {P : AFl → ASt → Prop} (hi : plainE i = true)
    (h : TE c o st fun a st1 => TE c i st1 fun b st2 => ∃ l x w, seqOf st2.heap a = some l ∧ b = .int x ∧ (0 ≤ x ∧ l.length ≤ sizeLine) ∧ l[x.toNat]? = some w ∧
      TE c e st2 fun d st3 => Aug op w d fun v => SetIdx st3.heap a b v fun hp => P .next { st3 with heap := hp }) : TS c (.AugAssign (.Subscript o i p) op e pos) st P := by
  intro fm s hr Q q
  refine wpAny_AugAssign_SubscriptAny (h fm s hr _ fun a av st1 s1 h1 r1 => h1 _ _ r1 _ fun b bv st2 s2 h2 r2 => ?_) ?_
  · obtain ⟨l, x, w, e1, e2, e3, e4, e5⟩ := h2
    refine getIdx_sound (P := fun w' st' => TE c e st' fun d st3 => Aug op w' d fun v => SetIdx st3.heap a b v fun hp => P .next { st3 with heap := hp }) r2 ⟨l, x, w, e1, e2, e3, e4, e5⟩ fun w z st3 s3 h3 r3 => ?_
    refine h3 _ _ r3 _ fun d dv st4 s4 h4 r4 => ?_
    refine aug_sound (fm := (fm.push a av).push b bv) (P := fun v st3 => SetIdx st3.heap a b v fun hp => P .next { st3 with heap := hp }) r4 h4 _ fun y yv st5 s5 h5 r5 => ?_
    refine setIdx_sound (fm := fm) (P := fun st' => P .next st') (v := y) (vv := yv) (a := a) (av := av) (i := b) (iv := bv) ?_ h5 fun st' s' p r => q .next .next _ _ p r
    obtain ⟨ρ, N, m, d⟩ := r5
    refine ⟨ρ, N, m, d.fmTo ?_ rfl⟩
    cases d.pend with
    | cons p1 p2 => cases p2 with | cons p3 p4 => cases p4 with | cons p5 p6 => exact .cons p3 (.cons p5 (.cons p1 p6))
  · intro ov iv new
    cases i <;> first | rfl | simp [plainE] at hi
end
end Mine
end
section
set_option maxRecDepth 20000
namespace Mine
section
variable {G : Gl} {c : Cx G} {st : ASt} {fm : Fm} {s : Shared}
/-- an item put at a list's end -/
noncomputable def App (hp : List AO) (a v : AV) (P : List AO → Prop) : Prop := match a with
  | .obj j => (match hp[j]? with
    | some (.list l) => l.length + 1 ≤ sizeLine ∧ P (hp.set j (.list (l ++ [v])))
    | _ => False)
  | _ => False
theorem TE.append {o e : PySem.Expr} {apos pos : Pos} {P : AV → ASt → Prop} (ho : notCall o = true) (he : plainE e = true) (hpos : (apos.endLine == pos.line) = true)
    (h : TE c o st fun a st1 => (∃ i l, a = .obj i ∧ st1.heap[i]? = some (.list l)) ∧ TE c e st1 fun b st2 => App st2.heap a b fun hp => P .none { st2 with heap := hp }) :
    TE c (.Call (.Attribute o (PySem.Str.ofString "append") apos) [e] [] pos) st P := by
  intro fm s hr Q q
  refine meth_rule ho (by simp [he]) (by simp) hpos (h fm s hr _ fun a v st1 s1 h1 r1 pl => ?_)
  obtain ⟨⟨i, l, rfl, hi⟩, h1⟩ := h1
  have r0 := r1
  obtain ⟨ρ, N, m, d⟩ := r1
  cases d.top with
  | obj hρ =>
    obtain ⟨as, e1, x, vs, n, rfl, g1, g2⟩ := d.heap _ _ hi
    rw [hρ] at e1
    cases e1
    refine Calls.getMethod_list_append (d.nw.get g1) rfl rfl ?_
    refine callWith_blt (P := fun as st2 => ∃ b, as = [b] ∧ App st2.heap (.obj i) b fun hp => P .none { st2 with heap := hp }) (by simp [he]) r0 (TEs.star he fun fm s hr Q q => h1 fm s hr Q fun b w st2 s2 h2 r2 => q b w st2 s2 (TEs.nil ⟨b, rfl, h2⟩) r2) fun as ws st2 s2 hl h2 r2 => ?_
    obtain ⟨b, rfl, h2⟩ := h2
    match ws, hl with
    | [w], _ =>
      have r2 : Rel c st2 ((fm.push (.obj i) (.ref _)).push b w) s2 := r2
      unfold App at h2
      dsimp only at h2
      split at h2
      · rename_i l2 hj
        obtain ⟨h2, h3⟩ := h2
        obtain ⟨ρ2, N2, m2, d2⟩ := r2
        cases d2.pop.top with
        | obj hρ2 =>
          obtain ⟨as, e1, y, vs2, n2, rfl, g3, g4⟩ := d2.heap _ _ hj
          rw [hρ2] at e1
          cases e1
          have hlen := g4.length
          obtain ⟨N', u⟩ := upd_of (o' := PySem.W.listOf (vs2.toArray.push w) (n2 + 1)) d2.nd g3
          refine append_K d2.F d2.nw u (fun h' F' N3 => ?_) (by simp only [List.size_toArray]; omega)
          have g : Grow ρ2 ρ2 N2 N' := grow_upd d2.nd u lst_tup fun _ => own_mem hρ2 (.head _)
          have ho : RO G c.base ρ2 N' [_] (.list (l2 ++ [b])) := ⟨_, vs2 ++ [w], n2 + 1, rfl, by simpa [lstO] using upd_new u, (g4.mono g).append (.cons (d2.top.mono g) .nil)⟩
          have d3 := d2.upd (k := s2.toks) (i := i) F' N3 u hρ2 (.head _) lst_tup ho
          exact q _ _ _ _ h3 (show Rel c _ fm _ from ⟨ρ2, N', m2, d3.pop.pop⟩).none
      · exact h2.elim
/-- str.find -/
theorem TE.strM {o e : PySem.Expr} {name : Str} {id : String} {apos pos : Pos} {P : AV → ASt → Prop} {R : Str → AV → ASt → Prop} (ho : notCall o = true) (he : plainE e = true) (hpos : (apos.endLine == pos.line) = true)
    (hg : ∀ (x : Str) (t : Tok) (pl : Sem Bool) (Q : Value × List Value → Shared → Prop) (s : Shared), Q (.builtin id, [.str x t]) s → wpAny c.M c.A (getMethod (.str x t) name pl) Q noE s)
    (hc : ∀ (x : Str) (t : Tok) (b : AV) (w : Value) (st : ASt) (fm : Fm) (s : Shared), Rel c st (fm.push b w) s → R x b st → Gives c (PySem.call (.builtin id) [.str x t, w]) fm s P)
    (h : TE c o st fun a st1 => ∃ x, a = .str x ∧ TE c e st1 fun b st2 => R x b st2) : TE c (.Call (.Attribute o name apos) [e] [] pos) st P := by
  intro fm s hr Q q
  refine meth_rule ho (by simp [he]) (by simp) hpos (h fm s hr _ fun a v st1 s1 h1 r1 pl => ?_)
  obtain ⟨x, rfl, h1⟩ := h1
  obtain ⟨t, rfl⟩ := r1.popStr
  refine hg x t pl _ s1 ?_
  show wpAny c.M c.A (callWith pos (.builtin id) [.str x t] (backTo pos (starEach [e] c.env)) []) Q noE s1
  refine callWith_blt (P := fun as st2 => ∃ b, as = [b] ∧ R x b st2) (by simp [he]) r1.pop (TEs.star he fun fm s hr Q q => h1 fm s hr Q fun b w st2 s2 h2 r2 => q b w st2 s2 (TEs.nil ⟨b, rfl, h2⟩) r2) fun as ws st2 s2 hl h2 r2 => ?_
  obtain ⟨b, rfl, h2⟩ := h2
  match ws, hl with
  | [w], _ => exact hc x t b w st2 fm s2 r2 h2 Q q
noncomputable def Find (x : Str) (b : AV) (k : AV → Prop) : Prop := match b with
  | .str y => k (.int (Txt.find x y))
  | _ => False
noncomputable def Index (x : Str) (b : AV) (k : AV → Prop) : Prop := match b with
  | .str y => (Builtin.Str.occurrences x y 0 x.length 1).isEmpty = false ∧ k (.int (Txt.find x y))
  | _ => False
noncomputable def Join (x : Str) (hp : List AO) (b : AV) (k : AV → Prop) : Prop := match seqOf hp b with
  | some l => (match strsOf l with
    | some ys => (x.length ≤ 64 ∧ (ys.map (·.length)).sum + ys.length * 64 ≤ 16777216) ∧ k (.str (Txt.join x ys))
    | none => False)
  | none => False
theorem TE.find {o e : PySem.Expr} {apos pos : Pos} {P : AV → ASt → Prop} (ho : notCall o = true) (he : plainE e = true) (hpos : (apos.endLine == pos.line) = true)
    (h : TE c o st fun a st1 => ∃ x, a = .str x ∧ TE c e st1 fun b st2 => Find x b fun v => P v st2) : TE c (.Call (.Attribute o (PySem.Str.ofString "find") apos) [e] [] pos) st P := by
  refine TE.strM (id := "str.find") (R := fun x b st2 => Find x b fun v => P v st2) ho he hpos (fun x t pl Q s h => by with_reducible exact GM.find h) (fun x t b w st fm s r h Q q => ?_) h
  unfold Find at h
  split at h
  · obtain ⟨t, rfl⟩ := r.popStr
    exact SC.find (q _ _ _ _ h r.pop.int)
  · exact h.elim
theorem TE.index {o e : PySem.Expr} {apos pos : Pos} {P : AV → ASt → Prop} (ho : notCall o = true) (he : plainE e = true) (hpos : (apos.endLine == pos.line) = true)
    (h : TE c o st fun a st1 => ∃ x, a = .str x ∧ TE c e st1 fun b st2 => Index x b fun v => P v st2) : TE c (.Call (.Attribute o (PySem.Str.ofString "index") apos) [e] [] pos) st P := by
  refine TE.strM (id := "str.index") (R := fun x b st2 => Index x b fun v => P v st2) ho he hpos (fun x t pl Q s h => by with_reducible exact GM.index h) (fun x t b w st fm s r h Q q => ?_) h
  unfold Index at h
  split at h
  · obtain ⟨t, rfl⟩ := r.popStr
    refine index_or c.hh (fun h1 h2 => ?_) fun _ _ => q _ _ _ _ h.2 r.pop.int
    rw [h.1] at h2
    cases h2
  · exact h.elim
theorem TE.join {o e : PySem.Expr} {apos pos : Pos} {P : AV → ASt → Prop} (ho : notCall o = true) (he : plainE e = true) (hpos : (apos.endLine == pos.line) = true)
    (h : TE c o st fun a st1 => ∃ x, a = .str x ∧ TE c e st1 fun b st2 => Join x st2.heap b fun v => P v st2) : TE c (.Call (.Attribute o (PySem.Str.ofString "join") apos) [e] [] pos) st P := by
  refine TE.strM (id := "str.join") (R := fun x b st2 => Join x st2.heap b fun v => P v st2) ho he hpos (fun x t pl Q s h => by with_reducible exact GM.join h) (fun x t b w st fm s r h Q q => ?_) h
  unfold Join at h
  split at h
  · split at h
    · rename_i l hl x2 ys hy
      obtain ⟨ρ, N, m, d⟩ := r
      obtain ⟨y, vs, rfl, g0, g3⟩ := d.listAt d.top hl
      exact join_listC g0 (by simpa using strs_of g3 hy) h.1.1 h.1.2 fun t' k => q _ _ _ _ h.2 ⟨ρ, N, m, d.pop.toks.push (.str _ _)⟩
    · exact h.elim
  · exact h.elim
end
end Mine
end
section
set_option maxRecDepth 20000
namespace Mine
section
variable {G : Gl} {c : Cx G} {st : ASt} {fm : Fm} {s : Shared}
/-- a builtin function of one argument, by its name -/
theorem TE.blt1 {x : Str} {id : String} {e : PySem.Expr} {p pos : Pos} {P R : AV → ASt → Prop} (hx : c.sc.names.lookup x = some .globalImplicit) (hd : (x == ("__debug__" : Str)) = false) (hg : nsIn G.K mainGlobals x = some Option.none)
    (hb : bootBuiltins x = some (.builtin id)) (hn : x ≠ "__name__") (he : plainE e = true) (hc : ∀ (b : AV) (w : Value) (st : ASt) (fm : Fm) (s : Shared), Rel c st (fm.push b w) s → R b st → Gives c (PySem.call (.builtin id) [w]) fm s P)
    (h : TE c e st R) : TE c (.Call (.Name x p) [e] [] pos) st P := by
  intro fm s hr Q q
  refine Call_Name rfl (name_blt hr hx hd hg hb hn ?_)
  refine callWith_blt (P := fun as st2 => ∃ b, as = [b] ∧ R b st2) (by simp [he]) hr (TEs.star he fun fm s hr Q q => h fm s hr Q fun b w st2 s2 h2 r2 => q b w st2 s2 (TEs.nil ⟨b, rfl, h2⟩) r2) fun as ws st2 s2 hl h2 r2 => ?_
  obtain ⟨b, rfl, h2⟩ := h2
  match ws, hl with
  | [w], _ => exact hc b w st2 fm s2 r2 h2 Q q
noncomputable def Len (hp : List AO) (b : AV) (k : AV → Prop) : Prop := match b with
  | .str x => x.length ≤ sizeLine ∧ k (.int x.length)
  | b => (match seqOf hp b with
    | some l => l.length ≤ sizeLine ∧ k (.int l.length)
    | none => False)
noncomputable def Ord (b : AV) (k : AV → Prop) : Prop := match b with
  | .str x => x.length = 1 ∧ k (.int (x.cps.getD 0 0))
  | _ => False
noncomputable def Chr (b : AV) (k : AV → Prop) : Prop := match b with
  | .int i => (0 ≤ i ∧ i ≤ 1114111) ∧ k (.str ⟨#[i.toNat]⟩)
  | _ => False
noncomputable def Abs (b : AV) (k : AV → Prop) : Prop := match b with
  | .int i => k (.int (if i < 0 then -i else i))
  | _ => False
noncomputable def ToInt (b : AV) (k : AV → Prop) : Prop := match b with
  | .int i => k (.int i)
  | _ => False
theorem TE.len {e : PySem.Expr} {p pos : Pos} {P : AV → ASt → Prop} (hx : c.sc.names.lookup (PySem.Str.ofString "len") = some .globalImplicit) (hg : nsIn G.K mainGlobals "len" = some Option.none) (he : plainE e = true)
    (h : TE c e st fun b st1 => Len st1.heap b fun v => P v st1) : TE c (.Call (.Name (PySem.Str.ofString "len") p) [e] [] pos) st P := by
  refine TE.blt1 (id := "len") hx (by decide) hg (by rfl) (by decide) he (fun b w st fm s r h Q q => ?_) h
  unfold Len at h
  split at h
  · obtain ⟨t, rfl⟩ := r.popStr
    have := h.1
    rw [sizeLine_eq] at this
    exact SBL.len (by omega) (q _ _ _ _ h.2 r.pop.int)
  · split at h
    · rename_i l hl
      obtain ⟨ρ, N, m, d⟩ := r
      obtain ⟨y, vs, rfl, g0, g3⟩ := d.listAt d.top hl
      have hlen := g3.length
      have := h.1
      rw [sizeLine_eq] at this
      refine len_list g0 (by simp only [List.size_toArray]; omega) (q _ _ _ _ h.2 ?_)
      rw [← hlen]
      exact ⟨ρ, N, m, d.pop.toks.push (.int _ _)⟩
    · exact h.elim
theorem TE.ord {e : PySem.Expr} {p pos : Pos} {P : AV → ASt → Prop} (hx : c.sc.names.lookup (PySem.Str.ofString "ord") = some .globalImplicit) (hg : nsIn G.K mainGlobals "ord" = some Option.none) (he : plainE e = true)
    (h : TE c e st fun b st1 => Ord b fun v => P v st1) : TE c (.Call (.Name (PySem.Str.ofString "ord") p) [e] [] pos) st P := by
  refine TE.blt1 (id := "ord") hx (by decide) hg (by rfl) (by decide) he (fun b w st fm s r h Q q => ?_) h
  unfold Ord at h
  split at h
  · obtain ⟨t, rfl⟩ := r.popStr
    exact ord_of_one h.1 (q _ _ _ _ h.2 r.pop.int)
  · exact h.elim
theorem TE.chr {e : PySem.Expr} {p pos : Pos} {P : AV → ASt → Prop} (hx : c.sc.names.lookup (PySem.Str.ofString "chr") = some .globalImplicit) (hg : nsIn G.K mainGlobals "chr" = some Option.none) (he : plainE e = true)
    (h : TE c e st fun b st1 => Chr b fun v => P v st1) : TE c (.Call (.Name (PySem.Str.ofString "chr") p) [e] [] pos) st P := by
  refine TE.blt1 (id := "chr") hx (by decide) hg (by rfl) (by decide) he (fun b w st fm s r h Q q => ?_) h
  unfold Chr at h
  split at h
  · obtain ⟨t, rfl⟩ := r.popInt
    exact chr_of_range h.1.1 h.1.2 (q _ _ _ _ h.2 r.pop.str)
  · exact h.elim
theorem TE.abs {e : PySem.Expr} {p pos : Pos} {P : AV → ASt → Prop} (hx : c.sc.names.lookup (PySem.Str.ofString "abs") = some .globalImplicit) (hg : nsIn G.K mainGlobals "abs" = some Option.none) (he : plainE e = true)
    (h : TE c e st fun b st1 => Abs b fun v => P v st1) : TE c (.Call (.Name (PySem.Str.ofString "abs") p) [e] [] pos) st P := by
  refine TE.blt1 (id := "abs") hx (by decide) hg (by rfl) (by decide) he (fun b w st fm s r h Q q => ?_) h
  unfold Abs at h
  split at h
  · obtain ⟨t, rfl⟩ := r.popInt
    exact call_abs_int fun u k => q _ _ _ _ h r.pop.int
  · exact h.elim
theorem TE.toInt {e : PySem.Expr} {p pos : Pos} {P : AV → ASt → Prop} (hx : c.sc.names.lookup (PySem.Str.ofString "int") = some .globalImplicit) (hg : nsIn G.K mainGlobals "int" = some Option.none) (he : plainE e = true)
    (h : TE c e st fun b st1 => ToInt b fun v => P v st1) : TE c (.Call (.Name (PySem.Str.ofString "int") p) [e] [] pos) st P := by
  intro fm s hr Q q
  refine Call_Name rfl (name_blt hr hx (by decide) hg (by rfl) (by decide) ?_)
  refine callWith_typ (T := "int") (P := fun as st2 => ∃ b, as = [b] ∧ ToInt b fun v => P v st2) (by simp [he]) hr (TEs.star he fun fm s hr Q q => h fm s hr Q fun b w st2 s2 h2 r2 => q b w st2 s2 (TEs.nil ⟨b, rfl, h2⟩) r2) fun as ws st2 s2 hl h2 r2 => ?_
  obtain ⟨b, rfl, h2⟩ := h2
  match ws, hl with
  | [w], _ =>
    have r2 : Rel c st2 (fm.push b w) s2 := r2
    unfold ToInt at h2
    split at h2
    · have r3 := r2
      obtain ⟨t, rfl⟩ := r2.popInt
      exact call_int_int (q _ _ _ _ h2 r3)
    · exact h2.elim
/-- tuple + tuple, both not empty -/
noncomputable def TupAdd (a b : AV) (k : AV → Prop) : Prop := match a, b with
  | .tup (x :: l), .tup (y :: l') => (l.length + l'.length + 2 ≤ sizeLine) ∧ k (.tup (x :: l ++ y :: l'))
  | _, _ => False
theorem TE.tupAdd {l r : PySem.Expr} {pos : Pos} {P : AV → ASt → Prop} (h : TE c l st fun a st1 => TE c r st1 fun b st2 => TupAdd a b fun x => P x st2) : TE c (.BinOp l .Add r pos) st P := by
  intro fm s hr Q q
  refine wpAny_BinOp (h fm s hr _ fun a v st1 s1 h1 r1 => h1 _ _ r1 _ fun b u st2 s2 h2 r2 => ?_)
  replace h2 : TupAdd a b fun x => P x st2 := h2
  unfold TupAdd at h2
  split at h2
  · rename_i x l y l'
    obtain ⟨ρ, N, m, d⟩ := r2
    cases d.top with
    | tup hm hv =>
      cases d.pop.top with
      | tup hm' hv' =>
        have e1 := hv.length
        have e2 := hv'.length
        simp only [List.length_cons] at e1 e2
        have fresh : ∀ p ∈ N, p.1 ≠ s2.heap.objs.size := fun p hp => Nat.ne_of_lt (Heap.lt_size (d.nw p hp).1)
        refine add_tuples d.F d.nw ⟨_, d.nw.get hm', rfl, _, rfl⟩ ⟨_, d.nw.get hm, rfl, _, rfl⟩ (fun e => by rw [e] at e2; simp at e2) (fun _ e => by rw [e] at e1; simp at e1) (fun _ _ h' F' N' => ?_) (by omega)
        have d' := d.pop.pop.frozen (k := s2.toks) F' N' fresh
        refine q _ _ _ _ h2.2 ⟨ρ, _, m, d'.push (.tup (.head _) ?_)⟩
        have := RVs.append hv' hv
        exact this.mono (grow_cons _)
  · exact h2.elim
end
end Mine
end
section
set_option maxRecDepth 20000
namespace Mine
theorem updF_of {d : Addr} {o : Obj} : ∀ {N : Led}, (N.map (·.1)).Nodup → (d, o) ∈ N → ∃ g, UpdF d o N g ∧ ∀ o', Upd d o o' N (g o')
  | p :: N, nd, h => by
    rw [List.map_cons, List.nodup_cons] at nd
    rcases List.mem_cons.mp h with rfl | h
    · have k : ∀ q ∈ N, q.1 ≠ d := fun q hq e => nd.1 (e ▸ List.mem_map_of_mem (f := (·.1)) hq)
      exact ⟨_, .head k, fun o' => .head k⟩
    · obtain ⟨g, u, v⟩ := updF_of nd.2 h
      have k : p.1 ≠ d := fun e => nd.1 (e ▸ List.mem_map_of_mem (f := (·.1)) h)
      exact ⟨_, .tail k u, fun o' => .tail k (v o')⟩
section
variable {G : Gl} {c : Cx G} {st : ASt} {fm : Fm} {s : Shared}
/-- `{}` -/
theorem TE.newD {pos : Pos} {P : AV → ASt → Prop} (h : P (.obj st.heap.length) { st with heap := st.heap ++ [.dict []] }) : TE c (.Dict [] [] pos) st P := by
  intro fm s hr Q q
  obtain ⟨ρ, N, m, d⟩ := hr
  refine newDict_K d.F d.nw c.T.nolimit fun a h' o F' N' lt sm _ _ io fp => ?_
  have fr : ∀ p ∈ N, p.1 ≠ a := fun p hp => Nat.ne_of_lt (lt p hp)
  have d' := d.own (k := s.toks) (as := [a]) (o := .dict []) F' N' (nd_cons d.nd fr) (fun p hp => .tail _ hp) (fun p hp => by simpa using fr p hp) (by simp) ⟨a, o, [], [], rfl, .head _, sm, io, fp, fun i => rfl, Nat.le_refl _⟩
  exact q _ _ _ _ h ⟨_, _, m, d'.push (.obj (as := []) (by simp [d.len]))⟩
theorem dict_cls {prog : Program} {w : World} {o : Obj} {kvs : List (Int × Value)} (h : o.IsDictOf (PySem.intKind prog w) kvs) : o.cls = .type "dict" := by
  obtain ⟨_, _, h1, _⟩ := h
  exact h1.1
/-- a flat value stored under a number -/
noncomputable def SetKey (hp : List AO) (a i v : AV) (P : List AO → Prop) : Prop := match a, i with
  | .obj j, .int x => (match hp[j]? with
    | some (.dict ks) => ((∃ y, v = .str y) ∧ ks.length ≤ sizeLine) ∧ P (hp.set j (.dict (x :: ks)))
    | _ => False)
  | _, _ => False
theorem setKey_sound {a i v : AV} {av iv vv : Value} {P : ASt → Prop} {Q : Unit → Shared → Prop} (r : Rel c st (((fm.push v vv).push a av).push i iv) s) (h : SetKey st.heap a i v fun hp => P { st with heap := hp }) (q : ∀ st' s', P st' → Rel c st' fm s' → Q () s') :
    wpAny c.M c.A (setItem av iv vv) Q noE s := by
  unfold SetKey at h
  split at h
  · rename_i _ _ j x
    split at h
    · rename_i ks hj
      obtain ⟨⟨⟨y, rfl⟩, hl⟩, h3⟩ := h
      obtain ⟨t, rfl⟩ := r.popInt
      obtain ⟨t', rfl⟩ := r.pop.pop.popStr
      obtain ⟨ρ, N, m, d⟩ := r
      have d1 := d.pop
      cases d1.top with
      | @obj _ ad _ hρ =>
        obtain ⟨as, e1, b, o, kvs, D, rfl, g1, g2, g3, g4, g5, g6⟩ := d1.heap _ _ hj
        rw [hρ] at e1
        cases e1
        obtain ⟨g, u, hu⟩ := updF_of d1.nd g1
        refine setItem_K (enc := PyData.int) (k := x) (dv := .str y) PyProof.V.same_int (by simp [PySem.intKind, Value.isInt]) (fun h => Reads.str y t') d1.F d1.nw u g3 g4 (fun h' o' F' N2 io fp => ?_) (by omega)
        have ho : RO G c.base ρ (g o') [ad] (AO.dict (x :: ks)) := by
          refine ⟨_, o', _, _, rfl, upd_new (hu o'), g2, io, fp, fun i => ?_, ?_⟩
          · rw [PyProof.Rows.lookup_putK PyProof.V.keyEnc_int]
            by_cases e : i = x
            · subst e; simp
            · rw [if_neg e, g5, List.contains_cons]
              simp [e]
          · rw [PyProof.Rows.length_putD]
            split <;> simp <;> omega
        have d2 := d1.upd (k := s.toks + 1) (i := j) F' N2 (hu o') hρ (.head _) (by rw [dict_cls g3]; exact dict_tup) ho
        exact q _ _ h3 ⟨ρ, _, m, d2.pop.pop⟩
    · exact h.elim
  · exact h.elim
theorem TS.setKey {o i e : PySem.Expr} {p pos : Pos} {P : AFl → ASt → Prop} (hw : swapsWith e (some (.Subscript o i p)) pos.line c.env = pure false)
    (h : TE c e st fun v st1 => TE c o st1 fun a st2 => TE c i st2 fun b st3 => SetKey st3.heap a b v fun hp => P .next { st3 with heap := hp }) : TS c (.Assign [.Subscript o i p] e pos) st P := by
  intro fm s hr Q q
  exact wpAny_Assign_Subscript (h fm s hr _ fun v vv st1 s1 h1 r1 => h1 _ _ r1 _ fun a av st2 s2 h2 r2 => h2 _ _ r2 _ fun b bv st3 s3 h3 r3 => setKey_sound (P := fun st' => P .next st') r3 h3 fun st' s' p r => q .next .next _ _ p r) hw
end
end Mine
end
section
set_option maxRecDepth 20000
namespace Mine
section
variable {G : Gl} {c : Cx G} {st : ASt} {fm : Fm} {s : Shared}
noncomputable def Pick3 (k1 k2 k3 : Str) (a1 a2 a3 i : AV) (P : AV → Prop) : Prop := match a1, a2, a3, i with
  | .int n1, .int n2, .int n3, .str x => ([k1, k2, k3].Nodup ∧ (x = k1 ∨ x = k2 ∨ x = k3)) ∧ P (.int (if x = k1 then n1 else if x = k2 then n2 else n3))
  | _, _, _, _ => False
theorem TE.dkey {k : Str} {kk : Nat} {p pos : Pos} {e : PySem.Expr} {rest : List (Sem Value × Sem Value)} {d : Addr} {o : Obj} {as : List AV} {vs : List Value} {xs : Led} {Q : List (Value × Value) → Shared → Prop} {R : AV → ASt → Prop} (h : TE c e st R) (hr : Rel c st ⟨as, vs, (d, o) :: xs⟩ s)
    (q : ∀ a v t st' s', R a st' → Rel c st' ⟨a :: as, v :: vs, (d, o) :: xs⟩ s' → wpAny c.M c.A (evalPairs rest) (fun ws s2 => Q ((.str k t, v) :: ws) s2) noE s') :
    wpAny c.M c.A (evalPairs ((eval (.Constant (.str k) kk p) c.env, do let x ← eval e c.env; standAt pos; pure x) :: rest)) Q noE s := by
  refine evalPairs_cons (Constant_str ?_)
  refine wpAny_bind (wpAny_mono (h _ _ (show Rel c st ⟨as, vs, (d, o) :: xs⟩ _ from hr.toks) _ fun a v st1 s1 h1 r1 => ?_) (fun _ _ x => x) fun _ _ x => x)
  exact wpAny_bind (wpAny_standAt (wpAny_pure (q a v _ st1 s1 h1 r1)))
theorem RelD.less {as as' : List AV} {vs vs' : List Value} {p : Addr × Obj} {xs : Led} {ρ : List (List Addr)} {N : Led} {m : Str → Option Value} (d : RelD c st ⟨as, vs, p :: xs⟩ s ρ N m) (h : RVs c.base ρ N as' vs') : RelD c st ⟨as', vs', xs⟩ s ρ N m :=
  ⟨d.F, d.nw, d.nd, d.ow, d.len, d.env, d.heap, h, fun q hq => d.xs q (.tail _ hq), d.g⟩
/-- a display of three texts' numbers, read at once -/
theorem TE.tab3 {k1 k2 k3 : Str} {n1 n2 n3 : Nat} {p1 p2 p3 dp pos : Pos} {e1 e2 e3 i : PySem.Expr} {P : AV → ASt → Prop} (hi : plainE i = true) (hn : [k1, k2, k3].Nodup)
    (h : TE c e1 st fun a1 st1 => TE c e2 st1 fun a2 st2 => TE c e3 st2 fun a3 st3 => TE c i st3 fun x st4 => Pick3 k1 k2 k3 a1 a2 a3 x fun v => P v st4) :
    TE c (.Subscript (.Dict [some (.Constant (.str k1) n1 p1), some (.Constant (.str k2) n2 p2), some (.Constant (.str k3) n3 p3)] [e1, e2, e3] dp) i pos) st P := by
  intro fm s hr Q q
  obtain ⟨ρ, N, m, d⟩ := hr
  refine Subscript_ (Dict_made_str rfl d.F rfl rfl (by simp) (by simp) fun F' => ?_)
  obtain ⟨d', hx'⟩ := d.pushX (o := { cls := .type "dict", data := .dict #[] }) rfl (it_ok rfl (by decide) (by decide))
  refine TE.dkey h ⟨ρ, _, m, d'⟩ fun a1 v1 t1 st1 s1 h1 r1 => TE.dkey h1 r1 fun a2 v2 t2 st2 s2 h2 r2 => TE.dkey h2 r2 fun a3 v3 t3 st3 s3 h3 r3 => evalPairs_nil ?_
  obtain ⟨ρ3, N3, m3, d3⟩ := r3
  obtain ⟨o0, g0, g1⟩ := Heap.dictOf_iff.mp (Heap.DictOf.new (knd := PySem.strKind G.prog G.w) s.heap)
  have e0 : o0 = { cls := .type "dict", data := .dict #[] } := by
    rcases Heap.get?_push_cases g0 with ⟨_, e⟩ | e
    · exact e
    · exact absurd (Heap.lt_size e) (Nat.lt_irrefl _)
  subst e0
  refine display_done_str rfl hn (Heap.dictOf_iff.mpr ⟨_, (d3.nw _ (d3.xs _ (.head _)).1).1, g1⟩) fun h' hmm hs => ?_
  obtain ⟨o', ho', hd'⟩ := Heap.dictOf_iff.mp hmm
  have hcls : o'.cls = .type "dict" := by obtain ⟨_, _, h1, _⟩ := hd'; exact h1.1
  obtain ⟨N4, d4⟩ := d3.touchX (k := s3.toks + 3) hx' hs ho' (it_ok hcls (by decide) (by decide))
  refine h3 ⟨_, _, _⟩ _ ⟨ρ3, N4, m3, d4⟩ _ fun x u st4 s4 h4 r4 => ?_
  replace h4 : Pick3 k1 k2 k3 a1 a2 a3 x fun v => P v st4 := h4
  unfold Pick3 at h4
  split at h4
  · rename_i n1 n2 n3 y
    obtain ⟨t, rfl⟩ := r4.popStr
    obtain ⟨ρ5, N5, m5, d5⟩ := r4
    obtain ⟨u1, u2, u3⟩ := d5.xs _ (.head _)
    cases d5.pop.pend with
    | cons p3 rest =>
      cases p3 with
      | int _ t3' =>
        cases rest with
        | cons p2 rest =>
          cases p2 with
          | int _ t2' =>
            cases rest with
            | cons p1 rest =>
              cases p1 with
              | int _ t1' =>
                have T : StrTab G.prog G.w s4.heap s.heap.objs.size (strData [(Value.str k1 t1, Value.int n1 t1'), (Value.str k2 t2, Value.int n2 t2'), (Value.str k3 t3, Value.int n3 t3')]) :=
                  TabAt.ofNews d5.nw u1 (d.F.notModules (modules_low c.T.nolimit)) hd' (flatPairs_str _ rfl rfl)
                have fin : ∀ (value : PySem.Expr) (n : Int), P (.int n) st4 → Spec.lookup (.str y) (strData [(Value.str k1 t1, Value.int n1 t1'), (Value.str k2 t2, Value.int n2 t2'), (Value.str k3 t3, Value.int n3 t3')]) = some (.int n) →
                    wpAny c.M c.A (subscriptTail value i (.ref s.heap.objs.size) (.str y t)) Q noE s4 := by
                  intro value n hp hl
                  refine kba_turn (value' := .Name (PySem.Str.ofString "_") ⟨0, 0, 0, 0⟩) (fun _ => rfl) (item_strTab T hl (fun v hv => ?_) (sub_plain hi) (fun _ => rfl))
                  have hv := hv s4.heap
                  cases hv
                  exact q _ _ _ _ hp ⟨ρ5, N5, m5, (d5.less rest).toks.push (.int _ _)⟩
                obtain ⟨⟨hn, hy⟩, hp⟩ := h4
                simp only [List.nodup_cons, List.mem_cons, List.not_mem_nil, or_false, not_or, not_false_eq_true, List.nodup_nil, and_true] at hn
                refine fin _ _ hp ?_
                simp only [strData, Spec.lookup, PyProof.V.same_str, datumOf, Option.getD_some]
                rcases hy with rfl | rfl | rfl
                · simp
                · simp [hn.1.1, Ne.symm hn.1.1]
                · simp [hn.1.2, hn.2, Ne.symm hn.1.2, Ne.symm hn.2]
  · exact h4.elim
end
end Mine
end
section
set_option maxRecDepth 20000
set_option genSizeOfSpec false
set_option genInjectivity false
namespace Mine

mutual
inductive IE where
  | none | bool (b : Bool) | int (i : Int) | str (s : Str) | loc (i : Nat)
  | bin (op : Operator) (l r : IE) | tadd (l r : IE) | cmp (op : CmpOp) (l r : IE) | and (l r : IE) | or (l r : IE) | ite (t : IT) (b o : IE)
  | attr (i k : Nat) | idx (o i : IE) | slc (o l h : IE) | upto (i : Nat) (h : IE) | tab (k1 k2 k3 : Str) (e1 e2 e3 i : IE)
  | tup (as : IA) | lst (as : IA) | newL (as : IA) | newD
  | call (f : Addr) (as : IA) | meth (C f : Addr) (o : IE) (as : IA)
  | app (o e : IE) | find (o e : IE) | index (o e : IE) | join (o e : IE)
  | len (e : IE) | ord (e : IE) | chr (e : IE) | abs (e : IE) | toInt (e : IE)
inductive IT where
  | cmp (op : CmpOp) (l r : IE) | and (l r : IT) | or (l r : IT) | pl (e : IE)
inductive IA where
  | nil | cons (e : IE) (es : IA)
end
inductive IS where
  | skip | seq (a b : IS) | set (i : Nat) (e : IE) | setA (o : IE) (k : Nat) (e : IE) | setI (o i e : IE) | many (is : List Nat) (e : IE) | exp (e : IE)
  | ret (e : IE) | brk | cont | ife (t : IT) (b o : IS) | whl (t : IT) (b : IS) | forL (i : Nat) (e : IE) (b : IS) | forS (i : Nat) (e : IE) (b : IS) | forR (i : Nat) (e : IE) (b : IS)
  | aug (i : Nat) (op : Operator) (e : IE) | augI (o i : IE) (op : Operator) (e : IE)

noncomputable def onLoc (st : ASt) (i : Nat) (k : AV → Prop) : Prop := match st.env[i]? with
  | some (some a) => k a
  | _ => False
noncomputable def onStr (a : AV) (k : Str → Prop) : Prop := match a with
  | .str x => k x
  | _ => False
noncomputable def onLst (a : AV) (k : List AV → Prop) : Prop := match a with
  | .lst x => k x
  | _ => False
noncomputable def onInt (a : AV) (k : Int → Prop) : Prop := match a with
  | .int x => k x
  | _ => False
noncomputable def onTup (a : AV) (k : List AV → Prop) : Prop := match a with
  | .tup l => k l
  | _ => False
noncomputable def setMany : List Nat → List AV → List (Option AV) → List (Option AV)
  | i :: is, a :: l, env => setMany is l (env.set i (some a))
  | _, _, env => env
noncomputable def onInst (hp : List AO) (a : AV) (C : Addr) (k : Nat → Prop) : Prop := match a with
  | .obj i => (match hp[i]? with
    | some (.inst C' _) => C' = C ∧ k i
    | _ => False)
  | _ => False
noncomputable def onList (hp : List AO) (a : AV) (k : Prop) : Prop := match a with
  | .obj i => (match hp[i]? with
    | some (.list _) => k
    | _ => False)
  | _ => False
noncomputable def GetIdx (hp : List AO) (a i : AV) (k : AV → Prop) : Prop := match i with
  | .int x => (match seqOf hp a with
    | some l => (0 ≤ x ∧ l.length ≤ sizeLine) ∧ ∃ v, l[x.toNat]? = some v ∧ k v
    | none => False)
  | _ => False
noncomputable def SetItem (hp : List AO) (a i v : AV) (P : List AO → Prop) : Prop := match a with
  | .obj j => (match hp[j]? with
    | some (.list _) => SetIdx hp a i v P
    | some (.dict _) => SetKey hp a i v P
    | _ => False)
  | _ => False
noncomputable def small (l : List AV) (k : Prop) : Prop := l.length ≤ sizeLine ∧ k

section
variable (G : Gl) (n : Nat)
mutual
noncomputable def vE : IE → ASt → (AV → ASt → Prop) → Prop
  | .none, st, P => P .none st
  | .bool b, st, P => P (.bool b) st
  | .int i, st, P => P (.int i) st
  | .str s, st, P => P (.str s) st
  | .loc i, st, P => onLoc st i fun a => P a st
  | .bin op l r, st, P => vE l st fun a st1 => vE r st1 fun b st2 => Bin op a b fun x => P x st2
  | .tadd l r, st, P => vE l st fun a st1 => vE r st1 fun b st2 => TupAdd a b fun x => P x st2
  | .cmp op l r, st, P => vE l st fun a st1 => vE r st1 fun b st2 => Cmp st2.heap op a b fun x => P (.bool x) st2
  | .and l r, st, P => vE l st fun a st1 => onB a fun b => fork b (vE r st1 P) (P (.bool false) st1)
  | .or l r, st, P => vE l st fun a st1 => onB a fun b => fork b (P (.bool true) st1) (vE r st1 P)
  | .ite t b o, st, P => vT t st fun x st1 => fork x (vE b st1 P) (vE o st1 P)
  | .attr i k, st, P => onLoc st i fun a => Attr st.heap a k fun v => P v st
  | .idx o i, st, P => vE o st fun a st1 => vE i st1 fun j st2 => Idx st2.heap a j fun v => P v st2
  | .slc o l h, st, P => vE o st fun a st1 => vE l st1 fun i st2 => vE h st2 fun j st3 => Slc a i j fun v => P v st3
  | .upto i h, st, P => onLoc st i fun a => vE h st fun j st1 => Upto st1.heap a j fun v => P v st1
  | .tab k1 k2 k3 e1 e2 e3 i, st, P => vE e1 st fun a1 st1 => vE e2 st1 fun a2 st2 => vE e3 st2 fun a3 st3 => vE i st3 fun x st4 => Pick3 k1 k2 k3 a1 a2 a3 x fun v => P v st4
  | .tup as, st, P => vA as st fun l st1 => small l (P (.tup l) st1)
  | .lst as, st, P => vA as st fun l st1 => small l (P (.lst l) st1)
  | .newL as, st, P => vA as st fun l st1 => small l (P (.obj st1.heap.length) { st1 with heap := st1.heap ++ [.list l] })
  | .newD, st, P => P (.obj st.heap.length) { st with heap := st.heap ++ [.dict []] }
  | .call f as, st, P => vA as st fun l st1 => TF G n f l st1.heap fun r hp => P r { st1 with heap := hp }
  | .meth C f o as, st, P => vE o st fun a st1 => onInst st1.heap a C fun i => vA as st1 fun l st2 => TF G n f (.obj i :: l) st2.heap fun r hp => P r { st2 with heap := hp }
  | .app o e, st, P => vE o st fun a st1 => onList st1.heap a (vE e st1 fun b st2 => App st2.heap a b fun hp => P .none { st2 with heap := hp })
  | .find o e, st, P => vE o st fun a st1 => onStr a fun x => vE e st1 fun b st2 => Find x b fun v => P v st2
  | .index o e, st, P => vE o st fun a st1 => onStr a fun x => vE e st1 fun b st2 => Index x b fun v => P v st2
  | .join o e, st, P => vE o st fun a st1 => onStr a fun x => vE e st1 fun b st2 => Join x st2.heap b fun v => P v st2
  | .len e, st, P => vE e st fun a st1 => Len st1.heap a fun v => P v st1
  | .ord e, st, P => vE e st fun a st1 => Ord a fun v => P v st1
  | .chr e, st, P => vE e st fun a st1 => Chr a fun v => P v st1
  | .abs e, st, P => vE e st fun a st1 => Abs a fun v => P v st1
  | .toInt e, st, P => vE e st fun a st1 => ToInt a fun v => P v st1
noncomputable def vT : IT → ASt → (Bool → ASt → Prop) → Prop
  | .cmp op l r, st, P => vE l st fun a st1 => vE r st1 fun b st2 => Cmp st2.heap op a b fun x => P x st2
  | .and l r, st, P => vT l st fun b st1 => fork b (vT r st1 P) (P false st1)
  | .or l r, st, P => vT l st fun b st1 => fork b (P true st1) (vT r st1 P)
  | .pl e, st, P => vE e st fun a st1 => onB a fun b => P b st1
noncomputable def vA : IA → ASt → (List AV → ASt → Prop) → Prop
  | .nil, st, P => P [] st
  | .cons e es, st, P => vE e st fun a st1 => vA es st1 fun l st2 => P (a :: l) st2
end
/-- an end of a turn -/
noncomputable def turnEnd (P : AFl → ASt → Prop) (inv : ASt → Prop) (fl : AFl) (st : ASt) : Prop := match fl with
  | .brk => P .next st
  | .ret a => P (.ret a) st
  | _ => inv st
noncomputable def goOn (k : ASt → Prop) (P : AFl → ASt → Prop) (fl : AFl) (st : ASt) : Prop := match fl with
  | .next => k st
  | fl => P fl st
noncomputable def vLoop (items : List AV) (i : Nat) (b : ASt → (AFl → ASt → Prop) → Prop) (st : ASt) (P : AFl → ASt → Prop) : Prop :=
  ∃ inv : Nat → ASt → Prop, inv 0 st ∧ (∀ (k : Nat) (a : AV), items[k]? = some a → ∀ st1, inv k st1 → b { st1 with env := st1.env.set i (some a) } (turnEnd P (inv (k + 1)))) ∧ ∀ st1, inv items.length st1 → P .next st1
noncomputable def vWhl (t : ASt → (Bool → ASt → Prop) → Prop) (b : ASt → (AFl → ASt → Prop) → Prop) (st : ASt) (P : AFl → ASt → Prop) : Prop :=
  ∃ (inv : ASt → Prop) (μ : ASt → Nat), inv st ∧ ∀ st1, inv st1 → t st1 fun x st2 => fork x (b st2 (turnEnd P fun st3 => inv st3 ∧ μ st3 < μ st1)) (P .next st2)
noncomputable def vS : IS → ASt → (AFl → ASt → Prop) → Prop
  | .skip, st, P => P .next st
  | .seq a b, st, P => vS a st (goOn (fun st1 => vS b st1 P) P)
  | .set i e, st, P => vE G n e st fun a st1 => P .next { st1 with env := st1.env.set i (some a) }
  | .setA o k e, st, P => vE G n e st fun b st1 => vE G n o st1 fun a st2 => SetAttr G st2.heap a k b fun hp => P .next { st2 with heap := hp }
  | .setI o i e, st, P => vE G n e st fun v st1 => vE G n o st1 fun a st2 => vE G n i st2 fun b st3 => SetItem st3.heap a b v fun hp => P .next { st3 with heap := hp }
  | .many is e, st, P => vE G n e st fun a st1 => onTup a fun l => l.length = is.length ∧ P .next { st1 with env := setMany is l st1.env }
  | .exp e, st, P => vE G n e st fun _ st1 => P .next st1
  | .ret e, st, P => vE G n e st fun a st1 => P (.ret a) st1
  | .brk, st, P => P .brk st
  | .cont, st, P => P .cont st
  | .ife t b o, st, P => vT G n t st fun x st1 => fork x (vS b st1 P) (vS o st1 P)
  | .whl t b, st, P => vWhl (vT G n t) (vS b) st P
  | .forL i e b, st, P => vE G n e st fun a st1 => onLst a fun l => vLoop l i (vS b) st1 P
  | .forS i e b, st, P => vE G n e st fun a st1 => onStr a fun y => vLoop (y.cps.toList.map fun m => AV.str ⟨#[m]⟩) i (vS b) st1 P
  | .forR i e b, st, P => vE G n e st fun a st1 => onInt a fun m => (-(2 ^ 40) ≤ m ∧ m ≤ 2 ^ 40) ∧ vLoop (upItems m) i (vS b) st1 P
  | .aug i op e, st, P => onLoc st i fun a => vE G n e st fun b st1 => Aug op a b fun v => P .next { st1 with env := st1.env.set i (some v) }
  | .augI o i op e, st, P => vE G n o st fun a st1 => vE G n i st1 fun b st2 => GetIdx st2.heap a b fun w => vE G n e st2 fun d st3 => Aug op w d fun v => SetIdx st3.heap a b v fun hp => P .next { st3 with heap := hp }
end
end Mine
end
section
set_option maxRecDepth 20000
namespace Mine
structure Tab where
  gt : List (Str × Addr)
  gi : List (Str × Int)
  gb : List Str
  mt : List (Str × Addr × Addr)
structure TabOk (G : Gl) (t : Tab) : Prop where
  gt : ∀ p ∈ t.gt, nsIn G.K mainGlobals p.1 = some (some (.ref p.2)) ∧ keepIn G.K (.ref p.2) = true
  gi : ∀ p ∈ t.gi, ∃ tk, nsIn G.K mainGlobals p.1 = some (some (.int p.2 tk))
  gb : ∀ x ∈ t.gb, nsIn G.K mainGlobals x = some none
  mt : ∀ q ∈ t.mt, q ∈ G.mt

noncomputable def findLoc (x : Str) : List (Str × NameKind) → Nat → Option Nat
  | [], _ => none
  | (y, k) :: r, i => if y = x then (if k = .local then some i else none) else findLoc x r (i + 1)
theorem findLoc_ok {x : Str} {i : Nat} : ∀ {l : List (Str × NameKind)} {j : Nat}, findLoc x l j = some i → ∃ k, i = j + k ∧ l[k]? = some (x, .local)
  | [], j, h => by cases h
  | (y, k) :: r, j, h => by
    unfold findLoc at h
    split at h
    · rename_i e
      split at h
      · rename_i e'
        cases h
        exact ⟨0, rfl, by rw [e, e']; rfl⟩
      · cases h
    · obtain ⟨k, h1, h2⟩ := findLoc_ok h
      exact ⟨k + 1, by omega, h2⟩
noncomputable def atIdxG (x : Str) : List Str → Nat → Option Nat
  | [], _ => none
  | y :: r, i => if y = x then some i else atIdxG x r (i + 1)
theorem atIdxG_ok {x : Str} {i : Nat} : ∀ {l : List Str} {j : Nat}, atIdxG x l j = some i → ∃ k, i = j + k ∧ l[k]? = some x
  | [], j, h => by cases h
  | y :: r, j, h => by
    unfold atIdxG at h
    split at h
    · rename_i e
      cases h
      exact ⟨0, rfl, by rw [e]; rfl⟩
    · obtain ⟨k, h1, h2⟩ := atIdxG_ok h
      exact ⟨k + 1, by omega, h2⟩
noncomputable def atIdx (x : Str) : Option Nat := atIdxG x atNames 0
theorem atIdx_ok {x : Str} {k : Nat} (h : atIdx x = some k) : x = atName k ∧ k < 8 := by
  obtain ⟨j, h1, h2⟩ := atIdxG_ok h
  have hj : k = j := by omega
  subst hj
  have hlt := (List.getElem?_eq_some_iff.mp h2).1
  refine ⟨?_, hlt⟩
  unfold atName
  rw [List.getD_eq_getElem?_getD, h2]
  rfl
noncomputable def lk {β : Type} (x : Str) : List (Str × β) → Option β
  | [] => none
  | (y, b) :: r => if y = x then some b else lk x r
theorem lk_mem {β : Type} {x : Str} {b : β} : ∀ {l : List (Str × β)}, lk x l = some b → (x, b) ∈ l
  | [], h => by cases h
  | (y, c) :: r, h => by
    unfold lk at h
    split at h
    · rename_i e; cases h; rw [e]; exact .head _
    · exact .tail _ (lk_mem h)
noncomputable def isGlob (names : List (Str × NameKind)) (x : Str) : Bool := decide (lk x names = some .globalImplicit) && decide (x ≠ "__debug__")
theorem lk_lookup {β : Type} {x : Str} : ∀ {l : List (Str × β)}, l.lookup x = lk x l
  | [] => rfl
  | (y, b) :: r => by
    unfold lk
    rw [List.lookup_cons]
    by_cases e : y = x
    · subst e; simp
    · rw [if_neg e, beq_eq_false_iff_ne.mpr (Ne.symm e)]; exact lk_lookup
theorem isGlob_ok {names : List (Str × NameKind)} {x : Str} (h : isGlob names x = true) : names.lookup x = some .globalImplicit ∧ (x == ("__debug__" : Str)) = false := by
  unfold isGlob at h
  rw [Bool.and_eq_true] at h
  exact ⟨by rw [lk_lookup]; exact of_decide_eq_true h.1, beq_eq_false_iff_ne.mpr (of_decide_eq_true h.2)⟩
noncomputable def noComp : PySem.Expr → Bool
  | .ListComp .. | .SetComp .. | .DictComp .. => false
  | _ => true
theorem swaps_plain {e : PySem.Expr} {t : Option PySem.Expr} {l : Nat} {env : Env} (h : noComp e = true) : swapsWith e t l env = pure false := by
  cases e <;> first | rfl | simp [noComp] at h

section
variable (t : Tab) (names : List (Str × NameKind))
noncomputable def cName (x : Str) : Option IE := match findLoc x names 0 with
  | some i => if x = "__debug__" then none else some (.loc i)
  | none => if isGlob names x then (lk x t.gi).map IE.int else none
noncomputable def cArgs (cE : PySem.Expr → Option IE) : List PySem.Expr → Option IA
  | [] => some .nil
  | e :: es => if plainE e then (match cE e, cArgs cE es with
    | some E, some R => some (.cons E R)
    | _, _ => none) else none
noncomputable def cOne (x : Str) : Option (IE → IE) :=
  if x = "len" then some .len else if x = "ord" then some .ord else if x = "chr" then some .chr else if x = "abs" then some .abs else if x = "int" then some .toInt else none
noncomputable def cMet (x : Str) : Option (IE → IE → IE) :=
  if x = "append" then some .app else if x = "find" then some .find else if x = "index" then some .index else if x = "join" then some .join else none
noncomputable def cCall (cE : PySem.Expr → Option IE) (x : Str) (args : List PySem.Expr) : Option IE :=
  if isGlob names x then (match lk x t.gt with
    | some f => (cArgs cE args).map (IE.call f)
    | none => if x ∈ t.gb then (match cOne x, args with
      | some k, [e] => if plainE e then (cE e).map k else none
      | _, _ => none) else none) else none
noncomputable def cMeth (cE : PySem.Expr → Option IE) (o : PySem.Expr) (name : Str) (args : List PySem.Expr) : Option IE :=
  match lk name t.mt with
  | some (C, f) => (match cE o, cArgs cE args with
    | some O, some A => some (.meth C f O A)
    | _, _ => none)
  | none => (match cMet name, args with
    | some k, [e] => if plainE e then (match cE o, cE e with
      | some O, some E => some (k O E)
      | _, _ => none) else none
    | _, _ => none)
noncomputable def bin2 {α β γ : Type} (f : α → β → γ) (a : Option α) (b : Option β) : Option γ := match a, b with
  | some A, some B => some (f A B)
  | _, _ => none
noncomputable def bin3 {α β γ δ : Type} (f : α → β → γ → δ) (a : Option α) (b : Option β) (d : Option γ) : Option δ := match d with
  | some D => bin2 (fun x y => f x y D) a b
  | none => none
noncomputable def isTup : PySem.Expr → Bool
  | .Tuple .. => true
  | _ => false
noncomputable def isCmpLike : PySem.Expr → Bool
  | .Call .. | .Constant .. | .Name .. | .Attribute .. | .Subscript .. => true
  | _ => false
noncomputable def cConst : Const → Option IE
  | .int i => some (.int i)
  | .str s => some (.str s)
  | .bool b => some (.bool b)
  | .none => some .none
  | _ => none
noncomputable def cBin (tu : Bool) (op : Operator) (l r : Option IE) : Option IE := if tu && decide (op = .Add) then bin2 IE.tadd l r else bin2 (IE.bin op) l r
noncomputable def cCmp {α : Type} (k : CmpOp → IE → IE → α) (cE : PySem.Expr → Option IE) (l : PySem.Expr) (ops : List CmpOp) (rs : List PySem.Expr) : Option α := match ops with
  | [op] => (match rs with
    | [r] => if behindInMarks op r then none else bin2 (k op) (cE l) (cE r)
    | _ => none)
  | _ => none
noncomputable def cBool {α : Type} (ka ko : α → α → α) (f : PySem.Expr → Option α) (op : BoolOp) (es : List PySem.Expr) (p : Pos) : Option α := match es with
  | [] => none
  | x :: es => (match es with
    | [] => f x
    | y :: rest => (match op with
      | .And => bin2 ka (f x) (f (.BoolOp .And (y :: rest) p))
      | .Or => bin2 ko (f x) (f (.BoolOp .Or (y :: rest) p))))
noncomputable def cAttr (o : PySem.Expr) (a : Str) : Option IE := match o with
  | .Name x _ => (match cName t names x with
    | some (.loc i) => (atIdx a).map (IE.attr i)
    | _ => none)
  | _ => none
noncomputable def asKey (k : Option PySem.Expr) : Option (Str × Nat × Pos) := match k with
  | some (.Constant v n p) => (match v with
    | .str x => some (x, n, p)
    | _ => none)
  | _ => none
noncomputable def cTab (cE : PySem.Expr → Option IE) (ks : List (Option PySem.Expr)) (vs : List PySem.Expr) (i : PySem.Expr) : Option IE := match ks with
  | [a, b, d] => (match vs with
    | [x, y, z] => (match asKey a, asKey b, asKey d with
      | some (k1, _), some (k2, _), some (k3, _) => if plainE i && decide ([k1, k2, k3].Nodup) then bin2 (fun f g => f g) (bin3 (fun A B C => IE.tab k1 k2 k3 A B C) (cE x) (cE y) (cE z)) (cE i) else none
      | _, _, _ => none)
    | _ => none)
  | _ => none
noncomputable def cSlice (cE : PySem.Expr → Option IE) (v : PySem.Expr) (lo hi st : Option PySem.Expr) : Option IE := match st with
  | none => (match hi with
    | none => none
    | some hi => (match lo with
      | some lo => bin3 IE.slc (cE v) (cE lo) (cE hi)
      | none => (match v with
        | .Name x _ => (match cName t names x with
          | some (.loc i) => (cE hi).map (IE.upto i)
          | _ => none)
        | _ => none)))
  | some _ => none
noncomputable def cIdx (cE : PySem.Expr → Option IE) (v i : PySem.Expr) : Option IE := match v with
  | .Dict ks vs _ => cTab cE ks vs i
  | v => if plainE i then bin2 IE.idx (cE v) (cE i) else none
noncomputable def cSub (cE : PySem.Expr → Option IE) (v i : PySem.Expr) : Option IE := match i with
  | .Slice lo hi st _ => cSlice t names cE v lo hi st
  | i => cIdx cE v i
noncomputable def cAny (cE : PySem.Expr → Option IE) (f : PySem.Expr) (args : List PySem.Expr) (kws : List Keyword) (pos : Pos) : Option IE := match kws with
  | [] => (match f with
    | .Name x _ => cCall t names cE x args
    | .Attribute o name apos => if notCall o && decide (args.length < 30) && (apos.endLine == pos.line) then cMeth t cE o name args else none
    | _ => none)
  | _ => none
mutual
noncomputable def cE : Nat → PySem.Expr → Option IE
  | 0, _ => none
  | n + 1, e => match e with
    | .Constant v _ _ => cConst v
    | .Name x _ => cName t names x
    | .BinOp l op r _ => cBin (isTup r) op (cE n l) (cE n r)
    | .Compare l ops rs _ => cCmp IE.cmp (cE n) l ops rs
    | .BoolOp op es p => cBool IE.and IE.or (cE n) op es p
    | .IfExp u b o _ => bin3 IE.ite (cT n u) (cE n b) (cE n o)
    | .Attribute o a _ => cAttr t names o a
    | .Subscript v i _ => cSub t names (cE n) v i
    | .Tuple es _ _ => (cArgs (cE n) es).map IE.tup
    | .List es _ => (cArgs (cE n) es).map IE.lst
    | .Dict ks vs _ => (match ks with
      | [] => (match vs with
        | [] => some .newD
        | _ => none)
      | _ => none)
    | .Call f args kws pos => cAny t names (cE n) f args kws pos
    | _ => none
noncomputable def cT : Nat → PySem.Expr → Option IT
  | 0, _ => none
  | n + 1, e => match e with
    | .Compare l ops rs _ => cCmp IT.cmp (cE n) l ops rs
    | .BoolOp op es p => cBool IT.and IT.or (cT n) op es p
    | e => if isCmpLike e then (cE n e).map IT.pl else none
end
noncomputable def cR (n : Nat) (e : PySem.Expr) : Option IE := match e with
  | .List es _ => (cArgs (cE t names n) es).map IE.newL
  | e => cE t names n e
noncomputable def cNames : List PySem.Expr → Option (List Nat)
  | [] => some []
  | e :: es => (match e with
    | .Name x _ => bin2 List.cons (findLoc x names 0) (cNames es)
    | _ => none)
noncomputable def cTo (n : Nat) (x e : PySem.Expr) : Option IS := match x with
  | .Name x _ => bin2 IS.set (findLoc x names 0) (cR t names n e)
  | .Attribute o a _ => bin3 IS.setA (cE t names n o) (atIdx a) (cR t names n e)
  | .Subscript o i _ => bin3 IS.setI (cE t names n o) (cE t names n i) (cE t names n e)
  | .Tuple es _ _ => if isTup e then none else bin2 IS.many (cNames names es) (cE t names n e)
  | _ => none
noncomputable def cAug (n : Nat) (x : PySem.Expr) (op : Operator) (e : PySem.Expr) : Option IS := match x with
  | .Name x _ => bin2 (fun i E => IS.aug i op E) (findLoc x names 0) (cE t names n e)
  | .Subscript o i _ => if plainE i then bin3 (fun O I E => IS.augI O I op E) (cE t names n o) (cE t names n i) (cE t names n e) else none
  | _ => none
noncomputable def rangeOf (e : PySem.Expr) : Option PySem.Expr := match e with
  | .Call f args kws _ => (match f with
    | .Name x _ => if x = "range" ∧ isGlob names x = true ∧ x ∈ t.gb then (match args with
      | [e] => (match kws with
        | [] => some e
        | _ => none)
      | _ => none) else none
    | _ => none)
  | _ => none
noncomputable def isName : PySem.Expr → Bool
  | .Name .. => true
  | _ => false
noncomputable def cFor (cE : PySem.Expr → Option IE) (x it : PySem.Expr) (b : Option IS) (o : List Stmt) : Option IS := match o with
  | [] => (match x with
    | .Name x _ => (match rangeOf t names it with
      | some e => if plainE e then bin3 IS.forR (findLoc x names 0) (cE e) b else none
      | none => if notSet it then (if isName it then bin3 IS.forS (findLoc x names 0) (cE it) b else bin3 IS.forL (findLoc x names 0) (cE it) b) else none)
    | _ => none)
  | _ => none
mutual
noncomputable def cS : Nat → Stmt → Option IS
  | 0, _ => none
  | n + 1, s => match s with
    | .Return v _ => (match v with
      | none => some (.ret .none)
      | some e => (cR t names n e).map IS.ret)
    | .Break _ => some .brk
    | .Continue _ => some .cont
    | .Pass _ => some .skip
    | .Expr e _ => if noComp e then (cE t names n e).map IS.exp else none
    | .If u b o _ => bin3 IS.ife (cT t names n u) (cB n b) (cB n o)
    | .While u b o _ => (match o with
      | [] => bin2 IS.whl (cT t names n u) (cB n b)
      | _ => none)
    | .For x it b o _ => cFor t names (cE t names n) x it (cB n b) o
    | .Assign ts e _ => (match ts with
      | [x] => if noComp e then cTo t names n x e else none
      | _ => none)
    | .AugAssign x op e _ => cAug t names n x op e
    | _ => none
noncomputable def cB : Nat → List Stmt → Option IS
  | 0, _ => none
  | n + 1, b => match b with
    | [] => some .skip
    | s :: r => bin2 IS.seq (cS n s) (cB n r)
end
end
end Mine
end
section
set_option maxRecDepth 20000
namespace Mine
section
variable {G : Gl} {c : Cx G} {t : Tab} {n : Nat}
theorem TE.mono {e : PySem.Expr} {st : ASt} {P P' : AV → ASt → Prop} (h : TE c e st P) (k : ∀ a st, P a st → P' a st) : TE c e st P' :=
  fun fm s hr Q q => h fm s hr Q fun a v st' s' p r => q a v st' s' (k _ _ p) r
theorem TT.mono {e : PySem.Expr} {st : ASt} {P P' : Bool → ASt → Prop} (h : TT c e st P) (k : ∀ a st, P a st → P' a st) : TT c e st P' :=
  fun fm s hr Q q => h fm s hr Q fun b st' s' p r => q b st' s' (k _ _ p) r
theorem Does.mono {t : Sem Flow} {st : ASt} {P P' : AFl → ASt → Prop} (h : Does c t st P) (k : ∀ a st, P a st → P' a st) : Does c t st P' :=
  fun fm s hr Q q => h fm s hr Q fun fl f st' s' p r => q fl f st' s' (k _ _ p) r
theorem TEs.mono {e : List (Bool × Sem Value)} {st : ASt} {P P' : List AV → ASt → Prop} (h : TEs c e st P) (k : ∀ a st, P a st → P' a st) : TEs c e st P' :=
  fun fm s hr Q q => h fm s hr Q fun as vs st' s' hl p r => q as vs st' s' hl (k _ _ p) r
theorem onB_mono {a : AV} {k k' : Bool → Prop} (h : onB a k) (m : ∀ b, k b → k' b) : onB a k' := by
  unfold onB at h ⊢
  split at h
  · exact m _ h
  · exact h.elim
theorem fork_mono {b : Bool} {k1 k2 k1' k2' : Prop} (h : fork b k1 k2) (m1 : k1 → k1') (m2 : k2 → k2') : fork b k1' k2' := ⟨fun e => m1 (h.1 e), fun e => m2 (h.2 e)⟩
theorem cName_ok (hG : TabOk G t) {x : Str} {p : Pos} {E : IE} (h : cName t c.sc.names x = some E) {st : ASt} {P : AV → ASt → Prop} (hv : vE G n E st P) : TE c (.Name x p) st P := by
  unfold cName at h
  split at h
  · rename_i i hi
    split at h
    · cases h
    · rename_i hx
      cases h
      obtain ⟨k, e, hk⟩ := findLoc_ok hi
      have e : i = k := by omega
      subst e
      simp only [vE, onLoc] at hv
      split at hv
      · rename_i a ha
        exact TE.loc hk (beq_eq_false_iff_ne.mpr hx) ha hv
      · exact hv.elim
  · split at h
    · rename_i hg
      obtain ⟨v, hv', rfl⟩ := Option.map_eq_some_iff.mp h
      obtain ⟨tk, h1⟩ := hG.gi _ (lk_mem hv')
      obtain ⟨g1, g2⟩ := isGlob_ok hg
      exact TE.globInt g1 g2 h1 (by simpa only [vE] using hv)
    · cases h
theorem cName_loc {x : Str} {i : Nat} (h : cName t c.sc.names x = some (.loc i)) : c.sc.names[i]? = some (x, .local) ∧ (x == ("__debug__" : Str)) = false := by
  unfold cName at h
  split at h
  · rename_i j hi
    split at h
    · cases h
    · rename_i hx
      cases h
      obtain ⟨k, e, hk⟩ := findLoc_ok hi
      have e : i = k := by omega
      subst e
      exact ⟨hk, beq_eq_false_iff_ne.mpr hx⟩
  · split at h
    · obtain ⟨v, hv', h⟩ := Option.map_eq_some_iff.mp h
      cases h
    · cases h
theorem cArgs_ok {f : PySem.Expr → Option IE} (ih : ∀ e E, f e = some E → ∀ st P, vE G n E st P → TE c e st P) {pos : Pos} : ∀ {es : List PySem.Expr} {A : IA}, cArgs f es = some A → es.all plainE = true ∧ ∀ st P, vA G n A st P → TEs c (backTo pos (starEach es c.env)) st P
  | [], A, h => by
    cases h
    exact ⟨rfl, fun st P hv => TEs.nil (by simpa only [vA] using hv)⟩
  | e :: es, A, h => by
    unfold cArgs at h
    split at h
    · rename_i hp
      split at h
      · rename_i E R h1 h2
        cases h
        obtain ⟨g1, g2⟩ := cArgs_ok ih (pos := pos) h2
        refine ⟨by rw [List.all_cons, hp, g1]; rfl, fun st P hv => TEs.star hp ((ih _ _ h1 st _ ?_).mono fun a st1 h => g2 _ _ h)⟩
        simp only [vA] at hv
        exact hv
      · cases h
    · cases h

/-- what an expression's turn into the tongue is worth -/
noncomputable def Okay (G : Gl) (n : Nat) (c : Cx G) (e : PySem.Expr) (E : IE) : Prop := ∀ st P, vE G n E st P → TE c e st P
theorem cCall_ok (hG : TabOk G t) (hn : n ≤ c.lv) {f : PySem.Expr → Option IE} (ih : ∀ e E, f e = some E → Okay G n c e E) {x : Str} {p pos : Pos} {args : List PySem.Expr} {E : IE} (h : cCall t c.sc.names f x args = some E) : Okay G n c (.Call (.Name x p) args [] pos) E := by
  intro st P hv
  unfold cCall at h
  split at h
  · rename_i hg
    obtain ⟨g1, g2⟩ := isGlob_ok hg
    split at h
    · rename_i fa hf
      obtain ⟨A, hA, rfl⟩ := Option.map_eq_some_iff.mp h
      obtain ⟨h1, h2⟩ := hG.gt _ (lk_mem hf)
      obtain ⟨h3, h4⟩ := cArgs_ok ih (pos := pos) hA
      simp only [vE] at hv
      exact TE.call hn g1 g2 h1 h2 h3 (h4 _ _ hv)
    · split at h
      · rename_i hb
        have hgb := hG.gb _ hb
        split at h
        · rename_i k e hk
          split at h
          · rename_i hp
            obtain ⟨E', hE, rfl⟩ := Option.map_eq_some_iff.mp h
            unfold cOne at hk
            split at hk
            · rename_i hx; subst hx; cases hk
              simp only [vE] at hv
              exact TE.len g1 hgb hp (ih _ _ hE _ _ hv)
            · split at hk
              · rename_i hx; subst hx; cases hk
                simp only [vE] at hv
                exact TE.ord g1 hgb hp (ih _ _ hE _ _ hv)
              · split at hk
                · rename_i hx; subst hx; cases hk
                  simp only [vE] at hv
                  exact TE.chr g1 hgb hp (ih _ _ hE _ _ hv)
                · split at hk
                  · rename_i hx; subst hx; cases hk
                    simp only [vE] at hv
                    exact TE.abs g1 hgb hp (ih _ _ hE _ _ hv)
                  · split at hk
                    · rename_i hx; subst hx; cases hk
                      simp only [vE] at hv
                      exact TE.toInt g1 hgb hp (ih _ _ hE _ _ hv)
                    · cases hk
          · cases h
        · cases h
      · cases h
  · cases h
theorem cMeth_ok (hG : TabOk G t) (hn : n ≤ c.lv) {f : PySem.Expr → Option IE} (ih : ∀ e E, f e = some E → Okay G n c e E) {o : PySem.Expr} {name : Str} {apos pos : Pos} {args : List PySem.Expr} {E : IE}
    (ho : notCall o = true) (hl : args.length < 30) (hpos : (apos.endLine == pos.line) = true) (h : cMeth t f o name args = some E) : Okay G n c (.Call (.Attribute o name apos) args [] pos) E := by
  intro st P hv
  unfold cMeth at h
  split at h
  · rename_i C fa hf
    split at h
    · rename_i O A hO hA
      cases h
      obtain ⟨h3, h4⟩ := cArgs_ok ih (pos := pos) hA
      simp only [vE] at hv
      refine TE.meth hn (hG.mt _ (lk_mem hf)) ho h3 hl hpos ((ih _ _ hO _ _ hv).mono fun a st1 h => ?_)
      unfold onInst at h
      split at h
      · split at h
        · rename_i i x2 C' fs hi
          obtain ⟨rfl, h⟩ := h
          exact ⟨i, fs, rfl, hi, h4 _ _ h⟩
        · exact h.elim
      · exact h.elim
    · cases h
  · split at h
    · rename_i k e hk
      split at h
      · rename_i hp
        split at h
        · rename_i O E' hO hE
          cases h
          have str : ∀ {a : AV} {st1 : ASt} {R : Str → AV → ASt → Prop}, onStr a (fun x => vE G n E' st1 (R x)) → ∃ x, a = .str x ∧ TE c e st1 (R x) := by
            intro a st1 R h
            unfold onStr at h
            split at h
            · exact ⟨_, rfl, ih _ _ hE _ _ h⟩
            · exact h.elim
          unfold cMet at hk
          split at hk
          · rename_i hx; subst hx; cases hk
            simp only [vE] at hv
            refine TE.append ho hp hpos ((ih _ _ hO _ _ hv).mono fun a st1 h => ?_)
            unfold onList at h
            split at h
            · split at h
              · rename_i i x2 l hi
                exact ⟨⟨i, l, rfl, hi⟩, ih _ _ hE _ _ h⟩
              · exact h.elim
            · exact h.elim
          · split at hk
            · rename_i hx; subst hx; cases hk
              simp only [vE] at hv
              exact TE.find ho hp hpos ((ih _ _ hO _ _ hv).mono fun a st1 h => str h)
            · split at hk
              · rename_i hx; subst hx; cases hk
                simp only [vE] at hv
                exact TE.index ho hp hpos ((ih _ _ hO _ _ hv).mono fun a st1 h => str h)
              · split at hk
                · rename_i hx; subst hx; cases hk
                  simp only [vE] at hv
                  exact TE.join ho hp hpos ((ih _ _ hO _ _ hv).mono fun a st1 h => str h)
                · cases hk
        · cases h
      · cases h
    · cases h
theorem bin2_ok {α β γ : Type} {f : α → β → γ} {a : Option α} {b : Option β} {E : γ} (h : bin2 f a b = some E) : ∃ A B, a = some A ∧ b = some B ∧ E = f A B := by
  cases a with
  | none => cases b <;> cases h
  | some A => cases b with
    | none => cases h
    | some B => cases h; exact ⟨A, B, rfl, rfl, rfl⟩
theorem bin3_ok {α β γ δ : Type} {f : α → β → γ → δ} {a : Option α} {b : Option β} {d : Option γ} {E : δ} (h : bin3 f a b d = some E) : ∃ A B D, a = some A ∧ b = some B ∧ d = some D ∧ E = f A B D := by
  cases d with
  | none => cases h
  | some D => obtain ⟨A, B, h1, h2, h3⟩ := bin2_ok h; exact ⟨A, B, D, h1, h2, rfl, h3⟩
/-- `x, y = e` -/
theorem many_in : ∀ (es : List PySem.Expr) (is : List Nat), cNames c.sc.names es = some is → (assignEach es c.env).length = is.length ∧ (assignEach es c.env).findIdx? (·.1) = none ∧
    ∀ (l : List AV) (vs : List Value) (st : ASt) (fm : Fm) (s : Shared) (Q : Unit → Shared → Prop), l.length = is.length → l.length = vs.length → Rel c st ⟨l ++ fm.as, vs ++ fm.vs, fm.xs⟩ s → (∀ s', Rel c { st with env := setMany is l st.env } fm s' → Q () s') →
      wpAny c.M c.A (assignInOrder ((assignEach es c.env).map (·.2)) vs) Q noE s
  | [], is, h => by
    cases h
    refine ⟨rfl, rfl, fun l vs st fm s Q h1 h2 r q => ?_⟩
    cases l with
    | nil => cases vs with
      | nil => exact assignInOrder_nil (q _ r)
      | cons v vs => simp at h2
    | cons a l => simp at h1
  | e :: es, is, h => by
    cases e <;> first | cases h | skip
    rename_i x p
    obtain ⟨i, is, h1, h2, rfl⟩ := bin2_ok (show bin2 List.cons (findLoc x c.sc.names 0) (cNames c.sc.names es) = some is from h)
    obtain ⟨g1, g2, g3⟩ := many_in es is h2
    obtain ⟨k, e, hk⟩ := findLoc_ok h1
    have e : i = k := by omega
    subst e
    have e1 : assignEach (.Name x p :: es) c.env = (false, assign (.Name x p) c.env) :: assignEach es c.env := rfl
    rw [e1]
    refine ⟨by simp [g1], by rw [List.findIdx?_cons]; simp [g2], fun l vs st fm s Q h1 h2 r q => ?_⟩
    cases l with
    | nil => simp at h1
    | cons a l => cases vs with
      | nil => simp at h2
      | cons v vs =>
        refine assignInOrder_cons (PyProof.Rows.assign_Name (store_sound (fm := ⟨l ++ fm.as, vs ++ fm.vs, fm.xs⟩) hk r fun s2 r2 => ?_))
        exact g3 l vs _ fm s2 Q (by simpa using h1) (by simpa using h2) r2 q
theorem stored_not {es : List PySem.Expr} {k : Nat} {tp : Pos} {e : PySem.Expr} {env : Env} (h : isTup e = false) : swappedStores [.Tuple es k tp] e env = pure none := by
  cases e <;> first | rfl | simp [isTup] at h
theorem TS.many {st : ASt} {es : List PySem.Expr} {is : List Nat} {e : PySem.Expr} {tp pos : Pos} {k : Nat} {P : AFl → ASt → Prop} (hx : cNames c.sc.names es = some is) (h1 : noComp e = true) (h2 : isTup e = false)
    (h : TE c e st fun a st1 => ∃ l, a = .tup l ∧ l.length = is.length ∧ P .next { st1 with env := setMany is l st1.env }) : TS c (.Assign [.Tuple es k tp] e pos) st P := by
  intro fm s hr Q q
  refine Assign_Tuple (h fm s hr _ fun a v st1 s1 g1 r1 => ?_) (by unfold swapsWithSole; exact swaps_plain h1) (stored_not h2)
  obtain ⟨l, rfl, hl, g1⟩ := g1
  obtain ⟨k1, k2, k3⟩ := many_in es is hx
  obtain ⟨ρ, N, m, d⟩ := r1
  cases d.top with
  | tup hm hv =>
    have hlen := hv.length
    refine unpackN_ d.F d.nw ⟨_, d.nw.get hm, rfl, _, rfl⟩ c.hh (by rw [k1, ← hl, ← hlen]; simp) k2 fun h' F' N' => ?_
    refine k3 l _ st1 fm _ _ hl hlen.symm ⟨ρ, N, m, (d.pop.same (k := s1.toks) F' N').fmTo (hv.append d.pop.pend) rfl⟩ fun s' r' => q .next .next _ _ g1 r'
end
end Mine
end
section
set_option maxRecDepth 20000
namespace Mine
section
variable {G : Gl} {c : Cx G} {t : Tab} {n : Nat}
noncomputable def OkayT (G : Gl) (n : Nat) (c : Cx G) (e : PySem.Expr) (E : IT) : Prop := ∀ st P, vT G n E st P → TT c e st P
theorem TT.and1 {x : PySem.Expr} {pos : Pos} {st : ASt} {P : Bool → ASt → Prop} (h : TT c x st P) : TT c (.BoolOp .And [x] pos) st P :=
  TT.and2 (h.mono fun b st1 h => ⟨fun e => TT.and0 (by subst e; exact h), fun e => by subst e; exact h⟩)
theorem TT.or1 {x : PySem.Expr} {pos : Pos} {st : ASt} {P : Bool → ASt → Prop} (h : TT c x st P) : TT c (.BoolOp .Or [x] pos) st P :=
  TT.or2 (h.mono fun b st1 h => ⟨fun e => by subst e; exact h, fun e => TT.or0 (by subst e; exact h)⟩)
theorem true_plain {e : PySem.Expr} (h : isCmpLike e = true) : PySem.isTrue e c.env (eval e c.env) = (do let v ← eval e c.env; standAt e.pos; holding [v] (truthy v)) := by
  cases e <;> first | rfl | cases h
theorem cConst_ok {v : Const} {k : Nat} {p : Pos} {E : IE} (h : cConst v = some E) : Okay G n c (.Constant v k p) E := by
  intro st P hv
  cases v <;> cases h <;> simp only [vE] at hv
  · exact TE.none hv
  · exact TE.bool hv
  · exact TE.int hv
  · exact TE.str hv
theorem cBin_ok {op : Operator} {l r : PySem.Expr} {f : PySem.Expr → Option IE} {p : Pos} (ih : ∀ e E, f e = some E → Okay G n c e E) {E : IE} (h : cBin (isTup r) op (f l) (f r) = some E) : Okay G n c (.BinOp l op r p) E := by
  intro st P hv
  unfold cBin at h
  split at h
  · rename_i hc
    rw [Bool.and_eq_true] at hc
    have ho := of_decide_eq_true hc.2
    subst ho
    obtain ⟨A, B, h1, h2, rfl⟩ := bin2_ok h
    simp only [vE] at hv
    exact TE.tupAdd ((ih _ _ h1 _ _ hv).mono fun a st1 h => ih _ _ h2 _ _ h)
  · obtain ⟨A, B, h1, h2, rfl⟩ := bin2_ok h
    simp only [vE] at hv
    exact TE.bin ((ih _ _ h1 _ _ hv).mono fun a st1 h => ih _ _ h2 _ _ h)
theorem cCmp_ok {α : Type} {k : CmpOp → IE → IE → α} {f : PySem.Expr → Option IE} {l : PySem.Expr} {ops : List CmpOp} {rs : List PySem.Expr} {E : α} (h : cCmp k f l ops rs = some E) :
    ∃ op r L R, ops = [op] ∧ rs = [r] ∧ behindInMarks op r = false ∧ f l = some L ∧ f r = some R ∧ E = k op L R := by
  cases ops with
  | nil => cases h
  | cons op ops =>
    cases ops with
    | cons _ _ => cases h
    | nil =>
      cases rs with
      | nil => cases h
      | cons r rs =>
        cases rs with
        | cons _ _ => cases h
        | nil =>
          replace h : (if behindInMarks op r then none else bin2 (k op) (f l) (f r)) = some E := h
          split at h
          · cases h
          · rename_i hb
            obtain ⟨A, B, h1, h2, rfl⟩ := bin2_ok h
            exact ⟨op, r, A, B, rfl, rfl, by simpa using hb, h1, h2, rfl⟩
theorem cBool_ok {α : Type} {ka ko : α → α → α} {f : PySem.Expr → Option α} {op : BoolOp} {es : List PySem.Expr} {p : Pos} {E : α} (h : cBool ka ko f op es p = some E) :
    (∃ x, es = [x] ∧ f x = some E) ∨ ∃ x y rest A B, es = x :: y :: rest ∧ f x = some A ∧ f (.BoolOp op (y :: rest) p) = some B ∧ ((op = .And ∧ E = ka A B) ∨ (op = .Or ∧ E = ko A B)) := by
  cases es with
  | nil => cases h
  | cons x es =>
    cases es with
    | nil => exact .inl ⟨x, rfl, h⟩
    | cons y rest =>
      cases op with
      | And => obtain ⟨A, B, h1, h2, rfl⟩ := bin2_ok (show bin2 ka (f x) (f (.BoolOp .And (y :: rest) p)) = some E from h); exact .inr ⟨x, y, rest, A, B, rfl, h1, h2, .inl ⟨rfl, rfl⟩⟩
      | Or => obtain ⟨A, B, h1, h2, rfl⟩ := bin2_ok (show bin2 ko (f x) (f (.BoolOp .Or (y :: rest) p)) = some E from h); exact .inr ⟨x, y, rest, A, B, rfl, h1, h2, .inr ⟨rfl, rfl⟩⟩
theorem locOf {x : Option IE} {α : Type} {k : Nat → Option α} {E : α} (h : (match x with | some (.loc i) => k i | _ => none) = some E) : ∃ i, x = some (.loc i) ∧ k i = some E := by
  cases x with
  | none => cases h
  | some x => cases x <;> first | cases h | exact ⟨_, rfl, h⟩
theorem cAttr_ok (hG : TabOk G t) {o : PySem.Expr} {a : Str} {p : Pos} {E : IE} (h : cAttr t c.sc.names o a = some E) : Okay G n c (.Attribute o a p) E := by
  intro st P hv
  cases o <;> first | cases h | skip
  rename_i x xp
  obtain ⟨i, h1, h⟩ := locOf (show (match cName t c.sc.names x with | some (.loc i) => (atIdx a).map (IE.attr i) | _ => none) = some E from h)
  obtain ⟨k, h2, rfl⟩ := Option.map_eq_some_iff.mp h
  obtain ⟨rfl, h4⟩ := atIdx_ok h2
  refine TE.attr h4 (cName_ok (n := n) hG h1 ?_)
  simp only [vE] at hv ⊢
  exact hv
theorem asKey_ok {k : Option PySem.Expr} {x : Str} {n : Nat} {p : Pos} (h : asKey k = some (x, n, p)) : k = some (.Constant (.str x) n p) := by
  cases k with
  | none => cases h
  | some k => cases k <;> first | cases h | skip
              rename_i v _ _
              cases v <;> cases h
              rfl
theorem cTab_ok {f : PySem.Expr → Option IE} (ih : ∀ e E, f e = some E → Okay G n c e E) {ks : List (Option PySem.Expr)} {vs : List PySem.Expr} {i : PySem.Expr} {dp p : Pos} {E : IE} (h : cTab f ks vs i = some E) : Okay G n c (.Subscript (.Dict ks vs dp) i p) E := by
  intro st P hv
  unfold cTab at h
  split at h
  · split at h
    · split at h
      · rename_i k1 q1 k2 q2 k3 q3 e1 e2 e3
        split at h
        · rename_i hc
          rw [Bool.and_eq_true] at hc
          obtain ⟨F, I, h1, h2, rfl⟩ := bin2_ok h
          obtain ⟨A, B, C, h3, h4, h5, rfl⟩ := bin3_ok h1
          rw [asKey_ok e1, asKey_ok e2, asKey_ok e3]
          simp only [vE] at hv
          exact TE.tab3 hc.1 (of_decide_eq_true hc.2) ((ih _ _ h3 _ _ hv).mono fun a st1 h => (ih _ _ h4 _ _ h).mono fun i st2 h => (ih _ _ h5 _ _ h).mono fun i st2 h => ih _ _ h2 _ _ h)
        · cases h
      · cases h
    · cases h
  · cases h
theorem cSlice_ok (hG : TabOk G t) {f : PySem.Expr → Option IE} (ih : ∀ e E, f e = some E → Okay G n c e E) {v : PySem.Expr} {lo hi st' : Option PySem.Expr} {sp p : Pos} {E : IE} (h : cSlice t c.sc.names f v lo hi st' = some E) : Okay G n c (.Subscript v (.Slice lo hi st' sp) p) E := by
  intro st P hv
  cases st' with
  | some _ => cases h
  | none =>
    cases hi with
    | none => cases h
    | some hi =>
      cases lo with
      | some lo =>
        obtain ⟨A, B, C, h1, h2, h3, rfl⟩ := bin3_ok (show bin3 IE.slc (f v) (f lo) (f hi) = some E from h)
        simp only [vE] at hv
        exact TE.slc ((ih _ _ h1 _ _ hv).mono fun a st1 h => (ih _ _ h2 _ _ h).mono fun i st2 h => ih _ _ h3 _ _ h)
      | none =>
        cases v <;> first | cases h | skip
        rename_i x xp
        obtain ⟨i, h1, h⟩ := locOf (show (match cName t c.sc.names x with | some (.loc i) => (f hi).map (IE.upto i) | _ => none) = some E from h)
        obtain ⟨H, h2, rfl⟩ := Option.map_eq_some_iff.mp h
        refine TE.upto ((cName_ok (n := n) hG h1 ?_ : TE c _ st fun a st1 => vE G n H st1 fun j st2 => Upto st2.heap a j fun v => P v st2).mono fun a st1 h => ih _ _ h2 _ _ h)
        simp only [vE] at hv ⊢
        exact hv
theorem idx_plain {f : PySem.Expr → Option IE} (ih : ∀ e E, f e = some E → Okay G n c e E) {v i : PySem.Expr} {p : Pos} {E : IE} (h : (if plainE i then bin2 IE.idx (f v) (f i) else none) = some E) : Okay G n c (.Subscript v i p) E := by
  intro st P hv
  split at h
  · rename_i hp
    obtain ⟨A, B, h1, h2, rfl⟩ := bin2_ok h
    simp only [vE] at hv
    exact TE.idx hp ((ih _ _ h1 _ _ hv).mono fun a st1 h => ih _ _ h2 _ _ h)
  · cases h
theorem cSub_ok (hG : TabOk G t) {f : PySem.Expr → Option IE} (ih : ∀ e E, f e = some E → Okay G n c e E) {v i : PySem.Expr} {p : Pos} {E : IE} (h : cSub t c.sc.names f v i = some E) : Okay G n c (.Subscript v i p) E := by
  unfold cSub at h
  split at h
  · exact cSlice_ok hG ih h
  · unfold cIdx at h
    split at h
    · exact cTab_ok ih h
    · exact idx_plain ih h
theorem cAny_ok (hG : TabOk G t) (hn : n ≤ c.lv) {g : PySem.Expr → Option IE} (ih : ∀ e E, g e = some E → Okay G n c e E) {f : PySem.Expr} {args : List PySem.Expr} {kws : List Keyword} {pos : Pos} {E : IE} (h : cAny t c.sc.names g f args kws pos = some E) : Okay G n c (.Call f args kws pos) E := by
  unfold cAny at h
  split at h
  · split at h
    · exact cCall_ok hG hn ih h
    · split at h
      · rename_i hc
        rw [Bool.and_eq_true, Bool.and_eq_true] at hc
        exact cMeth_ok hG hn ih hc.1.1 (of_decide_eq_true hc.1.2) hc.2 h
      · cases h
    · cases h
  · cases h
theorem cE_ok (hG : TabOk G t) (hn : n ≤ c.lv) : ∀ m, (∀ e E, cE t c.sc.names m e = some E → Okay G n c e E) ∧ (∀ e T, cT t c.sc.names m e = some T → OkayT G n c e T) := by
  intro m
  induction m with
  | zero => exact ⟨fun e E h => (by cases h), fun e E h => (by cases h)⟩
  | succ m ih =>
    obtain ⟨ih, ihT⟩ := ih
    refine ⟨fun e E h => ?_, fun e E h => ?_⟩
    · cases e with
      | Constant v k p => exact cConst_ok h
      | Name x p => intro st P hv; exact cName_ok hG h hv
      | BinOp l op r p => exact cBin_ok ih h
      | Compare l ops rs p =>
        obtain ⟨op, r, L, R, rfl, rfl, hb, h1, h2, rfl⟩ := cCmp_ok (show cCmp IE.cmp (cE t c.sc.names m) l ops rs = some E from h)
        intro st P hv
        simp only [vE] at hv
        exact TE.cmp hb ((ih _ _ h1 _ _ hv).mono fun a st1 h => ih _ _ h2 _ _ h)
      | BoolOp op es p =>
        intro st P hv
        rcases cBool_ok (show cBool IE.and IE.or (cE t c.sc.names m) op es p = some E from h) with ⟨x, rfl, h1⟩ | ⟨x, y, rest, A, B, rfl, h1, h2, ⟨rfl, rfl⟩ | ⟨rfl, rfl⟩⟩
        · exact TE.bool1 (ih _ _ h1 _ _ hv)
        · simp only [vE] at hv
          exact TE.and2 ((ih _ _ h1 _ _ hv).mono fun a st1 h => onB_mono h fun b h => fork_mono h (fun h => ih _ _ h2 _ _ h) id)
        · simp only [vE] at hv
          exact TE.or2 ((ih _ _ h1 _ _ hv).mono fun a st1 h => onB_mono h fun b h => fork_mono h id fun h => ih _ _ h2 _ _ h)
      | IfExp u b o p =>
        obtain ⟨T, B, O, h1, h2, h3, rfl⟩ := bin3_ok (show bin3 IE.ite (cT t c.sc.names m u) (cE t c.sc.names m b) (cE t c.sc.names m o) = some E from h)
        intro st P hv
        simp only [vE] at hv
        exact TE.ite ((ihT _ _ h1 _ _ hv).mono fun x st1 h => fork_mono h (fun h => ih _ _ h2 _ _ h) fun h => ih _ _ h3 _ _ h)
      | Attribute o a p => exact cAttr_ok hG h
      | Subscript v i p => exact cSub_ok hG ih h
      | Tuple es k p =>
        obtain ⟨A, hA, rfl⟩ := Option.map_eq_some_iff.mp (show (cArgs (cE t c.sc.names m) es).map IE.tup = some E from h)
        intro st P hv
        simp only [vE] at hv
        exact TE.tup ((cArgs_ok ih hA).2 _ _ hv)
      | List es p =>
        obtain ⟨A, hA, rfl⟩ := Option.map_eq_some_iff.mp (show (cArgs (cE t c.sc.names m) es).map IE.lst = some E from h)
        intro st P hv
        simp only [vE] at hv
        exact TE.lst ((cArgs_ok ih hA).2 _ _ hv)
      | Dict ks vs p =>
        cases ks with
        | cons _ _ => cases h
        | nil => cases vs with
          | cons _ _ => cases h
          | nil => cases h; intro st P hv; exact TE.newD (by simpa only [vE] using hv)
      | Call f args kws pos => exact cAny_ok hG hn ih h
      | _ => cases h
    · have other : isCmpLike e = true → (cE t c.sc.names m e).map IT.pl = some E → OkayT G n c e E := by
        intro hc h st P hv
        obtain ⟨A, hA, rfl⟩ := Option.map_eq_some_iff.mp h
        simp only [vT] at hv
        exact TT.plain (true_plain hc) (ih _ _ hA _ _ hv)
      cases e with
      | Compare l ops rs p =>
        obtain ⟨op, r, L, R, rfl, rfl, hb, h1, h2, rfl⟩ := cCmp_ok (show cCmp IT.cmp (cE t c.sc.names m) l ops rs = some E from h)
        intro st P hv
        simp only [vT] at hv
        exact TT.cmp hb ((ih _ _ h1 _ _ hv).mono fun a st1 h => ih _ _ h2 _ _ h)
      | BoolOp op es p =>
        intro st P hv
        rcases cBool_ok (show cBool IT.and IT.or (cT t c.sc.names m) op es p = some E from h) with ⟨x, rfl, h1⟩ | ⟨x, y, rest, A, B, rfl, h1, h2, ⟨rfl, rfl⟩ | ⟨rfl, rfl⟩⟩
        · cases op with
          | And => exact TT.and1 (ihT _ _ h1 _ _ hv)
          | Or => exact TT.or1 (ihT _ _ h1 _ _ hv)
        · simp only [vT] at hv
          exact TT.and2 ((ihT _ _ h1 _ _ hv).mono fun b st1 h => fork_mono h (fun h => ihT _ _ h2 _ _ h) id)
        · simp only [vT] at hv
          exact TT.or2 ((ihT _ _ h1 _ _ hv).mono fun b st1 h => fork_mono h id fun h => ihT _ _ h2 _ _ h)
      | Constant v k p => exact other rfl h
      | Name x p => exact other rfl h
      | Call f args kws pos => exact other rfl h
      | Attribute o a p => exact other rfl h
      | Subscript v i p => exact other rfl h
      | _ => cases h
end
end Mine
end
section
set_option maxRecDepth 20000
namespace Mine
section
variable {G : Gl} {c : Cx G} {t : Tab} {n : Nat}
theorem cR_ok (hG : TabOk G t) (hn : n ≤ c.lv) {m : Nat} {e : PySem.Expr} {E : IE} (h : cR t c.sc.names m e = some E) : Okay G n c e E := by
  unfold cR at h
  split at h
  · obtain ⟨A, hA, rfl⟩ := Option.map_eq_some_iff.mp h
    intro st P hv
    simp only [vE] at hv
    exact TE.newL ((cArgs_ok (cE_ok hG hn m).1 hA).2 _ _ hv)
  · exact (cE_ok hG hn m).1 _ _ h
theorem findLoc_at {x : Str} {i : Nat} {l : List (Str × NameKind)} (h : findLoc x l 0 = some i) : l[i]? = some (x, .local) := by
  obtain ⟨k, e, hk⟩ := findLoc_ok h
  have e : i = k := by omega
  rw [e]; exact hk
theorem setItem_sound {st : ASt} {fm : Fm} {s : Shared} {a i v : AV} {av iv vv : Value} {P : ASt → Prop} {Q : Unit → Shared → Prop} (r : Rel c st (((fm.push v vv).push a av).push i iv) s) (h : SetItem st.heap a i v fun hp => P { st with heap := hp }) (q : ∀ st' s', P st' → Rel c st' fm s' → Q () s') :
    wpAny c.M c.A (setItem av iv vv) Q noE s := by
  unfold SetItem at h
  split at h
  · split at h
    · exact setIdx_sound r h q
    · exact setKey_sound r h q
    · exact h.elim
  · exact h.elim
theorem TS.setItem {st : ASt} {o i e : PySem.Expr} {p pos : Pos} {P : AFl → ASt → Prop} (hw : swapsWith e (some (.Subscript o i p)) pos.line c.env = pure false)
    (h : TE c e st fun v st1 => TE c o st1 fun a st2 => TE c i st2 fun b st3 => SetItem st3.heap a b v fun hp => P .next { st3 with heap := hp }) : TS c (.Assign [.Subscript o i p] e pos) st P := by
  intro fm s hr Q q
  exact wpAny_Assign_Subscript (h fm s hr _ fun v vv st1 s1 h1 r1 => h1 _ _ r1 _ fun a av st2 s2 h2 r2 => h2 _ _ r2 _ fun b bv st3 s3 h3 r3 => setItem_sound (P := fun st' => P .next st') r3 h3 fun st' s' p r => q .next .next _ _ p r) hw
theorem no_interactive : interactive c.env = false := by
  unfold interactive
  have h : c.env.scope = c.sc := rfl
  rw [h, c.hk]
  rfl
theorem goOn_seq {b : Stmt} {rest : List Stmt} {st : ASt} {P : AFl → ASt → Prop} (h : TS c b st (goOn (fun st1 => TSs c rest st1 P) P)) : TSs c (b :: rest) st P :=
  TSs.cons (Does.mono h fun fl st1 h => by cases fl <;> exact h)
theorem loop_ok {items : List AV} {i : Nat} {b : List Stmt} {f : ASt → (AFl → ASt → Prop) → Prop} (hf : ∀ st P, f st P → TSs c b st P) {st : ASt} {P : AFl → ASt → Prop} (h : vLoop items i f st P) : Loop c items i b st P := by
  obtain ⟨inv, h0, h1, h2⟩ := h
  exact ⟨inv, h0, fun k a e st1 hi => Does.mono (hf _ _ (h1 k a e st1 hi)) fun fl st2 h => by cases fl <;> exact h, h2⟩
theorem cTo_ok (hG : TabOk G t) (hn : n ≤ c.lv) {m : Nat} {x e : PySem.Expr} {p : Pos} {S : IS} (hc : noComp e = true) (h : cTo t c.sc.names m x e = some S) : ∀ st P, vS G n S st P → TS c (.Assign [x] e p) st P := by
  intro st P hv
  have ihE := (cE_ok hG hn m).1
  cases x with
  | Name y q =>
    obtain ⟨i, E, h1, h2, rfl⟩ := bin2_ok (show bin2 IS.set (findLoc y c.sc.names 0) (cR t c.sc.names m e) = some S from h)
    simp only [vS] at hv
    exact TS.set (findLoc_at h1) (swaps_plain hc) (cR_ok hG hn h2 _ _ hv)
  | Attribute o a q =>
    obtain ⟨O, k, E, h1, h2, h3, rfl⟩ := bin3_ok (show bin3 IS.setA (cE t c.sc.names m o) (atIdx a) (cR t c.sc.names m e) = some S from h)
    obtain ⟨rfl, h4⟩ := atIdx_ok h2
    simp only [vS] at hv
    exact TS.setAttr h4 (swaps_plain hc) ((cR_ok hG hn h3 _ _ hv).mono fun a st1 h => ihE _ _ h1 _ _ h)
  | Subscript o i q =>
    obtain ⟨O, I, E, h1, h2, h3, rfl⟩ := bin3_ok (show bin3 IS.setI (cE t c.sc.names m o) (cE t c.sc.names m i) (cE t c.sc.names m e) = some S from h)
    simp only [vS] at hv
    exact TS.setItem (swaps_plain hc) ((ihE _ _ h3 _ _ hv).mono fun a st1 h => (ihE _ _ h1 _ _ h).mono fun a st1 h => ihE _ _ h2 _ _ h)
  | Tuple es k q =>
    replace h : (if isTup e then none else bin2 IS.many (cNames c.sc.names es) (cE t c.sc.names m e)) = some S := h
    split at h
    · cases h
    · rename_i ht
      obtain ⟨is, E, h1, h2, rfl⟩ := bin2_ok h
      simp only [vS] at hv
      refine TS.many h1 hc (by simpa using ht) ((ihE _ _ h2 _ _ hv).mono fun a st1 h => ?_)
      unfold onTup at h
      split at h
      · exact ⟨_, rfl, h⟩
      · exact h.elim
  | _ => cases h
theorem cAug_ok (hG : TabOk G t) (hn : n ≤ c.lv) {m : Nat} {x e : PySem.Expr} {op : Operator} {p : Pos} {S : IS} (h : cAug t c.sc.names m x op e = some S) : ∀ st P, vS G n S st P → TS c (.AugAssign x op e p) st P := by
  intro st P hv
  have ihE := (cE_ok hG hn m).1
  cases x with
  | Name y q =>
    obtain ⟨i, E, h1, h2, rfl⟩ := bin2_ok (show bin2 (fun i E => IS.aug i op E) (findLoc y c.sc.names 0) (cE t c.sc.names m e) = some S from h)
    simp only [vS] at hv
    unfold onLoc at hv
    split at hv
    · rename_i a ha
      exact TS.aug (findLoc_at h1) ha (ihE _ _ h2 _ _ hv)
    · exact hv.elim
  | Subscript o i q =>
    replace h : (if plainE i then bin3 (fun O I E => IS.augI O I op E) (cE t c.sc.names m o) (cE t c.sc.names m i) (cE t c.sc.names m e) else none) = some S := h
    split at h
    · rename_i hc
      obtain ⟨O, I, E, h1, h2, h3, rfl⟩ := bin3_ok h
      simp only [vS] at hv
      refine TS.augIdx hc ((ihE _ _ h1 _ _ hv).mono fun a st1 h => (ihE _ _ h2 _ _ h).mono fun b st2 h => ?_)
      unfold GetIdx at h
      split at h
      · split at h
        · rename_i l hl
          obtain ⟨h1, w, h2, h⟩ := h
          exact ⟨l, _, w, hl, rfl, h1, h2, ihE _ _ h3 _ _ h⟩
        · exact h.elim
      · exact h.elim
    · cases h
  | _ => cases h
theorem rangeOf_ok {names : List (Str × NameKind)} {it e : PySem.Expr} (h : rangeOf t names it = some e) : ∃ q p, it = .Call (.Name (PySem.Str.ofString "range") q) [e] [] p ∧ isGlob names (PySem.Str.ofString "range") = true ∧ (PySem.Str.ofString "range") ∈ t.gb := by
  cases it <;> first | cases h | skip
  rename_i f args kws p
  cases f <;> first | cases h | skip
  rename_i x q
  replace h : (if x = "range" ∧ isGlob names x = true ∧ x ∈ t.gb then (match args with | [e] => (match kws with | [] => some e | _ => none) | _ => none) else none) = some e := h
  split at h
  · rename_i hc
    obtain ⟨rfl, h1, h2⟩ := hc
    split at h
    · split at h
      · cases h; exact ⟨q, p, rfl, h1, h2⟩
      · cases h
    · cases h
  · cases h
theorem cFor_ok (hG : TabOk G t) (hn : n ≤ c.lv) {m : Nat} {x it : PySem.Expr} {b : List Stmt} {B' : Option IS} (hB : ∀ B, B' = some B → ∀ st P, vS G n B st P → TSs c b st P) {o : List Stmt} {p : Pos} {S : IS} (h : cFor t c.sc.names (cE t c.sc.names m) x it B' o = some S) :
    ∀ st P, vS G n S st P → TS c (.For x it b o p) st P := by
  intro st P hv
  have ihE := (cE_ok hG hn m).1
  cases o with
  | cons _ _ => cases h
  | nil =>
    cases x <;> first | cases h | skip
    rename_i x q
    replace h : (match rangeOf t c.sc.names it with
      | some e => if plainE e then bin3 IS.forR (findLoc x c.sc.names 0) (cE t c.sc.names m e) B' else none
      | none => if notSet it then (if isName it then bin3 IS.forS (findLoc x c.sc.names 0) (cE t c.sc.names m it) B' else bin3 IS.forL (findLoc x c.sc.names 0) (cE t c.sc.names m it) B') else none) = some S := h
    split at h
    · rename_i e he
      split at h
      · rename_i hc
        obtain ⟨i, E, B, h1, h2, h3, rfl⟩ := bin3_ok h
        obtain ⟨q1, q2, rfl, hc1, hc2⟩ := rangeOf_ok he
        simp only [vS] at hv
        refine TS.forR (findLoc_at h1) (isGlob_ok hc1).1 (hG.gb _ hc2) hc ((ihE _ _ h2 _ _ hv).mono fun a st1 h => ?_)
        unfold onInt at h
        split at h
        · exact ⟨_, rfl, h.1, loop_ok (fun st P => hB _ h3 st P) h.2⟩
        · exact h.elim
      · cases h
    · split at h
      · rename_i hc
        split at h
        · obtain ⟨i, E, B, h1, h2, h3, rfl⟩ := bin3_ok h
          simp only [vS] at hv
          refine TS.forS (findLoc_at h1) hc ((ihE _ _ h2 _ _ hv).mono fun a st1 h => ?_)
          unfold onStr at h
          split at h
          · exact ⟨_, rfl, loop_ok (fun st P => hB _ h3 st P) h⟩
          · exact h.elim
        · obtain ⟨i, E, B, h1, h2, h3, rfl⟩ := bin3_ok h
          simp only [vS] at hv
          refine TS.forL (findLoc_at h1) hc ((ihE _ _ h2 _ _ hv).mono fun a st1 h => ?_)
          unfold onLst at h
          split at h
          · exact ⟨_, rfl, loop_ok (fun st P => hB _ h3 st P) h⟩
          · exact h.elim
      · cases h
theorem cS_ok (hG : TabOk G t) (hn : n ≤ c.lv) : ∀ m, (∀ s S, cS t c.sc.names m s = some S → ∀ st P, vS G n S st P → TS c s st P) ∧ (∀ b S, cB t c.sc.names m b = some S → ∀ st P, vS G n S st P → TSs c b st P) := by
  intro m
  induction m with
  | zero => exact ⟨fun e E h => (by cases h), fun e E h => (by cases h)⟩
  | succ m ih =>
    obtain ⟨ih, ihB⟩ := ih
    have ihE := (cE_ok hG hn m).1
    have ihT := (cE_ok hG hn m).2
    refine ⟨fun s S h st P hv => ?_, fun b S h st P hv => ?_⟩
    · cases s with
      | Return v p =>
        cases v with
        | none => cases h; simp only [vS, vE] at hv; exact TS.ret0 hv
        | some e =>
          obtain ⟨E, hE, rfl⟩ := Option.map_eq_some_iff.mp (show (cR t c.sc.names m e).map IS.ret = some S from h)
          simp only [vS] at hv
          exact TS.ret (cR_ok hG hn hE _ _ hv)
      | Break p => cases h; simp only [vS] at hv; exact TS.brk hv
      | Continue p => cases h; simp only [vS] at hv; exact TS.cont hv
      | Pass p => cases h; simp only [vS] at hv; exact TS.pass hv
      | Expr e p =>
        replace h : (if noComp e then (cE t c.sc.names m e).map IS.exp else none) = some S := h
        split at h
        · rename_i hc
          obtain ⟨E, hE, rfl⟩ := Option.map_eq_some_iff.mp h
          simp only [vS] at hv
          exact TS.exp no_interactive (swaps_plain hc) (ihE _ _ hE _ _ hv)
        · cases h
      | If u b o p =>
        obtain ⟨T, B, O, h1, h2, h3, rfl⟩ := bin3_ok (show bin3 IS.ife (cT t c.sc.names m u) (cB t c.sc.names m b) (cB t c.sc.names m o) = some S from h)
        simp only [vS] at hv
        exact TS.ife ((ihT _ _ h1 _ _ hv).mono fun b st1 h => fork_mono h (fun h => ihB _ _ h2 _ _ h) fun h => ihB _ _ h3 _ _ h)
      | While u b o p =>
        cases o with
        | cons _ _ => cases h
        | nil =>
          obtain ⟨T, B, h1, h2, rfl⟩ := bin2_ok (show bin2 IS.whl (cT t c.sc.names m u) (cB t c.sc.names m b) = some S from h)
          simp only [vS] at hv
          obtain ⟨inv, μ, h0, hv⟩ := hv
          refine TS.whl inv μ h0 fun st1 hi => (ihT _ _ h1 _ _ (hv st1 hi)).mono fun b st2 h => fork_mono h (fun h => Does.mono (ihB _ _ h2 _ _ h) fun fl st3 h => by cases fl <;> exact h) id
      | For x it b o p => exact cFor_ok hG hn (fun B h => ihB _ _ h) h _ _ hv
      | Assign ts e p =>
        cases ts with
        | nil => cases h
        | cons x ts =>
          cases ts with
          | cons _ _ => cases h
          | nil =>
            replace h : (if noComp e then cTo t c.sc.names m x e else none) = some S := h
            split at h
            · rename_i hc
              exact cTo_ok hG hn hc h _ _ hv
            · cases h
      | AugAssign x op e p => exact cAug_ok hG hn h _ _ hv
      | _ => cases h
    · cases b with
      | nil => cases h; simp only [vS] at hv; exact TSs.nil hv
      | cons s r =>
        obtain ⟨S, R, h1, h2, rfl⟩ := bin2_ok (show bin2 IS.seq (cS t c.sc.names m s) (cB t c.sc.names m r) = some S from h)
        simp only [vS] at hv
        refine goOn_seq (Does.mono (ih _ _ h1 _ _ hv) fun fl st1 h => ?_)
        cases fl <;> first | exact h | exact ihB _ _ h2 _ _ h
end
end Mine
end
section
set_option maxRecDepth 20000
namespace Mine
/-- a def of the text's, put into the tongue -/
noncomputable def FnOk (G : Gl) (t : Tab) (f : Addr) (k e : Nat) (das : List AV) (ir : IS) : Prop :=
  ∃ names body scope qual cdv, DefAt G.K f names body scope das qual cdv ∧ cB t scope.names 60 body = some ir ∧ names.length = k ∧ scope.names.length = k + e
theorem FnOk.go {G : Gl} {t : Tab} {f : Addr} {k e : Nat} {das : List AV} {ir : IS} (F : FnOk G t f k e das ir) (hG : TabOk G t) {n : Nat} {args : List AV} {hp : List AO} {P : AV → List AO → Prop} (hn : args.length + das.length = k)
    (hv : vS G n ir ⟨(args ++ das).map some ++ List.replicate e none, hp⟩ fun fl st => P (retOf fl) st.heap) : TF G (n + 1) f args hp P := by
  obtain ⟨names, body, scope, qual, cdv, D, hc, h1, h2⟩ := F
  refine TF.of D (by omega) fun c' hn hs => ?_
  rw [show scope.names.length - names.length = e by omega]
  refine (cS_ok hG hn 60).2 _ _ ?_ _ _ hv
  rw [hs]
  exact hc
/-- an own class, and its maker -/
noncomputable def ClsOk (G : Gl) (t : Tab) (C fI : Addr) (k e : Nat) (das : List AV) (ir : IS) : Prop := NewOk G.K C fI ∧ FnOk G t fI k e das ir
theorem ClsOk.go {G : Gl} {t : Tab} {C fI : Addr} {k e : Nat} {das : List AV} {ir : IS} (F : ClsOk G t C fI k e das ir) (hG : TabOk G t) {n : Nat} {args : List AV} {hp : List AO} {P : AV → List AO → Prop} (hn : args.length + 1 + das.length = k)
    (hv : vS G n ir ⟨((.obj hp.length :: args) ++ das).map some ++ List.replicate e none, hp ++ [.inst C []]⟩ fun fl st => retOf fl = .none ∧ P (.obj hp.length) st.heap) : TF G (n + 1) C args hp P := by
  obtain ⟨W, names, body, scope, qual, cdv, D, hc, h1, h2⟩ := F
  refine TF.new W D (by omega) fun c' hn hs => ?_
  rw [show scope.names.length - names.length = e by omega]
  refine (cS_ok hG hn 60).2 _ _ ?_ _ _ hv
  rw [hs]
  exact hc
theorem TF.up {G : Gl} {n m : Nat} {f : Addr} {args : List AV} {hp : List AO} {P : AV → List AO → Prop} (h : TF G n f args hp P) (hm : n ≤ m) : TF G m f args hp P := fun c hc => h c (by omega)
end Mine
end
section
set_option maxRecDepth 20000
namespace Mine
/-- a character, or the empty text -/
noncomputable def oc : Option Nat → Str
  | some x => ⟨#[x]⟩
  | none => ⟨#[]⟩
theorem beq_str {a b : Str} : (a == b) = (a.cps.toList == b.cps.toList) := by
  rw [Bool.eq_iff_iff, beq_iff_eq, beq_iff_eq]
  constructor
  · intro h; rw [h]
  · intro h
    cases a; cases b
    simpa using h
theorem oc_one (o : Option Nat) (c : Nat) : (oc o == ⟨#[c]⟩) = (o == some c) := by
  rw [beq_str]
  cases o with
  | none => rfl
  | some x => simp [oc]
theorem oc_none (o : Option Nat) : (oc o == ⟨#[]⟩) = o.isNone := by
  rw [beq_str]
  cases o <;> simp [oc]
theorem indices_clip (i j n : Nat) : Builtin.Str.strSliceIndices (some (i : Int)) (some (j : Int)) 1 n = Builtin.Str.strSliceIndices (some ((min i n : Nat) : Int)) (some ((min j n : Nat) : Int)) 1 n := by
  have a : ∀ k : Nat, max (0 : Int) (min (if (k : Int) < 0 then (k : Int) + (n : Int) else (k : Int)) (n : Int)) = max (0 : Int) (min (if ((min k n : Nat) : Int) < 0 then ((min k n : Nat) : Int) + (n : Int) else ((min k n : Nat) : Int)) (n : Int)) := by
    intro k
    rw [if_neg (by omega), if_neg (by omega)]
    omega
  simp only [Builtin.Str.strSliceIndices, show (1 : Int) > 0 by decide, if_true, a i, a j]
theorem slice_nat (x : Str) (i j : Nat) (h : i ≤ j) : Txt.slice x (some (i : Int)) (some (j : Int)) = ⟨((x.cps.toList.drop i).take (j - i)).toArray⟩ := by
  have e : Txt.slice x (some (i : Int)) (some (j : Int)) = Txt.slice x (some ((min i x.length : Nat) : Int)) (some ((min j x.length : Nat) : Int)) := by
    unfold Txt.slice
    rw [indices_clip]
  rw [e, beq_iff_eq.mp (slice_closes (x := x) (i := ((min i x.length : Nat) : Int)) (j := ((min j x.length : Nat) : Int)) ⟨by omega, by omega, by show _ ≤ ((x.cps.toList.length : Nat) : Int); simp [Str.length]; omega⟩)]
  have hl : x.length = x.cps.toList.length := by simp [Str.length]
  rw [hl]
  congr 2
  generalize x.cps.toList = l
  rw [show ((min i l.length : Nat) : Int).toNat = min i l.length by omega, show (((min j l.length : Nat) : Int) - ((min i l.length : Nat) : Int)).toNat = min j l.length - min i l.length by omega]
  by_cases hi : i ≤ l.length
  · rw [Nat.min_eq_left hi]
    by_cases hj : j ≤ l.length
    · rw [Nat.min_eq_left hj]
    · rw [Nat.min_eq_right (by omega), List.take_of_length_le (by simp), List.take_of_length_le (by simp; omega)]
  · rw [List.drop_eq_nil_of_le (by omega), List.drop_eq_nil_of_le (as := l) (i := i) (by omega)]
    simp
theorem slice_one (x : Str) (i : Nat) : Txt.slice x (some (i : Int)) (some ((i : Int) + 1)) = oc x.cps.toList[i]? := by
  have := slice_nat x i (i + 1) (by omega)
  rw [show (((i + 1 : Nat)) : Int) = (i : Int) + 1 by omega] at this
  rw [this, show i + 1 - i = 1 by omega]
  cases h : x.cps.toList[i]? with
  | none => rw [List.drop_eq_nil_of_le (List.getElem?_eq_none_iff.mp h)]; rfl
  | some y =>
    have hlt := (List.getElem?_eq_some_iff.mp h).1
    rw [List.drop_eq_getElem_cons hlt, (List.getElem?_eq_some_iff.mp h).2]
    rfl
end Mine
end
section
set_option maxRecDepth 20000
namespace Mine
noncomputable def aToken : Addr := 38
noncomputable def aKeywords : Addr := 49
noncomputable def aIsLetter : Addr := 56
noncomputable def aIsDigit : Addr := 63
noncomputable def aIsHexDigit : Addr := 70
noncomputable def aDigitsValue : Addr := 77
noncomputable def aScanner : Addr := 186
noncomputable def aErrorList : Addr := 228
noncomputable def aPool : Addr := 239
noncomputable def aPick : Addr := 246
noncomputable def aChar : Addr := 99
noncomputable def aTake : Addr := 106
noncomputable def aSkip : Addr := 113
noncomputable def aRemark : Addr := 120
noncomputable def aWord : Addr := 127
noncomputable def aNumeral : Addr := 134
noncomputable def aWhole : Addr := 141
noncomputable def aHexadecimal : Addr := 148
noncomputable def aCharacter : Addr := 155
noncomputable def aReal : Addr := 162
noncomputable def aSkipDigits : Addr := 169
noncomputable def aString : Addr := 176
noncomputable def aSymbol : Addr := 183
noncomputable def aMark : Addr := 211
-- [k]
noncomputable def ir__wall : IS := (.seq (.whl (.pl (.bool true)) (.seq .skip
  .skip))
  .skip)
-- [self, kind, value, place]
noncomputable def ir_Token___init__ : IS := (.seq (.setA (.loc 0) 4 (.loc 1))
  (.seq (.setA (.loc 0) 5 (.loc 2))
  (.seq (.setA (.loc 0) 2 (.loc 3))
  .skip)))
-- []
noncomputable def ir_keywords : IS := (.seq (.ret (.tup (.cons (.str "ARRAY") (.cons (.str "BEGIN") (.cons (.str "BY") (.cons (.str "CASE") (.cons (.str "CONST") (.cons (.str "DIV") (.cons (.str "DO") (.cons (.str "ELSE") (.cons (.str "ELSIF") (.cons (.str "END") (.cons (.str "FOR") (.cons (.str "IF") (.cons (.str "IMPORT") (.cons (.str "IN") (.cons (.str "IS") (.cons (.str "MOD") (.cons (.str "MODULE") (.cons (.str "NIL") (.cons (.str "OF") (.cons (.str "OR") (.cons (.str "POINTER") (.cons (.str "PROCEDURE") (.cons (.str "RECORD") (.cons (.str "REPEAT") (.cons (.str "RETURN") (.cons (.str "THEN") (.cons (.str "TO") (.cons (.str "TYPE") (.cons (.str "UNTIL") (.cons (.str "VAR") (.cons (.str "WHILE") .nil)))))))))))))))))))))))))))))))))
  .skip)
-- [char]
noncomputable def ir_is_letter : IS := (.seq (.ret (.or (.and (.cmp .LtE (.str "a") (.loc 0)) (.cmp .LtE (.loc 0) (.str "z"))) (.and (.cmp .LtE (.str "A") (.loc 0)) (.cmp .LtE (.loc 0) (.str "Z")))))
  .skip)
-- [char]
noncomputable def ir_is_digit : IS := (.seq (.ret (.and (.cmp .LtE (.str "0") (.loc 0)) (.cmp .LtE (.loc 0) (.str "9"))))
  .skip)
-- [char, is_digit]
noncomputable def ir_is_hex_digit : IS := (.seq (.ret (.or (.call aIsDigit (.cons (.loc 0) .nil)) (.and (.cmp .LtE (.str "A") (.loc 0)) (.cmp .LtE (.loc 0) (.str "F")))))
  .skip)
-- [digits, base, most, value, digit]
noncomputable def ir_digits_value : IS := (.seq (.set 3 (.int 0))
  (.seq (.forS 4 (.loc 0) (.seq (.set 3 (.bin .Add (.bin .Mult (.loc 3) (.loc 1)) (.find (.str "0123456789ABCDEF") (.loc 4))))
  (.seq (.ife (.cmp .Gt (.loc 3) (.loc 2)) (.seq (.ret (.bin .Add (.loc 2) (.int 1)))
  .skip) .skip)
  .skip)))
  (.seq (.ret (.loc 3))
  .skip)))
-- [self, source, errors, keywords]
noncomputable def ir_Scanner___init__ : IS := (.seq (.setA (.loc 0) 0 (.loc 1))
  (.seq (.setA (.loc 0) 1 (.loc 2))
  (.seq (.setA (.loc 0) 2 (.int 0))
  (.seq (.setA (.loc 0) 3 (.call aKeywords .nil))
  .skip))))
-- [self, ahead]
noncomputable def ir_Scanner_char : IS := (.seq (.ret (.slc (.attr 0 0) (.bin .Add (.attr 0 2) (.loc 1)) (.bin .Add (.bin .Add (.attr 0 2) (.loc 1)) (.int 1))))
  .skip)
-- [self, begun, char, symbol, Token, is_letter, is_digit, len]
noncomputable def ir_Scanner_take : IS := (.seq (.whl (.pl (.bool true)) (.seq (.exp (.meth aScanner aSkip (.loc 0) .nil))
  (.seq (.set 1 (.attr 0 2))
  (.seq (.set 2 (.meth aScanner aChar (.loc 0) .nil))
  (.seq (.ife (.cmp .Eq (.loc 2) (.str "")) (.seq (.ret (.call aToken (.cons (.str "eof") (.cons (.str "") (.cons (.loc 1) .nil)))))
  .skip) .skip)
  (.seq (.ife (.pl (.call aIsLetter (.cons (.loc 2) .nil))) (.seq (.ret (.meth aScanner aWord (.loc 0) (.cons (.loc 1) .nil)))
  .skip) .skip)
  (.seq (.ife (.pl (.call aIsDigit (.cons (.loc 2) .nil))) (.seq (.ret (.meth aScanner aNumeral (.loc 0) (.cons (.loc 1) .nil)))
  .skip) .skip)
  (.seq (.ife (.cmp .Eq (.loc 2) (.str "\"")) (.seq (.ret (.meth aScanner aString (.loc 0) (.cons (.loc 1) .nil)))
  .skip) .skip)
  (.seq (.set 3 (.meth aScanner aSymbol (.loc 0) .nil))
  (.seq (.ife (.cmp .NotEq (.loc 3) (.str "")) (.seq (.setA (.loc 0) 2 (.bin .Add (.loc 1) (.len (.loc 3))))
  (.seq (.ret (.call aToken (.cons (.loc 3) (.cons (.str "") (.cons (.loc 1) .nil)))))
  .skip)) .skip)
  (.seq (.exp (.meth aErrorList aMark (.attr 0 1) (.cons (.loc 1) (.cons (.str "bad_character") .nil))))
  (.seq (.setA (.loc 0) 2 (.bin .Add (.loc 1) (.int 1)))
  .skip))))))))))))
  .skip)
-- [self, char, ord]
noncomputable def ir_Scanner_skip : IS := (.seq (.whl (.pl (.bool true)) (.seq (.set 1 (.meth aScanner aChar (.loc 0) .nil))
  (.seq (.ife (.and (.cmp .Eq (.loc 1) (.str "(")) (.cmp .Eq (.meth aScanner aChar (.loc 0) (.cons (.int 1) .nil)) (.str "*"))) (.seq (.exp (.meth aScanner aRemark (.loc 0) .nil))
  .skip) (.seq (.ife (.and (.cmp .NotEq (.loc 1) (.str "")) (.cmp .LtE (.ord (.loc 1)) (.int 32))) (.seq (.setA (.loc 0) 2 (.bin .Add (.attr 0 2) (.int 1)))
  .skip) (.seq (.ret .none)
  .skip))
  .skip))
  .skip)))
  .skip)
-- [self, begun, depth, pair]
noncomputable def ir_Scanner_remark : IS := (.seq (.set 1 (.attr 0 2))
  (.seq (.set 2 (.int 1))
  (.seq (.setA (.loc 0) 2 (.bin .Add (.loc 1) (.int 2)))
  (.seq (.whl (.cmp .Gt (.loc 2) (.int 0)) (.seq (.set 3 (.bin .Add (.meth aScanner aChar (.loc 0) .nil) (.meth aScanner aChar (.loc 0) (.cons (.int 1) .nil))))
  (.seq (.ife (.cmp .Eq (.loc 3) (.str "")) (.seq (.exp (.meth aErrorList aMark (.attr 0 1) (.cons (.loc 1) (.cons (.str "unfinished_comment") .nil))))
  (.seq (.ret .none)
  .skip)) .skip)
  (.seq (.ife (.cmp .Eq (.loc 3) (.str "(*")) (.seq (.set 2 (.bin .Add (.loc 2) (.int 1)))
  (.seq (.setA (.loc 0) 2 (.bin .Add (.attr 0 2) (.int 2)))
  .skip)) (.seq (.ife (.cmp .Eq (.loc 3) (.str "*)")) (.seq (.set 2 (.bin .Sub (.loc 2) (.int 1)))
  (.seq (.setA (.loc 0) 2 (.bin .Add (.attr 0 2) (.int 2)))
  .skip)) (.seq (.setA (.loc 0) 2 (.bin .Add (.attr 0 2) (.int 1)))
  .skip))
  .skip))
  .skip))))
  .skip))))
-- [self, begun, end, name, is_letter, is_digit, Token]
noncomputable def ir_Scanner_word : IS := (.seq (.set 2 (.loc 1))
  (.seq (.whl (.or (.pl (.call aIsLetter (.cons (.slc (.attr 0 0) (.loc 2) (.bin .Add (.loc 2) (.int 1))) .nil))) (.pl (.call aIsDigit (.cons (.slc (.attr 0 0) (.loc 2) (.bin .Add (.loc 2) (.int 1))) .nil)))) (.seq (.set 2 (.bin .Add (.loc 2) (.int 1)))
  .skip))
  (.seq (.setA (.loc 0) 2 (.loc 2))
  (.seq (.set 3 (.slc (.attr 0 0) (.loc 1) (.loc 2)))
  (.seq (.ife (.cmp .In (.loc 3) (.attr 0 3)) (.seq (.ret (.call aToken (.cons (.loc 3) (.cons (.str "") (.cons (.loc 1) .nil)))))
  .skip) .skip)
  (.seq (.ret (.call aToken (.cons (.str "ident") (.cons (.loc 3) (.cons (.loc 1) .nil)))))
  .skip))))))
-- [self, begun, end, digits, ending, value, is_hex_digit, is_digit, digits_value, MOST_INTEGER]
noncomputable def ir_Scanner_numeral : IS := (.seq (.set 2 (.loc 1))
  (.seq (.whl (.pl (.call aIsHexDigit (.cons (.slc (.attr 0 0) (.loc 2) (.bin .Add (.loc 2) (.int 1))) .nil))) (.seq (.set 2 (.bin .Add (.loc 2) (.int 1)))
  .skip))
  (.seq (.set 3 (.slc (.attr 0 0) (.loc 1) (.loc 2)))
  (.seq (.set 4 (.slc (.attr 0 0) (.loc 2) (.bin .Add (.loc 2) (.int 1))))
  (.seq (.ife (.or (.cmp .Eq (.loc 4) (.str "H")) (.cmp .Eq (.loc 4) (.str "X"))) (.seq (.setA (.loc 0) 2 (.bin .Add (.loc 2) (.int 1)))
  (.seq (.ife (.cmp .Eq (.loc 4) (.str "H")) (.seq (.ret (.meth aScanner aHexadecimal (.loc 0) (.cons (.loc 1) (.cons (.loc 3) .nil))))
  .skip) .skip)
  (.seq (.ret (.meth aScanner aCharacter (.loc 0) (.cons (.loc 1) (.cons (.loc 3) .nil))))
  .skip))) .skip)
  (.seq (.set 2 (.loc 1))
  (.seq (.whl (.pl (.call aIsDigit (.cons (.slc (.attr 0 0) (.loc 2) (.bin .Add (.loc 2) (.int 1))) .nil))) (.seq (.set 2 (.bin .Add (.loc 2) (.int 1)))
  .skip))
  (.seq (.setA (.loc 0) 2 (.loc 2))
  (.seq (.ife (.and (.cmp .Eq (.meth aScanner aChar (.loc 0) .nil) (.str ".")) (.cmp .NotEq (.meth aScanner aChar (.loc 0) (.cons (.int 1) .nil)) (.str "."))) (.seq (.ret (.meth aScanner aReal (.loc 0) (.cons (.loc 1) .nil)))
  .skip) .skip)
  (.seq (.set 5 (.call aDigitsValue (.cons (.slc (.attr 0 0) (.loc 1) (.loc 2)) (.cons (.int 10) (.cons (.int 2147483647) .nil)))))
  (.seq (.ret (.meth aScanner aWhole (.loc 0) (.cons (.loc 1) (.cons (.loc 5) (.cons (.int 2147483647) .nil)))))
  .skip)))))))))))
-- [self, begun, value, most, Token]
noncomputable def ir_Scanner_whole : IS := (.seq (.ife (.cmp .Gt (.loc 2) (.loc 3)) (.seq (.exp (.meth aErrorList aMark (.attr 0 1) (.cons (.loc 1) (.cons (.str "number_too_large") .nil))))
  (.seq (.set 2 (.int 0))
  .skip)) .skip)
  (.seq (.ret (.call aToken (.cons (.str "int") (.cons (.loc 2) (.cons (.loc 1) .nil)))))
  .skip))
-- [self, begun, digits, token, digits_value, MOST_WORD, MOST_INTEGER]
noncomputable def ir_Scanner_hexadecimal : IS := (.seq (.set 3 (.meth aScanner aWhole (.loc 0) (.cons (.loc 1) (.cons (.call aDigitsValue (.cons (.loc 2) (.cons (.int 16) (.cons (.int 4294967295) .nil)))) (.cons (.int 4294967295) .nil)))))
  (.seq (.ife (.cmp .Gt (.attr 3 5) (.int 2147483647)) (.seq (.setA (.loc 3) 5 (.bin .Sub (.bin .Sub (.attr 3 5) (.int 4294967295)) (.int 1)))
  .skip) .skip)
  (.seq (.ret (.loc 3))
  .skip)))
-- [self, begun, digits, value, digits_value, Token, chr]
noncomputable def ir_Scanner_character : IS := (.seq (.set 3 (.call aDigitsValue (.cons (.loc 2) (.cons (.int 16) (.cons (.int 255) .nil)))))
  (.seq (.ife (.cmp .Gt (.loc 3) (.int 255)) (.seq (.exp (.meth aErrorList aMark (.attr 0 1) (.cons (.loc 1) (.cons (.str "bad_char") .nil))))
  (.seq (.set 3 (.int 0))
  .skip)) .skip)
  (.seq (.ret (.call aToken (.cons (.str "string") (.cons (.chr (.loc 3)) (.cons (.loc 1) .nil)))))
  .skip)))
-- [self, begun, sign, is_digit, Token]
noncomputable def ir_Scanner_real : IS := (.seq (.exp (.meth aErrorList aMark (.attr 0 1) (.cons (.loc 1) (.cons (.str "reals_left_out") .nil))))
  (.seq (.setA (.loc 0) 2 (.bin .Add (.attr 0 2) (.int 1)))
  (.seq (.exp (.meth aScanner aSkipDigits (.loc 0) .nil))
  (.seq (.ife (.cmp .Eq (.meth aScanner aChar (.loc 0) .nil) (.str "E")) (.seq (.set 2 (.int 0))
  (.seq (.ife (.or (.cmp .Eq (.meth aScanner aChar (.loc 0) (.cons (.int 1) .nil)) (.str "+")) (.cmp .Eq (.meth aScanner aChar (.loc 0) (.cons (.int 1) .nil)) (.str "-"))) (.seq (.set 2 (.int 1))
  .skip) .skip)
  (.seq (.ife (.pl (.call aIsDigit (.cons (.meth aScanner aChar (.loc 0) (.cons (.bin .Add (.int 1) (.loc 2)) .nil)) .nil))) (.seq (.setA (.loc 0) 2 (.bin .Add (.bin .Add (.attr 0 2) (.int 1)) (.loc 2)))
  (.seq (.exp (.meth aScanner aSkipDigits (.loc 0) .nil))
  .skip)) .skip)
  .skip))) .skip)
  (.seq (.ret (.call aToken (.cons (.str "int") (.cons (.int 0) (.cons (.loc 1) .nil)))))
  .skip)))))
-- [self, is_digit]
noncomputable def ir_Scanner_skip_digits : IS := (.seq (.whl (.pl (.call aIsDigit (.cons (.meth aScanner aChar (.loc 0) .nil) .nil))) (.seq (.setA (.loc 0) 2 (.bin .Add (.attr 0 2) (.int 1)))
  .skip))
  .skip)
-- [self, begun, chars, char, Token, ord]
noncomputable def ir_Scanner_string : IS := (.seq (.set 2 (.newL .nil))
  (.seq (.setA (.loc 0) 2 (.bin .Add (.loc 1) (.int 1)))
  (.seq (.whl (.cmp .NotEq (.meth aScanner aChar (.loc 0) .nil) (.str "\"")) (.seq (.set 3 (.meth aScanner aChar (.loc 0) .nil))
  (.seq (.ife (.or (.cmp .Eq (.loc 3) (.str "")) (.cmp .Eq (.loc 3) (.str "\n"))) (.seq (.exp (.meth aErrorList aMark (.attr 0 1) (.cons (.loc 1) (.cons (.str "unfinished_string") .nil))))
  (.seq (.ret (.call aToken (.cons (.str "string") (.cons (.join (.str "") (.loc 2)) (.cons (.loc 1) .nil)))))
  .skip)) .skip)
  (.seq (.ife (.cmp .Gt (.ord (.loc 3)) (.int 255)) (.seq (.exp (.meth aErrorList aMark (.attr 0 1) (.cons (.attr 0 2) (.cons (.str "bad_character") .nil))))
  .skip) (.seq (.exp (.app (.loc 2) (.loc 3)))
  .skip))
  (.seq (.setA (.loc 0) 2 (.bin .Add (.attr 0 2) (.int 1)))
  .skip)))))
  (.seq (.setA (.loc 0) 2 (.bin .Add (.attr 0 2) (.int 1)))
  (.seq (.ret (.call aToken (.cons (.str "string") (.cons (.join (.str "") (.loc 2)) (.cons (.loc 1) .nil)))))
  .skip)))))
-- [self, pair]
noncomputable def ir_Scanner_symbol : IS := (.seq (.set 1 (.bin .Add (.meth aScanner aChar (.loc 0) .nil) (.meth aScanner aChar (.loc 0) (.cons (.int 1) .nil))))
  (.seq (.ife (.cmp .In (.loc 1) (.tup (.cons (.str ":=") (.cons (.str "<=") (.cons (.str ">=") (.cons (.str "..") .nil)))))) (.seq (.ret (.loc 1))
  .skip) .skip)
  (.seq (.ife (.cmp .In (.meth aScanner aChar (.loc 0) .nil) (.str "+-*/~&.,;|([{^=#<>:)]}")) (.seq (.ret (.meth aScanner aChar (.loc 0) .nil))
  .skip) .skip)
  (.seq (.ret (.str ""))
  .skip))))
-- [self]
noncomputable def ir_ErrorList___init__ : IS := (.seq (.setA (.loc 0) 6 (.newL .nil))
  (.seq (.setA (.loc 0) 7 .newD)
  .skip))
-- [self, place, code]
noncomputable def ir_ErrorList_mark : IS := (.seq (.ife (.cmp .NotIn (.loc 1) (.attr 0 7)) (.seq (.setI (.attr 0 7) (.loc 1) (.loc 2))
  (.seq (.exp (.app (.attr 0 6) (.tup (.cons (.loc 1) (.cons (.loc 2) .nil)))))
  .skip)) .skip)
  .skip)
-- [script, figures, mix, cell, big, rest, step, int, abs, range, len]
noncomputable def ir__law_pool : IS := (.seq (.set 1 (.newL .nil))
  (.seq (.set 2 (.int 5))
  (.seq (.forL 3 (.upto 0 (.int 40)) (.seq (.set 4 (.toInt (.loc 3)))
  (.seq (.set 2 (.bin .Mod (.bin .Add (.bin .Mult (.loc 2) (.int 31)) (.loc 4)) (.int 1009)))
  (.seq (.set 5 (.abs (.loc 4)))
  (.seq (.forR 6 (.int 60) (.seq (.exp (.app (.loc 1) (.bin .Mod (.loc 5) (.int 840))))
  (.seq (.aug 5 .FloorDiv (.int 840))
  (.seq (.ife (.cmp .Eq (.loc 5) (.int 0)) (.seq .brk
  .skip) .skip)
  .skip))))
  (.seq (.ife (.cmp .Gt (.len (.loc 1)) (.int 400)) (.seq .brk
  .skip) .skip)
  .skip))))))
  (.seq (.ret (.newL (.cons (.loc 1) (.cons (.int 0) (.cons (.loc 2) .nil)))))
  .skip))))
-- [pool, bound_x, figure, len]
noncomputable def ir__law_pick : IS := (.seq (.ife (.cmp .Lt (.idx (.loc 0) (.int 1)) (.len (.idx (.loc 0) (.int 0)))) (.seq (.set 2 (.idx (.idx (.loc 0) (.int 0)) (.idx (.loc 0) (.int 1))))
  (.seq (.augI (.loc 0) (.int 1) .Add (.int 1))
  .skip)) (.seq (.ife (.cmp .Lt (.len (.idx (.loc 0) (.int 0))) (.int 3)) (.seq (.set 2 (.int 0))
  .skip) (.seq (.setI (.loc 0) (.int 2) (.bin .Mod (.bin .Add (.bin .Mult (.idx (.loc 0) (.int 2)) (.int 37)) (.int 11)) (.int 1009)))
  (.seq (.set 2 (.idx (.loc 0) (.int 2)))
  .skip)))
  .skip))
  (.seq (.ret (.bin .Mod (.loc 2) (.loc 1)))
  .skip))
-- [script, pool, ending, count, figures, row, step, behind, follows, total, figure, most, code, front, errors, scanner, token, wanted, _law_pool, _law_pick, range, ErrorList, Scanner, chr, len]
noncomputable def ir_law : IS := (.seq (.set 1 (.call aPool (.cons (.loc 0) .nil)))
  (.seq (.set 2 (.idx (.lst (.cons (.str "") (.cons (.str "H") (.cons (.str "X") .nil)))) (.call aPick (.cons (.loc 1) (.cons (.int 3) .nil)))))
  (.seq (.set 3 (.bin .Add (.int 1) (.call aPick (.cons (.loc 1) (.cons (.int 12) .nil)))))
  (.seq (.set 4 (.str "0123456789ABCDEF"))
  (.seq (.set 5 (.idx (.loc 4) (.call aPick (.cons (.loc 1) (.cons (.int 10) .nil)))))
  (.seq (.forR 6 (.bin .Sub (.loc 3) (.int 1)) (.seq (.aug 5 .Add (.idx (.loc 4) (.call aPick (.cons (.loc 1) (.cons (.ite (.cmp .NotEq (.loc 2) (.str "")) (.int 16) (.int 10)) .nil)))))
  .skip))
  (.seq (.many [7, 8] (.idx (.lst (.cons (.tup (.cons (.str "") (.cons (.str "eof") .nil))) (.cons (.tup (.cons (.str " H") (.cons (.str "ident") .nil))) (.cons (.tup (.cons (.str "..") (.cons (.str "..") .nil))) (.cons (.tup (.cons (.str "ELSE") (.cons (.str "ELSE") .nil))) (.cons (.tup (.cons (.str ";") (.cons (.str ";") .nil))) (.cons (.tup (.cons (.str "G1") (.cons (.str "ident") .nil))) (.cons (.tup (.cons (.str "x") (.cons (.str "ident") .nil))) .nil)))))))) (.call aPick (.cons (.loc 1) (.cons (.int 7) .nil)))))
  (.seq (.set 9 (.int 0))
  (.seq (.forS 10 (.loc 5) (.seq (.set 9 (.bin .Add (.bin .Mult (.loc 9) (.ite (.cmp .NotEq (.loc 2) (.str "")) (.int 16) (.int 10))) (.index (.loc 4) (.loc 10))))
  .skip))
  (.seq (.set 11 (.tab "" "H" "X" (.bin .Sub (.bin .Pow (.int 2) (.int 31)) (.int 1)) (.bin .Sub (.bin .Pow (.int 2) (.int 32)) (.int 1)) (.int 255) (.loc 2)))
  (.seq (.set 12 (.str ""))
  (.seq (.ife (.cmp .Gt (.loc 9) (.loc 11)) (.seq (.set 12 (.ite (.cmp .Eq (.loc 2) (.str "X")) (.str "bad_char") (.str "number_too_large")))
  (.seq (.set 9 (.int 0))
  .skip)) .skip)
  (.seq (.ife (.and (.cmp .Eq (.loc 2) (.str "H")) (.cmp .GtE (.loc 9) (.bin .Pow (.int 2) (.int 31)))) (.seq (.aug 9 .Sub (.bin .Pow (.int 2) (.int 32)))
  .skip) .skip)
  (.seq (.set 13 (.bin .Mult (.str " ") (.call aPick (.cons (.loc 1) (.cons (.int 4) .nil)))))
  (.seq (.set 14 (.call aErrorList .nil))
  (.seq (.set 15 (.call aScanner (.cons (.bin .Add (.bin .Add (.bin .Add (.loc 13) (.loc 5)) (.loc 2)) (.loc 7)) (.cons (.loc 14) .nil))))
  (.seq (.set 16 (.meth aScanner aTake (.loc 15) .nil))
  (.seq (.set 17 (.ite (.cmp .Eq (.loc 2) (.str "X")) (.tup (.cons (.str "string") (.cons (.chr (.loc 9)) .nil))) (.tup (.cons (.str "int") (.cons (.loc 9) .nil)))))
  (.seq (.ife (.cmp .NotEq (.tup (.cons (.attr 16 4) (.cons (.attr 16 5) (.cons (.attr 16 2) .nil)))) (.tadd (.loc 17) (.tup (.cons (.len (.loc 13)) .nil)))) (.seq (.ret (.bool false))
  .skip) .skip)
  (.seq (.ife (.cmp .NotEq (.attr 14 6) (.ite (.cmp .NotEq (.loc 12) (.str "")) (.lst (.cons (.tup (.cons (.len (.loc 13)) (.cons (.loc 12) .nil))) .nil)) (.lst .nil))) (.seq (.ret (.bool false))
  .skip) .skip)
  (.seq (.set 16 (.meth aScanner aTake (.loc 15) .nil))
  (.seq (.ret (.and (.cmp .Eq (.attr 16 4) (.loc 8)) (.cmp .Eq (.attr 16 2) (.bin .Add (.len (.bin .Add (.bin .Add (.loc 13) (.loc 5)) (.loc 2))) (.ite (.cmp .Eq (.loc 7) (.str " H")) (.int 1) (.int 0))))))
  .skip))))))))))))))))))))))
end Mine
end
section
set_option maxRecDepth 100000
namespace Mine
noncomputable def de (P : Params) (k : Str) (t : Tok) (v : Value) : DictEntry := ⟨PyData.keyHash P k, .str k t, v⟩
noncomputable def dcto (es : List DictEntry) (n : Nat) : Obj := { cls := .type "dict", data := .dict es.toArray n }
noncomputable def tpo (vs : List Value) (n : Nat) : Obj := { cls := .type "tuple", data := .seq vs.toArray n }
noncomputable def cdo (vs : List Value) : Obj := { cls := .type "code", data := .fields vs.toArray }
noncomputable def clo (name : Str) (a ns : Addr) (sl : List (Option Value)) : Obj := { cls := .type "type", data := .cls { name := name, bases := [.type "object"], mro := [.ref a, .type "object"], ns := ns, qualname := name }, slots := sl.toArray }
noncomputable def fno (st : Stmt) (q : Str) (dV kV pm cd : Value) : Obj := match st with
  | .FunctionDef n params body _ _ _ scope _ _ _ => { cls := .type "function", data := .func { name := n, qualname := q, params := params, body := .stmts body, scope := scope, globals := mainGlobals, closure := [], defaults := dV, kwdefaults := kV, pyModule := pm, code := cd } }
  | _ => { cls := .none }
noncomputable def prm : Stmt → Arguments
  | .FunctionDef _ p _ _ _ _ _ _ _ _ => p
  | _ => default
noncomputable def bdy : Stmt → List Stmt
  | .FunctionDef _ _ b _ _ _ _ _ _ _ => b
  | _ => []
noncomputable def scp : Stmt → Scope
  | .FunctionDef _ _ _ _ _ _ s _ _ _ => s
  | _ => default
noncomputable def nmo : Stmt → Str
  | .FunctionDef n _ _ _ _ _ _ _ _ _ => n
  | _ => default
noncomputable def isDef : Stmt → Bool
  | .FunctionDef .. => true
  | _ => false
theorem fno_eq {st : Stmt} (h : isDef st = true) (q : Str) (dV kV pm cd : Value) : fno st q dV kV pm cd = ⟨.type "function", none, .func (fnOf (nmo st) q (prm st) (bdy st) (scp st) dV kV .none pm none cd .none), #[]⟩ := by
  cases st <;> first | rfl | cases h
noncomputable def scpOk (names : List Str) (sc : Scope) (k e : Nat) : Bool :=
  decide (sc.names.take names.length = names.map fun x => (x, NameKind.local)) && decide ((sc.names.map (·.1)).Nodup) && !sc.isCoroutine && !sc.isGenerator && decide (sc.kind = .function) && sc.names.all (fun x => decide (x.2 ≠ .cell)) && decide (names.length = k) && decide (sc.names.length = k + e)
theorem fnOk_of {G : Gl} {t : Tab} {f : Addr} {k e : Nat} {das : List AV} {ir : IS} {st : Stmt} {q : Str} {dV pm cd : Value} (names : List Str) (hl : G.K.lookup f = some (fno st q dV .none pm cd)) (hd : isDef st = true) (dvs : List Value) (hdas : ∀ hb ρ N, RVs hb ρ N das dvs)
    (hb : ∀ (s : Shared), G.K.In s.heap → ∀ vs : List Value, vs.length + das.length = names.length → BindsTo s (fnOf (nmo st) q (prm st) (bdy st) (scp st) dV .none .none pm none cd .none) ⟨vs, []⟩ (names.zip (vs ++ dvs)))
    (hc : codeIn G.K cd q = true) (hs : scpOk names (scp st) k e = true) (hi : cB t (scp st).names 60 (bdy st) = some ir) : FnOk G t f k e das ir := by
  unfold scpOk at hs
  simp only [Bool.and_eq_true, decide_eq_true_eq, Bool.not_eq_true', List.all_eq_true] at hs
  obtain ⟨⟨⟨⟨⟨⟨⟨h1, h2⟩, h3⟩, h4⟩, h5⟩, h6⟩, h7⟩, h8⟩ := hs
  exact ⟨names, bdy st, scp st, q, cd, ⟨⟨_, _, _, _, _, _, _, _, _, _, _, dvs, by rw [hl, fno_eq hd], hdas, hb⟩, hc, h1, h2, h3, h4, h5, h6⟩, hi, h7, h8⟩
section
variable {K : Frag} {fd : FuncData} {names : List Str}
theorem bnd0 (hn : names.length = 0) (h : bindArgs fd ⟨[], []⟩ = pure (names.zip [])) : ∀ (s : Shared), K.In s.heap → ∀ vs : List Value, vs.length + ([] : List AV).length = names.length → BindsTo s fd ⟨vs, []⟩ (names.zip (vs ++ [])) := by
  intro s _ vs hv
  match vs, hv with
  | [], _ => exact .of_eq h
  | _ :: _, hv => simp [hn] at hv
theorem bnd1 (hn : names.length = 1) (h : ∀ a, bindArgs fd ⟨[a], []⟩ = pure (names.zip [a])) : ∀ (s : Shared), K.In s.heap → ∀ vs : List Value, vs.length + ([] : List AV).length = names.length → BindsTo s fd ⟨vs, []⟩ (names.zip (vs ++ [])) := by
  intro s _ vs hv
  match vs, hv with
  | [a], _ => exact .of_eq (h a)
  | [], hv => simp [hn] at hv
  | _ :: _ :: _, hv => simp [hn] at hv
theorem bnd2 (hn : names.length = 2) (h : ∀ a b, bindArgs fd ⟨[a, b], []⟩ = pure (names.zip [a, b])) : ∀ (s : Shared), K.In s.heap → ∀ vs : List Value, vs.length + ([] : List AV).length = names.length → BindsTo s fd ⟨vs, []⟩ (names.zip (vs ++ [])) := by
  intro s _ vs hv
  match vs, hv with
  | [a, b], _ => exact .of_eq (h a b)
  | [], hv => simp [hn] at hv
  | [_], hv => simp [hn] at hv
  | _ :: _ :: _ :: _, hv => simp [hn] at hv
theorem bnd3 (hn : names.length = 3) (h : ∀ a b d, bindArgs fd ⟨[a, b, d], []⟩ = pure (names.zip [a, b, d])) : ∀ (s : Shared), K.In s.heap → ∀ vs : List Value, vs.length + ([] : List AV).length = names.length → BindsTo s fd ⟨vs, []⟩ (names.zip (vs ++ [])) := by
  intro s _ vs hv
  match vs, hv with
  | [a, b, d], _ => exact .of_eq (h a b d)
  | [], hv => simp [hn] at hv
  | [_], hv => simp [hn] at hv
  | [_, _], hv => simp [hn] at hv
  | _ :: _ :: _ :: _ :: _, hv => simp [hn] at hv
theorem bnd4 (hn : names.length = 4) (h : ∀ a b d e, bindArgs fd ⟨[a, b, d, e], []⟩ = pure (names.zip [a, b, d, e])) : ∀ (s : Shared), K.In s.heap → ∀ vs : List Value, vs.length + ([] : List AV).length = names.length → BindsTo s fd ⟨vs, []⟩ (names.zip (vs ++ [])) := by
  intro s _ vs hv
  match vs, hv with
  | [a, b, d, e], _ => exact .of_eq (h a b d e)
  | [], hv => simp [hn] at hv
  | [_], hv => simp [hn] at hv
  | [_, _], hv => simp [hn] at hv
  | [_, _, _], hv => simp [hn] at hv
  | _ :: _ :: _ :: _ :: _ :: _, hv => simp [hn] at hv
theorem bndD {x : AV} {xv : Value} (hn : names.length = 2) (h : ∀ a S, peek K S (bindArgs fd ⟨[a], []⟩) = some (names.zip [a, xv])) : ∀ (s : Shared), K.In s.heap → ∀ vs : List Value, vs.length + ([x] : List AV).length = names.length → BindsTo s fd ⟨vs, []⟩ (names.zip (vs ++ [xv])) := by
  intro s X vs hv
  match vs, hv with
  | [a], _ => exact kp_binds X (h a)
  | [], hv => simp [hn] at hv
  | _ :: _ :: _, hv => simp [hn] at hv
/-- the default left out or given -/
theorem bndE (hn : names.length = 2) (h : ∀ a b S, peek K S (bindArgs fd ⟨[a, b], []⟩) = some (names.zip [a, b])) : ∀ (s : Shared), K.In s.heap → ∀ vs : List Value, vs.length + ([] : List AV).length = names.length → BindsTo s fd ⟨vs, []⟩ (names.zip (vs ++ [])) := by
  intro s X vs hv
  match vs, hv with
  | [a, b], _ => exact kp_binds X (h a b)
  | [], hv => simp [hn] at hv
  | [_], hv => simp [hn] at hv
  | _ :: _ :: _ :: _, hv => simp [hn] at hv
end
end Mine
end
section
set_option maxRecDepth 100000
namespace Mine
noncomputable def pw : Program := PySem.Challenge.pw_nu0329_02
noncomputable def stAt (i : Nat) : Stmt := (pw.main.body[i]?).getD (.Pass default)
noncomputable def inAt (i j : Nat) : Stmt := match stAt i with
  | .ClassDef _ _ _ body _ _ _ _ _ _ _ => (body[j]?).getD (.Pass default)
  | s => s
noncomputable def kfA : List Addr := [3, 20, 21, 34, 35, 37, 38, 48, 49, 55, 56, 62, 63, 69, 70, 76, 77, 90, 91, 92, 98, 99, 105, 106, 112, 113, 119, 120, 126, 127, 133, 134, 140, 141, 147, 148, 154, 155, 161, 162, 168, 169, 175, 176, 182, 183, 185, 186, 203, 204, 210, 211, 217, 218, 224, 225, 227, 228, 238, 239, 245, 246, 252, 253]
noncomputable def kf (P : Params) : Frag := [
  (3, dcto [de P "__name__" 165 (.str "law_nu0329_02" 481), de P "__doc__" 166 .none, de P "__package__" 167 .none, de P "__loader__" 168 (.builtin "__main__.__loader__#opaque"), de P "__spec__" 169 .none, de P "__annotations__" 170 (.ref 6), de P "__builtins__" 171 (.ref 4), de P "__file__" 173 (.str "/claim/cut.py" 172), de P "__cached__" 174 .none, de P "_wall" 193 (.ref 21), de P "MOST_INTEGER" 197 (.int 2147483647 196), de P "MOST_WORD" 199 (.int 4294967295 198), de P "Token" 232 (.ref 38), de P "keywords" 238 (.ref 49), de P "is_letter" 245 (.ref 56), de P "is_digit" 252 (.ref 63), de P "is_hex_digit" 259 (.ref 70), de P "digits_value" 270 (.ref 77), de P "Scanner" 426 (.ref 186), de P "ErrorList" 480 (.ref 228), de P "_law_pool" 495 (.ref 239), de P "_law_pick" 504 (.ref 246), de P "law" 528 (.ref 253)] 23),
  (20, cdo [(.str "_wall" 187), (.str "_wall" 188), (.str "/claim/cut.py" 189), (.int 1 0), (.int 1 0), (.int 0 0), (.int 0 0), (.int 3 0), (.ref 15), (.bool true), (.int 181 0), (.ref 16), .none, (.ref 17), (.ref 18), (.ref 19), (.int 191 0), (.int 1 0), (.str "/claim/cut.py" 192)]),
  (21, fno (stAt 0) "_wall" .none .none (.str "__main__" 164) (.ref 20)),
  (34, cdo [(.str "__init__" 212), (.str "Token.__init__" 213), (.str "/claim/cut.py" 214), (.int 9 0), (.int 4 0), (.int 0 0), (.int 0 0), (.int 3 0), (.ref 29), (.bool true), (.int 181 0), (.ref 30), .none, (.ref 31), (.ref 32), (.ref 33), (.int 219 0), (.int 9 0), (.str "/claim/cut.py" 220)]),
  (35, fno (inAt 4 0) "Token.__init__" .none .none (.str "moduleyard.scanner" 194) (.ref 34)),
  (37, dcto [de P "__module__" 207 (.str "moduleyard.scanner" 194), de P "__firstlineno__" 211 (.int 7 210), de P "__init__" 221 (.ref 35), de P "__static_attributes__" 225 (.ref 36), de P "__dict__" 227 (.ref 39), de P "__weakref__" 229 (.ref 40), de P "__doc__" 230 .none] 4),
  (38, clo "Token" 38 37 [none, none, some (.str "Token" 200), some (.str "Token" 208), some (.builtin "object.__new__"), some (.bool true)]),
  (48, cdo [(.str "keywords" 233), (.str "keywords" 234), (.str "/claim/cut.py" 235), (.int 13 0), (.int 0 0), (.int 0 0), (.int 0 0), (.int 3 0), (.ref 43), (.bool true), (.int 181 0), (.ref 44), .none, (.ref 45), (.ref 46), (.ref 47), (.int 236 0), (.int 13 0), (.str "/claim/cut.py" 237)]),
  (49, fno (stAt 5) "keywords" .none .none (.str "moduleyard.scanner" 194) (.ref 48)),
  (55, cdo [(.str "is_letter" 239), (.str "is_letter" 240), (.str "/claim/cut.py" 241), (.int 15 0), (.int 1 0), (.int 0 0), (.int 0 0), (.int 3 0), (.ref 50), (.bool true), (.int 181 0), (.ref 51), .none, (.ref 52), (.ref 53), (.ref 54), (.int 243 0), (.int 15 0), (.str "/claim/cut.py" 244)]),
  (56, fno (stAt 6) "is_letter" .none .none (.str "moduleyard.scanner" 194) (.ref 55)),
  (62, cdo [(.str "is_digit" 246), (.str "is_digit" 247), (.str "/claim/cut.py" 248), (.int 17 0), (.int 1 0), (.int 0 0), (.int 0 0), (.int 3 0), (.ref 57), (.bool true), (.int 181 0), (.ref 58), .none, (.ref 59), (.ref 60), (.ref 61), (.int 250 0), (.int 17 0), (.str "/claim/cut.py" 251)]),
  (63, fno (stAt 7) "is_digit" .none .none (.str "moduleyard.scanner" 194) (.ref 62)),
  (69, cdo [(.str "is_hex_digit" 253), (.str "is_hex_digit" 254), (.str "/claim/cut.py" 255), (.int 19 0), (.int 1 0), (.int 0 0), (.int 0 0), (.int 3 0), (.ref 64), (.bool true), (.int 181 0), (.ref 65), .none, (.ref 66), (.ref 67), (.ref 68), (.int 257 0), (.int 19 0), (.str "/claim/cut.py" 258)]),
  (70, fno (stAt 8) "is_hex_digit" .none .none (.str "moduleyard.scanner" 194) (.ref 69)),
  (76, cdo [(.str "digits_value" 260), (.str "digits_value" 261), (.str "/claim/cut.py" 262), (.int 21 0), (.int 3 0), (.int 0 0), (.int 0 0), (.int 3 0), (.ref 71), (.bool true), (.int 181 0), (.ref 72), .none, (.ref 73), (.ref 74), (.ref 75), (.int 268 0), (.int 21 0), (.str "/claim/cut.py" 269)]),
  (77, fno (stAt 9) "digits_value" .none .none (.str "moduleyard.scanner" 194) (.ref 76)),
  (90, cdo [(.str "__init__" 283), (.str "Scanner.__init__" 284), (.str "/claim/cut.py" 285), (.int 30 0), (.int 3 0), (.int 0 0), (.int 0 0), (.int 3 0), (.ref 85), (.bool true), (.int 181 0), (.ref 86), .none, (.ref 87), (.ref 88), (.ref 89), (.int 289 0), (.int 30 0), (.str "/claim/cut.py" 290)]),
  (91, fno (inAt 10 0) "Scanner.__init__" .none .none (.str "moduleyard.scanner" 194) (.ref 90)),
  (92, tpo [(.int 0 292)] 0),
  (98, cdo [(.str "char" 293), (.str "Scanner.char" 294), (.str "/claim/cut.py" 295), (.int 36 0), (.int 2 0), (.int 0 0), (.int 0 0), (.int 3 0), (.ref 93), (.bool true), (.int 181 0), (.ref 94), .none, (.ref 95), (.ref 96), (.ref 97), (.int 298 0), (.int 36 0), (.str "/claim/cut.py" 299)]),
  (99, fno (inAt 10 1) "Scanner.char" (.ref 92) .none (.str "moduleyard.scanner" 194) (.ref 98)),
  (105, cdo [(.str "take" 301), (.str "Scanner.take" 302), (.str "/claim/cut.py" 303), (.int 39 0), (.int 1 0), (.int 0 0), (.int 0 0), (.int 3 0), (.ref 100), (.bool true), (.int 181 0), (.ref 101), .none, (.ref 102), (.ref 103), (.ref 104), (.int 308 0), (.int 39 0), (.str "/claim/cut.py" 309)]),
  (106, fno (inAt 10 2) "Scanner.take" .none .none (.str "moduleyard.scanner" 194) (.ref 105)),
  (112, cdo [(.str "skip" 311), (.str "Scanner.skip" 312), (.str "/claim/cut.py" 313), (.int 59 0), (.int 1 0), (.int 0 0), (.int 0 0), (.int 3 0), (.ref 107), (.bool true), (.int 181 0), (.ref 108), .none, (.ref 109), (.ref 110), (.ref 111), (.int 316 0), (.int 59 0), (.str "/claim/cut.py" 317)]),
  (113, fno (inAt 10 3) "Scanner.skip" .none .none (.str "moduleyard.scanner" 194) (.ref 112)),
  (119, cdo [(.str "remark" 319), (.str "Scanner.remark" 320), (.str "/claim/cut.py" 321), (.int 69 0), (.int 1 0), (.int 0 0), (.int 0 0), (.int 3 0), (.ref 114), (.bool true), (.int 181 0), (.ref 115), .none, (.ref 116), (.ref 117), (.ref 118), (.int 326 0), (.int 69 0), (.str "/claim/cut.py" 327)]),
  (120, fno (inAt 10 4) "Scanner.remark" .none .none (.str "moduleyard.scanner" 194) (.ref 119)),
  (126, cdo [(.str "word" 329), (.str "Scanner.word" 330), (.str "/claim/cut.py" 331), (.int 87 0), (.int 2 0), (.int 0 0), (.int 0 0), (.int 3 0), (.ref 121), (.bool true), (.int 181 0), (.ref 122), .none, (.ref 123), (.ref 124), (.ref 125), (.int 336 0), (.int 87 0), (.str "/claim/cut.py" 337)]),
  (127, fno (inAt 10 5) "Scanner.word" .none .none (.str "moduleyard.scanner" 194) (.ref 126)),
  (133, cdo [(.str "numeral" 339), (.str "Scanner.numeral" 340), (.str "/claim/cut.py" 341), (.int 97 0), (.int 2 0), (.int 0 0), (.int 0 0), (.int 3 0), (.ref 128), (.bool true), (.int 181 0), (.ref 129), .none, (.ref 130), (.ref 131), (.ref 132), (.int 348 0), (.int 97 0), (.str "/claim/cut.py" 349)]),
  (134, fno (inAt 10 6) "Scanner.numeral" .none .none (.str "moduleyard.scanner" 194) (.ref 133)),
  (140, cdo [(.str "whole" 351), (.str "Scanner.whole" 352), (.str "/claim/cut.py" 353), (.int 117 0), (.int 4 0), (.int 0 0), (.int 0 0), (.int 3 0), (.ref 135), (.bool true), (.int 181 0), (.ref 136), .none, (.ref 137), (.ref 138), (.ref 139), (.int 358 0), (.int 117 0), (.str "/claim/cut.py" 359)]),
  (141, fno (inAt 10 7) "Scanner.whole" .none .none (.str "moduleyard.scanner" 194) (.ref 140)),
  (147, cdo [(.str "hexadecimal" 361), (.str "Scanner.hexadecimal" 362), (.str "/claim/cut.py" 363), (.int 123 0), (.int 3 0), (.int 0 0), (.int 0 0), (.int 3 0), (.ref 142), (.bool true), (.int 181 0), (.ref 143), .none, (.ref 144), (.ref 145), (.ref 146), (.int 368 0), (.int 123 0), (.str "/claim/cut.py" 369)]),
  (148, fno (inAt 10 8) "Scanner.hexadecimal" .none .none (.str "moduleyard.scanner" 194) (.ref 147)),
  (154, cdo [(.str "character" 371), (.str "Scanner.character" 372), (.str "/claim/cut.py" 373), (.int 129 0), (.int 3 0), (.int 0 0), (.int 0 0), (.int 3 0), (.ref 149), (.bool true), (.int 181 0), (.ref 150), .none, (.ref 151), (.ref 152), (.ref 153), (.int 378 0), (.int 129 0), (.str "/claim/cut.py" 379)]),
  (155, fno (inAt 10 9) "Scanner.character" .none .none (.str "moduleyard.scanner" 194) (.ref 154)),
  (161, cdo [(.str "real" 381), (.str "Scanner.real" 382), (.str "/claim/cut.py" 383), (.int 136 0), (.int 2 0), (.int 0 0), (.int 0 0), (.int 3 0), (.ref 156), (.bool true), (.int 181 0), (.ref 157), .none, (.ref 158), (.ref 159), (.ref 160), (.int 387 0), (.int 136 0), (.str "/claim/cut.py" 388)]),
  (162, fno (inAt 10 10) "Scanner.real" .none .none (.str "moduleyard.scanner" 194) (.ref 161)),
  (168, cdo [(.str "skip_digits" 390), (.str "Scanner.skip_digits" 391), (.str "/claim/cut.py" 392), (.int 149 0), (.int 1 0), (.int 0 0), (.int 0 0), (.int 3 0), (.ref 163), (.bool true), (.int 181 0), (.ref 164), .none, (.ref 165), (.ref 166), (.ref 167), (.int 394 0), (.int 149 0), (.str "/claim/cut.py" 395)]),
  (169, fno (inAt 10 11) "Scanner.skip_digits" .none .none (.str "moduleyard.scanner" 194) (.ref 168)),
  (175, cdo [(.str "string" 397), (.str "Scanner.string" 398), (.str "/claim/cut.py" 399), (.int 153 0), (.int 2 0), (.int 0 0), (.int 0 0), (.int 3 0), (.ref 170), (.bool true), (.int 181 0), (.ref 171), .none, (.ref 172), (.ref 173), (.ref 174), (.int 404 0), (.int 153 0), (.str "/claim/cut.py" 405)]),
  (176, fno (inAt 10 12) "Scanner.string" .none .none (.str "moduleyard.scanner" 194) (.ref 175)),
  (182, cdo [(.str "symbol" 407), (.str "Scanner.symbol" 408), (.str "/claim/cut.py" 409), (.int 169 0), (.int 1 0), (.int 0 0), (.int 0 0), (.int 3 0), (.ref 177), (.bool true), (.int 181 0), (.ref 178), .none, (.ref 179), (.ref 180), (.ref 181), (.int 412 0), (.int 169 0), (.str "/claim/cut.py" 413)]),
  (183, fno (inAt 10 13) "Scanner.symbol" .none .none (.str "moduleyard.scanner" 194) (.ref 182)),
  (185, dcto [de P "__module__" 278 (.str "moduleyard.scanner" 194), de P "__firstlineno__" 282 (.int 28 281), de P "__init__" 291 (.ref 91), de P "char" 300 (.ref 99), de P "take" 310 (.ref 106), de P "skip" 318 (.ref 113), de P "remark" 328 (.ref 120), de P "word" 338 (.ref 127), de P "numeral" 350 (.ref 134), de P "whole" 360 (.ref 141), de P "hexadecimal" 370 (.ref 148), de P "character" 380 (.ref 155), de P "real" 389 (.ref 162), de P "skip_digits" 396 (.ref 169), de P "string" 406 (.ref 176), de P "symbol" 414 (.ref 183), de P "__static_attributes__" 419 (.ref 184), de P "__dict__" 421 (.ref 187), de P "__weakref__" 423 (.ref 188), de P "__doc__" 424 .none] 4),
  (186, clo "Scanner" 186 185 [none, none, some (.str "Scanner" 271), some (.str "Scanner" 279), some (.builtin "object.__new__"), some (.bool true)]),
  (203, cdo [(.str "__init__" 441), (.str "ErrorList.__init__" 442), (.str "/claim/cut.py" 443), (.int 179 0), (.int 1 0), (.int 0 0), (.int 0 0), (.int 3 0), (.ref 198), (.bool true), (.int 181 0), (.ref 199), .none, (.ref 200), (.ref 201), (.ref 202), (.int 445 0), (.int 179 0), (.str "/claim/cut.py" 446)]),
  (204, fno (inAt 12 0) "ErrorList.__init__" .none .none (.str "moduleyard.errors" 427) (.ref 203)),
  (210, cdo [(.str "mark" 448), (.str "ErrorList.mark" 449), (.str "/claim/cut.py" 450), (.int 183 0), (.int 3 0), (.int 0 0), (.int 0 0), (.int 3 0), (.ref 205), (.bool true), (.int 181 0), (.ref 206), .none, (.ref 207), (.ref 208), (.ref 209), (.int 454 0), (.int 183 0), (.str "/claim/cut.py" 455)]),
  (211, fno (inAt 12 1) "ErrorList.mark" .none .none (.str "moduleyard.errors" 427) (.ref 210)),
  (217, cdo [(.str "first" 457), (.str "ErrorList.first" 458), (.str "/claim/cut.py" 459), (.int 188 0), (.int 1 0), (.int 0 0), (.int 0 0), (.int 3 0), (.ref 212), (.bool true), (.int 181 0), (.ref 213), .none, (.ref 214), (.ref 215), (.ref 216), (.int 461 0), (.int 188 0), (.str "/claim/cut.py" 462)]),
  (218, fno (inAt 12 2) "ErrorList.first" .none .none (.str "moduleyard.errors" 427) (.ref 217)),
  (224, cdo [(.str "ok" 464), (.str "ErrorList.ok" 465), (.str "/claim/cut.py" 466), (.int 191 0), (.int 1 0), (.int 0 0), (.int 0 0), (.int 3 0), (.ref 219), (.bool true), (.int 181 0), (.ref 220), .none, (.ref 221), (.ref 222), (.ref 223), (.int 468 0), (.int 191 0), (.str "/claim/cut.py" 469)]),
  (225, fno (inAt 12 3) "ErrorList.ok" .none .none (.str "moduleyard.errors" 427) (.ref 224)),
  (227, dcto [de P "__module__" 436 (.str "moduleyard.errors" 427), de P "__firstlineno__" 440 (.int 177 439), de P "__init__" 447 (.ref 204), de P "mark" 456 (.ref 211), de P "first" 463 (.ref 218), de P "ok" 470 (.ref 225), de P "__static_attributes__" 473 (.ref 226), de P "__dict__" 475 (.ref 229), de P "__weakref__" 477 (.ref 230), de P "__doc__" 478 .none] 4),
  (228, clo "ErrorList" 228 227 [none, none, some (.str "ErrorList" 429), some (.str "ErrorList" 437), some (.builtin "object.__new__"), some (.bool true)]),
  (238, cdo [(.str "_law_pool" 483), (.str "_law_pool" 484), (.str "/claim/cut.py" 485), (.int 194 0), (.int 1 0), (.int 0 0), (.int 0 0), (.int 3 0), (.ref 233), (.bool true), (.int 181 0), (.ref 234), .none, (.ref 235), (.ref 236), (.ref 237), (.int 493 0), (.int 194 0), (.str "/claim/cut.py" 494)]),
  (239, fno (stAt 14) "_law_pool" .none .none (.str "law_nu0329_02" 481) (.ref 238)),
  (245, cdo [(.str "_law_pick" 496), (.str "_law_pick" 497), (.str "/claim/cut.py" 498), (.int 209 0), (.int 2 0), (.int 0 0), (.int 0 0), (.int 3 0), (.ref 240), (.bool true), (.int 181 0), (.ref 241), .none, (.ref 242), (.ref 243), (.ref 244), (.int 502 0), (.int 209 0), (.str "/claim/cut.py" 503)]),
  (246, fno (stAt 15) "_law_pick" .none .none (.str "law_nu0329_02" 481) (.ref 245)),
  (252, cdo [(.str "law" 505), (.str "law" 506), (.str "/claim/cut.py" 507), (.int 219 0), (.int 1 0), (.int 0 0), (.int 0 0), (.int 3 0), (.ref 247), (.bool true), (.int 181 0), (.ref 248), .none, (.ref 249), (.ref 250), (.ref 251), (.int 526 0), (.int 219 0), (.str "/claim/cut.py" 527)]),
  (253, fno (stAt 16) "law" .none .none (.str "law_nu0329_02" 481) (.ref 252))]

end Mine
end
section
namespace Mine
noncomputable def vw : Program := PySem.W.view PySem.Challenge.pw_nu0329_02 [0, 2, 3, 4, 5, 6, 7, 8, 9, 10, 12, 14, 15, 16]
set_option maxRecDepth 1000000 in
theorem kfAs (P : Params) : kfA = (kf P).map (·.1) := by kernel_rfl
abbrev Left2 : Prop := LeftO PySem.Challenge.rw_nu0329_02.row.toRowW.prog vw [] (fun s => xlAt vw [] s && recOk (RowW.records PySem.Challenge.rw_nu0329_02.row.toRowW) s) (Hook.obs (kHook kf kfA kfAs)) (Hook.val (kHook kf kfA kfAs)) 3204
end Mine
end
section
set_option maxRecDepth 100000
namespace Mine
noncomputable def tab2 : Tab := {
  gt := [("Token", 38), ("keywords", 49), ("is_letter", 56), ("is_digit", 63), ("is_hex_digit", 70), ("digits_value", 77), ("Scanner", 186), ("ErrorList", 228), ("_law_pool", 239), ("_law_pick", 246)]
  gi := [("MOST_INTEGER", 2147483647), ("MOST_WORD", 4294967295)]
  gb := ["len", "ord", "chr", "abs", "int", "range"]
  mt := [("char", 186, 99), ("take", 186, 106), ("skip", 186, 113), ("remark", 186, 120), ("word", 186, 127), ("numeral", 186, 134), ("whole", 186, 141), ("hexadecimal", 186, 148), ("character", 186, 155), ("real", 186, 162), ("skip_digits", 186, 169), ("string", 186, 176), ("symbol", 186, 183), ("mark", 228, 211)] }
section
variable {G : Gl} {P : Params} (hK : G.K = kf P)
include hK
theorem f_char : FnOk G tab2 aChar 2 0 [.int 0] ir_Scanner_char :=
  fnOk_of (st := inAt 10 1) (q := "Scanner.char") (dV := .ref 92) (pm := .str "moduleyard.scanner" 194) (cd := .ref 98) ["self", "ahead"] (by rw [hK]; kernel_rfl) (by kernel_rfl) [.int 0 292] (fun _ _ _ => .cons (.int _ _) .nil) (bndD rfl fun _ _ => by rw [hK]; kernel_rfl) (by rw [hK]; kernel_rfl) (by kernel_rfl) (by kernel_rfl)
theorem f_char1 : FnOk G tab2 aChar 2 0 [] ir_Scanner_char :=
  fnOk_of (st := inAt 10 1) (q := "Scanner.char") (dV := .ref 92) (pm := .str "moduleyard.scanner" 194) (cd := .ref 98) ["self", "ahead"] (by rw [hK]; kernel_rfl) (by kernel_rfl) [] (fun _ _ _ => .nil) (bndE rfl fun _ _ _ => by rw [hK]; kernel_rfl) (by rw [hK]; kernel_rfl) (by kernel_rfl) (by kernel_rfl)
theorem f_Token_init : FnOk G tab2 35 4 0 [] ir_Token___init__ :=
  fnOk_of (st := (inAt 4 0)) (q := "Token.__init__") (dV := .none) (pm := .str "moduleyard.scanner" 194) (cd := .ref 34) ["self", "kind", "value", "place"] (by rw [hK]; kernel_rfl) (by kernel_rfl) [] (fun _ _ _ => .nil) (bnd4 rfl fun _ _ _ _ => (by kernel_rfl)) (by rw [hK]; kernel_rfl) (by kernel_rfl) (by kernel_rfl)
theorem f_keywords : FnOk G tab2 aKeywords 0 0 [] ir_keywords :=
  fnOk_of (st := (stAt 5)) (q := "keywords") (dV := .none) (pm := .str "moduleyard.scanner" 194) (cd := .ref 48) [] (by rw [hK]; kernel_rfl) (by kernel_rfl) [] (fun _ _ _ => .nil) (bnd0 rfl (by kernel_rfl)) (by rw [hK]; kernel_rfl) (by kernel_rfl) (by kernel_rfl)
theorem f_is_letter : FnOk G tab2 aIsLetter 1 0 [] ir_is_letter :=
  fnOk_of (st := (stAt 6)) (q := "is_letter") (dV := .none) (pm := .str "moduleyard.scanner" 194) (cd := .ref 55) ["char"] (by rw [hK]; kernel_rfl) (by kernel_rfl) [] (fun _ _ _ => .nil) (bnd1 rfl fun _ => (by kernel_rfl)) (by rw [hK]; kernel_rfl) (by kernel_rfl) (by kernel_rfl)
theorem f_is_digit : FnOk G tab2 aIsDigit 1 0 [] ir_is_digit :=
  fnOk_of (st := (stAt 7)) (q := "is_digit") (dV := .none) (pm := .str "moduleyard.scanner" 194) (cd := .ref 62) ["char"] (by rw [hK]; kernel_rfl) (by kernel_rfl) [] (fun _ _ _ => .nil) (bnd1 rfl fun _ => (by kernel_rfl)) (by rw [hK]; kernel_rfl) (by kernel_rfl) (by kernel_rfl)
theorem f_is_hex_digit : FnOk G tab2 aIsHexDigit 1 1 [] ir_is_hex_digit :=
  fnOk_of (st := (stAt 8)) (q := "is_hex_digit") (dV := .none) (pm := .str "moduleyard.scanner" 194) (cd := .ref 69) ["char"] (by rw [hK]; kernel_rfl) (by kernel_rfl) [] (fun _ _ _ => .nil) (bnd1 rfl fun _ => (by kernel_rfl)) (by rw [hK]; kernel_rfl) (by kernel_rfl) (by kernel_rfl)
theorem f_digits_value : FnOk G tab2 aDigitsValue 3 2 [] ir_digits_value :=
  fnOk_of (st := (stAt 9)) (q := "digits_value") (dV := .none) (pm := .str "moduleyard.scanner" 194) (cd := .ref 76) ["digits", "base", "most"] (by rw [hK]; kernel_rfl) (by kernel_rfl) [] (fun _ _ _ => .nil) (bnd3 rfl fun _ _ _ => (by kernel_rfl)) (by rw [hK]; kernel_rfl) (by kernel_rfl) (by kernel_rfl)
theorem f_Scanner_init : FnOk G tab2 91 3 1 [] ir_Scanner___init__ :=
  fnOk_of (st := (inAt 10 0)) (q := "Scanner.__init__") (dV := .none) (pm := .str "moduleyard.scanner" 194) (cd := .ref 90) ["self", "source", "errors"] (by rw [hK]; kernel_rfl) (by kernel_rfl) [] (fun _ _ _ => .nil) (bnd3 rfl fun _ _ _ => (by kernel_rfl)) (by rw [hK]; kernel_rfl) (by kernel_rfl) (by kernel_rfl)
theorem f_Scanner_take : FnOk G tab2 aTake 1 7 [] ir_Scanner_take :=
  fnOk_of (st := (inAt 10 2)) (q := "Scanner.take") (dV := .none) (pm := .str "moduleyard.scanner" 194) (cd := .ref 105) ["self"] (by rw [hK]; kernel_rfl) (by kernel_rfl) [] (fun _ _ _ => .nil) (bnd1 rfl fun _ => (by kernel_rfl)) (by rw [hK]; kernel_rfl) (by kernel_rfl) (by kernel_rfl)
theorem f_Scanner_skip : FnOk G tab2 aSkip 1 2 [] ir_Scanner_skip :=
  fnOk_of (st := (inAt 10 3)) (q := "Scanner.skip") (dV := .none) (pm := .str "moduleyard.scanner" 194) (cd := .ref 112) ["self"] (by rw [hK]; kernel_rfl) (by kernel_rfl) [] (fun _ _ _ => .nil) (bnd1 rfl fun _ => (by kernel_rfl)) (by rw [hK]; kernel_rfl) (by kernel_rfl) (by kernel_rfl)
theorem f_Scanner_remark : FnOk G tab2 aRemark 1 3 [] ir_Scanner_remark :=
  fnOk_of (st := (inAt 10 4)) (q := "Scanner.remark") (dV := .none) (pm := .str "moduleyard.scanner" 194) (cd := .ref 119) ["self"] (by rw [hK]; kernel_rfl) (by kernel_rfl) [] (fun _ _ _ => .nil) (bnd1 rfl fun _ => (by kernel_rfl)) (by rw [hK]; kernel_rfl) (by kernel_rfl) (by kernel_rfl)
theorem f_Scanner_word : FnOk G tab2 aWord 2 5 [] ir_Scanner_word :=
  fnOk_of (st := (inAt 10 5)) (q := "Scanner.word") (dV := .none) (pm := .str "moduleyard.scanner" 194) (cd := .ref 126) ["self", "begun"] (by rw [hK]; kernel_rfl) (by kernel_rfl) [] (fun _ _ _ => .nil) (bnd2 rfl fun _ _ => (by kernel_rfl)) (by rw [hK]; kernel_rfl) (by kernel_rfl) (by kernel_rfl)
theorem f_Scanner_numeral : FnOk G tab2 aNumeral 2 8 [] ir_Scanner_numeral :=
  fnOk_of (st := (inAt 10 6)) (q := "Scanner.numeral") (dV := .none) (pm := .str "moduleyard.scanner" 194) (cd := .ref 133) ["self", "begun"] (by rw [hK]; kernel_rfl) (by kernel_rfl) [] (fun _ _ _ => .nil) (bnd2 rfl fun _ _ => (by kernel_rfl)) (by rw [hK]; kernel_rfl) (by kernel_rfl) (by kernel_rfl)
theorem f_Scanner_whole : FnOk G tab2 aWhole 4 1 [] ir_Scanner_whole :=
  fnOk_of (st := (inAt 10 7)) (q := "Scanner.whole") (dV := .none) (pm := .str "moduleyard.scanner" 194) (cd := .ref 140) ["self", "begun", "value", "most"] (by rw [hK]; kernel_rfl) (by kernel_rfl) [] (fun _ _ _ => .nil) (bnd4 rfl fun _ _ _ _ => (by kernel_rfl)) (by rw [hK]; kernel_rfl) (by kernel_rfl) (by kernel_rfl)
theorem f_Scanner_hexadecimal : FnOk G tab2 aHexadecimal 3 4 [] ir_Scanner_hexadecimal :=
  fnOk_of (st := (inAt 10 8)) (q := "Scanner.hexadecimal") (dV := .none) (pm := .str "moduleyard.scanner" 194) (cd := .ref 147) ["self", "begun", "digits"] (by rw [hK]; kernel_rfl) (by kernel_rfl) [] (fun _ _ _ => .nil) (bnd3 rfl fun _ _ _ => (by kernel_rfl)) (by rw [hK]; kernel_rfl) (by kernel_rfl) (by kernel_rfl)
theorem f_Scanner_character : FnOk G tab2 aCharacter 3 4 [] ir_Scanner_character :=
  fnOk_of (st := (inAt 10 9)) (q := "Scanner.character") (dV := .none) (pm := .str "moduleyard.scanner" 194) (cd := .ref 154) ["self", "begun", "digits"] (by rw [hK]; kernel_rfl) (by kernel_rfl) [] (fun _ _ _ => .nil) (bnd3 rfl fun _ _ _ => (by kernel_rfl)) (by rw [hK]; kernel_rfl) (by kernel_rfl) (by kernel_rfl)
theorem f_Scanner_real : FnOk G tab2 aReal 2 3 [] ir_Scanner_real :=
  fnOk_of (st := (inAt 10 10)) (q := "Scanner.real") (dV := .none) (pm := .str "moduleyard.scanner" 194) (cd := .ref 161) ["self", "begun"] (by rw [hK]; kernel_rfl) (by kernel_rfl) [] (fun _ _ _ => .nil) (bnd2 rfl fun _ _ => (by kernel_rfl)) (by rw [hK]; kernel_rfl) (by kernel_rfl) (by kernel_rfl)
theorem f_Scanner_skip_digits : FnOk G tab2 aSkipDigits 1 1 [] ir_Scanner_skip_digits :=
  fnOk_of (st := (inAt 10 11)) (q := "Scanner.skip_digits") (dV := .none) (pm := .str "moduleyard.scanner" 194) (cd := .ref 168) ["self"] (by rw [hK]; kernel_rfl) (by kernel_rfl) [] (fun _ _ _ => .nil) (bnd1 rfl fun _ => (by kernel_rfl)) (by rw [hK]; kernel_rfl) (by kernel_rfl) (by kernel_rfl)
theorem f_Scanner_string : FnOk G tab2 aString 2 4 [] ir_Scanner_string :=
  fnOk_of (st := (inAt 10 12)) (q := "Scanner.string") (dV := .none) (pm := .str "moduleyard.scanner" 194) (cd := .ref 175) ["self", "begun"] (by rw [hK]; kernel_rfl) (by kernel_rfl) [] (fun _ _ _ => .nil) (bnd2 rfl fun _ _ => (by kernel_rfl)) (by rw [hK]; kernel_rfl) (by kernel_rfl) (by kernel_rfl)
theorem f_Scanner_symbol : FnOk G tab2 aSymbol 1 1 [] ir_Scanner_symbol :=
  fnOk_of (st := (inAt 10 13)) (q := "Scanner.symbol") (dV := .none) (pm := .str "moduleyard.scanner" 194) (cd := .ref 182) ["self"] (by rw [hK]; kernel_rfl) (by kernel_rfl) [] (fun _ _ _ => .nil) (bnd1 rfl fun _ => (by kernel_rfl)) (by rw [hK]; kernel_rfl) (by kernel_rfl) (by kernel_rfl)
theorem f_ErrorList_init : FnOk G tab2 204 1 0 [] ir_ErrorList___init__ :=
  fnOk_of (st := (inAt 12 0)) (q := "ErrorList.__init__") (dV := .none) (pm := .str "moduleyard.errors" 427) (cd := .ref 203) ["self"] (by rw [hK]; kernel_rfl) (by kernel_rfl) [] (fun _ _ _ => .nil) (bnd1 rfl fun _ => (by kernel_rfl)) (by rw [hK]; kernel_rfl) (by kernel_rfl) (by kernel_rfl)
theorem f_ErrorList_mark : FnOk G tab2 aMark 3 0 [] ir_ErrorList_mark :=
  fnOk_of (st := (inAt 12 1)) (q := "ErrorList.mark") (dV := .none) (pm := .str "moduleyard.errors" 427) (cd := .ref 210) ["self", "place", "code"] (by rw [hK]; kernel_rfl) (by kernel_rfl) [] (fun _ _ _ => .nil) (bnd3 rfl fun _ _ _ => (by kernel_rfl)) (by rw [hK]; kernel_rfl) (by kernel_rfl) (by kernel_rfl)
theorem f_law_pool : FnOk G tab2 aPool 1 10 [] ir__law_pool :=
  fnOk_of (st := (stAt 14)) (q := "_law_pool") (dV := .none) (pm := .str "law_nu0329_02" 481) (cd := .ref 238) ["script"] (by rw [hK]; kernel_rfl) (by kernel_rfl) [] (fun _ _ _ => .nil) (bnd1 rfl fun _ => (by kernel_rfl)) (by rw [hK]; kernel_rfl) (by kernel_rfl) (by kernel_rfl)
theorem f_law_pick : FnOk G tab2 aPick 2 2 [] ir__law_pick :=
  fnOk_of (st := (stAt 15)) (q := "_law_pick") (dV := .none) (pm := .str "law_nu0329_02" 481) (cd := .ref 245) ["pool", "bound_x"] (by rw [hK]; kernel_rfl) (by kernel_rfl) [] (fun _ _ _ => .nil) (bnd2 rfl fun _ _ => (by kernel_rfl)) (by rw [hK]; kernel_rfl) (by kernel_rfl) (by kernel_rfl)
theorem f_law : FnOk G tab2 253 1 24 [] ir_law :=
  fnOk_of (st := (stAt 16)) (q := "law") (dV := .none) (pm := .str "law_nu0329_02" 481) (cd := .ref 252) ["script"] (by rw [hK]; kernel_rfl) (by kernel_rfl) [] (fun _ _ _ => .nil) (bnd1 rfl fun _ => (by kernel_rfl)) (by rw [hK]; kernel_rfl) (by kernel_rfl) (by kernel_rfl)
end
noncomputable def ct2 : List (Addr × Nat) := [(38, 4), (38, 5), (38, 2), (186, 0), (186, 1), (186, 2), (186, 3), (228, 6), (228, 7)]
theorem ct2Ok (P : Params) : ∀ p ∈ ct2, p.2 < 8 ∧ AttrOk (kf P) p.1 (atName p.2) := by
  refine List.forall_mem_cons.mpr ⟨⟨by decide, ⟨by kernel_rfl, by kernel_rfl, ⟨none, by kernel_rfl, by kernel_rfl⟩, by kernel_rfl, by kernel_rfl, by kernel_rfl⟩⟩, List.forall_mem_cons.mpr ⟨⟨by decide, ⟨by kernel_rfl, by kernel_rfl, ⟨none, by kernel_rfl, by kernel_rfl⟩, by kernel_rfl, by kernel_rfl, by kernel_rfl⟩⟩, List.forall_mem_cons.mpr ⟨⟨by decide, ⟨by kernel_rfl, by kernel_rfl, ⟨none, by kernel_rfl, by kernel_rfl⟩, by kernel_rfl, by kernel_rfl, by kernel_rfl⟩⟩, List.forall_mem_cons.mpr ⟨⟨by decide, ⟨by kernel_rfl, by kernel_rfl, ⟨none, by kernel_rfl, by kernel_rfl⟩, by kernel_rfl, by kernel_rfl, by kernel_rfl⟩⟩, List.forall_mem_cons.mpr ⟨⟨by decide, ⟨by kernel_rfl, by kernel_rfl, ⟨none, by kernel_rfl, by kernel_rfl⟩, by kernel_rfl, by kernel_rfl, by kernel_rfl⟩⟩, List.forall_mem_cons.mpr ⟨⟨by decide, ⟨by kernel_rfl, by kernel_rfl, ⟨none, by kernel_rfl, by kernel_rfl⟩, by kernel_rfl, by kernel_rfl, by kernel_rfl⟩⟩, List.forall_mem_cons.mpr ⟨⟨by decide, ⟨by kernel_rfl, by kernel_rfl, ⟨none, by kernel_rfl, by kernel_rfl⟩, by kernel_rfl, by kernel_rfl, by kernel_rfl⟩⟩, List.forall_mem_cons.mpr ⟨⟨by decide, ⟨by kernel_rfl, by kernel_rfl, ⟨none, by kernel_rfl, by kernel_rfl⟩, by kernel_rfl, by kernel_rfl, by kernel_rfl⟩⟩, List.forall_mem_cons.mpr ⟨⟨by decide, ⟨by kernel_rfl, by kernel_rfl, ⟨none, by kernel_rfl, by kernel_rfl⟩, by kernel_rfl, by kernel_rfl, by kernel_rfl⟩⟩, fun _ h => nomatch h⟩⟩⟩⟩⟩⟩⟩⟩⟩
theorem mt2Ok (P : Params) : ∀ q ∈ tab2.mt, MethOk (kf P) q.2.1 q.1 q.2.2 ∧ q.1 ∉ atNames := by
  refine List.forall_mem_cons.mpr ⟨⟨⟨by kernel_rfl, by kernel_rfl, by kernel_rfl, by kernel_rfl⟩, by decide +kernel⟩, List.forall_mem_cons.mpr ⟨⟨⟨by kernel_rfl, by kernel_rfl, by kernel_rfl, by kernel_rfl⟩, by decide +kernel⟩, List.forall_mem_cons.mpr ⟨⟨⟨by kernel_rfl, by kernel_rfl, by kernel_rfl, by kernel_rfl⟩, by decide +kernel⟩, List.forall_mem_cons.mpr ⟨⟨⟨by kernel_rfl, by kernel_rfl, by kernel_rfl, by kernel_rfl⟩, by decide +kernel⟩, List.forall_mem_cons.mpr ⟨⟨⟨by kernel_rfl, by kernel_rfl, by kernel_rfl, by kernel_rfl⟩, by decide +kernel⟩, List.forall_mem_cons.mpr ⟨⟨⟨by kernel_rfl, by kernel_rfl, by kernel_rfl, by kernel_rfl⟩, by decide +kernel⟩, List.forall_mem_cons.mpr ⟨⟨⟨by kernel_rfl, by kernel_rfl, by kernel_rfl, by kernel_rfl⟩, by decide +kernel⟩, List.forall_mem_cons.mpr ⟨⟨⟨by kernel_rfl, by kernel_rfl, by kernel_rfl, by kernel_rfl⟩, by decide +kernel⟩, List.forall_mem_cons.mpr ⟨⟨⟨by kernel_rfl, by kernel_rfl, by kernel_rfl, by kernel_rfl⟩, by decide +kernel⟩, List.forall_mem_cons.mpr ⟨⟨⟨by kernel_rfl, by kernel_rfl, by kernel_rfl, by kernel_rfl⟩, by decide +kernel⟩, List.forall_mem_cons.mpr ⟨⟨⟨by kernel_rfl, by kernel_rfl, by kernel_rfl, by kernel_rfl⟩, by decide +kernel⟩, List.forall_mem_cons.mpr ⟨⟨⟨by kernel_rfl, by kernel_rfl, by kernel_rfl, by kernel_rfl⟩, by decide +kernel⟩, List.forall_mem_cons.mpr ⟨⟨⟨by kernel_rfl, by kernel_rfl, by kernel_rfl, by kernel_rfl⟩, by decide +kernel⟩, List.forall_mem_cons.mpr ⟨⟨⟨by kernel_rfl, by kernel_rfl, by kernel_rfl, by kernel_rfl⟩, by decide +kernel⟩, fun _ h => nomatch h⟩⟩⟩⟩⟩⟩⟩⟩⟩⟩⟩⟩⟩⟩
section
variable {G : Gl} {P : Params} (hK : G.K = kf P)
include hK
theorem tabOk2 (hm : G.mt = tab2.mt) : TabOk G tab2 := by
  refine ⟨?_, ?_, ?_, fun q h => by rw [hm]; exact h⟩
  · rw [hK]; refine List.forall_mem_cons.mpr ⟨⟨by kernel_rfl, by kernel_rfl⟩, List.forall_mem_cons.mpr ⟨⟨by kernel_rfl, by kernel_rfl⟩, List.forall_mem_cons.mpr ⟨⟨by kernel_rfl, by kernel_rfl⟩, List.forall_mem_cons.mpr ⟨⟨by kernel_rfl, by kernel_rfl⟩, List.forall_mem_cons.mpr ⟨⟨by kernel_rfl, by kernel_rfl⟩, List.forall_mem_cons.mpr ⟨⟨by kernel_rfl, by kernel_rfl⟩, List.forall_mem_cons.mpr ⟨⟨by kernel_rfl, by kernel_rfl⟩, List.forall_mem_cons.mpr ⟨⟨by kernel_rfl, by kernel_rfl⟩, List.forall_mem_cons.mpr ⟨⟨by kernel_rfl, by kernel_rfl⟩, List.forall_mem_cons.mpr ⟨⟨by kernel_rfl, by kernel_rfl⟩, fun _ h => nomatch h⟩⟩⟩⟩⟩⟩⟩⟩⟩⟩
  · rw [hK]; refine List.forall_mem_cons.mpr ⟨⟨196, by kernel_rfl⟩, List.forall_mem_cons.mpr ⟨⟨198, by kernel_rfl⟩, fun _ h => nomatch h⟩⟩
  · rw [hK]; refine List.forall_mem_cons.mpr ⟨by kernel_rfl, List.forall_mem_cons.mpr ⟨by kernel_rfl, List.forall_mem_cons.mpr ⟨by kernel_rfl, List.forall_mem_cons.mpr ⟨by kernel_rfl, List.forall_mem_cons.mpr ⟨by kernel_rfl, List.forall_mem_cons.mpr ⟨by kernel_rfl, fun _ h => nomatch h⟩⟩⟩⟩⟩⟩
theorem k_Token : ClsOk G tab2 aToken 35 4 0 [] ir_Token___init__ := ⟨by rw [hK]; exact ⟨by kernel_rfl, by kernel_rfl, by kernel_rfl, by kernel_rfl⟩, f_Token_init hK⟩
theorem k_Scanner : ClsOk G tab2 aScanner 91 3 1 [] ir_Scanner___init__ := ⟨by rw [hK]; exact ⟨by kernel_rfl, by kernel_rfl, by kernel_rfl, by kernel_rfl⟩, f_Scanner_init hK⟩
theorem k_ErrorList : ClsOk G tab2 aErrorList 204 1 0 [] ir_ErrorList___init__ := ⟨by rw [hK]; exact ⟨by kernel_rfl, by kernel_rfl, by kernel_rfl, by kernel_rfl⟩, f_ErrorList_init hK⟩
end
end Mine
end
section
namespace Mine
theorem rvs_ints {hb : Heap} {ρ : List (List Addr)} {N : Led} {vs : List Value} {is : List Int} (h : IntsAre vs is) : RVs hb ρ N (is.map AV.int) vs := by
  induction h with
  | nil => exact .nil
  | cons n t _ ih => exact .cons (.int n t) ih
/-- the law's own body, from the claim's caller -/
theorem law_in {G : Gl} {t : Tab} {e : Nat} {ir : IS} {body : List Stmt} {sc : Scope} {qual : Str} {fa : Addr} {cd : Value} (hG : TabOk G t) (hs : scpOk ["script"] sc 1 e = true) (hi : cB t sc.names 60 body = some ir)
    {s₁ : Shared} {h₁ : Heap} {k : Nat} {A A₀ : Around} {a : Addr} {vs : List Value} {is : List Int} {m : Str → Option Value}
    (X : G.K.In s₁.heap) (T : Top G.p G.loose G.mean G.mg G.mb s₁.heap) (B : Below A₀ s₁.heap [] s₁.heap) (F : Fr s₁.heap s₁.heap.objs.size h₁ m) (hm : m "script" = some (.ref a))
    (N : News s₁.heap s₁.heap.objs.size h₁ []) (hl : s₁.heap.IsList a vs.toArray) (hI : IntsAre vs is) (hA : A.frames = some (envOf qual sc s₁.heap.objs.size fa cd :: [])) (hh : A.handled = none) (hd : A.depth + 3 * 40 < recursionLimit) (hu : A.units + 40 * 40 + 400 < cLine)
    (hv : vS G 40 ir ⟨some (.lst (is.map .int)) :: List.replicate e none, []⟩ fun fl _ => retOf fl = .bool true) {Q : Flow → Shared → Prop} {E : Value → Shared → Prop}
    (q : ∀ s', (∀ b o, s₁.heap.get? b = some o → s'.heap.get? b = some o) → s'.os = s₁.os → s'.gens = s₁.gens → Q (.ret (.bool true)) s') :
    wpAny (model G.prog G.w) A (execs body (envOf qual sc s₁.heap.objs.size fa cd)) Q E { s₁ with heap := h₁, toks := k } := by
  unfold scpOk at hs
  simp only [Bool.and_eq_true, decide_eq_true_eq, Bool.not_eq_true', List.all_eq_true] at hs
  obtain ⟨⟨⟨⟨⟨⟨⟨h1, h2⟩, h3⟩, h4⟩, h5⟩, h6⟩, h7⟩, h8⟩ := hs
  let c : Cx G := ⟨A, qual, sc, fa, cd, [], A₀, s₁.heap, s₁.heap, s₁.heap.objs.size, s₁.gens, s₁.drawn, s₁.os, 40, B, X, T, hA, hh, h5, h2, hd, hu⟩
  have h0 : sc.names[0]? = some (PySem.Str.ofString "script", NameKind.local) := pre_names (names := ["script"]) h1 (i := 0) rfl
  have d : RelD c ⟨some (.lst (is.map .int)) :: List.replicate e none, []⟩ ⟨[], [], []⟩ { s₁ with heap := h₁, toks := k } [] [] m := by
    refine ⟨F, N, .nil, .nil, rfl, fun i b hb => ?_, fun i o hb => by simp at hb, .nil, (fun _ h => nomatch h), rfl, rfl, rfl⟩
    cases i with
    | zero =>
      cases hb
      exact ⟨_, .ref a, h0, hm, .lstB hl (rvs_ints hI)⟩
    | succ i =>
      simp only [List.getElem?_cons_succ, List.getElem?_replicate] at hb
      split at hb <;> simp at hb
  refine wpAny_mono ((cS_ok (c := c) hG (Nat.le_refl _) 60).2 _ _ hi _ _ hv ⟨[], [], []⟩ _ ⟨[], [], m, d⟩ Q fun fl f st' s' hP hf => ?_) (fun _ _ x => x) fun _ _ x => x.elim
  have hP : retOf fl = .bool true := hP
  cases fl with
  | ret a =>
    cases f with
    | ret v =>
      have hf : Rel c st' (Fm.push _ a v) s' := hf
      cases (show a = .bool true from hP)
      obtain ⟨ρ, N', m', d'⟩ := hf
      have hp := d'.pend
      cases hp with
      | cons p _ =>
        cases p
        exact q s' d'.F.keep d'.g.2.2 d'.g.1
    | _ => exact hf.elim
  | _ => cases hP
end Mine
end
section
namespace Mine
noncomputable def gl2 (w : World) (mean : ExcName → Option Value) (mg mb : Str → Option Value) : Gl := ⟨PySem.Challenge.rw_nu0329_02.row.toRowW.prog, w, kf w.params, vw, looseW vw [], mean, mg, mb, ct2, tab2.mt, ct2Ok _, mt2Ok _⟩
noncomputable def Body2 : Prop := ∀ (G : Gl) (P : Params), G.K = kf P → G.mt = tab2.mt → G.ct = ct2 → ∀ is : List Int, is.length ≤ 63 → vS G 40 ir_law ⟨some (.lst (is.map .int)) :: List.replicate 24 none, []⟩ fun fl _ => retOf fl = .bool true
set_option maxRecDepth 1000000 in
set_option maxHeartbeats 8000000 in
theorem en2 (left : Left2) (lw : Body2) : PySem.Challenge.rw_nu0329_02.Holds := by
  w_on
  o_law
  refine holds_open (q := vw) (loose := []) (Xt := fun s => xlAt vw [] s && recOk (RowW.records PySem.Challenge.rw_nu0329_02.row.toRowW) s) (XP := XL vw []) (Yf := Hook.obs (kHook kf kfA kfAs)) (Ya := Hook.val (kHook kf kfA kfAs)) (YP := Hook.says (kHook kf kfA kfAs)) (N := 3204) left (Hook.of _) (Hook.keeps _) (fun s e => xl_of s (Bool.and_eq_true_iff.mp e).1) XL.keeps (by rfl) (by rfl) (by rfl) (fun s e => recFacts_of (Bool.and_eq_true_iff.mp e).2) (by rfl) ‹_› (by decide +kernel) ⟨rfl, rfl, rfl, rfl, rfl, by decide +kernel⟩ ?hw ?hc
  case hw => w_witness2
  case hc =>
    clear left
    intro w s₀ s₁ mg mb G Y fa o pm cd doc dV kV ho hd hcd hD hmg hg args vals as hpre hlay hrd hwl hlo
    have KX := kIn_of Y
    k_behind G ho hd hcd hD hmg hpre hlay hrd hwl hlo cd
    rename Top _ _ _ _ _ _ => TT
    rename Below _ _ _ _ => BB
    rename Fr _ _ _ _ => FF
    rename News _ _ _ _ => NN
    rename Heap.IsList _ _ _ => LL
    rename IntsAre _ _ => II
    rename ¬_ => CC
    refine law_in (G := gl2 w (ExcName.means s₀.heap) mg mb) (t := tab2) (e := 24) (ir := ir_law) (tabOk2 rfl rfl) (by kernel_rfl) (by kernel_rfl) KX TT BB FF (by rfl) NN LL II (by rfl) (by rfl) (show callerA.depth + 1 + 3 * 40 < recursionLimit by decide) (show callerA.units + 3 + 40 * 40 + 400 < cLine by decide) (lw _ w.params rfl rfl rfl _ (by omega)) (fun s' h1 h2 h3 => ?_)
    refine ⟨.inl ⟨_, _, [], rfl, fun _ => by rfl, ReadsW.bool true, ?_, fun _ => ⟨List.nodup_nil, fun _ hm => (nomatch hm)⟩⟩, h1, h2, h3.trans hg⟩
    first | kernel_rfl | (trace "no rfl"; wrow_post)
end Mine
end
section
set_option maxRecDepth 20000
namespace Mine
section
variable {G : Gl} {n : Nat} {st : ASt} {P : AFl → ASt → Prop} {r : IS}
theorem sq_set {i : Nat} {e : IE} (h : vE G n e st fun a st1 => vS G n r { st1 with env := st1.env.set i (some a) } P) : vS G n (.seq (.set i e) r) st P := h
theorem sq_setA {o e : IE} {k : Nat} (h : vE G n e st fun b st1 => vE G n o st1 fun a st2 => SetAttr G st2.heap a k b fun hp => vS G n r { st2 with heap := hp } P) : vS G n (.seq (.setA o k e) r) st P := h
theorem sq_setI {o i e : IE} (h : vE G n e st fun v st1 => vE G n o st1 fun a st2 => vE G n i st2 fun b st3 => SetItem st3.heap a b v fun hp => vS G n r { st3 with heap := hp } P) : vS G n (.seq (.setI o i e) r) st P := h
theorem sq_many {is : List Nat} {e : IE} (h : vE G n e st fun a st1 => onTup a fun l => l.length = is.length ∧ vS G n r { st1 with env := setMany is l st1.env } P) : vS G n (.seq (.many is e) r) st P := h
theorem sq_exp {e : IE} (h : vE G n e st fun _ st1 => vS G n r st1 P) : vS G n (.seq (.exp e) r) st P := h
theorem sq_ret {e : IE} (h : vE G n e st fun a st1 => P (.ret a) st1) : vS G n (.seq (.ret e) r) st P := h
theorem sq_brk (h : P .brk st) : vS G n (.seq .brk r) st P := h
theorem sq_skip (h : P .next st) : vS G n .skip st P := h
theorem sq_ife {t : IT} {b o : IS} (h : vT G n t st fun x st1 => fork x (vS G n b st1 (goOn (fun st1 => vS G n r st1 P) P)) (vS G n o st1 (goOn (fun st1 => vS G n r st1 P) P))) : vS G n (.seq (.ife t b o) r) st P := h
theorem sq_whl {t : IT} {b : IS} (h : vWhl (vT G n t) (vS G n b) st (goOn (fun st1 => vS G n r st1 P) P)) : vS G n (.seq (.whl t b) r) st P := h
theorem sq_forL {i : Nat} {e : IE} {b : IS} (h : vE G n e st fun a st1 => onLst a fun l => vLoop l i (vS G n b) st1 (goOn (fun st1 => vS G n r st1 P) P)) : vS G n (.seq (.forL i e b) r) st P := h
theorem sq_forS {i : Nat} {e : IE} {b : IS} (h : vE G n e st fun a st1 => onStr a fun y => vLoop (y.cps.toList.map fun m => AV.str ⟨#[m]⟩) i (vS G n b) st1 (goOn (fun st1 => vS G n r st1 P) P)) : vS G n (.seq (.forS i e b) r) st P := h
theorem sq_forR {i : Nat} {e : IE} {b : IS} (h : vE G n e st fun a st1 => onInt a fun m => (-(2 ^ 40) ≤ m ∧ m ≤ 2 ^ 40) ∧ vLoop (upItems m) i (vS G n b) st1 (goOn (fun st1 => vS G n r st1 P) P)) : vS G n (.seq (.forR i e b) r) st P := h
theorem sq_aug {i : Nat} {op : Operator} {e : IE} (h : onLoc st i fun a => vE G n e st fun b st1 => Aug op a b fun v => vS G n r { st1 with env := st1.env.set i (some v) } P) : vS G n (.seq (.aug i op e) r) st P := h
theorem sq_augI {o i e : IE} {op : Operator} (h : vE G n o st fun a st1 => vE G n i st1 fun b st2 => GetIdx st2.heap a b fun w => vE G n e st2 fun d st3 => Aug op w d fun v => SetIdx st3.heap a b v fun hp => vS G n r { st3 with heap := hp } P) : vS G n (.seq (.augI o i op e) r) st P := h
end
theorem FnOk.at {G : Gl} {t : Tab} {f : Addr} {k e : Nat} {das : List AV} {ir : IS} (F : FnOk G t f k e das ir) (hG : TabOk G t) (m : Nat) {n : Nat} {args : List AV} {hp : List AO} {P : AV → List AO → Prop} (hm : m + 1 ≤ n) (hn : args.length + das.length = k)
    (hv : vS G m ir ⟨(args ++ das).map some ++ List.replicate e none, hp⟩ fun fl st => P (retOf fl) st.heap) : TF G n f args hp P := (F.go hG hn hv).up hm
theorem ClsOk.at {G : Gl} {t : Tab} {C fI : Addr} {k e : Nat} {das : List AV} {ir : IS} (F : ClsOk G t C fI k e das ir) (hG : TabOk G t) (m : Nat) {n : Nat} {args : List AV} {hp : List AO} {P : AV → List AO → Prop} (hm : m + 1 ≤ n) (hn : args.length + 1 + das.length = k)
    (hv : vS G m ir ⟨((.obj hp.length :: args) ++ das).map some ++ List.replicate e none, hp ++ [.inst C []]⟩ fun fl st => retOf fl = .none ∧ P (.obj hp.length) st.heap) : TF G n C args hp P := (F.go hG hn hv).up hm
/-- the run's heap part and tables are this program's -/
structure Ok (G : Gl) : Prop where
  hk : ∃ P, G.K = kf P
  mt : G.mt = tab2.mt
  ct : G.ct = ct2
theorem Ok.tab {G : Gl} (O : Ok G) : TabOk G tab2 := O.hk.elim fun _ h => tabOk2 h O.mt

noncomputable def sv (l : List Str) : List AV := l.map .str
noncomputable def kwl : List Str := ["ARRAY", "BEGIN", "BY", "CASE", "CONST", "DIV", "DO", "ELSE", "ELSIF", "END", "FOR", "IF", "IMPORT", "IN", "IS", "MOD", "MODULE", "NIL", "OF", "OR", "POINTER", "PROCEDURE", "RECORD", "REPEAT", "RETURN", "THEN", "TO", "TYPE", "UNTIL", "VAR", "WHILE"]
noncomputable def scn (x : Str) (e : Nat) (p : Int) : AO := .inst aScanner [(0, .str x), (1, .obj e), (2, .int p), (3, .tup (sv kwl))]
noncomputable def tok (k v : AV) (p : Int) : AO := .inst aToken [(4, k), (5, v), (2, .int p)]
noncomputable def erl (r d : Nat) : AO := .inst aErrorList [(6, .obj r), (7, .obj d)]
section
variable {hp : List AO} {i : Nat} {x : Str} {e : Nat} {p : Int} {P : AV → Prop}
theorem at_src (h : hp[i]? = some (scn x e p)) : Attr hp (.obj i) 0 P = P (.str x) := by simp [Attr, h, scn, List.lookup]
theorem at_err (h : hp[i]? = some (scn x e p)) : Attr hp (.obj i) 1 P = P (.obj e) := by simp [Attr, h, scn, List.lookup]
theorem at_plc (h : hp[i]? = some (scn x e p)) : Attr hp (.obj i) 2 P = P (.int p) := by simp [Attr, h, scn, List.lookup]
theorem at_wrd (h : hp[i]? = some (scn x e p)) : Attr hp (.obj i) 3 P = P (.tup (sv kwl)) := by simp [Attr, h, scn, List.lookup]
theorem at_row {r d : Nat} (h : hp[i]? = some (erl r d)) : Attr hp (.obj i) 6 P = P (.obj r) := by simp [Attr, h, erl, List.lookup]
theorem at_plcs {r d : Nat} (h : hp[i]? = some (erl r d)) : Attr hp (.obj i) 7 P = P (.obj d) := by simp [Attr, h, erl, List.lookup]
theorem at_kind {k v : AV} (h : hp[i]? = some (tok k v p)) : Attr hp (.obj i) 4 P = P k := by simp [Attr, h, tok, List.lookup]
theorem at_val {k v : AV} (h : hp[i]? = some (tok k v p)) : Attr hp (.obj i) 5 P = P v := by simp [Attr, h, tok, List.lookup]
theorem at_tplc {k v : AV} (h : hp[i]? = some (tok k v p)) : Attr hp (.obj i) 2 P = P (.int p) := by simp [Attr, h, tok, List.lookup]
theorem set_plc {G : Gl} {q : Int} {R : List AO → Prop} (O : Ok G) (h : hp[i]? = some (scn x e p)) : SetAttr G hp (.obj i) 2 (.int q) R = R (hp.set i (scn x e q)) := by
  have : (aScanner, 2) ∈ G.ct := by rw [O.ct]; decide
  simp [SetAttr, h, scn, putA, this]
theorem set_val {G : Gl} {k v u : AV} {R : List AO → Prop} (O : Ok G) (h : hp[i]? = some (tok k v p)) : SetAttr G hp (.obj i) 5 u R = R (hp.set i (tok k u p)) := by
  have : (aToken, 5) ∈ G.ct := by rw [O.ct]; decide
  simp [SetAttr, h, tok, putA, this]
theorem on_scn {C : Nat → Prop} (h : hp[i]? = some (scn x e p)) : onInst hp (.obj i) aScanner C = C i := by simp [onInst, h, scn]
theorem on_erl {C : Nat → Prop} {r d : Nat} (h : hp[i]? = some (erl r d)) : onInst hp (.obj i) aErrorList C = C i := by simp [onInst, h, erl]
end
theorem set_same {l : List AO} {i : Nat} {o u : AO} (h : l[i]? = some o) : (l.set i u)[i]? = some u := by
  have := (List.getElem?_eq_some_iff.mp h).1
  simp [this]
theorem set_other {l : List AO} {i j : Nat} {o u : AO} (h : l[j]? = some o) (hj : i ≠ j) : (l.set i u)[j]? = some o := by
  rw [List.getElem?_set_ne hj]; exact h
theorem push_same {l : List AO} {i : Nat} {o u : AO} (h : l[i]? = some o) : (l ++ [u])[i]? = some o := by
  have := (List.getElem?_eq_some_iff.mp h).1
  rw [List.getElem?_append_left this]; exact h
/-- a scanner's own places in the heap -/
structure Wd where
  x : Str
  i : Nat
  e : Nat
  r : Nat
  d : Nat
structure Sc (w : Wd) (p : Nat) (rows : List AV) (ks : List Int) (hp : List AO) : Prop where
  s : hp[w.i]? = some (scn w.x w.e (p : Int))
  e : hp[w.e]? = some (erl w.r w.d)
  r : hp[w.r]? = some (.list rows)
  d : hp[w.d]? = some (.dict ks)
  sz : w.x.length ≤ 1000000
theorem ne_of {hp : List AO} {i j : Nat} {a b : AO} (h : hp[i]? = some a) (h' : hp[j]? = some b) (hab : a ≠ b) : i ≠ j := fun e => hab (by subst e; rw [h] at h'; exact Option.some.inj h')
section
variable {w : Wd} {p : Nat} {rows : List AV} {ks : List Int} {hp hp' hp'' : List AO}
theorem Sc.ie (S : Sc w p rows ks hp) : w.i ≠ w.e := ne_of S.s S.e fun h => by
  injection h with h1 h2
  exact absurd h1 (by decide)
theorem Sc.ir (S : Sc w p rows ks hp) : w.i ≠ w.r := ne_of S.s S.r fun h => by cases h
theorem Sc.id (S : Sc w p rows ks hp) : w.i ≠ w.d := ne_of S.s S.d fun h => by cases h
theorem Sc.er (S : Sc w p rows ks hp) : w.e ≠ w.r := ne_of S.e S.r fun h => by cases h
theorem Sc.ed (S : Sc w p rows ks hp) : w.e ≠ w.d := ne_of S.e S.d fun h => by cases h
theorem Sc.rd (S : Sc w p rows ks hp) : w.r ≠ w.d := ne_of S.r S.d fun h => by cases h
/-- all else stands as it stood -/
noncomputable def Nx (w : Wd) (hp hp' : List AO) : Prop := hp.length ≤ hp'.length ∧ ∀ j, j < hp.length → j ≠ w.i → j ≠ w.r → j ≠ w.d → hp'[j]? = hp[j]?
theorem Nx.refl : Nx w hp hp := ⟨Nat.le_refl _, fun _ _ _ _ _ => rfl⟩
theorem Nx.trans (a : Nx w hp hp') (b : Nx w hp' hp'') : Nx w hp hp'' := ⟨Nat.le_trans a.1 b.1, fun j h1 h2 h3 h4 => (b.2 j (Nat.lt_of_lt_of_le h1 a.1) h2 h3 h4).trans (a.2 j h1 h2 h3 h4)⟩
theorem Nx.push {o : AO} : Nx w hp (hp ++ [o]) := ⟨by simp, fun j h _ _ _ => by rw [List.getElem?_append_left h]⟩
theorem Nx.set {j : Nat} {o : AO} (h : j = w.i ∨ j = w.r ∨ j = w.d) : Nx w hp (hp.set j o) := ⟨by simp, fun k h1 h2 h3 h4 => by
  rw [List.getElem?_set_ne (fun e => by subst e; rcases h with h | h | h <;> contradiction)]⟩
theorem Sc.go (S : Sc w p rows ks hp) (q : Nat) : Sc w q rows ks (hp.set w.i (scn w.x w.e (q : Int))) := ⟨set_same S.s, set_other S.e S.ie, set_other S.r S.ir, set_other S.d S.id, S.sz⟩
theorem Sc.push (S : Sc w p rows ks hp) (o : AO) : Sc w p rows ks (hp ++ [o]) := ⟨push_same S.s, push_same S.e, push_same S.r, push_same S.d, S.sz⟩
theorem Sc.mk' (S : Sc w p rows ks hp) (k : Int) (v : AV) : Sc w p (rows ++ [v]) (k :: ks) ((hp.set w.d (.dict (k :: ks))).set w.r (.list (rows ++ [v]))) :=
  ⟨set_other (set_other S.s (Ne.symm S.id)) (Ne.symm S.ir), set_other (set_other S.e (Ne.symm S.ed)) (Ne.symm S.er), set_same (set_other S.r (Ne.symm S.rd)), set_other (set_same S.d) S.rd, S.sz⟩
/-- the scanner's place, as the heap has it -/
noncomputable def plc (w : Wd) (st : ASt) : Nat := match st.heap[w.i]? with
  | some (.inst _ ((_, _) :: (_, _) :: (_, .int p) :: _)) => p.toNat
  | _ => 0
theorem Sc.plc {env : List (Option AV)} (S : Sc w p rows ks hp) : plc w ⟨env, hp⟩ = p := by simp [Mine.plc, S.s, scn]
end
section
variable {G : Gl} {n : Nat} {hp : List AO} {w : Wd} {p : Nat} {rows : List AV} {ks : List Int} {P : AV → List AO → Prop}
theorem c_char (O : Ok G) (hn : 1 ≤ n) (S : Sc w p rows ks hp) (h : P (.str (oc w.x.cps.toList[p]?)) hp) : TF G n aChar [.obj w.i] hp P := by
  obtain ⟨Pm, hk⟩ := O.hk
  refine (f_char hk).at O.tab 0 hn rfl ?_
  unfold ir_Scanner_char
  refine sq_ret ?_
  simp only [vE, vT, vA, onLoc, onStr, onLst, onInt, onTup, onList, onB, Bin, small, goOn, retOf, turnEnd, List.map_cons, List.map_nil, List.append_nil, List.cons_append, List.nil_append, List.replicate, List.getElem?_cons_zero, List.getElem?_cons_succ, List.set_cons_zero, List.set_cons_succ, List.length_cons, List.length_nil, List.length_append, Nat.zero_add, Nat.reduceAdd, Nat.add_zero, at_src S.s, at_plc S.s, Slc]
  refine ⟨Nat.le_trans S.sz (by decide), ?_⟩
  rw [show (p : Int) + 0 = (p : Int) by omega, slice_one]
  exact h
theorem c_char1 (O : Ok G) (hn : 1 ≤ n) (S : Sc w p rows ks hp) (h : P (.str (oc w.x.cps.toList[p + 1]?)) hp) : TF G n aChar [.obj w.i, .int 1] hp P := by
  obtain ⟨Pm, hk⟩ := O.hk
  refine (f_char1 hk).at O.tab 0 hn rfl ?_
  unfold ir_Scanner_char
  refine sq_ret ?_
  simp only [vE, vT, vA, onLoc, onStr, onLst, onInt, onTup, onList, onB, Bin, small, goOn, retOf, turnEnd, List.map_cons, List.map_nil, List.append_nil, List.cons_append, List.nil_append, List.replicate, List.getElem?_cons_zero, List.getElem?_cons_succ, List.set_cons_zero, List.set_cons_succ, List.length_cons, List.length_nil, List.length_append, Nat.zero_add, Nat.reduceAdd, Nat.add_zero, at_src S.s, at_plc S.s, Slc]
  refine ⟨Nat.le_trans S.sz (by decide), ?_⟩
  rw [show (p : Int) + 1 = ((p + 1 : Nat) : Int) by omega, slice_one]
  exact h
noncomputable def isDig (o : Option Nat) : Bool := match o with
  | some c => decide (48 ≤ c) && decide (c ≤ 57)
  | none => false
noncomputable def isLet (o : Option Nat) : Bool := match o with
  | some c => decide (97 ≤ c) && decide (c ≤ 122) || decide (65 ≤ c) && decide (c ≤ 90)
  | none => false
noncomputable def isHex (o : Option Nat) : Bool := match o with
  | some c => decide (48 ≤ c) && decide (c ≤ 57) || decide (65 ≤ c) && decide (c ≤ 70)
  | none => false
theorem le_oc (c : Nat) (o : Option Nat) : (!decide ((oc o).cps.toList < [c])) = match o with | some d => decide (c ≤ d) | none => false := by
  cases o with
  | none => simp [oc]
  | some d =>
    by_cases h : c ≤ d
    · have : ¬ d < c := by omega
      simp [oc, List.cons_lt_cons_iff, h, this]
    · have : d < c := by omega
      simp [oc, List.cons_lt_cons_iff, h, this]
theorem oc_le (c : Nat) (o : Option Nat) : (!decide ([c] < (oc o).cps.toList)) = match o with | some d => decide (d ≤ c) | none => true := by
  cases o with
  | none => simp [oc]
  | some d =>
    by_cases h : d ≤ c
    · have : ¬ c < d := by omega
      simp [oc, List.cons_lt_cons_iff, h, this]
    · have : c < d := by omega
      simp [oc, List.cons_lt_cons_iff, h, this]
theorem s_0 : (PySem.Str.ofString "0").cps.toList = [48] := by decide
theorem s_9 : (PySem.Str.ofString "9").cps.toList = [57] := by decide
theorem s_a : (PySem.Str.ofString "a").cps.toList = [97] := by decide
theorem s_z : (PySem.Str.ofString "z").cps.toList = [122] := by decide
theorem s_A : (PySem.Str.ofString "A").cps.toList = [65] := by decide
theorem s_Z : (PySem.Str.ofString "Z").cps.toList = [90] := by decide
theorem s_F : (PySem.Str.ofString "F").cps.toList = [70] := by decide
theorem c_is_digit (O : Ok G) (hn : 1 ≤ n) (o : Option Nat) (h : P (.bool (isDig o)) hp) : TF G n aIsDigit [.str (oc o)] hp P := by
  obtain ⟨Pm, hk⟩ := O.hk
  refine (f_is_digit hk).at O.tab 0 hn rfl ?_
  unfold ir_is_digit
  refine sq_ret ?_
  simp only [vE, vT, vA, onLoc, onStr, onLst, onInt, onTup, onList, onB, Bin, small, goOn, retOf, turnEnd, List.map_cons, List.map_nil, List.append_nil, List.cons_append, List.nil_append, List.replicate, List.getElem?_cons_zero, List.getElem?_cons_succ, List.set_cons_zero, List.set_cons_succ, List.length_cons, List.length_nil, List.length_append, Nat.zero_add, Nat.reduceAdd, Nat.add_zero, Cmp, s_0, s_9, le_oc, oc_le]
  cases o with
  | none => exact ⟨fun e => by simp at e, fun _ => h⟩
  | some c =>
    refine ⟨fun e => ?_, fun e => ?_⟩
    · simpa only [isDig, e, Bool.true_and] using h
    · simpa only [isDig, e, Bool.false_and] using h
theorem c_is_letter (O : Ok G) (hn : 1 ≤ n) (o : Option Nat) (h : P (.bool (isLet o)) hp) : TF G n aIsLetter [.str (oc o)] hp P := by
  obtain ⟨Pm, hk⟩ := O.hk
  refine (f_is_letter hk).at O.tab 0 hn rfl ?_
  unfold ir_is_letter
  refine sq_ret ?_
  simp only [vE, vT, vA, onLoc, onStr, onLst, onInt, onTup, onList, onB, Bin, small, goOn, retOf, turnEnd, List.map_cons, List.map_nil, List.append_nil, List.cons_append, List.nil_append, List.replicate, List.getElem?_cons_zero, List.getElem?_cons_succ, List.set_cons_zero, List.set_cons_succ, List.length_cons, List.length_nil, List.length_append, Nat.zero_add, Nat.reduceAdd, Nat.add_zero, Cmp, s_a, s_z, s_A, s_Z, le_oc, oc_le]
  cases o with
  | none => simpa [fork, isLet] using h
  | some c =>
    simp only [isLet] at h
    simp only [fork]
    cases h1 : decide (97 ≤ c) <;> cases h2 : decide (c ≤ 122) <;> cases h3 : decide (65 ≤ c) <;> cases h4 : decide (c ≤ 90) <;> simp_all
theorem c_is_hex (O : Ok G) (hn : 2 ≤ n) (o : Option Nat) (h : P (.bool (isHex o)) hp) : TF G n aIsHexDigit [.str (oc o)] hp P := by
  obtain ⟨Pm, hk⟩ := O.hk
  refine (f_is_hex_digit hk).at O.tab 1 hn rfl ?_
  unfold ir_is_hex_digit
  refine sq_ret ?_
  simp only [vE, vT, vA, onLoc, onStr, onLst, onInt, onTup, onList, onB, Bin, small, goOn, retOf, turnEnd, List.map_cons, List.map_nil, List.append_nil, List.cons_append, List.nil_append, List.replicate, List.getElem?_cons_zero, List.getElem?_cons_succ, List.set_cons_zero, List.set_cons_succ, List.length_cons, List.length_nil, List.length_append, Nat.zero_add, Nat.reduceAdd, Nat.add_zero, Cmp, s_A, s_F, le_oc, oc_le]
  refine c_is_digit O (Nat.le_refl 1) o ?_
  cases o with
  | none => simpa [fork, isHex, isDig] using h
  | some c =>
    simp only [isHex] at h
    simp only [fork, isDig]
    cases h1 : decide (48 ≤ c) <;> cases h2 : decide (c ≤ 57) <;> cases h3 : decide (65 ≤ c) <;> cases h4 : decide (c ≤ 70) <;> simp_all
theorem c_token (O : Ok G) (hn : 1 ≤ n) {k v : AV} {q : Int} (h : P (.obj hp.length) (hp ++ [tok k v q])) : TF G n aToken [k, v, .int q] hp P := by
  obtain ⟨Pm, hk⟩ := O.hk
  refine (k_Token hk).at O.tab 0 hn rfl ?_
  unfold ir_Token___init__
  have m4 : (aToken, 4) ∈ G.ct := by rw [O.ct]; decide
  have m5 : (aToken, 5) ∈ G.ct := by rw [O.ct]; decide
  have m2 : (aToken, 2) ∈ G.ct := by rw [O.ct]; decide
  refine sq_setA ?_
  simp only [vE, vT, vA, onLoc, onStr, onLst, onInt, onTup, onList, onB, Bin, small, goOn, retOf, turnEnd, List.map_cons, List.map_nil, List.append_nil, List.cons_append, List.nil_append, List.replicate, List.getElem?_cons_zero, List.getElem?_cons_succ, List.set_cons_zero, List.set_cons_succ, List.length_cons, List.length_nil, List.length_append, Nat.zero_add, Nat.reduceAdd, Nat.add_zero, SetAttr]
  simp only [List.getElem?_concat_length, List.contains_eq_mem, m4, decide_true, List.length_nil, putA, List.set_append_right, Nat.le_refl, Nat.sub_self, List.set_cons_zero, Nat.zero_le, true_and]
  refine sq_setA ?_
  simp only [vE, vT, vA, onLoc, onStr, onLst, onInt, onTup, onList, onB, Bin, small, goOn, retOf, turnEnd, List.map_cons, List.map_nil, List.append_nil, List.cons_append, List.nil_append, List.replicate, List.getElem?_cons_zero, List.getElem?_cons_succ, List.set_cons_zero, List.set_cons_succ, List.length_cons, List.length_nil, List.length_append, Nat.zero_add, Nat.reduceAdd, Nat.add_zero, SetAttr]
  simp [m5, putA]
  refine sq_setA ?_
  simp only [vE, vT, vA, onLoc, onStr, onLst, onInt, onTup, onList, onB, Bin, small, goOn, retOf, turnEnd, List.map_cons, List.map_nil, List.append_nil, List.cons_append, List.nil_append, List.replicate, List.getElem?_cons_zero, List.getElem?_cons_succ, List.set_cons_zero, List.set_cons_succ, List.length_cons, List.length_nil, List.length_append, Nat.zero_add, Nat.reduceAdd, Nat.add_zero, SetAttr]
  simp [m2, putA]
  refine sq_skip ?_
  exact ⟨rfl, h⟩
end
end Mine
end
section
set_option maxRecDepth 20000
namespace Mine
noncomputable def sl (l : List Nat) : Str := ⟨l.toArray⟩
theorem sl_list (l : List Nat) : (sl l).cps.toList = l := by simp [sl]
theorem sl_length (l : List Nat) : (sl l).length = l.length := by simp [sl, Str.length]
theorem slice_sl (x : Str) (i j : Nat) (h : i ≤ j) : Txt.slice x (some (i : Int)) (some (j : Int)) = sl ((x.cps.toList.drop i).take (j - i)) := slice_nat x i j h
theorem at_len {hp : List AO} {a : AO} {t : List AO} : (hp ++ a :: t)[hp.length]? = some a := by simp
theorem set_len {hp : List AO} {a x : AO} {t : List AO} : (hp ++ a :: t).set hp.length x = hp ++ x :: t := by simp
theorem len_cons2 {hp : List AO} {a : AO} : (hp ++ [a]).length = hp.length + 1 := by simp
section
variable {G : Gl} {n : Nat} {hp : List AO} {w : Wd} {p : Nat} {rows : List AV} {ks : List Int} {P : AV → List AO → Prop}
theorem c_keywords (O : Ok G) (hn : 1 ≤ n) (h : P (.tup (sv kwl)) hp) : TF G n aKeywords [] hp P := by
  obtain ⟨Pm, hk⟩ := O.hk
  refine (f_keywords hk).at O.tab 0 hn rfl ?_
  unfold ir_keywords
  refine sq_ret ?_
  simp only [vE, vT, vA, onLoc, onStr, onLst, onInt, onTup, onList, onB, Bin, small, goOn, retOf, turnEnd, List.map_cons, List.map_nil, List.append_nil, List.cons_append, List.nil_append, List.replicate, List.getElem?_cons_zero, List.getElem?_cons_succ, List.set_cons_zero, List.set_cons_succ, List.length_cons, List.length_nil, List.length_append, Nat.zero_add, Nat.reduceAdd, Nat.add_zero]
  exact ⟨by decide, h⟩
theorem c_errors (O : Ok G) (hn : 1 ≤ n) (h : P (.obj hp.length) (hp ++ [erl (hp.length + 1) (hp.length + 2), .list [], .dict []])) : TF G n aErrorList [] hp P := by
  obtain ⟨Pm, hk⟩ := O.hk
  refine (k_ErrorList hk).at O.tab 0 hn rfl ?_
  unfold ir_ErrorList___init__
  have m6 : G.ct.contains (aErrorList, 6) = true := by rw [O.ct]; decide
  have m7 : G.ct.contains (aErrorList, 7) = true := by rw [O.ct]; decide
  refine sq_setA ?_
  simp only [vE, vT, vA, onLoc, onStr, onLst, onInt, onTup, onList, onB, Bin, small, goOn, retOf, turnEnd, List.map_cons, List.map_nil, List.append_nil, List.cons_append, List.nil_append, List.replicate, List.getElem?_cons_zero, List.getElem?_cons_succ, List.set_cons_zero, List.set_cons_succ, List.length_cons, List.length_nil, List.length_append, Nat.zero_add, Nat.reduceAdd, Nat.add_zero, SetAttr, List.append_assoc, at_len, set_len, m6, putA]
  refine ⟨by decide, by decide, ?_⟩
  refine sq_setA ?_
  simp only [vE, vT, vA, onLoc, onStr, onLst, onInt, onTup, onList, onB, Bin, small, goOn, retOf, turnEnd, List.map_cons, List.map_nil, List.append_nil, List.cons_append, List.nil_append, List.replicate, List.getElem?_cons_zero, List.getElem?_cons_succ, List.set_cons_zero, List.set_cons_succ, List.length_cons, List.length_nil, List.length_append, Nat.zero_add, Nat.reduceAdd, Nat.add_zero, SetAttr, List.append_assoc, at_len, set_len, m7, putA]
  refine ⟨by decide, ?_⟩
  refine sq_skip ?_
  simp only [vE, vT, vA, onLoc, onStr, onLst, onInt, onTup, onList, onB, Bin, small, goOn, retOf, turnEnd, List.map_cons, List.map_nil, List.append_nil, List.cons_append, List.nil_append, List.replicate, List.getElem?_cons_zero, List.getElem?_cons_succ, List.set_cons_zero, List.set_cons_succ, List.length_cons, List.length_nil, List.length_append, Nat.zero_add, Nat.reduceAdd, Nat.add_zero, reduceCtorEq, ite_false, if_neg (show ¬ (6 : Nat) = 7 by decide), putA, true_and]
  exact h
theorem c_scanner (O : Ok G) (hn : 2 ≤ n) {x : Str} {e : Nat} (h : P (.obj hp.length) (hp ++ [scn x e 0])) : TF G n aScanner [.str x, .obj e] hp P := by
  obtain ⟨Pm, hk⟩ := O.hk
  refine (k_Scanner hk).at O.tab 1 hn rfl ?_
  unfold ir_Scanner___init__
  have m0 : G.ct.contains (aScanner, 0) = true := by rw [O.ct]; decide
  have m1 : G.ct.contains (aScanner, 1) = true := by rw [O.ct]; decide
  have m2 : G.ct.contains (aScanner, 2) = true := by rw [O.ct]; decide
  have m3 : G.ct.contains (aScanner, 3) = true := by rw [O.ct]; decide
  refine sq_setA ?_
  simp only [vE, vT, vA, onLoc, onStr, onLst, onInt, onTup, onList, onB, Bin, small, goOn, retOf, turnEnd, List.map_cons, List.map_nil, List.append_nil, List.cons_append, List.nil_append, List.replicate, List.getElem?_cons_zero, List.getElem?_cons_succ, List.set_cons_zero, List.set_cons_succ, List.length_cons, List.length_nil, List.length_append, Nat.zero_add, Nat.reduceAdd, Nat.add_zero, SetAttr, List.append_assoc, at_len, set_len, m0, putA]
  refine ⟨by decide, ?_⟩
  refine sq_setA ?_
  simp only [vE, vT, vA, onLoc, onStr, onLst, onInt, onTup, onList, onB, Bin, small, goOn, retOf, turnEnd, List.map_cons, List.map_nil, List.append_nil, List.cons_append, List.nil_append, List.replicate, List.getElem?_cons_zero, List.getElem?_cons_succ, List.set_cons_zero, List.set_cons_succ, List.length_cons, List.length_nil, List.length_append, Nat.zero_add, Nat.reduceAdd, Nat.add_zero, SetAttr, List.append_assoc, at_len, set_len, m1, putA]
  refine ⟨⟨trivial, by simp [putA]⟩, ?_⟩
  refine sq_setA ?_
  simp only [vE, vT, vA, onLoc, onStr, onLst, onInt, onTup, onList, onB, Bin, small, goOn, retOf, turnEnd, List.map_cons, List.map_nil, List.append_nil, List.cons_append, List.nil_append, List.replicate, List.getElem?_cons_zero, List.getElem?_cons_succ, List.set_cons_zero, List.set_cons_succ, List.length_cons, List.length_nil, List.length_append, Nat.zero_add, Nat.reduceAdd, Nat.add_zero, SetAttr, List.append_assoc, at_len, set_len, m2, putA]
  refine ⟨⟨trivial, by simp [putA]⟩, ?_⟩
  refine sq_setA ?_
  simp only [vE, vT, vA, onLoc, onStr, onLst, onInt, onTup, onList, onB, Bin, small, goOn, retOf, turnEnd, List.map_cons, List.map_nil, List.append_nil, List.cons_append, List.nil_append, List.replicate, List.getElem?_cons_zero, List.getElem?_cons_succ, List.set_cons_zero, List.set_cons_succ, List.length_cons, List.length_nil, List.length_append, Nat.zero_add, Nat.reduceAdd, Nat.add_zero]
  refine c_keywords O (Nat.le_refl 1) ?_
  simp only [vE, vT, vA, onLoc, onStr, onLst, onInt, onTup, onList, onB, Bin, small, goOn, retOf, turnEnd, List.map_cons, List.map_nil, List.append_nil, List.cons_append, List.nil_append, List.replicate, List.getElem?_cons_zero, List.getElem?_cons_succ, List.set_cons_zero, List.set_cons_succ, List.length_cons, List.length_nil, List.length_append, Nat.zero_add, Nat.reduceAdd, Nat.add_zero, SetAttr, List.append_assoc, at_len, set_len, m3, putA]
  refine ⟨⟨trivial, by simp [putA]⟩, ?_⟩
  refine sq_skip ⟨rfl, ?_⟩
  exact h
theorem c_mark (O : Ok G) (hn : 1 ≤ n) (S : Sc w p rows ks hp) {q : Int} {code : Str} (hk : ks.contains q = false) (h1 : rows.length ≤ 1000) (h2 : ks.length ≤ 1000)
    (h : ∀ hp', Sc w p (rows ++ [.tup [.int q, .str code]]) (q :: ks) hp' → Nx w hp hp' → hp'.length = hp.length → P .none hp') : TF G n aMark [.obj w.e, .int q, .str code] hp P := by
  obtain ⟨Pm, hK⟩ := O.hk
  refine (f_ErrorList_mark hK).at O.tab 0 hn rfl ?_
  unfold ir_ErrorList_mark
  refine sq_ife ?_
  simp only [vE, vT, vA, onLoc, onStr, onLst, onInt, onTup, onList, onB, Bin, small, goOn, retOf, turnEnd, List.map_cons, List.map_nil, List.append_nil, List.cons_append, List.nil_append, List.replicate, List.getElem?_cons_zero, List.getElem?_cons_succ, List.set_cons_zero, List.set_cons_succ, List.length_cons, List.length_nil, List.length_append, Nat.zero_add, Nat.reduceAdd, Nat.add_zero, at_plcs S.e, Cmp, S.d, hk, Bool.not_false]
  refine ⟨fun _ => ?_, fun e => by simp at e⟩
  refine sq_setI ?_
  simp only [vE, vT, vA, onLoc, onStr, onLst, onInt, onTup, onList, onB, Bin, small, goOn, retOf, turnEnd, List.map_cons, List.map_nil, List.append_nil, List.cons_append, List.nil_append, List.replicate, List.getElem?_cons_zero, List.getElem?_cons_succ, List.set_cons_zero, List.set_cons_succ, List.length_cons, List.length_nil, List.length_append, Nat.zero_add, Nat.reduceAdd, Nat.add_zero, at_plcs S.e, SetItem, SetKey, S.d]
  refine ⟨⟨⟨_, rfl⟩, Nat.le_trans h2 (by decide)⟩, ?_⟩
  refine sq_exp ?_
  have S' := S.mk' q (.tup [.int q, .str code])
  simp only [vE, vT, vA, onLoc, onStr, onLst, onInt, onTup, onList, onB, Bin, small, goOn, retOf, turnEnd, List.map_cons, List.map_nil, List.append_nil, List.cons_append, List.nil_append, List.replicate, List.getElem?_cons_zero, List.getElem?_cons_succ, List.set_cons_zero, List.set_cons_succ, List.length_cons, List.length_nil, List.length_append, Nat.zero_add, Nat.reduceAdd, Nat.add_zero, at_row (set_other S.e (Ne.symm S.ed) : (hp.set w.d (AO.dict (q :: ks)))[w.e]? = _), App, (set_other S.r (Ne.symm S.rd) : (hp.set w.d (AO.dict (q :: ks)))[w.r]? = _)]
  refine ⟨by decide, Nat.le_trans (Nat.succ_le_succ h1) (by decide), ?_⟩
  refine sq_skip ?_
  simp only [vE, vT, vA, onLoc, onStr, onLst, onInt, onTup, onList, onB, Bin, small, goOn, retOf, turnEnd, List.map_cons, List.map_nil, List.append_nil, List.cons_append, List.nil_append, List.replicate, List.getElem?_cons_zero, List.getElem?_cons_succ, List.set_cons_zero, List.set_cons_succ, List.length_cons, List.length_nil, List.length_append, Nat.zero_add, Nat.reduceAdd, Nat.add_zero]
  refine sq_skip ?_
  refine h _ S' (.trans (.set (.inr (.inr rfl))) (.set (.inr (.inl rfl)))) (by simp)
end
end Mine
end
section
set_option maxRecDepth 20000
namespace Mine
noncomputable def hexc : List Nat := [48, 49, 50, 51, 52, 53, 54, 55, 56, 57, 65, 66, 67, 68, 69, 70]
noncomputable def dgt (c : Nat) : Nat := if c ≤ 57 then c - 48 else c - 55
noncomputable def hx (c : Nat) : Bool := isHex (some c)
noncomputable def dg (c : Nat) : Bool := isDig (some c)
theorem hx_mem {c : Nat} (h : hx c = true) : c ∈ hexc := by
  simp only [hx, isHex, Bool.or_eq_true, Bool.and_eq_true, decide_eq_true_eq] at h
  simp only [hexc, List.mem_cons, List.not_mem_nil, or_false]
  omega
theorem dg_hx {c : Nat} (h : dg c = true) : hx c = true := by
  simp only [dg, isDig, Bool.and_eq_true, decide_eq_true_eq] at h
  simp only [hx, isHex, Bool.or_eq_true, Bool.and_eq_true, decide_eq_true_eq]
  omega
theorem find_hex : ∀ c ∈ hexc, Txt.find "0123456789ABCDEF" ⟨#[c]⟩ = (dgt c : Int) := by decide +kernel
theorem idx_hex : ∀ c ∈ hexc, (Builtin.Str.occurrences "0123456789ABCDEF" ⟨#[c]⟩ 0 (PySem.Str.ofString "0123456789ABCDEF").length 1).isEmpty = false := by decide +kernel
theorem dgt_lt {c : Nat} (h : c ∈ hexc) : dgt c < 16 := by
  revert c; decide
noncomputable def tot (b : Nat) (ds : List Nat) : Nat := ds.foldl (fun a c => a * b + dgt c) 0
theorem tot_snoc {b c : Nat} {ds : List Nat} : tot b (ds ++ [c]) = tot b ds * b + dgt c := by simp [tot]
theorem fold_ge {b : Nat} (hb : 1 ≤ b) : ∀ (r : List Nat) (a : Nat), a ≤ r.foldl (fun a c => a * b + dgt c) a
  | [], _ => Nat.le_refl _
  | c :: r, a => Nat.le_trans (Nat.le_trans (Nat.le_mul_of_pos_right a hb) (Nat.le_add_right _ _)) (fold_ge hb r _)
theorem tot_take {b : Nat} (hb : 1 ≤ b) (ds : List Nat) (k : Nat) : tot b (ds.take k) ≤ tot b ds := by
  have := fold_ge hb (ds.drop k) (tot b (ds.take k))
  unfold tot at this ⊢
  rw [← List.foldl_append, List.take_append_drop] at this
  exact this
theorem take_succ_get {α : Type} {l : List α} {k : Nat} {a : α} (h : l[k]? = some a) : l.take (k + 1) = l.take k ++ [a] := by
  rw [List.take_succ, h]; rfl
noncomputable def dv (b most : Nat) (ds : List Nat) : Nat := if tot b ds ≤ most then tot b ds else most + 1
theorem mul_ok {a b : Nat} (h1 : a ≤ 2 ^ 60) (h2 : b ≤ 16) : IntMulOk (a : Int) (b : Int) := IntMulOk.of_right (intBits_le_64 (by omega) (by omega))
section
variable {G : Gl} {n : Nat} {hp : List AO} {w : Wd} {p : Nat} {rows : List AV} {ks : List Int} {P : AV → List AO → Prop}
theorem c_digits (O : Ok G) (hn : 1 ≤ n) {ds : List Nat} {b most : Nat} (hd : ∀ c ∈ ds, hx c = true) (hb : 1 ≤ b) (hb' : b ≤ 16) (hm : most ≤ 2 ^ 60) (h : P (.int (dv b most ds : Nat)) hp) : TF G n aDigitsValue [.str (sl ds), .int b, .int most] hp P := by
  obtain ⟨Pm, hk⟩ := O.hk
  refine (f_digits_value hk).at O.tab 0 hn rfl ?_
  unfold ir_digits_value
  refine sq_set ?_
  simp only [vE, vT, vA, onLoc, onStr, onLst, onInt, onTup, onList, onB, Bin, small, goOn, retOf, turnEnd, List.map_cons, List.map_nil, List.append_nil, List.cons_append, List.nil_append, List.replicate, List.getElem?_cons_zero, List.getElem?_cons_succ, List.set_cons_zero, List.set_cons_succ, List.length_cons, List.length_nil, List.length_append, Nat.zero_add, Nat.reduceAdd, Nat.add_zero]
  refine sq_forS ?_
  simp only [vE, vT, vA, onLoc, onStr, onLst, onInt, onTup, onList, onB, Bin, small, goOn, retOf, turnEnd, List.map_cons, List.map_nil, List.append_nil, List.cons_append, List.nil_append, List.replicate, List.getElem?_cons_zero, List.getElem?_cons_succ, List.set_cons_zero, List.set_cons_succ, List.length_cons, List.length_nil, List.length_append, Nat.zero_add, Nat.reduceAdd, Nat.add_zero]
  refine ⟨fun k st => tot b (ds.take k) ≤ most ∧ ∃ o, st = ⟨[some (.str (sl ds)), some (.int b), some (.int most), some (.int (tot b (ds.take k) : Nat)), o], hp⟩, ⟨Nat.zero_le _, _, rfl⟩, ?_, ?_⟩
  · intro k a ha st1 hi
    obtain ⟨hle, o, rfl⟩ := hi
    rw [sl_list, List.getElem?_map] at ha
    obtain ⟨c, hc, rfl⟩ := Option.map_eq_some_iff.mp ha
    have hcm : c ∈ hexc := hx_mem (hd c (List.mem_of_getElem? hc))
    refine sq_set ?_
    simp only [vE, vT, vA, onLoc, onStr, onLst, onInt, onTup, onList, onB, Bin, small, goOn, retOf, turnEnd, List.map_cons, List.map_nil, List.append_nil, List.cons_append, List.nil_append, List.replicate, List.getElem?_cons_zero, List.getElem?_cons_succ, List.set_cons_zero, List.set_cons_succ, List.length_cons, List.length_nil, List.length_append, Nat.zero_add, Nat.reduceAdd, Nat.add_zero, Find, find_hex c hcm]
    refine ⟨mul_ok (Nat.le_trans hle hm) hb', ?_⟩
    have e : (tot b (ds.take k) : Int) * (b : Int) + (dgt c : Int) = ((tot b (ds.take (k + 1)) : Nat) : Int) := by rw [take_succ_get hc, tot_snoc]; simp
    rw [e]
    refine sq_ife ?_
    simp only [vE, vT, vA, onLoc, onStr, onLst, onInt, onTup, onList, onB, Bin, small, goOn, retOf, turnEnd, List.map_cons, List.map_nil, List.append_nil, List.cons_append, List.nil_append, List.replicate, List.getElem?_cons_zero, List.getElem?_cons_succ, List.set_cons_zero, List.set_cons_succ, List.length_cons, List.length_nil, List.length_append, Nat.zero_add, Nat.reduceAdd, Nat.add_zero, Cmp]
    refine ⟨fun ht => ?_, fun hf => ?_⟩
    · refine sq_ret ?_
      simp only [vE, vT, vA, onLoc, onStr, onLst, onInt, onTup, onList, onB, Bin, small, goOn, retOf, turnEnd, List.map_cons, List.map_nil, List.append_nil, List.cons_append, List.nil_append, List.replicate, List.getElem?_cons_zero, List.getElem?_cons_succ, List.set_cons_zero, List.set_cons_succ, List.length_cons, List.length_nil, List.length_append, Nat.zero_add, Nat.reduceAdd, Nat.add_zero]
      have ht := of_decide_eq_true ht
      have := tot_take hb ds (k + 1)
      have e : dv b most ds = most + 1 := if_neg (by omega)
      rw [e] at h
      exact h
    · refine sq_skip ?_
      simp only [vE, vT, vA, onLoc, onStr, onLst, onInt, onTup, onList, onB, Bin, small, goOn, retOf, turnEnd, List.map_cons, List.map_nil, List.append_nil, List.cons_append, List.nil_append, List.replicate, List.getElem?_cons_zero, List.getElem?_cons_succ, List.set_cons_zero, List.set_cons_succ, List.length_cons, List.length_nil, List.length_append, Nat.zero_add, Nat.reduceAdd, Nat.add_zero]
      refine sq_skip ?_
      have hf := of_decide_eq_false hf
      exact ⟨by omega, _, rfl⟩
  · intro st1 hi
    rw [List.length_map, sl_list, List.take_length] at hi
    obtain ⟨hle, o, rfl⟩ := hi
    simp only [vE, vT, vA, onLoc, onStr, onLst, onInt, onTup, onList, onB, Bin, small, goOn, retOf, turnEnd, List.map_cons, List.map_nil, List.append_nil, List.cons_append, List.nil_append, List.replicate, List.getElem?_cons_zero, List.getElem?_cons_succ, List.set_cons_zero, List.set_cons_succ, List.length_cons, List.length_nil, List.length_append, Nat.zero_add, Nat.reduceAdd, Nat.add_zero]
    refine sq_ret ?_
    simp only [vE, vT, vA, onLoc, onStr, onLst, onInt, onTup, onList, onB, Bin, small, goOn, retOf, turnEnd, List.map_cons, List.map_nil, List.append_nil, List.cons_append, List.nil_append, List.replicate, List.getElem?_cons_zero, List.getElem?_cons_succ, List.set_cons_zero, List.set_cons_succ, List.length_cons, List.length_nil, List.length_append, Nat.zero_add, Nat.reduceAdd, Nat.add_zero]
    rw [show dv b most ds = tot b ds from if_pos hle] at h
    exact h
theorem c_whole (O : Ok G) (hn : 2 ≤ n) (S : Sc w p rows ks hp) {b v most : Int} (hk : ks.contains b = false) (hr : rows.length ≤ 1000) (hl : ks.length ≤ 1000)
    (h1 : v ≤ most → P (.obj hp.length) (hp ++ [tok (.str "int") (.int v) b]))
    (h2 : most < v → ∀ hp', Sc w p (rows ++ [.tup [.int b, .str "number_too_large"]]) (b :: ks) hp' → Nx w hp hp' → hp'.length = hp.length → P (.obj hp.length) (hp' ++ [tok (.str "int") (.int 0) b])) :
    TF G n aWhole [.obj w.i, .int b, .int v, .int most] hp P := by
  obtain ⟨Pm, hK⟩ := O.hk
  refine (f_Scanner_whole hK).at O.tab 1 hn rfl ?_
  unfold ir_Scanner_whole
  refine sq_ife ?_
  simp only [vE, vT, vA, onLoc, onStr, onLst, onInt, onTup, onList, onB, Bin, small, goOn, retOf, turnEnd, List.map_cons, List.map_nil, List.append_nil, List.cons_append, List.nil_append, List.replicate, List.getElem?_cons_zero, List.getElem?_cons_succ, List.set_cons_zero, List.set_cons_succ, List.length_cons, List.length_nil, List.length_append, Nat.zero_add, Nat.reduceAdd, Nat.add_zero, Cmp]
  refine ⟨fun ht => ?_, fun hf => ?_⟩
  · refine sq_exp ?_
    simp only [vE, vT, vA, onLoc, onStr, onLst, onInt, onTup, onList, onB, Bin, small, goOn, retOf, turnEnd, List.map_cons, List.map_nil, List.append_nil, List.cons_append, List.nil_append, List.replicate, List.getElem?_cons_zero, List.getElem?_cons_succ, List.set_cons_zero, List.set_cons_succ, List.length_cons, List.length_nil, List.length_append, Nat.zero_add, Nat.reduceAdd, Nat.add_zero, at_err S.s, on_erl S.e]
    refine c_mark O (Nat.le_refl 1) S hk hr hl fun hp' S' N' L' => ?_
    refine sq_set ?_
    simp only [vE, vT, vA, onLoc, onStr, onLst, onInt, onTup, onList, onB, Bin, small, goOn, retOf, turnEnd, List.map_cons, List.map_nil, List.append_nil, List.cons_append, List.nil_append, List.replicate, List.getElem?_cons_zero, List.getElem?_cons_succ, List.set_cons_zero, List.set_cons_succ, List.length_cons, List.length_nil, List.length_append, Nat.zero_add, Nat.reduceAdd, Nat.add_zero]
    refine sq_skip ?_
    simp only [vE, vT, vA, onLoc, onStr, onLst, onInt, onTup, onList, onB, Bin, small, goOn, retOf, turnEnd, List.map_cons, List.map_nil, List.append_nil, List.cons_append, List.nil_append, List.replicate, List.getElem?_cons_zero, List.getElem?_cons_succ, List.set_cons_zero, List.set_cons_succ, List.length_cons, List.length_nil, List.length_append, Nat.zero_add, Nat.reduceAdd, Nat.add_zero]
    refine sq_ret ?_
    simp only [vE, vT, vA, onLoc, onStr, onLst, onInt, onTup, onList, onB, Bin, small, goOn, retOf, turnEnd, List.map_cons, List.map_nil, List.append_nil, List.cons_append, List.nil_append, List.replicate, List.getElem?_cons_zero, List.getElem?_cons_succ, List.set_cons_zero, List.set_cons_succ, List.length_cons, List.length_nil, List.length_append, Nat.zero_add, Nat.reduceAdd, Nat.add_zero]
    refine c_token O (Nat.le_refl 1) ?_
    rw [L']
    exact h2 (of_decide_eq_true ht) hp' S' N' L'
  · refine sq_skip ?_
    simp only [vE, vT, vA, onLoc, onStr, onLst, onInt, onTup, onList, onB, Bin, small, goOn, retOf, turnEnd, List.map_cons, List.map_nil, List.append_nil, List.cons_append, List.nil_append, List.replicate, List.getElem?_cons_zero, List.getElem?_cons_succ, List.set_cons_zero, List.set_cons_succ, List.length_cons, List.length_nil, List.length_append, Nat.zero_add, Nat.reduceAdd, Nat.add_zero]
    refine sq_ret ?_
    simp only [vE, vT, vA, onLoc, onStr, onLst, onInt, onTup, onList, onB, Bin, small, goOn, retOf, turnEnd, List.map_cons, List.map_nil, List.append_nil, List.cons_append, List.nil_append, List.replicate, List.getElem?_cons_zero, List.getElem?_cons_succ, List.set_cons_zero, List.set_cons_succ, List.length_cons, List.length_nil, List.length_append, Nat.zero_add, Nat.reduceAdd, Nat.add_zero]
    refine c_token O (Nat.le_refl 1) ?_
    exact h1 (Int.not_lt.mp (of_decide_eq_false hf))
theorem c_hexadecimal (O : Ok G) (hn : 3 ≤ n) (S : Sc w p rows ks hp) {b : Int} {ds : List Nat} (hd : ∀ c ∈ ds, hx c = true) (hk : ks.contains b = false) (hr : rows.length ≤ 1000) (hl : ks.length ≤ 1000)
    (h1 : tot 16 ds ≤ 4294967295 → P (.obj hp.length) (hp ++ [tok (.str "int") (.int (if 2147483647 < tot 16 ds then (tot 16 ds : Int) - 4294967295 - 1 else tot 16 ds)) b]))
    (h2 : 4294967295 < tot 16 ds → ∀ hp', Sc w p (rows ++ [.tup [.int b, .str "number_too_large"]]) (b :: ks) hp' → Nx w hp hp' → hp'.length = hp.length → P (.obj hp.length) (hp' ++ [tok (.str "int") (.int 0) b])) :
    TF G n aHexadecimal [.obj w.i, .int b, .str (sl ds)] hp P := by
  obtain ⟨Pm, hK⟩ := O.hk
  refine (f_Scanner_hexadecimal hK).at O.tab 2 hn rfl ?_
  unfold ir_Scanner_hexadecimal
  refine sq_set ?_
  simp only [vE, vT, vA, onLoc, onStr, onLst, onInt, onTup, onList, onB, Bin, small, goOn, retOf, turnEnd, List.map_cons, List.map_nil, List.append_nil, List.cons_append, List.nil_append, List.replicate, List.getElem?_cons_zero, List.getElem?_cons_succ, List.set_cons_zero, List.set_cons_succ, List.length_cons, List.length_nil, List.length_append, Nat.zero_add, Nat.reduceAdd, Nat.add_zero, on_scn S.s]
  refine c_digits O (b := 16) (most := 4294967295) (by omega) hd (by decide) (by decide) (by decide) ?_
  refine c_whole O (Nat.le_refl 2) S hk hr hl (fun hle => ?_) (fun hlt hp' S' N' L' => ?_)
  · have ht : tot 16 ds ≤ 4294967295 := by
      unfold dv at hle
      split at hle <;> omega
    have e : dv 16 4294967295 ds = tot 16 ds := if_pos ht
    rw [e]
    have h1 := h1 ht
    refine sq_ife ?_
    simp only [vE, vT, vA, onLoc, onStr, onLst, onInt, onTup, onList, onB, Bin, small, goOn, retOf, turnEnd, List.map_cons, List.map_nil, List.append_nil, List.cons_append, List.nil_append, List.replicate, List.getElem?_cons_zero, List.getElem?_cons_succ, List.set_cons_zero, List.set_cons_succ, List.length_cons, List.length_nil, List.length_append, Nat.zero_add, Nat.reduceAdd, Nat.add_zero, at_val at_len, Cmp]
    refine ⟨fun hb => ?_, fun hb => ?_⟩
    · refine sq_setA ?_
      simp only [vE, vT, vA, onLoc, onStr, onLst, onInt, onTup, onList, onB, Bin, small, goOn, retOf, turnEnd, List.map_cons, List.map_nil, List.append_nil, List.cons_append, List.nil_append, List.replicate, List.getElem?_cons_zero, List.getElem?_cons_succ, List.set_cons_zero, List.set_cons_succ, List.length_cons, List.length_nil, List.length_append, Nat.zero_add, Nat.reduceAdd, Nat.add_zero, at_val at_len, set_val O at_len, set_len]
      refine sq_skip ?_
      simp only [vE, vT, vA, onLoc, onStr, onLst, onInt, onTup, onList, onB, Bin, small, goOn, retOf, turnEnd, List.map_cons, List.map_nil, List.append_nil, List.cons_append, List.nil_append, List.replicate, List.getElem?_cons_zero, List.getElem?_cons_succ, List.set_cons_zero, List.set_cons_succ, List.length_cons, List.length_nil, List.length_append, Nat.zero_add, Nat.reduceAdd, Nat.add_zero]
      refine sq_ret ?_
      simp only [vE, vT, vA, onLoc, onStr, onLst, onInt, onTup, onList, onB, Bin, small, goOn, retOf, turnEnd, List.map_cons, List.map_nil, List.append_nil, List.cons_append, List.nil_append, List.replicate, List.getElem?_cons_zero, List.getElem?_cons_succ, List.set_cons_zero, List.set_cons_succ, List.length_cons, List.length_nil, List.length_append, Nat.zero_add, Nat.reduceAdd, Nat.add_zero]
      have hb := of_decide_eq_true hb
      rw [if_pos (by omega)] at h1
      exact h1
    · refine sq_skip ?_
      simp only [vE, vT, vA, onLoc, onStr, onLst, onInt, onTup, onList, onB, Bin, small, goOn, retOf, turnEnd, List.map_cons, List.map_nil, List.append_nil, List.cons_append, List.nil_append, List.replicate, List.getElem?_cons_zero, List.getElem?_cons_succ, List.set_cons_zero, List.set_cons_succ, List.length_cons, List.length_nil, List.length_append, Nat.zero_add, Nat.reduceAdd, Nat.add_zero]
      refine sq_ret ?_
      simp only [vE, vT, vA, onLoc, onStr, onLst, onInt, onTup, onList, onB, Bin, small, goOn, retOf, turnEnd, List.map_cons, List.map_nil, List.append_nil, List.cons_append, List.nil_append, List.replicate, List.getElem?_cons_zero, List.getElem?_cons_succ, List.set_cons_zero, List.set_cons_succ, List.length_cons, List.length_nil, List.length_append, Nat.zero_add, Nat.reduceAdd, Nat.add_zero]
      have hb := of_decide_eq_false hb
      rw [if_neg (by omega)] at h1
      exact h1
  · have ht : 4294967295 < tot 16 ds := by
      unfold dv at hlt
      split at hlt <;> omega
    have h2 := h2 ht hp' S' N' L'
    rw [← L'] at h2 ⊢
    refine sq_ife ?_
    simp only [vE, vT, vA, onLoc, onStr, onLst, onInt, onTup, onList, onB, Bin, small, goOn, retOf, turnEnd, List.map_cons, List.map_nil, List.append_nil, List.cons_append, List.nil_append, List.replicate, List.getElem?_cons_zero, List.getElem?_cons_succ, List.set_cons_zero, List.set_cons_succ, List.length_cons, List.length_nil, List.length_append, Nat.zero_add, Nat.reduceAdd, Nat.add_zero, at_val at_len, Cmp]
    refine ⟨fun hb => absurd hb (by decide), fun hb => ?_⟩
    refine sq_skip ?_
    simp only [vE, vT, vA, onLoc, onStr, onLst, onInt, onTup, onList, onB, Bin, small, goOn, retOf, turnEnd, List.map_cons, List.map_nil, List.append_nil, List.cons_append, List.nil_append, List.replicate, List.getElem?_cons_zero, List.getElem?_cons_succ, List.set_cons_zero, List.set_cons_succ, List.length_cons, List.length_nil, List.length_append, Nat.zero_add, Nat.reduceAdd, Nat.add_zero]
    refine sq_ret ?_
    simp only [vE, vT, vA, onLoc, onStr, onLst, onInt, onTup, onList, onB, Bin, small, goOn, retOf, turnEnd, List.map_cons, List.map_nil, List.append_nil, List.cons_append, List.nil_append, List.replicate, List.getElem?_cons_zero, List.getElem?_cons_succ, List.set_cons_zero, List.set_cons_succ, List.length_cons, List.length_nil, List.length_append, Nat.zero_add, Nat.reduceAdd, Nat.add_zero]
    exact h2
theorem c_character (O : Ok G) (hn : 2 ≤ n) (S : Sc w p rows ks hp) {b : Int} {ds : List Nat} (hd : ∀ c ∈ ds, hx c = true) (hk : ks.contains b = false) (hr : rows.length ≤ 1000) (hl : ks.length ≤ 1000)
    (h1 : tot 16 ds ≤ 255 → P (.obj hp.length) (hp ++ [tok (.str "string") (.str ⟨#[tot 16 ds]⟩) b]))
    (h2 : 255 < tot 16 ds → ∀ hp', Sc w p (rows ++ [.tup [.int b, .str "bad_char"]]) (b :: ks) hp' → Nx w hp hp' → hp'.length = hp.length → P (.obj hp.length) (hp' ++ [tok (.str "string") (.str ⟨#[0]⟩) b])) :
    TF G n aCharacter [.obj w.i, .int b, .str (sl ds)] hp P := by
  obtain ⟨Pm, hK⟩ := O.hk
  refine (f_Scanner_character hK).at O.tab 1 hn rfl ?_
  unfold ir_Scanner_character
  refine sq_set ?_
  simp only [vE, vT, vA, onLoc, onStr, onLst, onInt, onTup, onList, onB, Bin, small, goOn, retOf, turnEnd, List.map_cons, List.map_nil, List.append_nil, List.cons_append, List.nil_append, List.replicate, List.getElem?_cons_zero, List.getElem?_cons_succ, List.set_cons_zero, List.set_cons_succ, List.length_cons, List.length_nil, List.length_append, Nat.zero_add, Nat.reduceAdd, Nat.add_zero]
  refine c_digits O (b := 16) (most := 255) (by omega) hd (by decide) (by decide) (by decide) ?_
  refine sq_ife ?_
  simp only [vE, vT, vA, onLoc, onStr, onLst, onInt, onTup, onList, onB, Bin, small, goOn, retOf, turnEnd, List.map_cons, List.map_nil, List.append_nil, List.cons_append, List.nil_append, List.replicate, List.getElem?_cons_zero, List.getElem?_cons_succ, List.set_cons_zero, List.set_cons_succ, List.length_cons, List.length_nil, List.length_append, Nat.zero_add, Nat.reduceAdd, Nat.add_zero, Cmp]
  refine ⟨fun ht => ?_, fun hf => ?_⟩
  · have ht := of_decide_eq_true ht
    have ht : 255 < tot 16 ds := by
      unfold dv at ht
      split at ht <;> omega
    refine sq_exp ?_
    simp only [vE, vT, vA, onLoc, onStr, onLst, onInt, onTup, onList, onB, Bin, small, goOn, retOf, turnEnd, List.map_cons, List.map_nil, List.append_nil, List.cons_append, List.nil_append, List.replicate, List.getElem?_cons_zero, List.getElem?_cons_succ, List.set_cons_zero, List.set_cons_succ, List.length_cons, List.length_nil, List.length_append, Nat.zero_add, Nat.reduceAdd, Nat.add_zero, at_err S.s, on_erl S.e]
    refine c_mark O (Nat.le_refl 1) S hk hr hl fun hp' S' N' L' => ?_
    refine sq_set ?_
    simp only [vE, vT, vA, onLoc, onStr, onLst, onInt, onTup, onList, onB, Bin, small, goOn, retOf, turnEnd, List.map_cons, List.map_nil, List.append_nil, List.cons_append, List.nil_append, List.replicate, List.getElem?_cons_zero, List.getElem?_cons_succ, List.set_cons_zero, List.set_cons_succ, List.length_cons, List.length_nil, List.length_append, Nat.zero_add, Nat.reduceAdd, Nat.add_zero]
    refine sq_skip ?_
    simp only [vE, vT, vA, onLoc, onStr, onLst, onInt, onTup, onList, onB, Bin, small, goOn, retOf, turnEnd, List.map_cons, List.map_nil, List.append_nil, List.cons_append, List.nil_append, List.replicate, List.getElem?_cons_zero, List.getElem?_cons_succ, List.set_cons_zero, List.set_cons_succ, List.length_cons, List.length_nil, List.length_append, Nat.zero_add, Nat.reduceAdd, Nat.add_zero]
    refine sq_ret ?_
    simp only [vE, vT, vA, onLoc, onStr, onLst, onInt, onTup, onList, onB, Bin, small, goOn, retOf, turnEnd, List.map_cons, List.map_nil, List.append_nil, List.cons_append, List.nil_append, List.replicate, List.getElem?_cons_zero, List.getElem?_cons_succ, List.set_cons_zero, List.set_cons_succ, List.length_cons, List.length_nil, List.length_append, Nat.zero_add, Nat.reduceAdd, Nat.add_zero, Chr]
    refine ⟨by decide, ?_⟩
    refine c_token O (Nat.le_refl 1) ?_
    rw [L']
    exact h2 ht hp' S' N' L'
  · have hf := of_decide_eq_false hf
    have ht : tot 16 ds ≤ 255 := by
      unfold dv at hf
      split at hf <;> omega
    rw [show dv 16 255 ds = tot 16 ds from if_pos ht]
    refine sq_skip ?_
    simp only [vE, vT, vA, onLoc, onStr, onLst, onInt, onTup, onList, onB, Bin, small, goOn, retOf, turnEnd, List.map_cons, List.map_nil, List.append_nil, List.cons_append, List.nil_append, List.replicate, List.getElem?_cons_zero, List.getElem?_cons_succ, List.set_cons_zero, List.set_cons_succ, List.length_cons, List.length_nil, List.length_append, Nat.zero_add, Nat.reduceAdd, Nat.add_zero]
    refine sq_ret ?_
    simp only [vE, vT, vA, onLoc, onStr, onLst, onInt, onTup, onList, onB, Bin, small, goOn, retOf, turnEnd, List.map_cons, List.map_nil, List.append_nil, List.cons_append, List.nil_append, List.replicate, List.getElem?_cons_zero, List.getElem?_cons_succ, List.set_cons_zero, List.set_cons_succ, List.length_cons, List.length_nil, List.length_append, Nat.zero_add, Nat.reduceAdd, Nat.add_zero, Chr]
    refine ⟨by omega, ?_⟩
    refine c_token O (Nat.le_refl 1) ?_
    exact h1 ht
end
end Mine
end
section
set_option maxRecDepth 20000
namespace Mine
theorem tw_lt {α : Type} {g : α → Bool} : ∀ {l : List α} {m : Nat}, m < (l.takeWhile g).length → ∃ c, l[m]? = some c ∧ g c = true
  | [], m, h => by simp at h
  | a :: l, m, h => by
    rw [List.takeWhile_cons] at h
    split at h
    · rename_i ha
      cases m with
      | zero => exact ⟨a, rfl, ha⟩
      | succ m =>
        obtain ⟨c, h1, h2⟩ := tw_lt (g := g) (l := l) (m := m) (by simpa using h)
        exact ⟨c, by simpa using h1, h2⟩
    · simp at h
theorem tw_eq {α : Type} {g : α → Bool} {c : α} : ∀ {l : List α}, l[(l.takeWhile g).length]? = some c → g c = false
  | [], h => by simp at h
  | a :: l, h => by
    rw [List.takeWhile_cons] at h
    split at h
    · exact tw_eq (l := l) (by simpa using h)
    · rename_i ha
      cases h
      simpa using ha
theorem tw_take {α : Type} {g : α → Bool} : ∀ {l : List α}, l.take (l.takeWhile g).length = l.takeWhile g
  | [] => rfl
  | a :: l => by
    rw [List.takeWhile_cons]
    split
    · rw [List.length_cons, List.take_succ_cons, tw_take]
    · rfl
theorem tw_all {α : Type} {g : α → Bool} : ∀ {l : List α}, ∀ c ∈ l.takeWhile g, g c = true
  | [], c, h => by simp at h
  | a :: l, c, h => by
    rw [List.takeWhile_cons] at h
    split at h
    · rcases List.mem_cons.mp h with rfl | h
      · assumption
      · exact tw_all _ h
    · simp at h
theorem set_self {α : Type} {l : List α} {i : Nat} {a : α} (h : l[i]? = some a) : l.set i a = l := by
  obtain ⟨hlt, e⟩ := List.getElem?_eq_some_iff.mp h
  rw [← e]
  exact List.set_getElem_self hlt
theorem set_get {α : Type} {l : List α} {i : Nat} {a b : α} (h : l[i]? = some a) : (l.set i b)[i]? = some b := by
  have := (List.getElem?_eq_some_iff.mp h).1
  simp [this]
theorem sl_drop {x : Str} {b : Nat} {g : Nat → Bool} : Txt.slice x (some (b : Int)) (some ((b + ((x.cps.toList.drop b).takeWhile g).length : Nat) : Int)) = sl ((x.cps.toList.drop b).takeWhile g) := by
  rw [slice_sl _ _ _ (Nat.le_add_right _ _), Nat.add_sub_cancel_left, tw_take]
/-- as many signs as fit -/
abbrev run (x : Str) (g : Nat → Bool) (b : Nat) : List Nat := (x.cps.toList.drop b).takeWhile g
theorem s_H : PySem.Str.ofString "H" = ⟨#[72]⟩ := by decide
theorem s_X : PySem.Str.ofString "X" = ⟨#[88]⟩ := by decide
theorem s_dot : PySem.Str.ofString "." = ⟨#[46]⟩ := by decide
theorem s_nil : PySem.Str.ofString "" = ⟨#[]⟩ := by decide
theorem fork_t {A B : Prop} (h : A) : fork true A B := And.intro (fun _ => h) (fun e => Bool.noConfusion e)
theorem fork_f {A B : Prop} (h : B) : fork false A B := And.intro (fun e => Bool.noConfusion e) (fun _ => h)
section
variable {G : Gl} {n : Nat} {hp : List AO} {w : Wd} {p : Nat} {rows : List AV} {ks : List Int}
theorem run_loop {t : IT} {g : Nat → Bool} {f : Option Nat → Bool} {env : List (Option AV)} {b : Nat} {P : AFl → ASt → Prop} (h2 : env[2]? = some (some (.int (b : Int)))) (hf0 : f none = false) (hfg : ∀ c, f (some c) = g c)
    (ht : ∀ (env' : List (Option AV)) (j : Nat) (Q : Bool → ASt → Prop), env'[0]? = env[0]? → env'[2]? = some (some (.int (j : Int))) → Q (f w.x.cps.toList[j]?) ⟨env', hp⟩ → vT G n t ⟨env', hp⟩ Q)
    (h : P .next ⟨env.set 2 (some (.int ((b + (run w.x g b).length : Nat) : Int))), hp⟩) : vWhl (vT G n t) (vS G n (.seq (.set 2 (.bin .Add (.loc 2) (.int 1))) .skip)) ⟨env, hp⟩ P := by
  refine ⟨fun st => ∃ m, m ≤ (run w.x g b).length ∧ st = ⟨env.set 2 (some (.int ((b + m : Nat) : Int))), hp⟩, fun (st : ASt) => match st.env[2]? with | some (some (AV.int j)) => b + (run w.x g b).length + 1 - j.toNat | _ => 0, ⟨0, Nat.zero_le _, ?_⟩, ?_⟩
  · rw [Nat.add_zero, set_self h2]
  · intro st1 hi
    obtain ⟨m, hm, rfl⟩ := hi
    refine ht _ (b + m) _ (by rw [List.getElem?_set_ne (by decide)]) (set_get h2) ⟨fun hx => ?_, fun hx => ?_⟩
    · have hlt : m < (run w.x g b).length := by
        rcases Nat.lt_or_eq_of_le hm with h | rfl
        · exact h
        · exfalso
          cases hc : w.x.cps.toList[b + (run w.x g b).length]? with
          | none => rw [hc, hf0] at hx; cases hx
          | some c =>
            rw [hc, hfg] at hx
            have := tw_eq (g := g) (c := c) (l := w.x.cps.toList.drop b) (by rw [List.getElem?_drop]; exact hc)
            rw [hx] at this
            cases this
      refine sq_set ?_
      simp only [vE, vT, vA, onLoc, onStr, onLst, onInt, onTup, onList, onB, Bin, small, goOn, retOf, turnEnd, List.map_cons, List.map_nil, List.append_nil, List.cons_append, List.nil_append, List.replicate, List.getElem?_cons_zero, List.getElem?_cons_succ, List.set_cons_zero, List.set_cons_succ, List.length_cons, List.length_nil, List.length_append, Nat.zero_add, Nat.reduceAdd, Nat.add_zero, set_get h2, List.set_set]
      refine sq_skip ⟨⟨m + 1, hlt, ?_⟩, ?_⟩
      · rw [show ((b + m : Nat) : Int) + 1 = ((b + (m + 1) : Nat) : Int) by omega]
      · simp only [set_get h2]
        omega
    · have he : m = (run w.x g b).length := by
        rcases Nat.lt_or_eq_of_le hm with h | h
        · exfalso
          obtain ⟨c, hc, hg⟩ := tw_lt h
          rw [List.getElem?_drop] at hc
          rw [hc, hfg, hg] at hx
          cases hx
        · exact h
      subst he
      exact h
theorem t_hex (O : Ok G) (hn : 2 ≤ n) (S : Sc w p rows ks hp) {env' : List (Option AV)} {j : Nat} {Q : Bool → ASt → Prop} (h0 : env'[0]? = some (some (.obj w.i))) (h2 : env'[2]? = some (some (.int (j : Int)))) (h : Q (isHex w.x.cps.toList[j]?) ⟨env', hp⟩) :
    vT G n (.pl (.call aIsHexDigit (.cons (.slc (.attr 0 0) (.loc 2) (.bin .Add (.loc 2) (.int 1))) .nil))) ⟨env', hp⟩ Q := by
  simp only [vE, vT, vA, onLoc, onStr, onLst, onInt, onTup, onList, onB, Bin, small, goOn, retOf, turnEnd, List.map_cons, List.map_nil, List.append_nil, List.cons_append, List.nil_append, List.replicate, List.getElem?_cons_zero, List.getElem?_cons_succ, List.set_cons_zero, List.set_cons_succ, List.length_cons, List.length_nil, List.length_append, Nat.zero_add, Nat.reduceAdd, Nat.add_zero, h0, h2, at_src S.s, Slc, slice_one]
  exact ⟨Nat.le_trans S.sz (by decide), c_is_hex O hn _ h⟩
theorem t_dig (O : Ok G) (hn : 1 ≤ n) (S : Sc w p rows ks hp) {env' : List (Option AV)} {j : Nat} {Q : Bool → ASt → Prop} (h0 : env'[0]? = some (some (.obj w.i))) (h2 : env'[2]? = some (some (.int (j : Int)))) (h : Q (isDig w.x.cps.toList[j]?) ⟨env', hp⟩) :
    vT G n (.pl (.call aIsDigit (.cons (.slc (.attr 0 0) (.loc 2) (.bin .Add (.loc 2) (.int 1))) .nil))) ⟨env', hp⟩ Q := by
  simp only [vE, vT, vA, onLoc, onStr, onLst, onInt, onTup, onList, onB, Bin, small, goOn, retOf, turnEnd, List.map_cons, List.map_nil, List.append_nil, List.cons_append, List.nil_append, List.replicate, List.getElem?_cons_zero, List.getElem?_cons_succ, List.set_cons_zero, List.set_cons_succ, List.length_cons, List.length_nil, List.length_append, Nat.zero_add, Nat.reduceAdd, Nat.add_zero, h0, h2, at_src S.s, Slc, slice_one]
  exact ⟨Nat.le_trans S.sz (by decide), c_is_digit O hn _ h⟩
noncomputable def isAl (o : Option Nat) : Bool := isLet o || isDig o
noncomputable def al (c : Nat) : Bool := isAl (some c)
theorem t_al (O : Ok G) (hn : 1 ≤ n) (S : Sc w p rows ks hp) {env' : List (Option AV)} {j : Nat} {Q : Bool → ASt → Prop} (h0 : env'[0]? = some (some (.obj w.i))) (h2 : env'[2]? = some (some (.int (j : Int)))) (h : Q (isAl w.x.cps.toList[j]?) ⟨env', hp⟩) :
    vT G n (.or (.pl (.call aIsLetter (.cons (.slc (.attr 0 0) (.loc 2) (.bin .Add (.loc 2) (.int 1))) .nil))) (.pl (.call aIsDigit (.cons (.slc (.attr 0 0) (.loc 2) (.bin .Add (.loc 2) (.int 1))) .nil)))) ⟨env', hp⟩ Q := by
  simp only [vE, vT, vA, onLoc, onStr, onLst, onInt, onTup, onList, onB, Bin, small, goOn, retOf, turnEnd, List.map_cons, List.map_nil, List.append_nil, List.cons_append, List.nil_append, List.replicate, List.getElem?_cons_zero, List.getElem?_cons_succ, List.set_cons_zero, List.set_cons_succ, List.length_cons, List.length_nil, List.length_append, Nat.zero_add, Nat.reduceAdd, Nat.add_zero, h0, h2, at_src S.s, Slc, slice_one]
  refine ⟨Nat.le_trans S.sz (by decide), c_is_letter O hn _ ?_⟩
  simp only [vE, vT, vA, onLoc, onStr, onLst, onInt, onTup, onList, onB, Bin, small, goOn, retOf, turnEnd, List.map_cons, List.map_nil, List.append_nil, List.cons_append, List.nil_append, List.replicate, List.getElem?_cons_zero, List.getElem?_cons_succ, List.set_cons_zero, List.set_cons_succ, List.length_cons, List.length_nil, List.length_append, Nat.zero_add, Nat.reduceAdd, Nat.add_zero, h0, h2, at_src S.s, Slc, slice_one]
  refine ⟨fun e => ?_, fun e => ⟨Nat.le_trans S.sz (by decide), c_is_digit O hn _ ?_⟩⟩
  · rw [isAl, e, Bool.true_or] at h; exact h
  · rw [isAl, e, Bool.false_or] at h; exact h
end
section
variable {G : Gl} {n : Nat} {hp : List AO} {w : Wd} {p : Nat} {rows : List AV} {ks : List Int} {P : AV → List AO → Prop}
theorem c_numeral (O : Ok G) (hn : 4 ≤ n) {b : Nat} (S : Sc w p rows ks hp)
    (hH : w.x.cps.toList[b + (run w.x hx b).length]? = some 72 → ∀ hp', Sc w (b + (run w.x hx b).length + 1) rows ks hp' → Nx w hp hp' → hp'.length = hp.length → TF G 3 aHexadecimal [.obj w.i, .int b, .str (sl (run w.x hx b))] hp' P)
    (hX : w.x.cps.toList[b + (run w.x hx b).length]? = some 88 → ∀ hp', Sc w (b + (run w.x hx b).length + 1) rows ks hp' → Nx w hp hp' → hp'.length = hp.length → TF G 3 aCharacter [.obj w.i, .int b, .str (sl (run w.x hx b))] hp' P)
    (hD : w.x.cps.toList[b + (run w.x hx b).length]? ≠ some 72 → w.x.cps.toList[b + (run w.x hx b).length]? ≠ some 88 → ∀ hp', Sc w (b + (run w.x dg b).length) rows ks hp' → Nx w hp hp' → hp'.length = hp.length →
      (w.x.cps.toList[b + (run w.x dg b).length]? = some 46 ∧ w.x.cps.toList[b + (run w.x dg b).length + 1]? ≠ some 46 → TF G 3 aReal [.obj w.i, .int b] hp' P) ∧
      (¬ (w.x.cps.toList[b + (run w.x dg b).length]? = some 46 ∧ w.x.cps.toList[b + (run w.x dg b).length + 1]? ≠ some 46) → TF G 3 aWhole [.obj w.i, .int b, .int (dv 10 2147483647 (run w.x dg b) : Nat), .int 2147483647] hp' P)) :
    TF G n aNumeral [.obj w.i, .int b] hp P := by
  obtain ⟨Pm, hK⟩ := O.hk
  refine (f_Scanner_numeral hK).at O.tab 3 hn rfl ?_
  unfold ir_Scanner_numeral
  have hsz := Nat.le_trans S.sz (show 1000000 ≤ sizeLine by decide)
  refine sq_set ?_
  simp only [vE, vT, vA, onLoc, onStr, onLst, onInt, onTup, onList, onB, Bin, small, goOn, retOf, turnEnd, List.map_cons, List.map_nil, List.append_nil, List.cons_append, List.nil_append, List.replicate, List.getElem?_cons_zero, List.getElem?_cons_succ, List.set_cons_zero, List.set_cons_succ, List.length_cons, List.length_nil, List.length_append, Nat.zero_add, Nat.reduceAdd, Nat.add_zero]
  refine sq_whl ?_
  refine run_loop (f := isHex) (g := hx) (b := b) rfl rfl (fun _ => rfl) (fun env' j Q h0 h2 h => t_hex O (by decide) S h0 h2 h) ?_
  simp only [vE, vT, vA, onLoc, onStr, onLst, onInt, onTup, onList, onB, Bin, small, goOn, retOf, turnEnd, List.map_cons, List.map_nil, List.append_nil, List.cons_append, List.nil_append, List.replicate, List.getElem?_cons_zero, List.getElem?_cons_succ, List.set_cons_zero, List.set_cons_succ, List.length_cons, List.length_nil, List.length_append, Nat.zero_add, Nat.reduceAdd, Nat.add_zero]
  have hs : Txt.slice w.x (some (b : Int)) (some ((b + (run w.x hx b).length : Nat) : Int)) = sl (run w.x hx b) := sl_drop
  generalize hL : (run w.x hx b).length = L at *
  refine sq_set ?_
  simp only [vE, vT, vA, onLoc, onStr, onLst, onInt, onTup, onList, onB, Bin, small, goOn, retOf, turnEnd, List.map_cons, List.map_nil, List.append_nil, List.cons_append, List.nil_append, List.replicate, List.getElem?_cons_zero, List.getElem?_cons_succ, List.set_cons_zero, List.set_cons_succ, List.length_cons, List.length_nil, List.length_append, Nat.zero_add, Nat.reduceAdd, Nat.add_zero, at_src S.s, Slc, hs]
  refine ⟨hsz, ?_⟩
  refine sq_set ?_
  simp only [vE, vT, vA, onLoc, onStr, onLst, onInt, onTup, onList, onB, Bin, small, goOn, retOf, turnEnd, List.map_cons, List.map_nil, List.append_nil, List.cons_append, List.nil_append, List.replicate, List.getElem?_cons_zero, List.getElem?_cons_succ, List.set_cons_zero, List.set_cons_succ, List.length_cons, List.length_nil, List.length_append, Nat.zero_add, Nat.reduceAdd, Nat.add_zero, at_src S.s, Slc, slice_one]
  refine ⟨hsz, ?_⟩
  refine sq_ife ?_
  simp only [vE, vT, vA, onLoc, onStr, onLst, onInt, onTup, onList, onB, Bin, small, goOn, retOf, turnEnd, List.map_cons, List.map_nil, List.append_nil, List.cons_append, List.nil_append, List.replicate, List.getElem?_cons_zero, List.getElem?_cons_succ, List.set_cons_zero, List.set_cons_succ, List.length_cons, List.length_nil, List.length_append, Nat.zero_add, Nat.reduceAdd, Nat.add_zero, Cmp, s_H, s_X, oc_one]
  refine ⟨fun e => fork_t ?_, fun e => ⟨fun e' => ?_, fun e' => ?_⟩⟩
  · have e := beq_iff_eq.mp e
    refine sq_setA ?_
    simp only [vE, vT, vA, onLoc, onStr, onLst, onInt, onTup, onList, onB, Bin, small, goOn, retOf, turnEnd, List.map_cons, List.map_nil, List.append_nil, List.cons_append, List.nil_append, List.replicate, List.getElem?_cons_zero, List.getElem?_cons_succ, List.set_cons_zero, List.set_cons_succ, List.length_cons, List.length_nil, List.length_append, Nat.zero_add, Nat.reduceAdd, Nat.add_zero, set_plc O S.s]
    have S' := S.go (b + L + 1)
    rw [show ((b + L : Nat) : Int) + 1 = ((b + L + 1 : Nat) : Int) by omega]
    refine sq_ife ?_
    simp only [vE, vT, vA, onLoc, onStr, onLst, onInt, onTup, onList, onB, Bin, small, goOn, retOf, turnEnd, List.map_cons, List.map_nil, List.append_nil, List.cons_append, List.nil_append, List.replicate, List.getElem?_cons_zero, List.getElem?_cons_succ, List.set_cons_zero, List.set_cons_succ, List.length_cons, List.length_nil, List.length_append, Nat.zero_add, Nat.reduceAdd, Nat.add_zero, Cmp, s_H, oc_one, e, BEq.rfl]
    refine fork_t ?_
    refine sq_ret ?_
    simp only [vE, vT, vA, onLoc, onStr, onLst, onInt, onTup, onList, onB, Bin, small, goOn, retOf, turnEnd, List.map_cons, List.map_nil, List.append_nil, List.cons_append, List.nil_append, List.replicate, List.getElem?_cons_zero, List.getElem?_cons_succ, List.set_cons_zero, List.set_cons_succ, List.length_cons, List.length_nil, List.length_append, Nat.zero_add, Nat.reduceAdd, Nat.add_zero, on_scn S'.s]
    exact hH e _ S' (.set (.inl rfl)) (by simp)
  · have e' := beq_iff_eq.mp e'
    refine sq_setA ?_
    simp only [vE, vT, vA, onLoc, onStr, onLst, onInt, onTup, onList, onB, Bin, small, goOn, retOf, turnEnd, List.map_cons, List.map_nil, List.append_nil, List.cons_append, List.nil_append, List.replicate, List.getElem?_cons_zero, List.getElem?_cons_succ, List.set_cons_zero, List.set_cons_succ, List.length_cons, List.length_nil, List.length_append, Nat.zero_add, Nat.reduceAdd, Nat.add_zero, set_plc O S.s]
    have S' := S.go (b + L + 1)
    rw [show ((b + L : Nat) : Int) + 1 = ((b + L + 1 : Nat) : Int) by omega]
    refine sq_ife ?_
    simp only [vE, vT, vA, onLoc, onStr, onLst, onInt, onTup, onList, onB, Bin, small, goOn, retOf, turnEnd, List.map_cons, List.map_nil, List.append_nil, List.cons_append, List.nil_append, List.replicate, List.getElem?_cons_zero, List.getElem?_cons_succ, List.set_cons_zero, List.set_cons_succ, List.length_cons, List.length_nil, List.length_append, Nat.zero_add, Nat.reduceAdd, Nat.add_zero, Cmp, s_H, oc_one, e', BEq.rfl]
    refine fork_f ?_
    refine sq_skip ?_
    simp only [vE, vT, vA, onLoc, onStr, onLst, onInt, onTup, onList, onB, Bin, small, goOn, retOf, turnEnd, List.map_cons, List.map_nil, List.append_nil, List.cons_append, List.nil_append, List.replicate, List.getElem?_cons_zero, List.getElem?_cons_succ, List.set_cons_zero, List.set_cons_succ, List.length_cons, List.length_nil, List.length_append, Nat.zero_add, Nat.reduceAdd, Nat.add_zero]
    refine sq_ret ?_
    simp only [vE, vT, vA, onLoc, onStr, onLst, onInt, onTup, onList, onB, Bin, small, goOn, retOf, turnEnd, List.map_cons, List.map_nil, List.append_nil, List.cons_append, List.nil_append, List.replicate, List.getElem?_cons_zero, List.getElem?_cons_succ, List.set_cons_zero, List.set_cons_succ, List.length_cons, List.length_nil, List.length_append, Nat.zero_add, Nat.reduceAdd, Nat.add_zero, on_scn S'.s]
    exact hX e' _ S' (.set (.inl rfl)) (by simp)
  · have e1 := beq_eq_false_iff_ne.mp e
    have e2 := beq_eq_false_iff_ne.mp e'
    refine sq_skip ?_
    simp only [vE, vT, vA, onLoc, onStr, onLst, onInt, onTup, onList, onB, Bin, small, goOn, retOf, turnEnd, List.map_cons, List.map_nil, List.append_nil, List.cons_append, List.nil_append, List.replicate, List.getElem?_cons_zero, List.getElem?_cons_succ, List.set_cons_zero, List.set_cons_succ, List.length_cons, List.length_nil, List.length_append, Nat.zero_add, Nat.reduceAdd, Nat.add_zero]
    refine sq_set ?_
    simp only [vE, vT, vA, onLoc, onStr, onLst, onInt, onTup, onList, onB, Bin, small, goOn, retOf, turnEnd, List.map_cons, List.map_nil, List.append_nil, List.cons_append, List.nil_append, List.replicate, List.getElem?_cons_zero, List.getElem?_cons_succ, List.set_cons_zero, List.set_cons_succ, List.length_cons, List.length_nil, List.length_append, Nat.zero_add, Nat.reduceAdd, Nat.add_zero]
    refine sq_whl ?_
    refine run_loop (f := isDig) (g := dg) (b := b) rfl rfl (fun _ => rfl) (fun env' j Q h0 h2 h => t_dig O (by decide) S h0 h2 h) ?_
    simp only [vE, vT, vA, onLoc, onStr, onLst, onInt, onTup, onList, onB, Bin, small, goOn, retOf, turnEnd, List.map_cons, List.map_nil, List.append_nil, List.cons_append, List.nil_append, List.replicate, List.getElem?_cons_zero, List.getElem?_cons_succ, List.set_cons_zero, List.set_cons_succ, List.length_cons, List.length_nil, List.length_append, Nat.zero_add, Nat.reduceAdd, Nat.add_zero]
    have hs' : Txt.slice w.x (some (b : Int)) (some ((b + (run w.x dg b).length : Nat) : Int)) = sl (run w.x dg b) := sl_drop
    generalize hM : (run w.x dg b).length = M at *
    refine sq_setA ?_
    simp only [vE, vT, vA, onLoc, onStr, onLst, onInt, onTup, onList, onB, Bin, small, goOn, retOf, turnEnd, List.map_cons, List.map_nil, List.append_nil, List.cons_append, List.nil_append, List.replicate, List.getElem?_cons_zero, List.getElem?_cons_succ, List.set_cons_zero, List.set_cons_succ, List.length_cons, List.length_nil, List.length_append, Nat.zero_add, Nat.reduceAdd, Nat.add_zero, set_plc O S.s]
    have S' := S.go (b + M)
    obtain ⟨hR, hW⟩ := hD e1 e2 _ S' (.set (.inl rfl)) (by simp)
    refine sq_ife ?_
    simp only [vE, vT, vA, onLoc, onStr, onLst, onInt, onTup, onList, onB, Bin, small, goOn, retOf, turnEnd, List.map_cons, List.map_nil, List.append_nil, List.cons_append, List.nil_append, List.replicate, List.getElem?_cons_zero, List.getElem?_cons_succ, List.set_cons_zero, List.set_cons_succ, List.length_cons, List.length_nil, List.length_append, Nat.zero_add, Nat.reduceAdd, Nat.add_zero, on_scn S'.s]
    refine c_char O (by omega) S' ?_
    simp only [vE, vT, vA, onLoc, onStr, onLst, onInt, onTup, onList, onB, Bin, small, goOn, retOf, turnEnd, List.map_cons, List.map_nil, List.append_nil, List.cons_append, List.nil_append, List.replicate, List.getElem?_cons_zero, List.getElem?_cons_succ, List.set_cons_zero, List.set_cons_succ, List.length_cons, List.length_nil, List.length_append, Nat.zero_add, Nat.reduceAdd, Nat.add_zero, Cmp, s_dot, oc_one, on_scn S'.s]
    have fin : ¬ (w.x.cps.toList[b + M]? = some 46 ∧ w.x.cps.toList[b + M + 1]? ≠ some 46) → vS G 3 (((IS.set 5 (IE.call aDigitsValue (IA.cons ((IE.attr 0 0).slc (IE.loc 1) (IE.loc 2)) (IA.cons (IE.int 10) (IA.cons (IE.int 2147483647) IA.nil))))).seq ((IS.ret (IE.meth aScanner aWhole (IE.loc 0) (IA.cons (IE.loc 1) (IA.cons (IE.loc 5) (IA.cons (IE.int 2147483647) IA.nil))))).seq IS.skip)))
        ⟨[some (.obj w.i), some (.int b), some (.int ((b + M : Nat) : Int)), some (.str (sl (run w.x hx b))), some (.str (oc w.x.cps.toList[b + L]?)), none, none, none, none, none], hp.set w.i (scn w.x w.e ((b + M : Nat) : Int))⟩ (fun fl st => P (retOf fl) st.heap) := by
      intro hn
      refine sq_set ?_
      simp only [vE, vT, vA, onLoc, onStr, onLst, onInt, onTup, onList, onB, Bin, small, goOn, retOf, turnEnd, List.map_cons, List.map_nil, List.append_nil, List.cons_append, List.nil_append, List.replicate, List.getElem?_cons_zero, List.getElem?_cons_succ, List.set_cons_zero, List.set_cons_succ, List.length_cons, List.length_nil, List.length_append, Nat.zero_add, Nat.reduceAdd, Nat.add_zero, at_src S'.s, Slc, hs']
      refine ⟨hsz, ?_⟩
      refine c_digits O (b := 10) (most := 2147483647) (by omega) (fun c hc => dg_hx (tw_all c hc)) (by decide) (by decide) (by decide) ?_
      refine sq_ret ?_
      simp only [vE, vT, vA, onLoc, onStr, onLst, onInt, onTup, onList, onB, Bin, small, goOn, retOf, turnEnd, List.map_cons, List.map_nil, List.append_nil, List.cons_append, List.nil_append, List.replicate, List.getElem?_cons_zero, List.getElem?_cons_succ, List.set_cons_zero, List.set_cons_succ, List.length_cons, List.length_nil, List.length_append, Nat.zero_add, Nat.reduceAdd, Nat.add_zero, on_scn S'.s]
      exact hW hn
    refine ⟨fun e => ?_, fun e => ?_⟩
    · have e := beq_iff_eq.mp e
      refine c_char1 O (by omega) S' ?_
      simp only [vE, vT, vA, onLoc, onStr, onLst, onInt, onTup, onList, onB, Bin, small, goOn, retOf, turnEnd, List.map_cons, List.map_nil, List.append_nil, List.cons_append, List.nil_append, List.replicate, List.getElem?_cons_zero, List.getElem?_cons_succ, List.set_cons_zero, List.set_cons_succ, List.length_cons, List.length_nil, List.length_append, Nat.zero_add, Nat.reduceAdd, Nat.add_zero, Cmp, s_dot, bne, oc_one]
      refine ⟨fun h => ?_, fun h => ?_⟩
      · refine sq_ret ?_
        simp only [vE, vT, vA, onLoc, onStr, onLst, onInt, onTup, onList, onB, Bin, small, goOn, retOf, turnEnd, List.map_cons, List.map_nil, List.append_nil, List.cons_append, List.nil_append, List.replicate, List.getElem?_cons_zero, List.getElem?_cons_succ, List.set_cons_zero, List.set_cons_succ, List.length_cons, List.length_nil, List.length_append, Nat.zero_add, Nat.reduceAdd, Nat.add_zero, on_scn S'.s]
        exact hR ⟨e, by simpa using h⟩
      · refine sq_skip ?_
        simp only [vE, vT, vA, onLoc, onStr, onLst, onInt, onTup, onList, onB, Bin, small, goOn, retOf, turnEnd, List.map_cons, List.map_nil, List.append_nil, List.cons_append, List.nil_append, List.replicate, List.getElem?_cons_zero, List.getElem?_cons_succ, List.set_cons_zero, List.set_cons_succ, List.length_cons, List.length_nil, List.length_append, Nat.zero_add, Nat.reduceAdd, Nat.add_zero]
        exact fin fun z => z.2 (by simpa using h)
    · have e := beq_eq_false_iff_ne.mp e
      refine fork_f ?_
      refine sq_skip ?_
      simp only [vE, vT, vA, onLoc, onStr, onLst, onInt, onTup, onList, onB, Bin, small, goOn, retOf, turnEnd, List.map_cons, List.map_nil, List.append_nil, List.cons_append, List.nil_append, List.replicate, List.getElem?_cons_zero, List.getElem?_cons_succ, List.set_cons_zero, List.set_cons_succ, List.length_cons, List.length_nil, List.length_append, Nat.zero_add, Nat.reduceAdd, Nat.add_zero]
      exact fin fun z => e z.1
theorem c_word (O : Ok G) (hn : 2 ≤ n) {b : Nat} (S : Sc w p rows ks hp)
    (h1 : kwl.any (· == sl (run w.x al b)) = true → ∀ hp', Sc w (b + (run w.x al b).length) rows ks hp' → Nx w hp hp' → hp'.length = hp.length → P (.obj hp'.length) (hp' ++ [tok (.str (sl (run w.x al b))) (.str "") b]))
    (h2 : kwl.any (· == sl (run w.x al b)) = false → ∀ hp', Sc w (b + (run w.x al b).length) rows ks hp' → Nx w hp hp' → hp'.length = hp.length → P (.obj hp'.length) (hp' ++ [tok (.str "ident") (.str (sl (run w.x al b))) b])) :
    TF G n aWord [.obj w.i, .int b] hp P := by
  obtain ⟨Pm, hK⟩ := O.hk
  refine (f_Scanner_word hK).at O.tab 1 hn rfl ?_
  unfold ir_Scanner_word
  have hsz := Nat.le_trans S.sz (show 1000000 ≤ sizeLine by decide)
  refine sq_set ?_
  simp only [vE, vT, vA, onLoc, onStr, onLst, onInt, onTup, onList, onB, Bin, small, goOn, retOf, turnEnd, List.map_cons, List.map_nil, List.append_nil, List.cons_append, List.nil_append, List.replicate, List.getElem?_cons_zero, List.getElem?_cons_succ, List.set_cons_zero, List.set_cons_succ, List.length_cons, List.length_nil, List.length_append, Nat.zero_add, Nat.reduceAdd, Nat.add_zero]
  refine sq_whl ?_
  refine run_loop (f := isAl) (g := al) (b := b) rfl rfl (fun _ => rfl) (fun env' j Q h0 h2 h => t_al O (by decide) S h0 h2 h) ?_
  simp only [vE, vT, vA, onLoc, onStr, onLst, onInt, onTup, onList, onB, Bin, small, goOn, retOf, turnEnd, List.map_cons, List.map_nil, List.append_nil, List.cons_append, List.nil_append, List.replicate, List.getElem?_cons_zero, List.getElem?_cons_succ, List.set_cons_zero, List.set_cons_succ, List.length_cons, List.length_nil, List.length_append, Nat.zero_add, Nat.reduceAdd, Nat.add_zero]
  have hs : Txt.slice w.x (some (b : Int)) (some ((b + (run w.x al b).length : Nat) : Int)) = sl (run w.x al b) := sl_drop
  generalize hM : (run w.x al b).length = M at *
  refine sq_setA ?_
  simp only [vE, vT, vA, onLoc, onStr, onLst, onInt, onTup, onList, onB, Bin, small, goOn, retOf, turnEnd, List.map_cons, List.map_nil, List.append_nil, List.cons_append, List.nil_append, List.replicate, List.getElem?_cons_zero, List.getElem?_cons_succ, List.set_cons_zero, List.set_cons_succ, List.length_cons, List.length_nil, List.length_append, Nat.zero_add, Nat.reduceAdd, Nat.add_zero, set_plc O S.s]
  have S' := S.go (b + M)
  refine sq_set ?_
  simp only [vE, vT, vA, onLoc, onStr, onLst, onInt, onTup, onList, onB, Bin, small, goOn, retOf, turnEnd, List.map_cons, List.map_nil, List.append_nil, List.cons_append, List.nil_append, List.replicate, List.getElem?_cons_zero, List.getElem?_cons_succ, List.set_cons_zero, List.set_cons_succ, List.length_cons, List.length_nil, List.length_append, Nat.zero_add, Nat.reduceAdd, Nat.add_zero, at_src S'.s, Slc, hs]
  refine ⟨hsz, ?_⟩
  refine sq_ife ?_
  simp only [vE, vT, vA, onLoc, onStr, onLst, onInt, onTup, onList, onB, Bin, small, goOn, retOf, turnEnd, List.map_cons, List.map_nil, List.append_nil, List.cons_append, List.nil_append, List.replicate, List.getElem?_cons_zero, List.getElem?_cons_succ, List.set_cons_zero, List.set_cons_succ, List.length_cons, List.length_nil, List.length_append, Nat.zero_add, Nat.reduceAdd, Nat.add_zero, at_wrd S'.s, Cmp, (rfl : strsOf (sv kwl) = some kwl)]
  refine ⟨fun e => ?_, fun e => ?_⟩
  · refine sq_ret ?_
    simp only [vE, vT, vA, onLoc, onStr, onLst, onInt, onTup, onList, onB, Bin, small, goOn, retOf, turnEnd, List.map_cons, List.map_nil, List.append_nil, List.cons_append, List.nil_append, List.replicate, List.getElem?_cons_zero, List.getElem?_cons_succ, List.set_cons_zero, List.set_cons_succ, List.length_cons, List.length_nil, List.length_append, Nat.zero_add, Nat.reduceAdd, Nat.add_zero]
    exact c_token O (by decide) (h1 e _ S' (.set (.inl rfl)) (by simp))
  · refine sq_skip ?_
    simp only [vE, vT, vA, onLoc, onStr, onLst, onInt, onTup, onList, onB, Bin, small, goOn, retOf, turnEnd, List.map_cons, List.map_nil, List.append_nil, List.cons_append, List.nil_append, List.replicate, List.getElem?_cons_zero, List.getElem?_cons_succ, List.set_cons_zero, List.set_cons_succ, List.length_cons, List.length_nil, List.length_append, Nat.zero_add, Nat.reduceAdd, Nat.add_zero]
    refine sq_ret ?_
    simp only [vE, vT, vA, onLoc, onStr, onLst, onInt, onTup, onList, onB, Bin, small, goOn, retOf, turnEnd, List.map_cons, List.map_nil, List.append_nil, List.cons_append, List.nil_append, List.replicate, List.getElem?_cons_zero, List.getElem?_cons_succ, List.set_cons_zero, List.set_cons_succ, List.length_cons, List.length_nil, List.length_append, Nat.zero_add, Nat.reduceAdd, Nat.add_zero]
    exact c_token O (by decide) (h2 e _ S' (.set (.inl rfl)) (by simp))
noncomputable def pairs : List Str := [":=", "<=", ">=", ".."]
noncomputable def symb (a b : Option Nat) : Str :=
  if pairs.any (· == (oc a ++ oc b)) then oc a ++ oc b
  else if !(Builtin.Str.occurrences "+-*/~&.,;|([{^=#<>:)]}" (oc a) 0 (PySem.Str.ofString "+-*/~&.,;|([{^=#<>:)]}").length 1).isEmpty then oc a else ""
theorem oc_len (o : Option Nat) : (oc o).length ≤ 1 := by cases o <;> simp [oc, Str.length]
theorem c_symbol (O : Ok G) (hn : 2 ≤ n) (S : Sc w p rows ks hp) (h : P (.str (symb w.x.cps.toList[p]? w.x.cps.toList[p + 1]?)) hp) : TF G n aSymbol [.obj w.i] hp P := by
  obtain ⟨Pm, hK⟩ := O.hk
  refine (f_Scanner_symbol hK).at O.tab 1 hn rfl ?_
  unfold ir_Scanner_symbol
  have hlen : (oc w.x.cps.toList[p]?).length + (oc w.x.cps.toList[p + 1]?).length ≤ sizeLine := Nat.le_trans (Nat.add_le_add (oc_len _) (oc_len _)) (by decide)
  unfold symb at h
  refine sq_set ?_
  simp only [vE, vT, vA, onLoc, onStr, onLst, onInt, onTup, onList, onB, Bin, small, goOn, retOf, turnEnd, List.map_cons, List.map_nil, List.append_nil, List.cons_append, List.nil_append, List.replicate, List.getElem?_cons_zero, List.getElem?_cons_succ, List.set_cons_zero, List.set_cons_succ, List.length_cons, List.length_nil, List.length_append, Nat.zero_add, Nat.reduceAdd, Nat.add_zero, on_scn S.s]
  refine c_char O (by omega) S ?_
  simp only [vE, vT, vA, onLoc, onStr, onLst, onInt, onTup, onList, onB, Bin, small, goOn, retOf, turnEnd, List.map_cons, List.map_nil, List.append_nil, List.cons_append, List.nil_append, List.replicate, List.getElem?_cons_zero, List.getElem?_cons_succ, List.set_cons_zero, List.set_cons_succ, List.length_cons, List.length_nil, List.length_append, Nat.zero_add, Nat.reduceAdd, Nat.add_zero, on_scn S.s]
  refine c_char1 O (by omega) S ?_
  simp only [vE, vT, vA, onLoc, onStr, onLst, onInt, onTup, onList, onB, Bin, small, goOn, retOf, turnEnd, List.map_cons, List.map_nil, List.append_nil, List.cons_append, List.nil_append, List.replicate, List.getElem?_cons_zero, List.getElem?_cons_succ, List.set_cons_zero, List.set_cons_succ, List.length_cons, List.length_nil, List.length_append, Nat.zero_add, Nat.reduceAdd, Nat.add_zero]
  refine ⟨hlen, ?_⟩
  refine sq_ife ?_
  simp only [vE, vT, vA, onLoc, onStr, onLst, onInt, onTup, onList, onB, Bin, small, goOn, retOf, turnEnd, List.map_cons, List.map_nil, List.append_nil, List.cons_append, List.nil_append, List.replicate, List.getElem?_cons_zero, List.getElem?_cons_succ, List.set_cons_zero, List.set_cons_succ, List.length_cons, List.length_nil, List.length_append, Nat.zero_add, Nat.reduceAdd, Nat.add_zero, Cmp, strsOf, Option.map_some]
  refine ⟨by decide, fun e => ?_, fun e => ?_⟩
  · refine sq_ret ?_
    simp only [vE, vT, vA, onLoc, onStr, onLst, onInt, onTup, onList, onB, Bin, small, goOn, retOf, turnEnd, List.map_cons, List.map_nil, List.append_nil, List.cons_append, List.nil_append, List.replicate, List.getElem?_cons_zero, List.getElem?_cons_succ, List.set_cons_zero, List.set_cons_succ, List.length_cons, List.length_nil, List.length_append, Nat.zero_add, Nat.reduceAdd, Nat.add_zero]
    rw [show (pairs.any (· == (oc w.x.cps.toList[p]? ++ oc w.x.cps.toList[p + 1]?))) = true from e, if_pos rfl] at h
    exact h
  · rw [show (pairs.any (· == (oc w.x.cps.toList[p]? ++ oc w.x.cps.toList[p + 1]?))) = false from e, if_neg Bool.false_ne_true] at h
    refine sq_skip ?_
    simp only [vE, vT, vA, onLoc, onStr, onLst, onInt, onTup, onList, onB, Bin, small, goOn, retOf, turnEnd, List.map_cons, List.map_nil, List.append_nil, List.cons_append, List.nil_append, List.replicate, List.getElem?_cons_zero, List.getElem?_cons_succ, List.set_cons_zero, List.set_cons_succ, List.length_cons, List.length_nil, List.length_append, Nat.zero_add, Nat.reduceAdd, Nat.add_zero]
    refine sq_ife ?_
    simp only [vE, vT, vA, onLoc, onStr, onLst, onInt, onTup, onList, onB, Bin, small, goOn, retOf, turnEnd, List.map_cons, List.map_nil, List.append_nil, List.cons_append, List.nil_append, List.replicate, List.getElem?_cons_zero, List.getElem?_cons_succ, List.set_cons_zero, List.set_cons_succ, List.length_cons, List.length_nil, List.length_append, Nat.zero_add, Nat.reduceAdd, Nat.add_zero, on_scn S.s]
    refine c_char O (by omega) S ?_
    simp only [vE, vT, vA, onLoc, onStr, onLst, onInt, onTup, onList, onB, Bin, small, goOn, retOf, turnEnd, List.map_cons, List.map_nil, List.append_nil, List.cons_append, List.nil_append, List.replicate, List.getElem?_cons_zero, List.getElem?_cons_succ, List.set_cons_zero, List.set_cons_succ, List.length_cons, List.length_nil, List.length_append, Nat.zero_add, Nat.reduceAdd, Nat.add_zero, Cmp]
    refine ⟨fun e => ?_, fun e => ?_⟩
    · refine sq_ret ?_
      simp only [vE, vT, vA, onLoc, onStr, onLst, onInt, onTup, onList, onB, Bin, small, goOn, retOf, turnEnd, List.map_cons, List.map_nil, List.append_nil, List.cons_append, List.nil_append, List.replicate, List.getElem?_cons_zero, List.getElem?_cons_succ, List.set_cons_zero, List.set_cons_succ, List.length_cons, List.length_nil, List.length_append, Nat.zero_add, Nat.reduceAdd, Nat.add_zero, on_scn S.s]
      refine c_char O (by omega) S ?_
      rw [if_pos e] at h
      exact h
    · refine sq_skip ?_
      simp only [vE, vT, vA, onLoc, onStr, onLst, onInt, onTup, onList, onB, Bin, small, goOn, retOf, turnEnd, List.map_cons, List.map_nil, List.append_nil, List.cons_append, List.nil_append, List.replicate, List.getElem?_cons_zero, List.getElem?_cons_succ, List.set_cons_zero, List.set_cons_succ, List.length_cons, List.length_nil, List.length_append, Nat.zero_add, Nat.reduceAdd, Nat.add_zero]
      refine sq_ret ?_
      simp only [vE, vT, vA, onLoc, onStr, onLst, onInt, onTup, onList, onB, Bin, small, goOn, retOf, turnEnd, List.map_cons, List.map_nil, List.append_nil, List.cons_append, List.nil_append, List.replicate, List.getElem?_cons_zero, List.getElem?_cons_succ, List.set_cons_zero, List.set_cons_succ, List.length_cons, List.length_nil, List.length_append, Nat.zero_add, Nat.reduceAdd, Nat.add_zero]
      rw [e, if_neg Bool.false_ne_true] at h
      exact h
end
end Mine
end
section
set_option maxRecDepth 20000
namespace Mine
/-- what is left of the text from a place on -/
noncomputable def At (cs : List Nat) (p : Nat) (l : List Nat) : Prop := cs.drop p = l ∧ p ≤ cs.length
section
variable {cs l t : List Nat} {p c : Nat}
theorem At.h0 (h : At cs p l) : cs[p]? = l[0]? := by rw [← h.1, List.getElem?_drop]; rfl
theorem At.h1 (h : At cs p l) : cs[p + 1]? = l[1]? := by rw [← h.1, List.getElem?_drop]
theorem At.pos (h : At cs p l) : p + l.length = cs.length := by
  have := h.2
  rw [← h.1, List.length_drop]
  omega
theorem At.step (h : At cs p (c :: t)) : At cs (p + 1) t := by
  have := h.pos
  rw [List.length_cons] at this
  refine ⟨?_, by omega⟩
  rw [← List.drop_drop, h.1]
  rfl
theorem At.app {a b : List Nat} (h : At cs p (a ++ b)) : At cs (p + a.length) b := by
  have := h.pos
  rw [List.length_append] at this
  refine ⟨?_, by omega⟩
  rw [← List.drop_drop, h.1]
  simp
end
/-- a remark's text, from a depth on: what stands behind it, or none where it does not end -/
inductive Rem : Nat → List Nat → Option (List Nat) → Prop
  | done (l : List Nat) : Rem 0 l (some l)
  | nil (d : Nat) : Rem (d + 1) [] none
  | opn {d : Nat} {t : List Nat} {R : Option (List Nat)} (h : Rem (d + 2) t R) : Rem (d + 1) (40 :: 42 :: t) R
  | cls {d : Nat} {t : List Nat} {R : Option (List Nat)} (h : Rem d t R) : Rem (d + 1) (42 :: 41 :: t) R
  | oth {d c : Nat} {t : List Nat} {R : Option (List Nat)} (h1 : ¬ (c = 40 ∧ t[0]? = some 42)) (h2 : ¬ (c = 42 ∧ t[0]? = some 41)) (h : Rem (d + 1) t R) : Rem (d + 1) (c :: t) R
/-- blanks and remarks: what stands behind them, and what is left where a remark does not end -/
inductive Gap : List Nat → List Nat → Option Nat → Prop
  | stop {l : List Nat} (h1 : ∀ c, l[0]? = some c → 32 < c) (h2 : ¬ (l[0]? = some 40 ∧ l[1]? = some 42)) : Gap l l none
  | blank {c : Nat} {t r : List Nat} {u : Option Nat} (hc : c ≤ 32) (h : Gap t r u) : Gap (c :: t) r u
  | rem {t t' r : List Nat} {u : Option Nat} (hr : Rem 1 t (some t')) (h : Gap t' r u) : Gap (40 :: 42 :: t) r u
  | unf {t : List Nat} (hr : Rem 1 t none) : Gap (40 :: 42 :: t) [] (some (t.length + 2))
theorem oc_app (a b : Option Nat) : (oc a ++ oc b).cps.toList = a.toList ++ b.toList := by cases a <;> cases b <;> rfl
theorem pr_nil (a b : Option Nat) : (oc a ++ oc b == ⟨#[]⟩) = (a.isNone && b.isNone) := by
  rw [beq_str, oc_app]
  cases a <;> cases b <;> rfl
theorem pr_two (a b : Option Nat) (x y : Nat) : (oc a ++ oc b == ⟨#[x, y]⟩) = (a == some x && b == some y) := by
  rw [beq_str, oc_app]
  cases a <;> cases b <;> simp
theorem s_open : PySem.Str.ofString "(*" = ⟨#[40, 42]⟩ := by decide
theorem s_close : PySem.Str.ofString "*)" = ⟨#[42, 41]⟩ := by decide
theorem s_par : PySem.Str.ofString "(" = ⟨#[40]⟩ := by decide
theorem s_star : PySem.Str.ofString "*" = ⟨#[42]⟩ := by decide
noncomputable def mk1 (p : Nat) (code : Str) : AV := .tup [.int (p : Int), .str code]
section
variable {G : Gl} {n : Nat} {hp : List AO} {w : Wd} {p : Nat} {rows : List AV} {ks : List Int} {P : AV → List AO → Prop}
theorem c_remark (O : Ok G) (hn : 2 ≤ n) (S : Sc w p rows ks hp) {t : List Nat} {R : Option (List Nat)} (hA : At w.x.cps.toList p (40 :: 42 :: t)) (hR : Rem 1 t R)
    (h1 : ∀ r q hp', R = some r → At w.x.cps.toList q r → p < q → Sc w q rows ks hp' → Nx w hp hp' → hp'.length = hp.length → P .none hp')
    (h2 : R = none → (ks.contains (p : Int) = false ∧ rows.length ≤ 1000 ∧ ks.length ≤ 1000) ∧ ∀ hp', Sc w w.x.cps.toList.length (rows ++ [mk1 p "unfinished_comment"]) ((p : Int) :: ks) hp' → Nx w hp hp' → hp'.length = hp.length → P .none hp') :
    TF G n aRemark [.obj w.i] hp P := by
  obtain ⟨Pm, hK⟩ := O.hk
  refine (f_Scanner_remark hK).at O.tab 1 hn rfl ?_
  unfold ir_Scanner_remark
  refine sq_set ?_
  simp only [vE, vT, vA, onLoc, onStr, onLst, onInt, onTup, onList, onB, Bin, small, goOn, retOf, turnEnd, List.map_cons, List.map_nil, List.append_nil, List.cons_append, List.nil_append, List.replicate, List.getElem?_cons_zero, List.getElem?_cons_succ, List.set_cons_zero, List.set_cons_succ, List.length_cons, List.length_nil, List.length_append, Nat.zero_add, Nat.reduceAdd, Nat.add_zero, at_plc S.s]
  refine sq_set ?_
  simp only [vE, vT, vA, onLoc, onStr, onLst, onInt, onTup, onList, onB, Bin, small, goOn, retOf, turnEnd, List.map_cons, List.map_nil, List.append_nil, List.cons_append, List.nil_append, List.replicate, List.getElem?_cons_zero, List.getElem?_cons_succ, List.set_cons_zero, List.set_cons_succ, List.length_cons, List.length_nil, List.length_append, Nat.zero_add, Nat.reduceAdd, Nat.add_zero]
  refine sq_setA ?_
  simp only [vE, vT, vA, onLoc, onStr, onLst, onInt, onTup, onList, onB, Bin, small, goOn, retOf, turnEnd, List.map_cons, List.map_nil, List.append_nil, List.cons_append, List.nil_append, List.replicate, List.getElem?_cons_zero, List.getElem?_cons_succ, List.set_cons_zero, List.set_cons_succ, List.length_cons, List.length_nil, List.length_append, Nat.zero_add, Nat.reduceAdd, Nat.add_zero, set_plc O S.s]
  have S' := S.go (p + 2)
  rw [show (p : Int) + 2 = ((p + 2 : Nat) : Int) by omega]
  refine sq_whl ?_
  refine ⟨fun st => ∃ q d l o hp', At w.x.cps.toList q l ∧ Rem d l R ∧ Sc w q rows ks hp' ∧ Nx w hp hp' ∧ hp'.length = hp.length ∧ p < q ∧ st = ⟨[some (.obj w.i), some (.int p), some (.int (d : Nat)), o], hp'⟩,
    fun st => w.x.cps.toList.length - plc w st, ⟨p + 2, 1, t, none, _, hA.step.step, hR, S', .set (.inl rfl), by simp, by omega, rfl⟩, ?_⟩
  intro st1 hi
  obtain ⟨q, d, l, o, hp1, hA1, hR1, S1, N1, L1, hpq, rfl⟩ := hi
  simp only [vE, vT, vA, onLoc, onStr, onLst, onInt, onTup, onList, onB, Bin, small, goOn, retOf, turnEnd, List.map_cons, List.map_nil, List.append_nil, List.cons_append, List.nil_append, List.replicate, List.getElem?_cons_zero, List.getElem?_cons_succ, List.set_cons_zero, List.set_cons_succ, List.length_cons, List.length_nil, List.length_append, Nat.zero_add, Nat.reduceAdd, Nat.add_zero, Cmp]
  refine ⟨fun hd => ?_, fun hd => ?_⟩
  · have hd := of_decide_eq_true hd
    have hpl := hA1.pos
    refine sq_set ?_
    simp only [vE, vT, vA, onLoc, onStr, onLst, onInt, onTup, onList, onB, Bin, small, goOn, retOf, turnEnd, List.map_cons, List.map_nil, List.append_nil, List.cons_append, List.nil_append, List.replicate, List.getElem?_cons_zero, List.getElem?_cons_succ, List.set_cons_zero, List.set_cons_succ, List.length_cons, List.length_nil, List.length_append, Nat.zero_add, Nat.reduceAdd, Nat.add_zero, on_scn S1.s]
    refine c_char O (by omega) S1 ?_
    simp only [vE, vT, vA, onLoc, onStr, onLst, onInt, onTup, onList, onB, Bin, small, goOn, retOf, turnEnd, List.map_cons, List.map_nil, List.append_nil, List.cons_append, List.nil_append, List.replicate, List.getElem?_cons_zero, List.getElem?_cons_succ, List.set_cons_zero, List.set_cons_succ, List.length_cons, List.length_nil, List.length_append, Nat.zero_add, Nat.reduceAdd, Nat.add_zero, on_scn S1.s]
    refine c_char1 O (by omega) S1 ?_
    simp only [vE, vT, vA, onLoc, onStr, onLst, onInt, onTup, onList, onB, Bin, small, goOn, retOf, turnEnd, List.map_cons, List.map_nil, List.append_nil, List.cons_append, List.nil_append, List.replicate, List.getElem?_cons_zero, List.getElem?_cons_succ, List.set_cons_zero, List.set_cons_succ, List.length_cons, List.length_nil, List.length_append, Nat.zero_add, Nat.reduceAdd, Nat.add_zero]
    refine ⟨Nat.le_trans (Nat.add_le_add (oc_len _) (oc_len _)) (by decide), ?_⟩
    have ha := hA1.h0
    have hb := hA1.h1
    generalize w.x.cps.toList[q]? = a at *
    generalize w.x.cps.toList[q + 1]? = b at *
    cases hR1 with
    | done => omega
    | nil d =>
      have e0 : (a.isNone && b.isNone) = true := by rw [ha, hb]; rfl
      refine sq_ife ?_
      simp only [vE, vT, vA, onLoc, onStr, onLst, onInt, onTup, onList, onB, Bin, small, goOn, retOf, turnEnd, List.map_cons, List.map_nil, List.append_nil, List.cons_append, List.nil_append, List.replicate, List.getElem?_cons_zero, List.getElem?_cons_succ, List.set_cons_zero, List.set_cons_succ, List.length_cons, List.length_nil, List.length_append, Nat.zero_add, Nat.reduceAdd, Nat.add_zero, Cmp, s_nil, pr_nil, e0]
      refine fork_t ?_
      refine sq_exp ?_
      simp only [vE, vT, vA, onLoc, onStr, onLst, onInt, onTup, onList, onB, Bin, small, goOn, retOf, turnEnd, List.map_cons, List.map_nil, List.append_nil, List.cons_append, List.nil_append, List.replicate, List.getElem?_cons_zero, List.getElem?_cons_succ, List.set_cons_zero, List.set_cons_succ, List.length_cons, List.length_nil, List.length_append, Nat.zero_add, Nat.reduceAdd, Nat.add_zero, at_err S1.s, on_erl S1.e]
      obtain ⟨⟨g1, g2, g3⟩, h2⟩ := h2 rfl
      refine c_mark O (by omega) S1 g1 g2 g3 fun hp2 S2 N2 L2 => ?_
      refine sq_ret ?_
      simp only [vE, vT, vA, onLoc, onStr, onLst, onInt, onTup, onList, onB, Bin, small, goOn, retOf, turnEnd, List.map_cons, List.map_nil, List.append_nil, List.cons_append, List.nil_append, List.replicate, List.getElem?_cons_zero, List.getElem?_cons_succ, List.set_cons_zero, List.set_cons_succ, List.length_cons, List.length_nil, List.length_append, Nat.zero_add, Nat.reduceAdd, Nat.add_zero]
      rw [show q = w.x.cps.toList.length by simpa using hpl] at S2
      exact h2 hp2 S2 (N1.trans N2) (by omega)
    | @opn d t R h =>
      have e0 : (a.isNone && b.isNone) = false := by rw [ha, hb]; rfl
      have e1 : (a == some 40 && b == some 42) = true := by rw [ha, hb]; rfl
      refine sq_ife ?_
      simp only [vE, vT, vA, onLoc, onStr, onLst, onInt, onTup, onList, onB, Bin, small, goOn, retOf, turnEnd, List.map_cons, List.map_nil, List.append_nil, List.cons_append, List.nil_append, List.replicate, List.getElem?_cons_zero, List.getElem?_cons_succ, List.set_cons_zero, List.set_cons_succ, List.length_cons, List.length_nil, List.length_append, Nat.zero_add, Nat.reduceAdd, Nat.add_zero, Cmp, s_nil, pr_nil, e0]
      refine fork_f ?_
      refine sq_skip ?_
      simp only [vE, vT, vA, onLoc, onStr, onLst, onInt, onTup, onList, onB, Bin, small, goOn, retOf, turnEnd, List.map_cons, List.map_nil, List.append_nil, List.cons_append, List.nil_append, List.replicate, List.getElem?_cons_zero, List.getElem?_cons_succ, List.set_cons_zero, List.set_cons_succ, List.length_cons, List.length_nil, List.length_append, Nat.zero_add, Nat.reduceAdd, Nat.add_zero]
      refine sq_ife ?_
      simp only [vE, vT, vA, onLoc, onStr, onLst, onInt, onTup, onList, onB, Bin, small, goOn, retOf, turnEnd, List.map_cons, List.map_nil, List.append_nil, List.cons_append, List.nil_append, List.replicate, List.getElem?_cons_zero, List.getElem?_cons_succ, List.set_cons_zero, List.set_cons_succ, List.length_cons, List.length_nil, List.length_append, Nat.zero_add, Nat.reduceAdd, Nat.add_zero, Cmp, s_open, pr_two, e1]
      refine fork_t ?_
      refine sq_set ?_
      simp only [vE, vT, vA, onLoc, onStr, onLst, onInt, onTup, onList, onB, Bin, small, goOn, retOf, turnEnd, List.map_cons, List.map_nil, List.append_nil, List.cons_append, List.nil_append, List.replicate, List.getElem?_cons_zero, List.getElem?_cons_succ, List.set_cons_zero, List.set_cons_succ, List.length_cons, List.length_nil, List.length_append, Nat.zero_add, Nat.reduceAdd, Nat.add_zero]
      refine sq_setA ?_
      simp only [vE, vT, vA, onLoc, onStr, onLst, onInt, onTup, onList, onB, Bin, small, goOn, retOf, turnEnd, List.map_cons, List.map_nil, List.append_nil, List.cons_append, List.nil_append, List.replicate, List.getElem?_cons_zero, List.getElem?_cons_succ, List.set_cons_zero, List.set_cons_succ, List.length_cons, List.length_nil, List.length_append, Nat.zero_add, Nat.reduceAdd, Nat.add_zero, at_plc S1.s, set_plc O S1.s]
      refine sq_skip ?_
      simp only [vE, vT, vA, onLoc, onStr, onLst, onInt, onTup, onList, onB, Bin, small, goOn, retOf, turnEnd, List.map_cons, List.map_nil, List.append_nil, List.cons_append, List.nil_append, List.replicate, List.getElem?_cons_zero, List.getElem?_cons_succ, List.set_cons_zero, List.set_cons_succ, List.length_cons, List.length_nil, List.length_append, Nat.zero_add, Nat.reduceAdd, Nat.add_zero]
      refine sq_skip ?_
      have S2 := S1.go (q + 2)
      rw [show (q : Int) + 2 = ((q + 2 : Nat) : Int) by omega]
      refine ⟨⟨q + 2, d + 2, t, some (.str (oc a ++ oc b)), _, hA1.step.step, h, S2, N1.trans (.set (.inl rfl)), by simp [L1], by omega, by rw [show ((d + 1 : Nat) : Int) + 1 = ((d + 2 : Nat) : Int) by omega]⟩, ?_⟩
      rw [S1.plc, S2.plc]; simp only [List.length_cons] at hpl; omega
    | @cls d t R h =>
      have e0 : (a.isNone && b.isNone) = false := by rw [ha, hb]; rfl
      have e1 : (a == some 40 && b == some 42) = false := by rw [ha, hb]; rfl
      have e2 : (a == some 42 && b == some 41) = true := by rw [ha, hb]; rfl
      refine sq_ife ?_
      simp only [vE, vT, vA, onLoc, onStr, onLst, onInt, onTup, onList, onB, Bin, small, goOn, retOf, turnEnd, List.map_cons, List.map_nil, List.append_nil, List.cons_append, List.nil_append, List.replicate, List.getElem?_cons_zero, List.getElem?_cons_succ, List.set_cons_zero, List.set_cons_succ, List.length_cons, List.length_nil, List.length_append, Nat.zero_add, Nat.reduceAdd, Nat.add_zero, Cmp, s_nil, pr_nil, e0]
      refine fork_f ?_
      refine sq_skip ?_
      simp only [vE, vT, vA, onLoc, onStr, onLst, onInt, onTup, onList, onB, Bin, small, goOn, retOf, turnEnd, List.map_cons, List.map_nil, List.append_nil, List.cons_append, List.nil_append, List.replicate, List.getElem?_cons_zero, List.getElem?_cons_succ, List.set_cons_zero, List.set_cons_succ, List.length_cons, List.length_nil, List.length_append, Nat.zero_add, Nat.reduceAdd, Nat.add_zero]
      refine sq_ife ?_
      simp only [vE, vT, vA, onLoc, onStr, onLst, onInt, onTup, onList, onB, Bin, small, goOn, retOf, turnEnd, List.map_cons, List.map_nil, List.append_nil, List.cons_append, List.nil_append, List.replicate, List.getElem?_cons_zero, List.getElem?_cons_succ, List.set_cons_zero, List.set_cons_succ, List.length_cons, List.length_nil, List.length_append, Nat.zero_add, Nat.reduceAdd, Nat.add_zero, Cmp, s_open, pr_two, e1]
      refine fork_f ?_
      refine sq_ife ?_
      simp only [vE, vT, vA, onLoc, onStr, onLst, onInt, onTup, onList, onB, Bin, small, goOn, retOf, turnEnd, List.map_cons, List.map_nil, List.append_nil, List.cons_append, List.nil_append, List.replicate, List.getElem?_cons_zero, List.getElem?_cons_succ, List.set_cons_zero, List.set_cons_succ, List.length_cons, List.length_nil, List.length_append, Nat.zero_add, Nat.reduceAdd, Nat.add_zero, Cmp, s_close, pr_two, e2]
      refine fork_t ?_
      refine sq_set ?_
      simp only [vE, vT, vA, onLoc, onStr, onLst, onInt, onTup, onList, onB, Bin, small, goOn, retOf, turnEnd, List.map_cons, List.map_nil, List.append_nil, List.cons_append, List.nil_append, List.replicate, List.getElem?_cons_zero, List.getElem?_cons_succ, List.set_cons_zero, List.set_cons_succ, List.length_cons, List.length_nil, List.length_append, Nat.zero_add, Nat.reduceAdd, Nat.add_zero]
      refine sq_setA ?_
      simp only [vE, vT, vA, onLoc, onStr, onLst, onInt, onTup, onList, onB, Bin, small, goOn, retOf, turnEnd, List.map_cons, List.map_nil, List.append_nil, List.cons_append, List.nil_append, List.replicate, List.getElem?_cons_zero, List.getElem?_cons_succ, List.set_cons_zero, List.set_cons_succ, List.length_cons, List.length_nil, List.length_append, Nat.zero_add, Nat.reduceAdd, Nat.add_zero, at_plc S1.s, set_plc O S1.s]
      refine sq_skip ?_
      simp only [vE, vT, vA, onLoc, onStr, onLst, onInt, onTup, onList, onB, Bin, small, goOn, retOf, turnEnd, List.map_cons, List.map_nil, List.append_nil, List.cons_append, List.nil_append, List.replicate, List.getElem?_cons_zero, List.getElem?_cons_succ, List.set_cons_zero, List.set_cons_succ, List.length_cons, List.length_nil, List.length_append, Nat.zero_add, Nat.reduceAdd, Nat.add_zero]
      refine sq_skip ?_
      simp only [vE, vT, vA, onLoc, onStr, onLst, onInt, onTup, onList, onB, Bin, small, goOn, retOf, turnEnd, List.map_cons, List.map_nil, List.append_nil, List.cons_append, List.nil_append, List.replicate, List.getElem?_cons_zero, List.getElem?_cons_succ, List.set_cons_zero, List.set_cons_succ, List.length_cons, List.length_nil, List.length_append, Nat.zero_add, Nat.reduceAdd, Nat.add_zero]
      refine sq_skip ?_
      have S2 := S1.go (q + 2)
      rw [show (q : Int) + 2 = ((q + 2 : Nat) : Int) by omega]
      refine ⟨⟨q + 2, d, t, some (.str (oc a ++ oc b)), _, hA1.step.step, h, S2, N1.trans (.set (.inl rfl)), by simp [L1], by omega, by rw [show ((d + 1 : Nat) : Int) - 1 = (d : Int) by omega]⟩, ?_⟩
      rw [S1.plc, S2.plc]; simp only [List.length_cons] at hpl; omega
    | @oth d c t R g1 g2 h =>
      have e0 : (a.isNone && b.isNone) = false := by rw [ha, hb]; rfl
      have e1 : (a == some 40 && b == some 42) = false := by
        rw [ha, hb, Bool.and_eq_false_iff, beq_eq_false_iff_ne, beq_eq_false_iff_ne]
        by_cases e : c = 40
        · exact .inr fun z => g1 ⟨e, by simpa using z⟩
        · exact .inl fun z => e (by simpa using z)
      have e2 : (a == some 42 && b == some 41) = false := by
        rw [ha, hb, Bool.and_eq_false_iff, beq_eq_false_iff_ne, beq_eq_false_iff_ne]
        by_cases e : c = 42
        · exact .inr fun z => g2 ⟨e, by simpa using z⟩
        · exact .inl fun z => e (by simpa using z)
      refine sq_ife ?_
      simp only [vE, vT, vA, onLoc, onStr, onLst, onInt, onTup, onList, onB, Bin, small, goOn, retOf, turnEnd, List.map_cons, List.map_nil, List.append_nil, List.cons_append, List.nil_append, List.replicate, List.getElem?_cons_zero, List.getElem?_cons_succ, List.set_cons_zero, List.set_cons_succ, List.length_cons, List.length_nil, List.length_append, Nat.zero_add, Nat.reduceAdd, Nat.add_zero, Cmp, s_nil, pr_nil, e0]
      refine fork_f ?_
      refine sq_skip ?_
      simp only [vE, vT, vA, onLoc, onStr, onLst, onInt, onTup, onList, onB, Bin, small, goOn, retOf, turnEnd, List.map_cons, List.map_nil, List.append_nil, List.cons_append, List.nil_append, List.replicate, List.getElem?_cons_zero, List.getElem?_cons_succ, List.set_cons_zero, List.set_cons_succ, List.length_cons, List.length_nil, List.length_append, Nat.zero_add, Nat.reduceAdd, Nat.add_zero]
      refine sq_ife ?_
      simp only [vE, vT, vA, onLoc, onStr, onLst, onInt, onTup, onList, onB, Bin, small, goOn, retOf, turnEnd, List.map_cons, List.map_nil, List.append_nil, List.cons_append, List.nil_append, List.replicate, List.getElem?_cons_zero, List.getElem?_cons_succ, List.set_cons_zero, List.set_cons_succ, List.length_cons, List.length_nil, List.length_append, Nat.zero_add, Nat.reduceAdd, Nat.add_zero, Cmp, s_open, pr_two, e1]
      refine fork_f ?_
      refine sq_ife ?_
      simp only [vE, vT, vA, onLoc, onStr, onLst, onInt, onTup, onList, onB, Bin, small, goOn, retOf, turnEnd, List.map_cons, List.map_nil, List.append_nil, List.cons_append, List.nil_append, List.replicate, List.getElem?_cons_zero, List.getElem?_cons_succ, List.set_cons_zero, List.set_cons_succ, List.length_cons, List.length_nil, List.length_append, Nat.zero_add, Nat.reduceAdd, Nat.add_zero, Cmp, s_close, pr_two, e2]
      refine fork_f ?_
      refine sq_setA ?_
      simp only [vE, vT, vA, onLoc, onStr, onLst, onInt, onTup, onList, onB, Bin, small, goOn, retOf, turnEnd, List.map_cons, List.map_nil, List.append_nil, List.cons_append, List.nil_append, List.replicate, List.getElem?_cons_zero, List.getElem?_cons_succ, List.set_cons_zero, List.set_cons_succ, List.length_cons, List.length_nil, List.length_append, Nat.zero_add, Nat.reduceAdd, Nat.add_zero, at_plc S1.s, set_plc O S1.s]
      refine sq_skip ?_
      simp only [vE, vT, vA, onLoc, onStr, onLst, onInt, onTup, onList, onB, Bin, small, goOn, retOf, turnEnd, List.map_cons, List.map_nil, List.append_nil, List.cons_append, List.nil_append, List.replicate, List.getElem?_cons_zero, List.getElem?_cons_succ, List.set_cons_zero, List.set_cons_succ, List.length_cons, List.length_nil, List.length_append, Nat.zero_add, Nat.reduceAdd, Nat.add_zero]
      refine sq_skip ?_
      simp only [vE, vT, vA, onLoc, onStr, onLst, onInt, onTup, onList, onB, Bin, small, goOn, retOf, turnEnd, List.map_cons, List.map_nil, List.append_nil, List.cons_append, List.nil_append, List.replicate, List.getElem?_cons_zero, List.getElem?_cons_succ, List.set_cons_zero, List.set_cons_succ, List.length_cons, List.length_nil, List.length_append, Nat.zero_add, Nat.reduceAdd, Nat.add_zero]
      refine sq_skip ?_
      have S2 := S1.go (q + 1)
      rw [show (q : Int) + 1 = ((q + 1 : Nat) : Int) by omega]
      refine ⟨⟨q + 1, d + 1, t, some (.str (oc a ++ oc b)), _, hA1.step, h, S2, N1.trans (.set (.inl rfl)), by simp [L1], by omega, rfl⟩, ?_⟩
      rw [S1.plc, S2.plc]; simp only [List.length_cons] at hpl; omega
  · have hd := of_decide_eq_false hd
    have hd : d = 0 := by omega
    subst hd
    cases hR1
    refine sq_skip ?_
    exact h1 _ _ _ rfl hA1 hpq S1 N1 L1
noncomputable def uRows (N : Nat) (rows : List AV) : Option Nat → List AV
  | none => rows
  | some k => rows ++ [mk1 (N - k) "unfinished_comment"]
noncomputable def uKs (N : Nat) (ks : List Int) : Option Nat → List Int
  | none => ks
  | some k => ((N - k : Nat) : Int) :: ks
theorem t_and {G : Gl} {n : Nat} {st : ASt} {t1 t2 : IT} {x y : Bool} {Q : Bool → ASt → Prop} (h1 : ∀ R, R x st → vT G n t1 st R) (h2 : x = true → ∀ R, R y st → vT G n t2 st R) (h : Q (x && y) st) : vT G n (.and t1 t2) st Q := by
  simp only [vE, vT, vA, onLoc, onStr, onLst, onInt, onTup, onList, onB, Bin, small, goOn, retOf, turnEnd, List.map_cons, List.map_nil, List.append_nil, List.cons_append, List.nil_append, List.replicate, List.getElem?_cons_zero, List.getElem?_cons_succ, List.set_cons_zero, List.set_cons_succ, List.length_cons, List.length_nil, List.length_append, Nat.zero_add, Nat.reduceAdd, Nat.add_zero]
  refine h1 _ ⟨fun e => h2 e _ ?_, fun e => ?_⟩
  · rw [e, Bool.true_and] at h; exact h
  · rw [e, Bool.false_and] at h; exact h
theorem c_skip (O : Ok G) (hn : 3 ≤ n) (S : Sc w p rows ks hp) {l r : List Nat} {u : Option Nat} (hA : At w.x.cps.toList p l) (hG : Gap l r u) (hk : ∀ k ∈ ks, k < (p : Int)) (h1 : rows.length ≤ 1000) (h2 : ks.length ≤ 1000)
    (h : ∀ q hp', At w.x.cps.toList q r → p ≤ q → Sc w q (uRows w.x.cps.toList.length rows u) (uKs w.x.cps.toList.length ks u) hp' → Nx w hp hp' → hp'.length = hp.length → P .none hp') :
    TF G n aSkip [.obj w.i] hp P := by
  obtain ⟨Pm, hK⟩ := O.hk
  refine (f_Scanner_skip hK).at O.tab 2 hn rfl ?_
  unfold ir_Scanner_skip
  refine sq_whl ?_
  refine ⟨fun st => ∃ q rows' ks' l' u' o hp', At w.x.cps.toList q l' ∧ Gap l' r u' ∧ uRows w.x.cps.toList.length rows' u' = uRows w.x.cps.toList.length rows u ∧ uKs w.x.cps.toList.length ks' u' = uKs w.x.cps.toList.length ks u ∧
      (∀ k, u' = some k → rows' = rows ∧ ks' = ks) ∧ Sc w q rows' ks' hp' ∧ Nx w hp hp' ∧ hp'.length = hp.length ∧ p ≤ q ∧ st = ⟨[some (.obj w.i), o, none], hp'⟩,
    fun st => w.x.cps.toList.length - plc w st, ⟨p, rows, ks, l, u, none, hp, hA, hG, rfl, rfl, fun _ _ => ⟨rfl, rfl⟩, S, .refl, rfl, Nat.le_refl _, rfl⟩, ?_⟩
  intro st1 hi
  obtain ⟨q, rows', ks', l', u', o, hp1, hA1, hG1, hu1, hu2, hu3, S1, N1, L1, hpq, rfl⟩ := hi
  simp only [vE, vT, vA, onLoc, onStr, onLst, onInt, onTup, onList, onB, Bin, small, goOn, retOf, turnEnd, List.map_cons, List.map_nil, List.append_nil, List.cons_append, List.nil_append, List.replicate, List.getElem?_cons_zero, List.getElem?_cons_succ, List.set_cons_zero, List.set_cons_succ, List.length_cons, List.length_nil, List.length_append, Nat.zero_add, Nat.reduceAdd, Nat.add_zero]
  refine fork_t ?_
  have hpl := hA1.pos
  refine sq_set ?_
  simp only [vE, vT, vA, onLoc, onStr, onLst, onInt, onTup, onList, onB, Bin, small, goOn, retOf, turnEnd, List.map_cons, List.map_nil, List.append_nil, List.cons_append, List.nil_append, List.replicate, List.getElem?_cons_zero, List.getElem?_cons_succ, List.set_cons_zero, List.set_cons_succ, List.length_cons, List.length_nil, List.length_append, Nat.zero_add, Nat.reduceAdd, Nat.add_zero, on_scn S1.s]
  refine c_char O (by omega) S1 ?_
  have ha := hA1.h0
  have hb := hA1.h1
  generalize w.x.cps.toList[q]? = a at *
  generalize hbe : w.x.cps.toList[q + 1]? = b at *
  refine sq_ife (t_and (x := a == some 40) (y := b == some 42) (fun R h => ?_) (fun _ R h => ?_) ?_)
  · simp only [vE, vT, vA, onLoc, onStr, onLst, onInt, onTup, onList, onB, Bin, small, goOn, retOf, turnEnd, List.map_cons, List.map_nil, List.append_nil, List.cons_append, List.nil_append, List.replicate, List.getElem?_cons_zero, List.getElem?_cons_succ, List.set_cons_zero, List.set_cons_succ, List.length_cons, List.length_nil, List.length_append, Nat.zero_add, Nat.reduceAdd, Nat.add_zero, Cmp, s_par, oc_one]
    exact h
  · simp only [vE, vT, vA, onLoc, onStr, onLst, onInt, onTup, onList, onB, Bin, small, goOn, retOf, turnEnd, List.map_cons, List.map_nil, List.append_nil, List.cons_append, List.nil_append, List.replicate, List.getElem?_cons_zero, List.getElem?_cons_succ, List.set_cons_zero, List.set_cons_succ, List.length_cons, List.length_nil, List.length_append, Nat.zero_add, Nat.reduceAdd, Nat.add_zero, on_scn S1.s]
    refine c_char1 O (by omega) S1 ?_
    simp only [vE, vT, vA, onLoc, onStr, onLst, onInt, onTup, onList, onB, Bin, small, goOn, retOf, turnEnd, List.map_cons, List.map_nil, List.append_nil, List.cons_append, List.nil_append, List.replicate, List.getElem?_cons_zero, List.getElem?_cons_succ, List.set_cons_zero, List.set_cons_succ, List.length_cons, List.length_nil, List.length_append, Nat.zero_add, Nat.reduceAdd, Nat.add_zero, Cmp, s_star, oc_one, hbe]
    exact h
  refine ⟨fun e => ?_, fun e => ?_⟩
  · rw [Bool.and_eq_true, beq_iff_eq, beq_iff_eq, ha, hb] at e
    refine sq_exp ?_
    simp only [vE, vT, vA, onLoc, onStr, onLst, onInt, onTup, onList, onB, Bin, small, goOn, retOf, turnEnd, List.map_cons, List.map_nil, List.append_nil, List.cons_append, List.nil_append, List.replicate, List.getElem?_cons_zero, List.getElem?_cons_succ, List.set_cons_zero, List.set_cons_succ, List.length_cons, List.length_nil, List.length_append, Nat.zero_add, Nat.reduceAdd, Nat.add_zero, on_scn S1.s]
    cases hG1 with
    | stop g1 g2 => exact absurd e g2
    | blank hc _ =>
      have := e.1
      simp only [List.getElem?_cons_zero, Option.some.injEq] at this
      omega
    | rem hr hg =>
      refine c_remark O (by omega) S1 hA1 hr (fun r2 q2 hp2 z hA2 hlt S2 N2 L2 => ?_) (fun z => by cases z)
      cases z
      refine sq_skip ?_
      simp only [vE, vT, vA, onLoc, onStr, onLst, onInt, onTup, onList, onB, Bin, small, goOn, retOf, turnEnd, List.map_cons, List.map_nil, List.append_nil, List.cons_append, List.nil_append, List.replicate, List.getElem?_cons_zero, List.getElem?_cons_succ, List.set_cons_zero, List.set_cons_succ, List.length_cons, List.length_nil, List.length_append, Nat.zero_add, Nat.reduceAdd, Nat.add_zero]
      refine sq_skip ?_
      refine ⟨⟨q2, rows', ks', _, u', _, hp2, hA2, hg, hu1, hu2, hu3, S2, N1.trans N2, by omega, by omega, rfl⟩, ?_⟩
      rw [S1.plc, S2.plc]
      have hp2' := hA2.pos
      simp only [List.length_cons] at hpl; omega
    | @unf t hr =>
      obtain ⟨z1, z2⟩ := hu3 _ rfl
      subst z1 z2
      have hq : w.x.cps.toList.length - (t.length + 2) = q := by
        simp only [List.length_cons] at hpl
        exact (show ∀ a b c : Nat, a + (b + 1 + 1) = c → c - (b + 2) = a by omega) _ _ _ hpl
      refine c_remark O (by omega) S1 hA1 hr (fun r2 q2 hp2 z => by cases z) (fun _ => ⟨⟨?_, h1, h2⟩, fun hp2 S2 N2 L2 => ?_⟩)
      · rw [List.contains_eq_mem, decide_eq_false_iff_not]
        intro hm
        have := hk _ hm
        omega
      · refine sq_skip ?_
        simp only [vE, vT, vA, onLoc, onStr, onLst, onInt, onTup, onList, onB, Bin, small, goOn, retOf, turnEnd, List.map_cons, List.map_nil, List.append_nil, List.cons_append, List.nil_append, List.replicate, List.getElem?_cons_zero, List.getElem?_cons_succ, List.set_cons_zero, List.set_cons_succ, List.length_cons, List.length_nil, List.length_append, Nat.zero_add, Nat.reduceAdd, Nat.add_zero]
        refine sq_skip ?_
        refine ⟨⟨w.x.cps.toList.length, _, _, [], none, _, hp2, ⟨by simp, Nat.le_refl _⟩, .stop (fun c z => by cases z) (fun z => by cases z.1), ?_, ?_, (fun k z => by cases z), S2, N1.trans N2, by omega, by omega, rfl⟩, ?_⟩
        · rw [← hu1]; simp only [uRows, hq]
        · rw [← hu2]; simp only [uKs, hq]
        · rw [S1.plc, S2.plc]
          simp only [List.length_cons] at hpl; omega
  · have e : ¬ (l'[0]? = some 40 ∧ l'[1]? = some 42) := by
      rw [← ha, ← hb]
      intro z
      rw [z.1, z.2] at e
      cases e
    cases hG1 with
    | stop g1 g2 =>
      have fin : P .none hp1 := h q hp1 hA1 hpq (by rw [← hu1, ← hu2]; exact S1) N1 L1
      cases a with
      | none =>
        refine sq_ife (t_and (x := false) (y := false) (fun R h => ?_) (fun z => by cases z) (fork_f (sq_ret ?_)))
        · simp only [vE, vT, vA, onLoc, onStr, onLst, onInt, onTup, onList, onB, Bin, small, goOn, retOf, turnEnd, List.map_cons, List.map_nil, List.append_nil, List.cons_append, List.nil_append, List.replicate, List.getElem?_cons_zero, List.getElem?_cons_succ, List.set_cons_zero, List.set_cons_succ, List.length_cons, List.length_nil, List.length_append, Nat.zero_add, Nat.reduceAdd, Nat.add_zero, Cmp, s_nil, bne, oc_none, Option.isNone_none, Bool.not_true]
          exact h
        · simp only [vE, vT, vA, onLoc, onStr, onLst, onInt, onTup, onList, onB, Bin, small, goOn, retOf, turnEnd, List.map_cons, List.map_nil, List.append_nil, List.cons_append, List.nil_append, List.replicate, List.getElem?_cons_zero, List.getElem?_cons_succ, List.set_cons_zero, List.set_cons_succ, List.length_cons, List.length_nil, List.length_append, Nat.zero_add, Nat.reduceAdd, Nat.add_zero]
          exact fin
      | some c =>
        have hc := g1 c ha.symm
        refine sq_ife (t_and (x := true) (y := false) (fun R h => ?_) (fun _ R h => ?_) (fork_f (sq_ret ?_)))
        · simp only [vE, vT, vA, onLoc, onStr, onLst, onInt, onTup, onList, onB, Bin, small, goOn, retOf, turnEnd, List.map_cons, List.map_nil, List.append_nil, List.cons_append, List.nil_append, List.replicate, List.getElem?_cons_zero, List.getElem?_cons_succ, List.set_cons_zero, List.set_cons_succ, List.length_cons, List.length_nil, List.length_append, Nat.zero_add, Nat.reduceAdd, Nat.add_zero, Cmp, s_nil, bne, oc_none, Option.isNone_some, Bool.not_false]
          exact h
        · simp only [vE, vT, vA, onLoc, onStr, onLst, onInt, onTup, onList, onB, Bin, small, goOn, retOf, turnEnd, List.map_cons, List.map_nil, List.append_nil, List.cons_append, List.nil_append, List.replicate, List.getElem?_cons_zero, List.getElem?_cons_succ, List.set_cons_zero, List.set_cons_succ, List.length_cons, List.length_nil, List.length_append, Nat.zero_add, Nat.reduceAdd, Nat.add_zero, Cmp, Ord]
          refine ⟨rfl, ?_⟩
          rw [show decide (((oc (some c)).cps.getD 0 0 : Int) ≤ 32) = false from decide_eq_false (by show ¬ ((c : Int) ≤ 32); omega)]
          exact h
        · simp only [vE, vT, vA, onLoc, onStr, onLst, onInt, onTup, onList, onB, Bin, small, goOn, retOf, turnEnd, List.map_cons, List.map_nil, List.append_nil, List.cons_append, List.nil_append, List.replicate, List.getElem?_cons_zero, List.getElem?_cons_succ, List.set_cons_zero, List.set_cons_succ, List.length_cons, List.length_nil, List.length_append, Nat.zero_add, Nat.reduceAdd, Nat.add_zero]
          exact fin
    | @blank c t r u' hc hg =>
      subst ha
      refine sq_ife (t_and (x := true) (y := true) (fun R h => ?_) (fun _ R h => ?_) (fork_t (sq_setA ?_)))
      · simp only [vE, vT, vA, onLoc, onStr, onLst, onInt, onTup, onList, onB, Bin, small, goOn, retOf, turnEnd, List.map_cons, List.map_nil, List.append_nil, List.cons_append, List.nil_append, List.replicate, List.getElem?_cons_zero, List.getElem?_cons_succ, List.set_cons_zero, List.set_cons_succ, List.length_cons, List.length_nil, List.length_append, Nat.zero_add, Nat.reduceAdd, Nat.add_zero, Cmp, s_nil, bne, oc_none, Option.isNone_some, Bool.not_false]
        exact h
      · simp only [vE, vT, vA, onLoc, onStr, onLst, onInt, onTup, onList, onB, Bin, small, goOn, retOf, turnEnd, List.map_cons, List.map_nil, List.append_nil, List.cons_append, List.nil_append, List.replicate, List.getElem?_cons_zero, List.getElem?_cons_succ, List.set_cons_zero, List.set_cons_succ, List.length_cons, List.length_nil, List.length_append, Nat.zero_add, Nat.reduceAdd, Nat.add_zero, Cmp, Ord]
        refine ⟨rfl, ?_⟩
        rw [show decide (((oc (some c)).cps.getD 0 0 : Int) ≤ 32) = true from decide_eq_true (by show ((c : Int) ≤ 32); omega)]
        exact h
      · simp only [vE, vT, vA, onLoc, onStr, onLst, onInt, onTup, onList, onB, Bin, small, goOn, retOf, turnEnd, List.map_cons, List.map_nil, List.append_nil, List.cons_append, List.nil_append, List.replicate, List.getElem?_cons_zero, List.getElem?_cons_succ, List.set_cons_zero, List.set_cons_succ, List.length_cons, List.length_nil, List.length_append, Nat.zero_add, Nat.reduceAdd, Nat.add_zero, at_plc S1.s, set_plc O S1.s]
        refine sq_skip ?_
        simp only [vE, vT, vA, onLoc, onStr, onLst, onInt, onTup, onList, onB, Bin, small, goOn, retOf, turnEnd, List.map_cons, List.map_nil, List.append_nil, List.cons_append, List.nil_append, List.replicate, List.getElem?_cons_zero, List.getElem?_cons_succ, List.set_cons_zero, List.set_cons_succ, List.length_cons, List.length_nil, List.length_append, Nat.zero_add, Nat.reduceAdd, Nat.add_zero]
        refine sq_skip ?_
        simp only [vE, vT, vA, onLoc, onStr, onLst, onInt, onTup, onList, onB, Bin, small, goOn, retOf, turnEnd, List.map_cons, List.map_nil, List.append_nil, List.cons_append, List.nil_append, List.replicate, List.getElem?_cons_zero, List.getElem?_cons_succ, List.set_cons_zero, List.set_cons_succ, List.length_cons, List.length_nil, List.length_append, Nat.zero_add, Nat.reduceAdd, Nat.add_zero]
        refine sq_skip ?_
        have S2 := S1.go (q + 1)
        rw [show (q : Int) + 1 = ((q + 1 : Nat) : Int) by omega]
        refine ⟨⟨q + 1, rows', ks', t, u', _, _, hA1.step, hg, hu1, hu2, hu3, S2, N1.trans (.set (.inl rfl)), by simp [L1], by omega, rfl⟩, ?_⟩
        rw [S1.plc, S2.plc]
        simp only [List.length_cons] at hpl; omega
    | rem hr hg => exact absurd ⟨rfl, rfl⟩ e
    | unf hr => exact absurd ⟨rfl, rfl⟩ e
end
end Mine
end
section
set_option maxRecDepth 20000
namespace Mine
noncomputable def isBad (a b : Option Nat) : Bool := a.isSome && !isLet a && !isDig a && !(a == some 34) && (symb a b == "")
noncomputable def uMs (N : Nat) : Option Nat → List (Nat × Str)
  | none => []
  | some k => [(N - k, "unfinished_comment")]
noncomputable def mkr (ms : List (Nat × Str)) : List AV := ms.map fun m => mk1 m.1 m.2
/-- what comes ahead of a token: blanks, remarks, wrong signs; what stands there then, and the marks made -/
inductive Lead (N : Nat) : List Nat → List Nat → List (Nat × Str) → Prop
  | here {l r : List Nat} {u : Option Nat} (h : Gap l r u) (hb : isBad r[0]? r[1]? = false) : Lead N l r (uMs N u)
  | bad {l t r : List Nat} {c : Nat} {ms : List (Nat × Str)} (h : Gap l (c :: t) none) (hb : isBad (some c) t[0]? = true) (hl : Lead N t r ms) : Lead N l r ((N - (t.length + 1), "bad_character") :: ms)
theorem uRows_ms (N : Nat) (rows : List AV) (u : Option Nat) : uRows N rows u = rows ++ mkr (uMs N u) := by
  cases u <;> simp [uRows, uMs, mkr]
theorem Rem.le {d : Nat} {t : List Nat} {R : Option (List Nat)} (h : Rem d t R) : ∀ t', R = some t' → t'.length ≤ t.length := by
  induction h with
  | done l => intro t' e; cases e; exact Nat.le_refl _
  | nil d => intro t' e; cases e
  | opn _ ih => intro t' e; have := ih t' e; simp; omega
  | cls _ ih => intro t' e; have := ih t' e; simp; omega
  | oth _ _ _ ih => intro t' e; have := ih t' e; simp; omega
theorem Gap.end' {l r : List Nat} {u : Option Nat} (h : Gap l r u) : ∀ k, u = some k → r = [] ∧ 2 ≤ k ∧ k ≤ l.length := by
  induction h with
  | stop => intro k e; cases e
  | blank _ _ ih => intro k e; obtain ⟨h1, h2, h3⟩ := ih k e; exact ⟨h1, h2, by simp; omega⟩
  | rem hr _ ih => intro k e; obtain ⟨h1, h2, h3⟩ := ih k e; have := hr.le _ rfl; exact ⟨h1, h2, by simp; omega⟩
  | unf hr => intro k e; cases e; exact ⟨rfl, by omega, by simp⟩
/-- what the scanner does with what stands there -/
structure Disp (G : Gl) (w : Wd) (q : Nat) (a b : Option Nat) (rows : List AV) (ks : List Int) (hp : List AO) (P : AV → List AO → Prop) : Prop where
  eof : a = none → P (.obj hp.length) (hp ++ [tok (.str "eof") (.str "") q])
  wd : isLet a = true → TF G 5 aWord [.obj w.i, .int q] hp P
  nu : isDig a = true → TF G 5 aNumeral [.obj w.i, .int q] hp P
  st : a = some 34 → TF G 5 aString [.obj w.i, .int q] hp P
  sy : isLet a = false → isDig a = false → a ≠ some 34 → symb a b ≠ "" → ∀ hp', Sc w (q + (symb a b).length) rows ks hp' → Nx w hp hp' → hp'.length = hp.length → P (.obj hp'.length) (hp' ++ [tok (.str (symb a b)) (.str "") q])
theorem s_quote : PySem.Str.ofString "\"" = ⟨#[34]⟩ := by decide
theorem symb_len (a b : Option Nat) : (symb a b).length ≤ 2 := by
  have h1 := oc_len a
  have h2 := oc_len b
  have h3 : (oc a ++ oc b).length = (oc a).length + (oc b).length := strLen_append _ _
  unfold symb
  split
  · omega
  · split
    · omega
    · decide
section
variable {G : Gl} {n : Nat} {hp : List AO} {w : Wd} {p : Nat} {rows : List AV} {ks : List Int} {P : AV → List AO → Prop}
theorem c_take (O : Ok G) (hn : 6 ≤ n) (S : Sc w p rows ks hp) {l r : List Nat} {ms : List (Nat × Str)} (hA : At w.x.cps.toList p l) (hL : Lead w.x.cps.toList.length l r ms) (hk : ∀ k ∈ ks, k < (p : Int)) (h1 : rows.length + ms.length ≤ 1000) (h2 : ks.length + ms.length ≤ 1000)
    (h : ∀ q ks' hp', At w.x.cps.toList q r → p ≤ q → (∀ k ∈ ks', k < (q : Int)) → ks'.length ≤ ks.length + ms.length → Sc w q (rows ++ mkr ms) ks' hp' → Nx w hp hp' → hp'.length = hp.length → Disp G w q r[0]? r[1]? (rows ++ mkr ms) ks' hp' P) :
    TF G n aTake [.obj w.i] hp P := by
  obtain ⟨Pm, hK⟩ := O.hk
  refine (f_Scanner_take hK).at O.tab 5 hn rfl ?_
  unfold ir_Scanner_take
  refine sq_whl ?_
  refine ⟨fun st => ∃ q rows' ks' l' ms' o1 o2 o3 hp', At w.x.cps.toList q l' ∧ Lead w.x.cps.toList.length l' r ms' ∧ rows' ++ mkr ms' = rows ++ mkr ms ∧ ks'.length + ms'.length ≤ ks.length + ms.length ∧ rows'.length + ms'.length ≤ 1000 ∧ (∀ k ∈ ks', k < (q : Int)) ∧
      Sc w q rows' ks' hp' ∧ Nx w hp hp' ∧ hp'.length = hp.length ∧ p ≤ q ∧ st = ⟨[some (.obj w.i), o1, o2, o3, none, none, none, none], hp'⟩,
    fun st => w.x.cps.toList.length - plc w st, ⟨p, rows, ks, l, ms, none, none, none, hp, hA, hL, rfl, Nat.le_refl _, h1, hk, S, .refl, rfl, Nat.le_refl _, rfl⟩, ?_⟩
  intro st1 hi
  obtain ⟨q1, rows1, ks1, l1, ms1, o1, o2, o3, hp1, hA1, hL1, er1, ek1, el1, hk1, S1, N1, L1, hpq1, rfl⟩ := hi
  simp only [vE, vT, vA, onLoc, onStr, onLst, onInt, onTup, onList, onB, Bin, small, goOn, retOf, turnEnd, List.map_cons, List.map_nil, List.append_nil, List.cons_append, List.nil_append, List.replicate, List.getElem?_cons_zero, List.getElem?_cons_succ, List.set_cons_zero, List.set_cons_succ, List.length_cons, List.length_nil, List.length_append, Nat.zero_add, Nat.reduceAdd, Nat.add_zero]
  refine fork_t ?_
  refine sq_exp ?_
  simp only [vE, vT, vA, onLoc, onStr, onLst, onInt, onTup, onList, onB, Bin, small, goOn, retOf, turnEnd, List.map_cons, List.map_nil, List.append_nil, List.cons_append, List.nil_append, List.replicate, List.getElem?_cons_zero, List.getElem?_cons_succ, List.set_cons_zero, List.set_cons_succ, List.length_cons, List.length_nil, List.length_append, Nat.zero_add, Nat.reduceAdd, Nat.add_zero, on_scn S1.s]
  obtain ⟨r2, u, hg, hcase⟩ : ∃ r2 u, Gap l1 r2 u ∧ ((r2 = r ∧ isBad r[0]? r[1]? = false ∧ ms1 = uMs w.x.cps.toList.length u) ∨
      (u = none ∧ ∃ c t ms', r2 = c :: t ∧ isBad (some c) t[0]? = true ∧ Lead w.x.cps.toList.length t r ms' ∧ ms1 = (w.x.cps.toList.length - (t.length + 1), PySem.Str.ofString "bad_character") :: ms')) := by
    cases hL1 with
    | here g hb => exact ⟨_, _, g, .inl ⟨rfl, hb, rfl⟩⟩
    | bad g hb hl => exact ⟨_, _, g, .inr ⟨rfl, _, _, _, rfl, hb, hl, rfl⟩⟩
  refine c_skip O (by omega) S1 hA1 hg hk1 (by omega) (by omega) fun q hp2 hA2 hq2 S2 N2 L2 => ?_
  have hk2 : ∀ k ∈ uKs w.x.cps.toList.length ks1 u, k < (q : Int) := by
    cases u with
    | none => intro k hm; have := hk1 k hm; omega
    | some k0 =>
      intro k hm
      obtain ⟨z1, z2, z3⟩ := hg.end' _ rfl
      have p1 := hA1.pos
      have p2 := hA2.pos
      rcases List.mem_cons.mp hm with rfl | hm
      · rw [z1, List.length_nil] at p2; omega
      · have := hk1 k hm; omega
  have hpl := hA2.pos
  have hpl1 := hA1.pos
  refine sq_set ?_
  simp only [vE, vT, vA, onLoc, onStr, onLst, onInt, onTup, onList, onB, Bin, small, goOn, retOf, turnEnd, List.map_cons, List.map_nil, List.append_nil, List.cons_append, List.nil_append, List.replicate, List.getElem?_cons_zero, List.getElem?_cons_succ, List.set_cons_zero, List.set_cons_succ, List.length_cons, List.length_nil, List.length_append, Nat.zero_add, Nat.reduceAdd, Nat.add_zero, at_plc S2.s]
  refine sq_set ?_
  simp only [vE, vT, vA, onLoc, onStr, onLst, onInt, onTup, onList, onB, Bin, small, goOn, retOf, turnEnd, List.map_cons, List.map_nil, List.append_nil, List.cons_append, List.nil_append, List.replicate, List.getElem?_cons_zero, List.getElem?_cons_succ, List.set_cons_zero, List.set_cons_succ, List.length_cons, List.length_nil, List.length_append, Nat.zero_add, Nat.reduceAdd, Nat.add_zero, on_scn S2.s]
  refine c_char O (by omega) S2 ?_
  have ha := hA2.h0
  have hb := hA2.h1
  generalize hbe : w.x.cps.toList[q + 1]? = b at *
  generalize hae : w.x.cps.toList[q]? = a at *
  have good : isBad a b = false → r2 = r ∧ ms1 = uMs w.x.cps.toList.length u := by
    intro hbad
    rcases hcase with ⟨z1, z2, z3⟩ | ⟨_, c, t, ms', z1, z2, _⟩
    · exact ⟨z1, z3⟩
    · rw [ha, hb, z1] at hbad
      rw [show ((c :: t)[0]?) = some c from rfl, show ((c :: t)[1]?) = t[0]? from rfl, z2] at hbad
      cases hbad
  have disp : isBad a b = false → Disp G w q a b (uRows w.x.cps.toList.length rows1 u) (uKs w.x.cps.toList.length ks1 u) hp2 P := by
    intro hbad
    obtain ⟨z1, z2⟩ := good hbad
    have e : uRows w.x.cps.toList.length rows1 u = rows ++ mkr ms := by rw [uRows_ms, ← z2, er1]
    rw [e, ha, hb, z1]
    refine h q _ hp2 (z1 ▸ hA2) (by omega) hk2 ?_ (e ▸ S2) (N1.trans N2) (by omega)
    subst z2
    cases u with
    | none => simp only [uKs, uMs, List.length_nil] at *; omega
    | some k => simp only [uKs, uMs, List.length_cons, List.length_nil] at *; omega
  refine sq_ife ?_
  simp only [vE, vT, vA, onLoc, onStr, onLst, onInt, onTup, onList, onB, Bin, small, goOn, retOf, turnEnd, List.map_cons, List.map_nil, List.append_nil, List.cons_append, List.nil_append, List.replicate, List.getElem?_cons_zero, List.getElem?_cons_succ, List.set_cons_zero, List.set_cons_succ, List.length_cons, List.length_nil, List.length_append, Nat.zero_add, Nat.reduceAdd, Nat.add_zero, Cmp, s_nil, oc_none]
  refine ⟨fun e => ?_, fun e0 => ?_⟩
  · have e : a = none := by simpa using e
    refine sq_ret ?_
    simp only [vE, vT, vA, onLoc, onStr, onLst, onInt, onTup, onList, onB, Bin, small, goOn, retOf, turnEnd, List.map_cons, List.map_nil, List.append_nil, List.cons_append, List.nil_append, List.replicate, List.getElem?_cons_zero, List.getElem?_cons_succ, List.set_cons_zero, List.set_cons_succ, List.length_cons, List.length_nil, List.length_append, Nat.zero_add, Nat.reduceAdd, Nat.add_zero]
    refine c_token O (by omega) ?_
    exact (disp (by subst e; rfl)).eof e
  refine sq_skip ?_
  simp only [vE, vT, vA, onLoc, onStr, onLst, onInt, onTup, onList, onB, Bin, small, goOn, retOf, turnEnd, List.map_cons, List.map_nil, List.append_nil, List.cons_append, List.nil_append, List.replicate, List.getElem?_cons_zero, List.getElem?_cons_succ, List.set_cons_zero, List.set_cons_succ, List.length_cons, List.length_nil, List.length_append, Nat.zero_add, Nat.reduceAdd, Nat.add_zero]
  refine sq_ife ?_
  simp only [vE, vT, vA, onLoc, onStr, onLst, onInt, onTup, onList, onB, Bin, small, goOn, retOf, turnEnd, List.map_cons, List.map_nil, List.append_nil, List.cons_append, List.nil_append, List.replicate, List.getElem?_cons_zero, List.getElem?_cons_succ, List.set_cons_zero, List.set_cons_succ, List.length_cons, List.length_nil, List.length_append, Nat.zero_add, Nat.reduceAdd, Nat.add_zero]
  refine c_is_letter O (by omega) a ?_
  refine ⟨fun e => ?_, fun e1 => ?_⟩
  · refine sq_ret ?_
    simp only [vE, vT, vA, onLoc, onStr, onLst, onInt, onTup, onList, onB, Bin, small, goOn, retOf, turnEnd, List.map_cons, List.map_nil, List.append_nil, List.cons_append, List.nil_append, List.replicate, List.getElem?_cons_zero, List.getElem?_cons_succ, List.set_cons_zero, List.set_cons_succ, List.length_cons, List.length_nil, List.length_append, Nat.zero_add, Nat.reduceAdd, Nat.add_zero, on_scn S2.s]
    exact (disp (by simp [isBad, e])).wd e
  refine sq_skip ?_
  simp only [vE, vT, vA, onLoc, onStr, onLst, onInt, onTup, onList, onB, Bin, small, goOn, retOf, turnEnd, List.map_cons, List.map_nil, List.append_nil, List.cons_append, List.nil_append, List.replicate, List.getElem?_cons_zero, List.getElem?_cons_succ, List.set_cons_zero, List.set_cons_succ, List.length_cons, List.length_nil, List.length_append, Nat.zero_add, Nat.reduceAdd, Nat.add_zero]
  refine sq_ife ?_
  simp only [vE, vT, vA, onLoc, onStr, onLst, onInt, onTup, onList, onB, Bin, small, goOn, retOf, turnEnd, List.map_cons, List.map_nil, List.append_nil, List.cons_append, List.nil_append, List.replicate, List.getElem?_cons_zero, List.getElem?_cons_succ, List.set_cons_zero, List.set_cons_succ, List.length_cons, List.length_nil, List.length_append, Nat.zero_add, Nat.reduceAdd, Nat.add_zero]
  refine c_is_digit O (by omega) a ?_
  refine ⟨fun e => ?_, fun e2 => ?_⟩
  · refine sq_ret ?_
    simp only [vE, vT, vA, onLoc, onStr, onLst, onInt, onTup, onList, onB, Bin, small, goOn, retOf, turnEnd, List.map_cons, List.map_nil, List.append_nil, List.cons_append, List.nil_append, List.replicate, List.getElem?_cons_zero, List.getElem?_cons_succ, List.set_cons_zero, List.set_cons_succ, List.length_cons, List.length_nil, List.length_append, Nat.zero_add, Nat.reduceAdd, Nat.add_zero, on_scn S2.s]
    exact (disp (by simp [isBad, e])).nu e
  refine sq_skip ?_
  simp only [vE, vT, vA, onLoc, onStr, onLst, onInt, onTup, onList, onB, Bin, small, goOn, retOf, turnEnd, List.map_cons, List.map_nil, List.append_nil, List.cons_append, List.nil_append, List.replicate, List.getElem?_cons_zero, List.getElem?_cons_succ, List.set_cons_zero, List.set_cons_succ, List.length_cons, List.length_nil, List.length_append, Nat.zero_add, Nat.reduceAdd, Nat.add_zero]
  refine sq_ife ?_
  simp only [vE, vT, vA, onLoc, onStr, onLst, onInt, onTup, onList, onB, Bin, small, goOn, retOf, turnEnd, List.map_cons, List.map_nil, List.append_nil, List.cons_append, List.nil_append, List.replicate, List.getElem?_cons_zero, List.getElem?_cons_succ, List.set_cons_zero, List.set_cons_succ, List.length_cons, List.length_nil, List.length_append, Nat.zero_add, Nat.reduceAdd, Nat.add_zero, Cmp, s_quote, oc_one]
  refine ⟨fun e => ?_, fun e3 => ?_⟩
  · refine sq_ret ?_
    simp only [vE, vT, vA, onLoc, onStr, onLst, onInt, onTup, onList, onB, Bin, small, goOn, retOf, turnEnd, List.map_cons, List.map_nil, List.append_nil, List.cons_append, List.nil_append, List.replicate, List.getElem?_cons_zero, List.getElem?_cons_succ, List.set_cons_zero, List.set_cons_succ, List.length_cons, List.length_nil, List.length_append, Nat.zero_add, Nat.reduceAdd, Nat.add_zero, on_scn S2.s]
    exact (disp (by simp [isBad, e])).st (by simpa using e)
  refine sq_skip ?_
  simp only [vE, vT, vA, onLoc, onStr, onLst, onInt, onTup, onList, onB, Bin, small, goOn, retOf, turnEnd, List.map_cons, List.map_nil, List.append_nil, List.cons_append, List.nil_append, List.replicate, List.getElem?_cons_zero, List.getElem?_cons_succ, List.set_cons_zero, List.set_cons_succ, List.length_cons, List.length_nil, List.length_append, Nat.zero_add, Nat.reduceAdd, Nat.add_zero]
  refine sq_set ?_
  simp only [vE, vT, vA, onLoc, onStr, onLst, onInt, onTup, onList, onB, Bin, small, goOn, retOf, turnEnd, List.map_cons, List.map_nil, List.append_nil, List.cons_append, List.nil_append, List.replicate, List.getElem?_cons_zero, List.getElem?_cons_succ, List.set_cons_zero, List.set_cons_succ, List.length_cons, List.length_nil, List.length_append, Nat.zero_add, Nat.reduceAdd, Nat.add_zero, on_scn S2.s]
  refine c_symbol O (by omega) S2 ?_
  rw [hae, hbe]
  refine sq_ife ?_
  simp only [vE, vT, vA, onLoc, onStr, onLst, onInt, onTup, onList, onB, Bin, small, goOn, retOf, turnEnd, List.map_cons, List.map_nil, List.append_nil, List.cons_append, List.nil_append, List.replicate, List.getElem?_cons_zero, List.getElem?_cons_succ, List.set_cons_zero, List.set_cons_succ, List.length_cons, List.length_nil, List.length_append, Nat.zero_add, Nat.reduceAdd, Nat.add_zero, Cmp, bne]
  have hsym := symb_len a b
  refine ⟨fun e => ?_, fun e4 => ?_⟩
  · have e : symb a b ≠ "" := by
      intro z
      rw [z] at e
      exact absurd e (by decide)
    refine sq_setA ?_
    simp only [vE, vT, vA, onLoc, onStr, onLst, onInt, onTup, onList, onB, Bin, small, goOn, retOf, turnEnd, List.map_cons, List.map_nil, List.append_nil, List.cons_append, List.nil_append, List.replicate, List.getElem?_cons_zero, List.getElem?_cons_succ, List.set_cons_zero, List.set_cons_succ, List.length_cons, List.length_nil, List.length_append, Nat.zero_add, Nat.reduceAdd, Nat.add_zero, Len]
    refine ⟨Nat.le_trans hsym (by decide), ?_⟩
    have D := disp (by simp [isBad, e])
    simp only [vE, vT, vA, onLoc, onStr, onLst, onInt, onTup, onList, onB, Bin, small, goOn, retOf, turnEnd, List.map_cons, List.map_nil, List.append_nil, List.cons_append, List.nil_append, List.replicate, List.getElem?_cons_zero, List.getElem?_cons_succ, List.set_cons_zero, List.set_cons_succ, List.length_cons, List.length_nil, List.length_append, Nat.zero_add, Nat.reduceAdd, Nat.add_zero, set_plc O S2.s]
    have S3 := S2.go (q + (symb a b).length)
    rw [show (q : Int) + ((symb a b).length : Int) = ((q + (symb a b).length : Nat) : Int) by omega]
    refine sq_ret ?_
    simp only [vE, vT, vA, onLoc, onStr, onLst, onInt, onTup, onList, onB, Bin, small, goOn, retOf, turnEnd, List.map_cons, List.map_nil, List.append_nil, List.cons_append, List.nil_append, List.replicate, List.getElem?_cons_zero, List.getElem?_cons_succ, List.set_cons_zero, List.set_cons_succ, List.length_cons, List.length_nil, List.length_append, Nat.zero_add, Nat.reduceAdd, Nat.add_zero]
    refine c_token O (by omega) ?_
    exact D.sy e1 e2 (by simpa using e3) e _ S3 (.set (.inl rfl)) (by simp)
  · refine sq_skip ?_
    simp only [vE, vT, vA, onLoc, onStr, onLst, onInt, onTup, onList, onB, Bin, small, goOn, retOf, turnEnd, List.map_cons, List.map_nil, List.append_nil, List.cons_append, List.nil_append, List.replicate, List.getElem?_cons_zero, List.getElem?_cons_succ, List.set_cons_zero, List.set_cons_succ, List.length_cons, List.length_nil, List.length_append, Nat.zero_add, Nat.reduceAdd, Nat.add_zero]
    have e4 : symb a b = "" := (show symb a b = ⟨#[]⟩ by simpa using e4).trans s_nil.symm
    have bad : isBad a b = true := by
      have e0 : a ≠ none := by intro z; rw [z] at e0; exact absurd e0 (by decide)
      have e0' : a.isSome = true := by cases a with | none => exact absurd rfl e0 | some _ => rfl
      simp only [isBad, e0', e1, e2, e3, e4, BEq.rfl, Bool.not_false, Bool.and_self]
    rcases hcase with ⟨z1, z2, _⟩ | ⟨z0, c, t, ms', z1, z2, z3, z4⟩
    · rw [ha, hb, z1, z2] at bad
      cases bad
    · subst z0 z1
      refine sq_exp ?_
      simp only [vE, vT, vA, onLoc, onStr, onLst, onInt, onTup, onList, onB, Bin, small, goOn, retOf, turnEnd, List.map_cons, List.map_nil, List.append_nil, List.cons_append, List.nil_append, List.replicate, List.getElem?_cons_zero, List.getElem?_cons_succ, List.set_cons_zero, List.set_cons_succ, List.length_cons, List.length_nil, List.length_append, Nat.zero_add, Nat.reduceAdd, Nat.add_zero, at_err S2.s, on_erl S2.e]
      simp only [uKs, uRows] at S2 hk2 ⊢
      rw [z4, List.length_cons] at ek1 el1
      refine c_mark O (by omega) S2 ?_ (by omega) (by omega) fun hp3 S3 N3 L3 => ?_
      · rw [List.contains_eq_mem, decide_eq_false_iff_not]
        intro hm
        have := hk2 _ hm
        omega
      · refine sq_setA ?_
        simp only [vE, vT, vA, onLoc, onStr, onLst, onInt, onTup, onList, onB, Bin, small, goOn, retOf, turnEnd, List.map_cons, List.map_nil, List.append_nil, List.cons_append, List.nil_append, List.replicate, List.getElem?_cons_zero, List.getElem?_cons_succ, List.set_cons_zero, List.set_cons_succ, List.length_cons, List.length_nil, List.length_append, Nat.zero_add, Nat.reduceAdd, Nat.add_zero, set_plc O S3.s]
        refine sq_skip ?_
        have S4 := S3.go (q + 1)
        rw [show (q : Int) + 1 = ((q + 1 : Nat) : Int) by omega]
        rw [List.length_cons] at hpl
        refine ⟨⟨q + 1, _, _, t, ms', _, _, _, _, hA2.step, z3, ?_, ?_, ?_, ?_, S4, (N1.trans N2).trans (N3.trans (.set (.inl rfl))), by simp; omega, by omega, rfl⟩, ?_⟩
        · rw [← er1, z4]
          have : w.x.cps.toList.length - (t.length + 1) = q := by omega
          simp only [mkr, mk1, List.map_cons, this, List.append_assoc, List.cons_append, List.nil_append]
        · rw [List.length_cons]; omega
        · rw [List.length_append, List.length_cons, List.length_nil]; omega
        · intro k hm
          rcases List.mem_cons.mp hm with rfl | hm
          · omega
          · have := hk2 k hm; omega
        · rw [S1.plc, S4.plc]; omega
end
end Mine
end
section
set_option maxRecDepth 20000
namespace Mine
noncomputable def iv (l : List Int) : List AV := l.map .int
theorem iv_len (l : List Int) : (iv l).length = l.length := by simp [iv]
theorem iv_snoc (l : List Int) (x : Int) : iv l ++ [.int x] = iv (l ++ [x]) := by simp [iv]
theorem fmod_0 (x : Int) {y : Int} (h : 0 < y) : 0 ≤ x.fmod y := Int.fmod_nonneg_of_pos _ h
theorem fmod_1 (x : Int) {y : Int} (h : 0 < y) : x.fmod y < y := Int.fmod_lt_of_pos _ h
theorem no_pylong (x : Int) : Builtin.divisionGoesByPylong x 840 = false := by
  unfold Builtin.divisionGoesByPylong
  have : decide ((if ((840 : Int) == 0) = true then 0 else (840 : Int).natAbs.log2 / 30 + 1) > 300) = false := by decide +kernel
  simp only [this, Bool.false_and]
/-- the drawn figures, at two places in the heap -/
structure PoolAt (hp : List AO) (i j : Nat) : Prop where
  ex : ∃ (figs : List Int) (k m : Int), hp[i]? = some (.list (iv figs)) ∧ hp[j]? = some (.list [.obj i, .int k, .int m]) ∧ figs.length ≤ 3000 ∧ (∀ f ∈ figs, 0 ≤ f ∧ f < 840) ∧ 0 ≤ k ∧ 0 ≤ m ∧ m < 1009
section
variable {hp : List AO} {i j : Nat} {a b c : AV} {k : AV → Prop}
theorem at_i0 (h : hp[j]? = some (.list [a, b, c])) : Idx hp (.obj j) (.int 0) k = k a := by simp [Idx, seqOf, h]
theorem at_i1 (h : hp[j]? = some (.list [a, b, c])) : Idx hp (.obj j) (.int 1) k = k b := by simp [Idx, seqOf, h]
theorem at_i2 (h : hp[j]? = some (.list [a, b, c])) : Idx hp (.obj j) (.int 2) k = k c := by simp [Idx, seqOf, h]
theorem idx_at {l : List AV} {x : Int} (h : hp[j]? = some (.list l)) : Idx hp (.obj j) (.int x) k = ((0 ≤ x ∧ x < 2 ^ 62) ∧ ∃ v, l[x.toNat]? = some v ∧ k v) := by simp [Idx, seqOf, h]
theorem at_ln {l : List AV} (h : hp[j]? = some (.list l)) : Len hp (.obj j) k = (l.length ≤ sizeLine ∧ k (.int l.length)) := by simp [Len, seqOf, h]
end
section
variable {G : Gl} {n : Nat} {hp : List AO} {P : AV → List AO → Prop}
theorem c_pool (O : Ok G) (hn : 1 ≤ n) {is : List Int} (hl : is.length ≤ 1000)
    (h : ∀ hp', PoolAt hp' hp.length (hp.length + 1) → hp'.length = hp.length + 2 → (∀ q, q < hp.length → hp'[q]? = hp[q]?) → P (.obj (hp.length + 1)) hp') : TF G n aPool [.lst (iv is)] hp P := by
  obtain ⟨Pm, hK⟩ := O.hk
  refine (f_law_pool hK).at O.tab 0 hn rfl ?_
  unfold ir__law_pool
  have fin : ∀ (figs : List Int) (m : Int) (o3 o4 o5 o6 : Option AV), figs.length ≤ 2500 → (∀ f ∈ figs, 0 ≤ f ∧ f < 840) → 0 ≤ m → m < 1009 →
      vS G 0 ((IS.ret (IE.newL (IA.cons (IE.loc 1) (IA.cons (IE.int 0) (IA.cons (IE.loc 2) IA.nil))))).seq IS.skip) ⟨[some (.lst (iv is)), some (.obj hp.length), some (.int m), o3, o4, o5, o6, none, none, none, none], hp ++ [.list (iv figs)]⟩ (fun fl st => P (retOf fl) st.heap) := by
    intro figs m o3 o4 o5 o6 h1 h2 h3 h4
    refine sq_ret ?_
    simp only [vE, vT, vA, onLoc, onStr, onLst, onInt, onTup, onList, onB, Bin, small, goOn, retOf, turnEnd, List.map_cons, List.map_nil, List.append_nil, List.cons_append, List.nil_append, List.replicate, List.getElem?_cons_zero, List.getElem?_cons_succ, List.set_cons_zero, List.set_cons_succ, List.length_cons, List.length_nil, List.length_append, Nat.zero_add, Nat.reduceAdd, Nat.add_zero]
    refine ⟨by decide, ?_⟩
    refine h _ ⟨figs, 0, m, ?_, ?_, by omega, h2, Int.le_refl _, h3, h4⟩ (by simp) (fun q hq => ?_)
    · rw [List.append_assoc]; exact at_len
    · have := at_len (hp := hp ++ [AO.list (iv figs)]) (a := .list [.obj hp.length, .int 0, .int m]) (t := [])
      simpa using this
    · rw [List.append_assoc, List.getElem?_append_left hq]
  refine sq_set ?_
  simp only [vE, vT, vA, onLoc, onStr, onLst, onInt, onTup, onList, onB, Bin, small, goOn, retOf, turnEnd, List.map_cons, List.map_nil, List.append_nil, List.cons_append, List.nil_append, List.replicate, List.getElem?_cons_zero, List.getElem?_cons_succ, List.set_cons_zero, List.set_cons_succ, List.length_cons, List.length_nil, List.length_append, Nat.zero_add, Nat.reduceAdd, Nat.add_zero]
  refine ⟨by decide, ?_⟩
  refine sq_set ?_
  simp only [vE, vT, vA, onLoc, onStr, onLst, onInt, onTup, onList, onB, Bin, small, goOn, retOf, turnEnd, List.map_cons, List.map_nil, List.append_nil, List.cons_append, List.nil_append, List.replicate, List.getElem?_cons_zero, List.getElem?_cons_succ, List.set_cons_zero, List.set_cons_succ, List.length_cons, List.length_nil, List.length_append, Nat.zero_add, Nat.reduceAdd, Nat.add_zero]
  refine sq_forL ?_
  simp only [vE, vT, vA, onLoc, onStr, onLst, onInt, onTup, onList, onB, Bin, small, goOn, retOf, turnEnd, List.map_cons, List.map_nil, List.append_nil, List.cons_append, List.nil_append, List.replicate, List.getElem?_cons_zero, List.getElem?_cons_succ, List.set_cons_zero, List.set_cons_succ, List.length_cons, List.length_nil, List.length_append, Nat.zero_add, Nat.reduceAdd, Nat.add_zero, Upto, seqOf]
  refine ⟨⟨by decide, by rw [iv_len]; exact Nat.le_trans hl (by decide)⟩, ?_⟩
  refine ⟨fun k st => ∃ (figs : List Int) (m : Int) (o3 o4 o5 o6 : Option AV), figs.length ≤ 60 * k ∧ (∀ f ∈ figs, 0 ≤ f ∧ f < 840) ∧ 0 ≤ m ∧ m < 1009 ∧
      st = ⟨[some (.lst (iv is)), some (.obj hp.length), some (.int m), o3, o4, o5, o6, none, none, none, none], hp ++ [.list (iv figs)]⟩,
    ⟨[], 5, none, none, none, none, Nat.le_refl _, (fun _ h => nomatch h), by decide, by decide, rfl⟩, ?_, ?_⟩
  · intro k a ha st1 hi
    obtain ⟨figs, m, o3, o4, o5, o6, g1, g2, g3, g4, rfl⟩ := hi
    have hk40 : k < 40 := by
      have := (List.getElem?_eq_some_iff.mp ha).1
      rw [List.length_take] at this
      exact Nat.lt_of_lt_of_le this (Nat.min_le_left _ _)
    obtain ⟨x, rfl⟩ : ∃ x, a = .int x := by
      have := List.mem_of_mem_take (List.mem_of_getElem? ha)
      obtain ⟨x, _, rfl⟩ := List.mem_map.mp this
      exact ⟨x, rfl⟩
    refine sq_set ?_
    simp only [vE, vT, vA, onLoc, onStr, onLst, onInt, onTup, onList, onB, Bin, small, goOn, retOf, turnEnd, List.map_cons, List.map_nil, List.append_nil, List.cons_append, List.nil_append, List.replicate, List.getElem?_cons_zero, List.getElem?_cons_succ, List.set_cons_zero, List.set_cons_succ, List.length_cons, List.length_nil, List.length_append, Nat.zero_add, Nat.reduceAdd, Nat.add_zero, ToInt]
    refine sq_set ?_
    simp only [vE, vT, vA, onLoc, onStr, onLst, onInt, onTup, onList, onB, Bin, small, goOn, retOf, turnEnd, List.map_cons, List.map_nil, List.append_nil, List.cons_append, List.nil_append, List.replicate, List.getElem?_cons_zero, List.getElem?_cons_succ, List.set_cons_zero, List.set_cons_succ, List.length_cons, List.length_nil, List.length_append, Nat.zero_add, Nat.reduceAdd, Nat.add_zero]
    refine ⟨IntMulOk.of_right (by decide), by decide, ?_⟩
    refine sq_set ?_
    simp only [vE, vT, vA, onLoc, onStr, onLst, onInt, onTup, onList, onB, Bin, small, goOn, retOf, turnEnd, List.map_cons, List.map_nil, List.append_nil, List.cons_append, List.nil_append, List.replicate, List.getElem?_cons_zero, List.getElem?_cons_succ, List.set_cons_zero, List.set_cons_succ, List.length_cons, List.length_nil, List.length_append, Nat.zero_add, Nat.reduceAdd, Nat.add_zero, Abs]
    refine sq_forR ?_
    simp only [vE, vT, vA, onLoc, onStr, onLst, onInt, onTup, onList, onB, Bin, small, goOn, retOf, turnEnd, List.map_cons, List.map_nil, List.append_nil, List.cons_append, List.nil_append, List.replicate, List.getElem?_cons_zero, List.getElem?_cons_succ, List.set_cons_zero, List.set_cons_succ, List.length_cons, List.length_nil, List.length_append, Nat.zero_add, Nat.reduceAdd, Nat.add_zero]
    refine ⟨by decide, ?_⟩
    have g3' := fmod_0 (m * 31 + x) (y := 1009) (by decide)
    have g4' := fmod_1 (m * 31 + x) (y := 1009) (by decide)
    generalize Int.fmod (m * 31 + x) 1009 = m' at *
    have fin2 : ∀ (figs' : List Int) (o5 o6 : Option AV), figs'.length ≤ 60 * (k + 1) → (∀ f ∈ figs', 0 ≤ f ∧ f < 840) →
        vS G 0 ((IS.ife (IT.cmp CmpOp.Gt (IE.loc 1).len (IE.int 400)) (IS.brk.seq IS.skip) IS.skip).seq IS.skip) ⟨[some (.lst (iv is)), some (.obj hp.length), some (.int m'), some (.int x), some (.int x), o5, o6, none, none, none, none], hp ++ [.list (iv figs')]⟩
          (turnEnd (goOn (fun st1 => vS G 0 ((IS.ret (IE.newL (IA.cons (IE.loc 1) (IA.cons (IE.int 0) (IA.cons (IE.loc 2) IA.nil))))).seq IS.skip) st1 (fun fl st => P (retOf fl) st.heap)) (fun fl st => P (retOf fl) st.heap)) (fun st => ∃ (figs : List Int) (m : Int) (o3 o4 o5 o6 : Option AV), figs.length ≤ 60 * (k + 1) ∧ (∀ f ∈ figs, 0 ≤ f ∧ f < 840) ∧ 0 ≤ m ∧ m < 1009 ∧
            st = ⟨[some (.lst (iv is)), some (.obj hp.length), some (.int m), o3, o4, o5, o6, none, none, none, none], hp ++ [.list (iv figs)]⟩)) := by
      intro figs' o5 o6 k1 k2
      refine sq_ife ?_
      simp only [vE, vT, vA, onLoc, onStr, onLst, onInt, onTup, onList, onB, Bin, small, goOn, retOf, turnEnd, List.map_cons, List.map_nil, List.append_nil, List.cons_append, List.nil_append, List.replicate, List.getElem?_cons_zero, List.getElem?_cons_succ, List.set_cons_zero, List.set_cons_succ, List.length_cons, List.length_nil, List.length_append, Nat.zero_add, Nat.reduceAdd, Nat.add_zero, at_ln at_len, iv_len, Cmp]
      refine ⟨by have : sizeLine = 16777216 := sizeLine_eq; omega, fun _ => ?_, fun _ => ?_⟩
      · refine sq_brk ?_
        simp only [vE, vT, vA, onLoc, onStr, onLst, onInt, onTup, onList, onB, Bin, small, goOn, retOf, turnEnd, List.map_cons, List.map_nil, List.append_nil, List.cons_append, List.nil_append, List.replicate, List.getElem?_cons_zero, List.getElem?_cons_succ, List.set_cons_zero, List.set_cons_succ, List.length_cons, List.length_nil, List.length_append, Nat.zero_add, Nat.reduceAdd, Nat.add_zero]
        exact fin figs' m' _ _ _ _ (by omega) k2 g3' g4'
      · refine sq_skip ?_
        simp only [vE, vT, vA, onLoc, onStr, onLst, onInt, onTup, onList, onB, Bin, small, goOn, retOf, turnEnd, List.map_cons, List.map_nil, List.append_nil, List.cons_append, List.nil_append, List.replicate, List.getElem?_cons_zero, List.getElem?_cons_succ, List.set_cons_zero, List.set_cons_succ, List.length_cons, List.length_nil, List.length_append, Nat.zero_add, Nat.reduceAdd, Nat.add_zero]
        refine sq_skip ?_
        exact ⟨figs', m', _, _, _, _, k1, k2, g3', g4', rfl⟩
    refine ⟨fun k' st => ∃ (figs' : List Int) (z : Int) (o6 : Option AV), figs'.length ≤ 60 * k + k' ∧ (∀ f ∈ figs', 0 ≤ f ∧ f < 840) ∧
        st = ⟨[some (.lst (iv is)), some (.obj hp.length), some (.int m'), some (.int x), some (.int x), some (.int z), o6, none, none, none, none], hp ++ [.list (iv figs')]⟩,
      ⟨figs, _, o6, by omega, g2, rfl⟩, ?_, ?_⟩
    · intro k' a' ha' st2 hi2
      obtain ⟨figs', z, o6', k1, k2, rfl⟩ := hi2
      have hk60 : k' < 60 := by
        have := (List.getElem?_eq_some_iff.mp ha').1
        simpa [upItems] using this
      have hsz : sizeLine = 16777216 := sizeLine_eq
      refine sq_exp ?_
      simp only [vE, vT, vA, onLoc, onStr, onLst, onInt, onTup, onList, onB, Bin, small, goOn, retOf, turnEnd, List.map_cons, List.map_nil, List.append_nil, List.cons_append, List.nil_append, List.replicate, List.getElem?_cons_zero, List.getElem?_cons_succ, List.set_cons_zero, List.set_cons_succ, List.length_cons, List.length_nil, List.length_append, Nat.zero_add, Nat.reduceAdd, Nat.add_zero, at_len, App]
      refine ⟨by decide, by rw [iv_len]; omega, ?_⟩
      rw [set_len, iv_snoc]
      refine sq_aug ?_
      simp only [vE, vT, vA, onLoc, onStr, onLst, onInt, onTup, onList, onB, Bin, small, goOn, retOf, turnEnd, List.map_cons, List.map_nil, List.append_nil, List.cons_append, List.nil_append, List.replicate, List.getElem?_cons_zero, List.getElem?_cons_succ, List.set_cons_zero, List.set_cons_succ, List.length_cons, List.length_nil, List.length_append, Nat.zero_add, Nat.reduceAdd, Nat.add_zero, Aug]
      refine ⟨⟨by decide, no_pylong _⟩, ?_⟩
      have k2' : ∀ f ∈ figs' ++ [z.fmod 840], 0 ≤ f ∧ f < 840 := by
        intro f hf
        rcases List.mem_append.mp hf with hf | hf
        · exact k2 f hf
        · cases List.mem_singleton.mp hf
          exact ⟨fmod_0 _ (by decide), fmod_1 _ (by decide)⟩
      refine sq_ife ?_
      simp only [vE, vT, vA, onLoc, onStr, onLst, onInt, onTup, onList, onB, Bin, small, goOn, retOf, turnEnd, List.map_cons, List.map_nil, List.append_nil, List.cons_append, List.nil_append, List.replicate, List.getElem?_cons_zero, List.getElem?_cons_succ, List.set_cons_zero, List.set_cons_succ, List.length_cons, List.length_nil, List.length_append, Nat.zero_add, Nat.reduceAdd, Nat.add_zero, Cmp]
      refine ⟨fun _ => ?_, fun _ => ?_⟩
      · refine sq_brk ?_
        simp only [vE, vT, vA, onLoc, onStr, onLst, onInt, onTup, onList, onB, Bin, small, goOn, retOf, turnEnd, List.map_cons, List.map_nil, List.append_nil, List.cons_append, List.nil_append, List.replicate, List.getElem?_cons_zero, List.getElem?_cons_succ, List.set_cons_zero, List.set_cons_succ, List.length_cons, List.length_nil, List.length_append, Nat.zero_add, Nat.reduceAdd, Nat.add_zero]
        exact fin2 _ _ _ (by simp only [List.length_append, List.length_cons, List.length_nil]; omega) k2'
      · refine sq_skip ?_
        simp only [vE, vT, vA, onLoc, onStr, onLst, onInt, onTup, onList, onB, Bin, small, goOn, retOf, turnEnd, List.map_cons, List.map_nil, List.append_nil, List.cons_append, List.nil_append, List.replicate, List.getElem?_cons_zero, List.getElem?_cons_succ, List.set_cons_zero, List.set_cons_succ, List.length_cons, List.length_nil, List.length_append, Nat.zero_add, Nat.reduceAdd, Nat.add_zero]
        refine sq_skip ?_
        exact ⟨_, _, _, by simp only [List.length_append, List.length_cons, List.length_nil]; omega, k2', rfl⟩
    · intro st2 hi2
      obtain ⟨figs', z, o6', k1, k2, rfl⟩ := hi2
      simp only [vE, vT, vA, onLoc, onStr, onLst, onInt, onTup, onList, onB, Bin, small, goOn, retOf, turnEnd, List.map_cons, List.map_nil, List.append_nil, List.cons_append, List.nil_append, List.replicate, List.getElem?_cons_zero, List.getElem?_cons_succ, List.set_cons_zero, List.set_cons_succ, List.length_cons, List.length_nil, List.length_append, Nat.zero_add, Nat.reduceAdd, Nat.add_zero]
      refine fin2 _ _ _ ?_ k2
      simp only [upItems, List.length_map, List.length_range] at k1
      have : (60 : Int).toNat = 60 := rfl
      omega
  · intro st1 hi
    obtain ⟨figs, m, o3, o4, o5, o6, g1, g2, g3, g4, rfl⟩ := hi
    simp only [vE, vT, vA, onLoc, onStr, onLst, onInt, onTup, onList, onB, Bin, small, goOn, retOf, turnEnd, List.map_cons, List.map_nil, List.append_nil, List.cons_append, List.nil_append, List.replicate, List.getElem?_cons_zero, List.getElem?_cons_succ, List.set_cons_zero, List.set_cons_succ, List.length_cons, List.length_nil, List.length_append, Nat.zero_add, Nat.reduceAdd, Nat.add_zero]
    refine fin figs m _ _ _ _ ?_ g2 g3 g4
    have : (List.take (40 : Int).toNat (iv is)).length ≤ 40 := by rw [List.length_take]; exact Nat.min_le_left _ _
    omega
theorem c_pick (O : Ok G) (hn : 1 ≤ n) {i j : Nat} {b : Int} (hb : 0 < b) (hP : PoolAt hp i j)
    (h : ∀ v hp', 0 ≤ v → v < b → PoolAt hp' i j → hp'.length = hp.length → (∀ q, q ≠ j → hp'[q]? = hp[q]?) → P (.int v) hp') : TF G n aPick [.obj j, .int b] hp P := by
  obtain ⟨Pm, hK⟩ := O.hk
  refine (f_law_pick hK).at O.tab 0 hn rfl ?_
  unfold ir__law_pick
  have hP' := hP
  obtain ⟨figs, k, m, e1, e2, e3, e4, e5, e6, e7⟩ := hP
  have hsz : figs.length ≤ sizeLine := Nat.le_trans e3 (by decide)
  have hij : i ≠ j := by
    intro z
    subst z
    rw [e1] at e2
    have := congrArg List.length (AO.list.inj (Option.some.inj e2))
    match figs, e2 with
    | [], e2 => cases e2
    | x :: _, e2 => cases e2
  have fin : ∀ (v : Int) (hp' : List AO), PoolAt hp' i j → hp'.length = hp.length → (∀ q, q ≠ j → hp'[q]? = hp[q]?) →
      vS G 0 ((IS.ret (IE.bin Operator.Mod (IE.loc 2) (IE.loc 1))).seq IS.skip) ⟨[some (.obj j), some (.int b), some (.int v), none], hp'⟩ (fun fl st => P (retOf fl) st.heap) := by
    intro v hp' h1 h2 h3
    refine sq_ret ?_
    simp only [vE, vT, vA, onLoc, onStr, onLst, onInt, onTup, onList, onB, Bin, small, goOn, retOf, turnEnd, List.map_cons, List.map_nil, List.append_nil, List.cons_append, List.nil_append, List.replicate, List.getElem?_cons_zero, List.getElem?_cons_succ, List.set_cons_zero, List.set_cons_succ, List.length_cons, List.length_nil, List.length_append, Nat.zero_add, Nat.reduceAdd, Nat.add_zero]
    exact ⟨by omega, h _ _ (fmod_0 _ hb) (fmod_1 _ hb) h1 h2 h3⟩
  have set' : ∀ k' m' : Int, 0 ≤ k' → 0 ≤ m' → m' < 1009 → PoolAt (hp.set j (.list [.obj i, .int k', .int m'])) i j := fun k' m' h1 h2 h3 => ⟨figs, k', m', set_other e1 (Ne.symm hij), set_same e2, e3, e4, h1, h2, h3⟩
  refine sq_ife ?_
  simp only [vE, vT, vA, onLoc, onStr, onLst, onInt, onTup, onList, onB, Bin, small, goOn, retOf, turnEnd, List.map_cons, List.map_nil, List.append_nil, List.cons_append, List.nil_append, List.replicate, List.getElem?_cons_zero, List.getElem?_cons_succ, List.set_cons_zero, List.set_cons_succ, List.length_cons, List.length_nil, List.length_append, Nat.zero_add, Nat.reduceAdd, Nat.add_zero, at_i0 e2, at_i1 e2, at_ln e1, iv_len, Cmp]
  refine ⟨hsz, fun hlt => ?_, fun hge => ?_⟩
  · have hlt := of_decide_eq_true hlt
    obtain ⟨f, hf⟩ : ∃ f, figs[k.toNat]? = some f := ⟨figs[k.toNat]'(by omega), List.getElem?_eq_getElem (by omega)⟩
    refine sq_set ?_
    simp only [vE, vT, vA, onLoc, onStr, onLst, onInt, onTup, onList, onB, Bin, small, goOn, retOf, turnEnd, List.map_cons, List.map_nil, List.append_nil, List.cons_append, List.nil_append, List.replicate, List.getElem?_cons_zero, List.getElem?_cons_succ, List.set_cons_zero, List.set_cons_succ, List.length_cons, List.length_nil, List.length_append, Nat.zero_add, Nat.reduceAdd, Nat.add_zero, at_i0 e2, at_i1 e2, idx_at e1]
    refine ⟨⟨e5, ?_⟩, .int f, by simp [iv, hf], ?_⟩
    · have : (3000 : Int) < 2 ^ 62 := by decide
      omega
    refine sq_augI ?_
    simp only [vE, vT, vA, onLoc, onStr, onLst, onInt, onTup, onList, onB, Bin, small, goOn, retOf, turnEnd, List.map_cons, List.map_nil, List.append_nil, List.cons_append, List.nil_append, List.replicate, List.getElem?_cons_zero, List.getElem?_cons_succ, List.set_cons_zero, List.set_cons_succ, List.length_cons, List.length_nil, List.length_append, Nat.zero_add, Nat.reduceAdd, Nat.add_zero, GetIdx, seqOf, e2, Aug]
    refine ⟨⟨by decide, by decide⟩, .int k, rfl, ?_⟩
    simp only [vE, vT, vA, onLoc, onStr, onLst, onInt, onTup, onList, onB, Bin, small, goOn, retOf, turnEnd, List.map_cons, List.map_nil, List.append_nil, List.cons_append, List.nil_append, List.replicate, List.getElem?_cons_zero, List.getElem?_cons_succ, List.set_cons_zero, List.set_cons_succ, List.length_cons, List.length_nil, List.length_append, Nat.zero_add, Nat.reduceAdd, Nat.add_zero, SetIdx, seqOf, e2]
    refine ⟨by decide, ?_⟩
    refine sq_skip ?_
    simp only [vE, vT, vA, onLoc, onStr, onLst, onInt, onTup, onList, onB, Bin, small, goOn, retOf, turnEnd, List.map_cons, List.map_nil, List.append_nil, List.cons_append, List.nil_append, List.replicate, List.getElem?_cons_zero, List.getElem?_cons_succ, List.set_cons_zero, List.set_cons_succ, List.length_cons, List.length_nil, List.length_append, Nat.zero_add, Nat.reduceAdd, Nat.add_zero]
    exact fin f _ (set' (k + 1) m (by omega) e6 e7) (by simp) (fun q hq => by
      rw [show (List.set [AV.obj i, AV.int k, AV.int m] (1 : Int).toNat (AV.int (k + 1))) = [AV.obj i, AV.int (k + 1), AV.int m] from rfl]
      rw [List.getElem?_set_ne (Ne.symm hq)])
  · refine sq_ife ?_
    simp only [vE, vT, vA, onLoc, onStr, onLst, onInt, onTup, onList, onB, Bin, small, goOn, retOf, turnEnd, List.map_cons, List.map_nil, List.append_nil, List.cons_append, List.nil_append, List.replicate, List.getElem?_cons_zero, List.getElem?_cons_succ, List.set_cons_zero, List.set_cons_succ, List.length_cons, List.length_nil, List.length_append, Nat.zero_add, Nat.reduceAdd, Nat.add_zero, at_i0 e2, at_ln e1, iv_len, Cmp]
    refine ⟨hsz, fun _ => ?_, fun _ => ?_⟩
    · refine sq_set ?_
      simp only [vE, vT, vA, onLoc, onStr, onLst, onInt, onTup, onList, onB, Bin, small, goOn, retOf, turnEnd, List.map_cons, List.map_nil, List.append_nil, List.cons_append, List.nil_append, List.replicate, List.getElem?_cons_zero, List.getElem?_cons_succ, List.set_cons_zero, List.set_cons_succ, List.length_cons, List.length_nil, List.length_append, Nat.zero_add, Nat.reduceAdd, Nat.add_zero]
      refine sq_skip ?_
      simp only [vE, vT, vA, onLoc, onStr, onLst, onInt, onTup, onList, onB, Bin, small, goOn, retOf, turnEnd, List.map_cons, List.map_nil, List.append_nil, List.cons_append, List.nil_append, List.replicate, List.getElem?_cons_zero, List.getElem?_cons_succ, List.set_cons_zero, List.set_cons_succ, List.length_cons, List.length_nil, List.length_append, Nat.zero_add, Nat.reduceAdd, Nat.add_zero]
      refine sq_skip ?_
      exact fin 0 hp hP' rfl (fun _ _ => rfl)
    · refine sq_setI ?_
      simp only [vE, vT, vA, onLoc, onStr, onLst, onInt, onTup, onList, onB, Bin, small, goOn, retOf, turnEnd, List.map_cons, List.map_nil, List.append_nil, List.cons_append, List.nil_append, List.replicate, List.getElem?_cons_zero, List.getElem?_cons_succ, List.set_cons_zero, List.set_cons_succ, List.length_cons, List.length_nil, List.length_append, Nat.zero_add, Nat.reduceAdd, Nat.add_zero, at_i2 e2, SetItem, SetIdx, e2]
      refine ⟨IntMulOk.of_right (by decide), by decide, by decide, ?_⟩
      have g3' := fmod_0 (m * 37 + 11) (y := 1009) (by decide)
      have g4' := fmod_1 (m * 37 + 11) (y := 1009) (by decide)
      generalize Int.fmod (m * 37 + 11) 1009 = m' at *
      refine sq_set ?_
      have e2' : (hp.set j (AO.list (List.set [AV.obj i, AV.int k, AV.int m] (2 : Int).toNat (AV.int m'))))[j]? = some (.list [.obj i, .int k, .int m']) := set_same e2
      simp only [vE, vT, vA, onLoc, onStr, onLst, onInt, onTup, onList, onB, Bin, small, goOn, retOf, turnEnd, List.map_cons, List.map_nil, List.append_nil, List.cons_append, List.nil_append, List.replicate, List.getElem?_cons_zero, List.getElem?_cons_succ, List.set_cons_zero, List.set_cons_succ, List.length_cons, List.length_nil, List.length_append, Nat.zero_add, Nat.reduceAdd, Nat.add_zero, at_i2 e2']
      refine sq_skip ?_
      simp only [vE, vT, vA, onLoc, onStr, onLst, onInt, onTup, onList, onB, Bin, small, goOn, retOf, turnEnd, List.map_cons, List.map_nil, List.append_nil, List.cons_append, List.nil_append, List.replicate, List.getElem?_cons_zero, List.getElem?_cons_succ, List.set_cons_zero, List.set_cons_succ, List.length_cons, List.length_nil, List.length_append, Nat.zero_add, Nat.reduceAdd, Nat.add_zero]
      refine sq_skip ?_
      exact fin m' _ (set' k m' e5 g3' g4') (by simp) (fun q hq => by
        rw [List.getElem?_set_ne (Ne.symm hq)])
end
end Mine
end
section
set_option maxRecDepth 20000
namespace Mine
theorem sl_append (a b : List Nat) : sl a ++ sl b = sl (a ++ b) := by
  show (⟨a.toArray ++ b.toArray⟩ : Str) = ⟨(a ++ b).toArray⟩
  simp
theorem sl_beq (a b : List Nat) : (sl a == sl b) = (a == b) := by rw [beq_str, sl_list, sl_list]
theorem run_next {x : Str} {g : Nat → Bool} {b i : Nat} : x.cps.toList[b + (run x g b).length + i]? = ((x.cps.toList.drop b).dropWhile g)[i]? := by
  unfold run
  rw [Nat.add_assoc, ← List.getElem?_drop]
  generalize x.cps.toList.drop b = l
  have e : l[(l.takeWhile g).length + i]? = (l.takeWhile g ++ l.dropWhile g)[(l.takeWhile g).length + i]? := by rw [List.takeWhile_append_dropWhile]
  rw [e, List.getElem?_append_right (Nat.le_add_right _ _), Nat.add_sub_cancel_left]
theorem tw_app {g : Nat → Bool} {ds r : List Nat} (h : ∀ c ∈ ds, g c = true) : (ds ++ r).takeWhile g = ds ++ r.takeWhile g := List.takeWhile_append_of_pos h
theorem dw_app {g : Nat → Bool} {ds r : List Nat} (h : ∀ c ∈ ds, g c = true) : (ds ++ r).dropWhile g = r.dropWhile g := List.dropWhile_append_of_pos h
/-- what stands behind the numeral: its signs, the next token's kind, how far off it begins -/
noncomputable def tabB : List (List Nat × Str × Nat) := [([], "eof", 0), ([32, 72], "ident", 1), ([46, 46], "..", 0), ([69, 76, 83, 69], "ELSE", 0), ([59], ";", 0), ([71, 49], "ident", 0), ([120], "ident", 0)]
theorem Lead.pure {N : Nat} {l r : List Nat} (h : Gap l r none) (hb : isBad r[0]? r[1]? = false) : Lead N l r [] := Lead.here h hb
section
variable {G : Gl} {n : Nat} {hp : List AO} {w : Wd} {p : Nat} {rows : List AV} {ks : List Int} {P : AV → List AO → Prop}
theorem At.dr {cs l : List Nat} (h : At cs p l) : cs.drop p = l := h.1
theorem t2 (O : Ok G) (hn : 6 ≤ n) (S : Sc w p rows ks hp) {bl : List Nat} {F : Str} {d : Nat} (hA : At w.x.cps.toList p bl) (hB : (bl, F, d) ∈ tabB) (hk : ∀ k ∈ ks, k < (p : Int)) (h1 : rows.length ≤ 1000) (h2 : ks.length ≤ 1000)
    (h : ∀ hp' v, Nx w hp hp' → P (.obj hp'.length) (hp' ++ [tok (.str F) v ((p + d : Nat) : Int)])) : TF G n aTake [.obj w.i] hp P := by
  have gen : ∀ (r : List Nat) (hL : Lead w.x.cps.toList.length bl r []), p + d + r.length = p + bl.length → (∀ ks' hp', Sc w (p + d) rows ks' hp' → At w.x.cps.toList (p + d) r → Nx w hp hp' → Disp G w (p + d) r[0]? r[1]? rows ks' hp' P) → TF G n aTake [.obj w.i] hp P := by
    intro r hL hlen hd
    refine c_take O hn S hA hL hk (by simpa using h1) (by simpa using h2) fun q ks' hp' hA' hq _ _ S' N' L' => ?_
    have e1 := hA.pos
    have e2 := hA'.pos
    have : q = p + d := by omega
    subst this
    simp only [mkr, List.map_nil, List.append_nil] at S' ⊢
    exact hd ks' hp' S' hA' N'
  have wordy : ∀ (r m : List Nat) (hal : ∀ c ∈ r, al c = true) (hr : isLet r[0]? = true) (ks' : List Int) (hp' : List AO), Sc w (p + d) rows ks' hp' → At w.x.cps.toList (p + d) r → Nx w hp hp' →
      (kwl.any (· == sl r) = true ∧ F = sl r ∨ kwl.any (· == sl r) = false ∧ F = "ident") → Disp G w (p + d) r[0]? r[1]? rows ks' hp' P := by
    intro r m hal hr ks' hp' S' hA' N' hF
    have e : run w.x al (p + d) = r := by
      unfold run
      rw [hA'.1, ← List.append_nil r, tw_app hal]
      simp
    have hlet : ∀ c, isLet (some c) = true → isDig (some c) = false ∧ c ≠ 34 := by
      intro c hc
      simp only [isLet, isDig, Bool.or_eq_true, Bool.and_eq_true, decide_eq_true_eq, Bool.and_eq_false_iff, decide_eq_false_iff_not] at hc ⊢
      omega
    refine ⟨fun z => (by rw [z] at hr; cases hr), fun _ => ?_, fun z => ?_, fun z => ?_, fun z => (by rw [z] at hr; cases hr)⟩
    · refine c_word O (by omega) S' (fun g hp2 S2 N2 L2 => ?_) (fun g hp2 S2 N2 L2 => ?_)
      · rw [e] at g ⊢
        rcases hF with ⟨_, rfl⟩ | ⟨z, _⟩
        · exact h _ _ (N'.trans N2)
        · rw [z] at g; cases g
      · rw [e] at g ⊢
        rcases hF with ⟨z, _⟩ | ⟨_, rfl⟩
        · rw [z] at g; cases g
        · exact h _ _ (N'.trans N2)
    · cases hc : r[0]? with
      | none => rw [hc] at hr; cases hr
      | some c => rw [hc] at hr z; rw [(hlet c hr).1] at z; cases z
    · rw [z] at hr; exact absurd rfl (hlet 34 hr).2
  have symby : ∀ (r : List Nat) (hl : isLet r[0]? = false) (hd : isDig r[0]? = false) (hq : r[0]? ≠ some 34) (hnn : r[0]? ≠ none) (hs : symb r[0]? r[1]? = F) (ks' : List Int) (hp' : List AO), Sc w (p + d) rows ks' hp' → Nx w hp hp' → Disp G w (p + d) r[0]? r[1]? rows ks' hp' P := by
    intro r hl hd hq hnn hs ks' hp' S' N'
    refine ⟨fun z => absurd z hnn, fun z => (by rw [hl] at z; cases z), fun z => (by rw [hd] at z; cases z), fun z => absurd z hq, fun _ _ _ _ hp2 S2 N2 L2 => ?_⟩
    rw [hs]
    exact h _ _ (N'.trans N2)
  have stopG : ∀ l : List Nat, (match l[0]? with | some c => decide (32 < c) | none => true) = true → (l[0]? == some 40 && l[1]? == some 42) = false → Gap l l none := by
    intro l g1 g2
    refine .stop (fun c hc => ?_) (fun z => ?_)
    · rw [hc] at g1; exact of_decide_eq_true g1
    · rw [z.1, z.2] at g2; cases g2
  simp only [tabB, List.mem_cons, Prod.mk.injEq, List.not_mem_nil, or_false] at hB
  rcases hB with ⟨rfl, rfl, rfl⟩ | ⟨rfl, rfl, rfl⟩ | ⟨rfl, rfl, rfl⟩ | ⟨rfl, rfl, rfl⟩ | ⟨rfl, rfl, rfl⟩ | ⟨rfl, rfl, rfl⟩ | ⟨rfl, rfl, rfl⟩
  · refine gen [] (.pure (stopG _ rfl rfl) rfl) rfl fun ks' hp' S' hA' N' => ?_
    exact ⟨fun _ => h _ _ N', fun z => (by cases z), fun z => (by cases z), fun z => (by cases z), fun _ _ _ z => absurd (by decide +kernel) z⟩
  · refine gen [72] (.pure (.blank (by decide) (stopG _ rfl rfl)) rfl) (by simp) fun ks' hp' S' hA' N' => wordy [72] [] (by decide) rfl ks' hp' S' hA' N' (.inr ⟨by decide, rfl⟩)
  · refine gen [46, 46] (.pure (stopG _ rfl rfl) (by decide +kernel)) rfl fun ks' hp' S' hA' N' => symby _ rfl rfl (by decide) (by decide) (by decide +kernel) ks' hp' S' N'
  · refine gen [69, 76, 83, 69] (.pure (stopG _ rfl rfl) rfl) rfl fun ks' hp' S' hA' N' => wordy _ [] (by decide) rfl ks' hp' S' hA' N' (.inl ⟨by decide, by decide⟩)
  · refine gen [59] (.pure (stopG _ rfl rfl) (by decide +kernel)) rfl fun ks' hp' S' hA' N' => symby _ rfl rfl (by decide) (by decide) (by decide +kernel) ks' hp' S' N'
  · refine gen [71, 49] (.pure (stopG _ rfl rfl) rfl) rfl fun ks' hp' S' hA' N' => wordy _ [] (by decide) rfl ks' hp' S' hA' N' (.inr ⟨by decide, rfl⟩)
  · refine gen [120] (.pure (stopG _ rfl rfl) rfl) rfl fun ks' hp' S' hA' N' => wordy _ [] (by decide) rfl ks' hp' S' hA' N' (.inr ⟨by decide, rfl⟩)
end
end Mine
end
section
set_option maxRecDepth 20000
namespace Mine
noncomputable def bas (el : List Nat) : Nat := if el = [] then 10 else 16
noncomputable def mst (el : List Nat) : Nat := if el = [] then 2147483647 else if el = [72] then 4294967295 else 255
noncomputable def cod (el : List Nat) (T : Nat) : Str := if mst el < T then (if el = [88] then "bad_char" else "number_too_large") else ""
noncomputable def val (el : List Nat) (T : Nat) : Int := if mst el < T then 0 else if el = [72] ∧ 2147483648 ≤ T then (T : Int) - 4294967296 else T
noncomputable def knd (el : List Nat) : Str := if el = [88] then "string" else "int"
noncomputable def vlu (el : List Nat) (T : Nat) : AV := if el = [88] then .str ⟨#[(val el T).toNat]⟩ else .int (val el T)
noncomputable def rws (el : List Nat) (T f : Nat) : List AV := if mst el < T then [mk1 f (cod el T)] else []
noncomputable def Ends (el : List Nat) : Prop := el = [] ∨ el = [72] ∨ el = [88]
theorem gap_blanks {r : List Nat} (h : Gap r r none) : ∀ f : Nat, Gap (List.replicate f 32 ++ r) r none
  | 0 => h
  | f + 1 => .blank (c := 32) (by decide) (gap_blanks h f)
theorem tabB_facts : ∀ x ∈ tabB, (x.1.dropWhile hx)[0]? ≠ some 72 ∧ (x.1.dropWhile hx)[0]? ≠ some 88 ∧ x.1.takeWhile dg = [] ∧ x.1.dropWhile dg = x.1 ∧ ¬ (x.1[0]? = some 46 ∧ x.1[1]? ≠ some 46) := by decide
section
variable {G : Gl} {n : Nat} {hp : List AO} {w : Wd} {P : AV → List AO → Prop}
theorem t1 (O : Ok G) (hn : 6 ≤ n) {f d : Nat} {ds el bl : List Nat} {F : Str} (hw : w.x.cps.toList = List.replicate f 32 ++ (ds ++ (el ++ bl))) (S : Sc w 0 [] [] hp) (hB : (bl, F, d) ∈ tabB) (hE : Ends el) (h0 : isDig ds[0]? = true) (hds : ∀ c ∈ ds, hx c = true) (hdg : el = [] → ∀ c ∈ ds, dg c = true)
    (h : ∀ hp' ks', Sc w (f + ds.length + el.length) (rws el (tot (bas el) ds) f) ks' hp' → (∀ k ∈ ks', k < ((f + ds.length + el.length : Nat) : Int)) → ks'.length ≤ 1000 → Nx w hp hp' → P (.obj hp'.length) (hp' ++ [tok (.str (knd el)) (vlu el (tot (bas el) ds)) (f : Int)])) :
    TF G n aTake [.obj w.i] hp P := by
  obtain ⟨c0, ds', rfl⟩ : ∃ c0 ds', ds = c0 :: ds' := by
    cases ds with
    | nil => cases h0
    | cons a b => exact ⟨a, b, rfl⟩
  have h0 : isDig (some c0) = true := h0
  have hdig : isDig (some c0) = true := h0
  have hc0 : 48 ≤ c0 ∧ c0 ≤ 57 := by simpa [isDig] using h0
  generalize hds' : c0 :: ds' = ds at *
  have hd0 : ds[0]? = some c0 := by rw [← hds']; rfl
  have hd1 : 1 ≤ ds.length := by rw [← hds']; simp
  generalize hr : ds ++ (el ++ bl) = r at *
  have hr0 : r[0]? = some c0 := by rw [← hr, List.getElem?_append_left (by omega), hd0]
  have gap : Gap (List.replicate f 32 ++ r) r none := gap_blanks (.stop (fun c hc => by rw [hr0] at hc; cases hc; omega) (fun z => by rw [hr0] at z; have := Option.some.inj z.1; omega)) f
  have hA : At w.x.cps.toList 0 (List.replicate f 32 ++ r) := ⟨hw, Nat.zero_le _⟩
  have hAf : At w.x.cps.toList f r := by have := hA.app; simpa using this
  have hnl : isLet (some c0) = false := by
    simp only [isLet, Bool.or_eq_false_iff, Bool.and_eq_false_iff, decide_eq_false_iff_not]
    omega
  refine c_take O hn S hA (.pure gap (by rw [hr0]; simp [isBad, hdig])) (fun k hk => nomatch hk) (by simp) (by simp) fun q ks' hp1 hA1 _ _ hkl S1 N1 L1 => ?_
  have hq : q = f := by have a := hA1.pos; have b := hAf.pos; omega
  subst hq
  have hks : ks' = [] := by cases ks' with | nil => rfl | cons a b => simp at hkl
  subst hks
  simp only [mkr, List.map_nil, List.append_nil] at S1
  rw [hr0]
  refine ⟨fun z => (by cases z), fun z => (by rw [hnl] at z; cases z), fun _ => ?_, fun z => (by have := Option.some.inj z; omega), fun _ z => (by rw [hdig] at z; cases z)⟩
  have hrun : ∀ g : Nat → Bool, run w.x g q = r.takeWhile g := fun g => by unfold run; rw [hAf.1]
  have hnext : ∀ (g : Nat → Bool) (i : Nat), w.x.cps.toList[q + (run w.x g q).length + i]? = (r.dropWhile g)[i]? := fun g i => by rw [run_next, hAf.1]
  have kc : ∀ b : Int, ([] : List Int).contains b = false := fun _ => rfl
  have two : el ≠ [] → (w.x.cps.toList[q + (run w.x hx q).length]? = el[0]?) ∧ run w.x hx q = ds := by
    intro hne
    have e2 : (el ++ bl).takeWhile hx = [] ∧ ((el ++ bl).dropWhile hx)[0]? = el[0]? := by
      rcases hE with rfl | rfl | rfl
      · exact absurd rfl hne
      · exact ⟨rfl, rfl⟩
      · exact ⟨rfl, rfl⟩
    refine ⟨?_, ?_⟩
    · have := hnext hx 0
      rw [Nat.add_zero] at this
      rw [this, ← hr, dw_app hds, e2.2]
    · rw [hrun, ← hr, tw_app hds, e2.1, List.append_nil]
  obtain ⟨b1, b2, b3, b4, b5⟩ := tabB_facts _ hB
  refine c_numeral O (by omega) S1 (fun z hp2 S2 N2 L2 => ?_) (fun z hp2 S2 N2 L2 => ?_) (fun z1 z2 hp2 S2 N2 L2 => ⟨fun z => ?_, fun z => ?_⟩)
  · rcases hE with rfl | rfl | rfl
    · exfalso
      have := hnext hx 0
      rw [Nat.add_zero] at this
      rw [this, ← hr, dw_app hds] at z
      exact b1 z
    · obtain ⟨_, hrn⟩ := two (by decide)
      rw [hrn] at S2 ⊢
      refine c_hexadecimal O (by omega) S2 hds (kc _) (by simp) (by simp) (fun hle => ?_) (fun hlt hp3 S3 N3 L3 => ?_)
      · have h := h hp2 [] (by simpa [rws, mst, show ¬ (4294967295 < tot (bas [72]) ds) from by simpa [bas] using hle] using S2) (fun k hk => nomatch hk) (by simp) (N1.trans N2)
        simp only [knd, vlu, val, show mst [72] = 4294967295 from rfl, show bas [72] = 16 from rfl, if_neg (show ¬ ([72] = [88]) by decide), if_neg (show ¬ ([72] = ([] : List Nat)) by decide), if_pos (show [72] = [72] from rfl), true_and, if_neg (show ¬ (4294967295 < tot 16 ds) by omega)] at h
        have e : (if 2147483647 < tot 16 ds then (tot 16 ds : Int) - 4294967295 - 1 else tot 16 ds) = if 2147483648 ≤ tot 16 ds then (tot 16 ds : Int) - 4294967296 else tot 16 ds := by
          split <;> split <;> omega
        rw [e]
        exact h
      · have h := h hp3 _ (by simpa [rws, mst, cod, bas, hlt, mk1] using S3) (fun k hk => by cases List.mem_singleton.mp hk; simp; omega) (by simp) ((N1.trans N2).trans N3)
        simp only [knd, vlu, val, show mst [72] = 4294967295 from rfl, show bas [72] = 16 from rfl, if_neg (show ¬ ([72] = [88]) by decide), if_neg (show ¬ ([72] = ([] : List Nat)) by decide), if_pos (show [72] = [72] from rfl), if_pos hlt] at h
        rw [L3] at h
        exact h
    · exfalso
      rw [(two (by decide)).1] at z
      cases z
  · rcases hE with rfl | rfl | rfl
    · exfalso
      have := hnext hx 0
      rw [Nat.add_zero] at this
      rw [this, ← hr, dw_app hds] at z
      exact b2 z
    · exfalso
      rw [(two (by decide)).1] at z
      cases z
    · obtain ⟨_, hrn⟩ := two (by decide)
      rw [hrn] at S2 ⊢
      refine c_character O (by omega) S2 hds (kc _) (by simp) (by simp) (fun hle => ?_) (fun hlt hp3 S3 N3 L3 => ?_)
      · have h := h hp2 [] (by simpa [rws, mst, show ¬ (255 < tot (bas [88]) ds) from by simpa [bas] using hle] using S2) (fun k hk => nomatch hk) (by simp) (N1.trans N2)
        simp only [knd, vlu, val, show mst [88] = 255 from rfl, show bas [88] = 16 from rfl, if_neg (show ¬ ([88] = [72]) by decide), if_neg (show ¬ ([88] = ([] : List Nat)) by decide), if_pos (show [88] = [88] from rfl), false_and, if_false, if_neg (show ¬ (255 < tot 16 ds) by omega), Int.toNat_natCast] at h
        exact h
      · have h := h hp3 _ (by simpa [rws, mst, cod, bas, hlt, mk1] using S3) (fun k hk => by cases List.mem_singleton.mp hk; simp; omega) (by simp) ((N1.trans N2).trans N3)
        simp only [knd, vlu, val, show mst [88] = 255 from rfl, show bas [88] = 16 from rfl, if_neg (show ¬ ([88] = [72]) by decide), if_neg (show ¬ ([88] = ([] : List Nat)) by decide), if_pos (show [88] = [88] from rfl), if_pos hlt] at h
        rw [L3] at h
        exact h
  · exfalso
    rcases hE with rfl | rfl | rfl
    · have e := hdg rfl
      have n0 := hnext dg 0
      have n1 := hnext dg 1
      rw [Nat.add_zero] at n0
      rw [n0, n1, ← hr, dw_app e, List.nil_append, b4] at z
      exact b5 z
    · exact z1 (two (by decide)).1
    · exact z2 (two (by decide)).1
  · rcases hE with rfl | rfl | rfl
    · have e := hdg rfl
      have hrn : run w.x dg q = ds := by rw [hrun, ← hr, tw_app e, List.nil_append, b3, List.append_nil]
      rw [hrn] at S2 ⊢
      refine c_whole O (by omega) S2 (kc _) (by simp) (by simp) (fun hle => ?_) (fun hlt hp3 S3 N3 L3 => ?_)
      · have ht : tot 10 ds ≤ 2147483647 := by unfold dv at hle; split at hle <;> omega
        rw [show dv 10 2147483647 ds = tot 10 ds from if_pos ht]
        have h := h hp2 [] (by simpa [rws, mst, show ¬ (2147483647 < tot (bas []) ds) from by simpa [bas] using ht] using S2) (fun k hk => nomatch hk) (by simp) (N1.trans N2)
        simp only [knd, vlu, val, show mst [] = 2147483647 from rfl, show bas [] = 10 from rfl, if_neg (show ¬ ([] = [88]) by decide), if_neg (show ¬ ([] = [72]) by decide), if_pos (show ([] : List Nat) = [] from rfl), false_and, if_false, if_neg (show ¬ (2147483647 < tot 10 ds) by omega)] at h
        exact h
      · have ht : 2147483647 < tot 10 ds := by unfold dv at hlt; split at hlt <;> omega
        have h := h hp3 _ (by simpa [rws, mst, cod, bas, ht, mk1] using S3) (fun k hk => by cases List.mem_singleton.mp hk; simp; omega) (by simp) ((N1.trans N2).trans N3)
        simp only [knd, vlu, val, show mst [] = 2147483647 from rfl, show bas [] = 10 from rfl, if_neg (show ¬ ([] = [88]) by decide), if_neg (show ¬ ([] = [72]) by decide), if_pos (show ([] : List Nat) = [] from rfl), if_pos ht] at h
        rw [L3] at h
        exact h
    · exact absurd (two (by decide)).1 z1
    · exact absurd (two (by decide)).1 z2
end
end Mine
end
section
set_option maxRecDepth 20000
namespace Mine
theorem L_nil : PySem.Str.ofString "" = sl [] := by decide
theorem L_H : PySem.Str.ofString "H" = sl [72] := by decide
theorem L_X : PySem.Str.ofString "X" = sl [88] := by decide
theorem L_bH : PySem.Str.ofString " H" = sl [32, 72] := by decide
theorem front_ok : ∀ v : Int, 0 ≤ v → v < 4 → MulOk (PySem.Str.ofString " ") v ∧ Txt.mul (PySem.Str.ofString " ") v = sl (List.replicate v.toNat 32) := by
  intro v h0 h1
  have : v = 0 ∨ v = 1 ∨ v = 2 ∨ v = 3 := by omega
  rcases this with rfl | rfl | rfl | rfl <;> refine ⟨⟨by decide, by decide, by decide⟩, by decide⟩
theorem plain_eqv {a : AV} (h : isPlain 8 a = true) : PyData.eqv (toPy a) (toPy a) = true := PySem.SeqAt.eqv_refl _ (lay_of 8 a h).1
theorem tabB_d : ∀ x ∈ tabB, x.2.2 = (if x.1 = [32, 72] then 1 else 0) ∧ x.1.length ≤ 4 ∧ (x.2.1).length ≤ 10 := by decide
theorem val_88 {T : Nat} : 0 ≤ val [88] T ∧ val [88] T ≤ 255 := by
  simp only [val, show mst [88] = 255 from rfl]
  split
  · omega
  · rw [if_neg (fun h => absurd h.1 (by decide))]; omega
theorem plain_tok {el : List Nat} {T f : Nat} (hE : Ends el) : isPlain 8 (.tup [.str (knd el), vlu el T, .int (f : Int)]) = true := by
  rcases hE with rfl | rfl | rfl
  · simp [isPlain, knd, vlu]; decide +kernel
  · simp [isPlain, knd, vlu]; decide +kernel
  · have h := val_88 (T := T)
    simp only [isPlain, knd, vlu, List.all_cons, List.all_nil, if_pos, Bool.and_true]
    rw [Bool.and_eq_true]
    refine ⟨by decide +kernel, ?_⟩
    simp [PyData.strOk]
    omega
theorem plain_rows {el : List Nat} {T f : Nat} : isPlain 8 (.lst (rws el T f)) = true := by
  unfold rws
  split
  · simp only [isPlain, mk1, List.all_cons, List.all_nil, Bool.and_true, Bool.true_and, cod]
    rename_i h
    rw [if_pos h]
    split <;> decide +kernel
  · rfl
theorem cod_ne {el : List Nat} {T : Nat} : (cod el T != sl []) = decide (mst el < T) := by
  unfold cod
  split
  · rename_i h
    rw [decide_eq_true h]
    split <;> decide
  · rename_i h
    rw [decide_eq_false h]
    decide
noncomputable def irC : IS := (.seq (.set 13 (.bin .Mult (.str " ") (.call aPick (.cons (.loc 1) (.cons (.int 4) .nil)))))
  (.seq (.set 14 (.call aErrorList .nil))
  (.seq (.set 15 (.call aScanner (.cons (.bin .Add (.bin .Add (.bin .Add (.loc 13) (.loc 5)) (.loc 2)) (.loc 7)) (.cons (.loc 14) .nil))))
  (.seq (.set 16 (.meth aScanner aTake (.loc 15) .nil))
  (.seq (.set 17 (.ite (.cmp .Eq (.loc 2) (.str "X")) (.tup (.cons (.str "string") (.cons (.chr (.loc 9)) .nil))) (.tup (.cons (.str "int") (.cons (.loc 9) .nil)))))
  (.seq (.ife (.cmp .NotEq (.tup (.cons (.attr 16 4) (.cons (.attr 16 5) (.cons (.attr 16 2) .nil)))) (.tadd (.loc 17) (.tup (.cons (.len (.loc 13)) .nil)))) (.seq (.ret (.bool false))
  .skip) .skip)
  (.seq (.ife (.cmp .NotEq (.attr 14 6) (.ite (.cmp .NotEq (.loc 12) (.str "")) (.lst (.cons (.tup (.cons (.len (.loc 13)) (.cons (.loc 12) .nil))) .nil)) (.lst .nil))) (.seq (.ret (.bool false))
  .skip) .skip)
  (.seq (.set 16 (.meth aScanner aTake (.loc 15) .nil))
  (.seq (.ret (.and (.cmp .Eq (.attr 16 4) (.loc 8)) (.cmp .Eq (.attr 16 2) (.bin .Add (.len (.bin .Add (.bin .Add (.loc 13) (.loc 5)) (.loc 2))) (.ite (.cmp .Eq (.loc 7) (.str " H")) (.int 1) (.int 0))))))
  .skip)))))))))
theorem irC_eq : irC = (.seq (.set 13 (.bin .Mult (.str " ") (.call aPick (.cons (.loc 1) (.cons (.int 4) .nil)))))
  (.seq (.set 14 (.call aErrorList .nil))
  (.seq (.set 15 (.call aScanner (.cons (.bin .Add (.bin .Add (.bin .Add (.loc 13) (.loc 5)) (.loc 2)) (.loc 7)) (.cons (.loc 14) .nil))))
  (.seq (.set 16 (.meth aScanner aTake (.loc 15) .nil))
  (.seq (.set 17 (.ite (.cmp .Eq (.loc 2) (.str "X")) (.tup (.cons (.str "string") (.cons (.chr (.loc 9)) .nil))) (.tup (.cons (.str "int") (.cons (.loc 9) .nil)))))
  (.seq (.ife (.cmp .NotEq (.tup (.cons (.attr 16 4) (.cons (.attr 16 5) (.cons (.attr 16 2) .nil)))) (.tadd (.loc 17) (.tup (.cons (.len (.loc 13)) .nil)))) (.seq (.ret (.bool false))
  .skip) .skip)
  (.seq (.ife (.cmp .NotEq (.attr 14 6) (.ite (.cmp .NotEq (.loc 12) (.str "")) (.lst (.cons (.tup (.cons (.len (.loc 13)) (.cons (.loc 12) .nil))) .nil)) (.lst .nil))) (.seq (.ret (.bool false))
  .skip) .skip)
  (.seq (.set 16 (.meth aScanner aTake (.loc 15) .nil))
  (.seq (.ret (.and (.cmp .Eq (.attr 16 4) (.loc 8)) (.cmp .Eq (.attr 16 2) (.bin .Add (.len (.bin .Add (.bin .Add (.loc 13) (.loc 5)) (.loc 2))) (.ite (.cmp .Eq (.loc 7) (.str " H")) (.int 1) (.int 0))))))
  .skip))))))))) := rfl
section
variable {G : Gl}
theorem lawC (O : Ok G) {hp : List AO} (hP : PoolAt hp 0 1) (hlen : hp.length = 2) {ds el bl : List Nat} {F : Str} {d : Nat} {o0 o3 o4 o6 o10 o11 : Option AV} (hB : (bl, F, d) ∈ tabB) (hE : Ends el) (h0 : isDig ds[0]? = true) (hds : ∀ c ∈ ds, hx c = true) (hdg : el = [] → ∀ c ∈ ds, dg c = true) (hl : ds.length ≤ 12) :
    vS G 40 irC ⟨[o0, some (.obj 1), some (.str (sl el)), o3, o4, some (.str (sl ds)), o6, some (.str (sl bl)), some (.str F), some (.int (val el (tot (bas el) ds))), o10, o11, some (.str (cod el (tot (bas el) ds))), none, none, none, none, none, none, none, none, none, none, none, none], hp⟩ (fun fl _ => retOf fl = .bool true) := by
  unfold irC
  generalize hT : tot (bas el) ds = T
  have hsz : sizeLine = 16777216 := sizeLine_eq
  obtain ⟨hd, hbl, hFl⟩ := tabB_d _ hB
  have hd : d = if bl = [32, 72] then 1 else 0 := hd
  have hbl : bl.length ≤ 4 := hbl
  have hFl : F.length ≤ 10 := hFl
  have hel : el.length ≤ 1 := by rcases hE with rfl | rfl | rfl <;> decide
  refine sq_set ?_
  simp only [vE, vT, vA, onLoc, onStr, onLst, onInt, onTup, onList, onB, Bin, small, goOn, retOf, turnEnd, List.map_cons, List.map_nil, List.append_nil, List.cons_append, List.nil_append, List.replicate, List.getElem?_cons_zero, List.getElem?_cons_succ, List.set_cons_zero, List.set_cons_succ, List.length_cons, List.length_nil, List.length_append, Nat.zero_add, Nat.reduceAdd, Nat.add_zero]
  refine c_pick O (by omega) (by decide) hP fun v hp1 hv0 hv1 hP1 hl1 _ => ?_
  obtain ⟨g1, g2⟩ := front_ok v hv0 hv1
  obtain ⟨f, rfl⟩ : ∃ f : Nat, v = (f : Int) := ⟨v.toNat, by omega⟩
  rw [show ((f : Int)).toNat = f from rfl] at g2
  rw [hlen] at hl1
  obtain ⟨a, b, rfl⟩ : ∃ a b, hp1 = [a, b] := by
    match hp1, hl1 with
    | [a, b], _ => exact ⟨a, b, rfl⟩
  refine ⟨g1, ?_⟩
  rw [g2]
  refine sq_set ?_
  simp only [vE, vT, vA, onLoc, onStr, onLst, onInt, onTup, onList, onB, Bin, small, goOn, retOf, turnEnd, List.map_cons, List.map_nil, List.append_nil, List.cons_append, List.nil_append, List.replicate, List.getElem?_cons_zero, List.getElem?_cons_succ, List.set_cons_zero, List.set_cons_succ, List.length_cons, List.length_nil, List.length_append, Nat.zero_add, Nat.reduceAdd, Nat.add_zero]
  refine c_errors O (by omega) ?_
  try simp only [vE, vT, vA, onLoc, onStr, onLst, onInt, onTup, onList, onB, Bin, small, goOn, retOf, turnEnd, List.map_cons, List.map_nil, List.append_nil, List.cons_append, List.nil_append, List.replicate, List.getElem?_cons_zero, List.getElem?_cons_succ, List.set_cons_zero, List.set_cons_succ, List.length_cons, List.length_nil, List.length_append, Nat.zero_add, Nat.reduceAdd, Nat.add_zero]
  refine sq_set ?_
  simp only [vE, vT, vA, onLoc, onStr, onLst, onInt, onTup, onList, onB, Bin, small, goOn, retOf, turnEnd, List.map_cons, List.map_nil, List.append_nil, List.cons_append, List.nil_append, List.replicate, List.getElem?_cons_zero, List.getElem?_cons_succ, List.set_cons_zero, List.set_cons_succ, List.length_cons, List.length_nil, List.length_append, Nat.zero_add, Nat.reduceAdd, Nat.add_zero, sl_append, sl_length, List.length_replicate]
  refine ⟨by omega, by omega, by omega, ?_⟩
  refine c_scanner O (by omega) ?_
  try simp only [vE, vT, vA, onLoc, onStr, onLst, onInt, onTup, onList, onB, Bin, small, goOn, retOf, turnEnd, List.map_cons, List.map_nil, List.append_nil, List.cons_append, List.nil_append, List.replicate, List.getElem?_cons_zero, List.getElem?_cons_succ, List.set_cons_zero, List.set_cons_succ, List.length_cons, List.length_nil, List.length_append, Nat.zero_add, Nat.reduceAdd, Nat.add_zero]
  generalize hx' : sl (((List.replicate f 32 ++ ds) ++ el) ++ bl) = x
  let w : Wd := ⟨x, 5, 2, 3, 4⟩
  have hcs : x.cps.toList = List.replicate f 32 ++ (ds ++ (el ++ bl)) := by rw [← hx', sl_list]; simp
  have S : Sc w 0 [] [] [a, b, erl 3 4, .list [], .dict [], scn x 2 0] := ⟨rfl, rfl, rfl, rfl, by
    show x.length ≤ _
    have : x.length = x.cps.toList.length := by simp [Str.length]
    rw [this, hcs]
    simp
    omega⟩
  refine sq_set ?_
  have hs0 : [a, b, erl 3 4, AO.list [], AO.dict [], scn x 2 0][5]? = some (scn x 2 0) := rfl
  simp only [vE, vT, vA, onLoc, onStr, onLst, onInt, onTup, onList, onB, Bin, small, goOn, retOf, turnEnd, List.map_cons, List.map_nil, List.append_nil, List.cons_append, List.nil_append, List.replicate, List.getElem?_cons_zero, List.getElem?_cons_succ, List.set_cons_zero, List.set_cons_succ, List.length_cons, List.length_nil, List.length_append, Nat.zero_add, Nat.reduceAdd, Nat.add_zero, on_scn hs0]
  refine t1 O (n := 40) (by decide) (w := w) hcs S hB hE h0 hds hdg fun hp2 ks' S2 hk2 hkl2 N2 => ?_
  rw [hT] at S2 ⊢
  refine sq_set ?_
  have rest : vS G 40 ((.seq (.ife (.cmp .NotEq (.tup (.cons (.attr 16 4) (.cons (.attr 16 5) (.cons (.attr 16 2) .nil)))) (.tadd (.loc 17) (.tup (.cons (.len (.loc 13)) .nil)))) (.seq (.ret (.bool false))
  .skip) .skip)
  (.seq (.ife (.cmp .NotEq (.attr 14 6) (.ite (.cmp .NotEq (.loc 12) (.str "")) (.lst (.cons (.tup (.cons (.len (.loc 13)) (.cons (.loc 12) .nil))) .nil)) (.lst .nil))) (.seq (.ret (.bool false))
  .skip) .skip)
  (.seq (.set 16 (.meth aScanner aTake (.loc 15) .nil))
  (.seq (.ret (.and (.cmp .Eq (.attr 16 4) (.loc 8)) (.cmp .Eq (.attr 16 2) (.bin .Add (.len (.bin .Add (.bin .Add (.loc 13) (.loc 5)) (.loc 2))) (.ite (.cmp .Eq (.loc 7) (.str " H")) (.int 1) (.int 0))))))
  .skip))))) ⟨[o0, some (.obj 1), some (.str (sl el)), o3, o4, some (.str (sl ds)), o6, some (.str (sl bl)), some (.str F), some (.int (val el T)), o10, o11, some (.str (cod el T)),
      some (.str (sl (List.replicate f 32))), some (.obj 2), some (.obj 5), some (.obj hp2.length), some (.tup [.str (knd el), vlu el T]), none, none, none, none, none, none, none], hp2 ++ [tok (.str (knd el)) (vlu el T) (f : Int)]⟩ (fun fl _ => retOf fl = .bool true) := by
    have tk := at_len (hp := hp2) (a := tok (.str (knd el)) (vlu el T) (f : Int)) (t := [])
    have S3 := S2.push (tok (.str (knd el)) (vlu el T) (f : Int))
    have he : (hp2 ++ [tok (.str (knd el)) (vlu el T) (f : Int)])[2]? = some (erl 3 4) := S3.e
    have hr : (hp2 ++ [tok (.str (knd el)) (vlu el T) (f : Int)])[3]? = some (.list (rws el T f)) := S3.r
    have hs : (hp2 ++ [tok (.str (knd el)) (vlu el T) (f : Int)])[5]? = some (scn x 2 ((f + ds.length + el.length : Nat) : Int)) := S3.s
    refine sq_ife ?_
    simp only [vE, vT, vA, onLoc, onStr, onLst, onInt, onTup, onList, onB, Bin, small, goOn, retOf, turnEnd, List.map_cons, List.map_nil, List.append_nil, List.cons_append, List.nil_append, List.replicate, List.getElem?_cons_zero, List.getElem?_cons_succ, List.set_cons_zero, List.set_cons_succ, List.length_cons, List.length_nil, List.length_append, Nat.zero_add, Nat.reduceAdd, Nat.add_zero, at_kind tk, at_val tk, at_tplc tk, TupAdd, Len, sl_length, List.length_replicate, Cmp, view]
    refine ⟨by omega, by omega, by omega, by omega, ⟨plain_tok hE, plain_tok hE⟩, ?_⟩
    rw [plain_eqv (plain_tok hE)]
    refine fork_f ?_
    refine sq_skip ?_
    simp only [vE, vT, vA, onLoc, onStr, onLst, onInt, onTup, onList, onB, Bin, small, goOn, retOf, turnEnd, List.map_cons, List.map_nil, List.append_nil, List.cons_append, List.nil_append, List.replicate, List.getElem?_cons_zero, List.getElem?_cons_succ, List.set_cons_zero, List.set_cons_succ, List.length_cons, List.length_nil, List.length_append, Nat.zero_add, Nat.reduceAdd, Nat.add_zero]
    have vr : view (hp2 ++ [tok (.str (knd el)) (vlu el T) (f : Int)]) (.obj 3) = .lst (rws el T f) := by simp only [view, hr]
    have rest2 : vS G 40 ((.seq (.set 16 (.meth aScanner aTake (.loc 15) .nil))
  (.seq (.ret (.and (.cmp .Eq (.attr 16 4) (.loc 8)) (.cmp .Eq (.attr 16 2) (.bin .Add (.len (.bin .Add (.bin .Add (.loc 13) (.loc 5)) (.loc 2))) (.ite (.cmp .Eq (.loc 7) (.str " H")) (.int 1) (.int 0))))))
  .skip))) ⟨[o0, some (.obj 1), some (.str (sl el)), o3, o4, some (.str (sl ds)), o6, some (.str (sl bl)), some (.str F), some (.int (val el T)), o10, o11, some (.str (cod el T)),
        some (.str (sl (List.replicate f 32))), some (.obj 2), some (.obj 5), some (.obj hp2.length), some (.tup [.str (knd el), vlu el T]), none, none, none, none, none, none, none], hp2 ++ [tok (.str (knd el)) (vlu el T) (f : Int)]⟩ (fun fl _ => retOf fl = .bool true) := by
      refine sq_set ?_
      simp only [vE, vT, vA, onLoc, onStr, onLst, onInt, onTup, onList, onB, Bin, small, goOn, retOf, turnEnd, List.map_cons, List.map_nil, List.append_nil, List.cons_append, List.nil_append, List.replicate, List.getElem?_cons_zero, List.getElem?_cons_succ, List.set_cons_zero, List.set_cons_succ, List.length_cons, List.length_nil, List.length_append, Nat.zero_add, Nat.reduceAdd, Nat.add_zero, on_scn hs]
      have hA : At w.x.cps.toList (f + ds.length + el.length) bl := by
        have h1 : At w.x.cps.toList 0 (((List.replicate f 32 ++ ds) ++ el) ++ bl) := ⟨by show x.cps.toList = _; rw [hcs]; simp, Nat.zero_le _⟩
        have h2 := h1.app
        simpa [Nat.add_assoc] using h2
      refine t2 O (n := 40) (by decide) (w := w) S3 hA hB hk2 (by unfold rws; split <;> simp) hkl2 fun hp3 v N3 => ?_
      have tk2 := at_len (hp := hp3) (a := tok (.str F) v ((f + ds.length + el.length + d : Nat) : Int)) (t := [])
      refine sq_ret ?_
      simp only [vE, vT, vA, onLoc, onStr, onLst, onInt, onTup, onList, onB, Bin, small, goOn, retOf, turnEnd, List.map_cons, List.map_nil, List.append_nil, List.cons_append, List.nil_append, List.replicate, List.getElem?_cons_zero, List.getElem?_cons_succ, List.set_cons_zero, List.set_cons_succ, List.length_cons, List.length_nil, List.length_append, Nat.zero_add, Nat.reduceAdd, Nat.add_zero, at_kind tk2, at_tplc tk2, Cmp, BEq.rfl]
      refine fork_t ?_
      simp only [vE, vT, vA, onLoc, onStr, onLst, onInt, onTup, onList, onB, Bin, small, goOn, retOf, turnEnd, List.map_cons, List.map_nil, List.append_nil, List.cons_append, List.nil_append, List.replicate, List.getElem?_cons_zero, List.getElem?_cons_succ, List.set_cons_zero, List.set_cons_succ, List.length_cons, List.length_nil, List.length_append, Nat.zero_add, Nat.reduceAdd, Nat.add_zero, sl_append, sl_length, List.length_replicate, Len, L_bH, sl_beq]
      refine ⟨by omega, by omega, by omega, ?_⟩
      refine ⟨fun e => ?_, fun e => ?_⟩
      · have e := beq_iff_eq.mp e
        rw [hd, if_pos e]
        show AV.bool _ = AV.bool true
        congr 1
        rw [beq_iff_eq]
        simp
      · have e := beq_eq_false_iff_ne.mp e
        rw [hd, if_neg e]
        show AV.bool _ = AV.bool true
        congr 1
        rw [beq_iff_eq]
        simp
    refine sq_ife ?_
    simp only [vE, vT, vA, onLoc, onStr, onLst, onInt, onTup, onList, onB, Bin, small, goOn, retOf, turnEnd, List.map_cons, List.map_nil, List.append_nil, List.cons_append, List.nil_append, List.replicate, List.getElem?_cons_zero, List.getElem?_cons_succ, List.set_cons_zero, List.set_cons_succ, List.length_cons, List.length_nil, List.length_append, Nat.zero_add, Nat.reduceAdd, Nat.add_zero, at_row he, Cmp, L_nil, cod_ne, vr, Len, sl_length, List.length_replicate]
    have pr := plain_rows (el := el) (T := T) (f := f)
    refine ⟨fun e => ?_, fun e => ?_⟩
    · have e := of_decide_eq_true e
      have er : rws el T f = [.tup [.int f, .str (cod el T)]] := by rw [rws, if_pos e]; rfl
      have vl : view (hp2 ++ [tok (.str (knd el)) (vlu el T) (f : Int)]) (.lst [.tup [.int f, .str (cod el T)]]) = .lst (rws el T f) := by rw [er]; rfl
      rw [vl, plain_eqv pr]
      refine ⟨by omega, by omega, by omega, ⟨pr, pr⟩, fork_f ?_⟩
      refine sq_skip ?_
      exact rest2
    · have e := of_decide_eq_false e
      have er : rws el T f = [] := by rw [rws, if_neg e]
      have vl : view (hp2 ++ [tok (.str (knd el)) (vlu el T) (f : Int)]) (.lst []) = .lst (rws el T f) := by rw [er]; rfl
      rw [vl, plain_eqv pr]
      refine ⟨by omega, ⟨pr, pr⟩, fork_f ?_⟩
      refine sq_skip ?_
      exact rest2
  simp only [vE, vT, vA, onLoc, onStr, onLst, onInt, onTup, onList, onB, Bin, small, goOn, retOf, turnEnd, List.map_cons, List.map_nil, List.append_nil, List.cons_append, List.nil_append, List.replicate, List.getElem?_cons_zero, List.getElem?_cons_succ, List.set_cons_zero, List.set_cons_succ, List.length_cons, List.length_nil, List.length_append, Nat.zero_add, Nat.reduceAdd, Nat.add_zero, Cmp, L_X, sl_beq]
  refine ⟨fun e => ?_, fun e => ?_⟩
  · have e := beq_iff_eq.mp e
    subst e
    have hv := val_88 (T := T)
    simp only [vE, vT, vA, onLoc, onStr, onLst, onInt, onTup, onList, onB, Bin, small, goOn, retOf, turnEnd, List.map_cons, List.map_nil, List.append_nil, List.cons_append, List.nil_append, List.replicate, List.getElem?_cons_zero, List.getElem?_cons_succ, List.set_cons_zero, List.set_cons_succ, List.length_cons, List.length_nil, List.length_append, Nat.zero_add, Nat.reduceAdd, Nat.add_zero, Chr]
    exact ⟨by omega, by omega, rest⟩
  · have e := beq_eq_false_iff_ne.mp e
    have e1 : knd el = "int" := if_neg e
    have e2 : vlu el T = .int (val el T) := if_neg e
    rw [e1, e2] at rest
    rw [e1, e2]
    exact ⟨by omega, rest⟩
end
end Mine
end
section
set_option maxRecDepth 20000
namespace Mine
noncomputable def irB : IS := (.seq (.set 11 (.tab "" "H" "X" (.bin .Sub (.bin .Pow (.int 2) (.int 31)) (.int 1)) (.bin .Sub (.bin .Pow (.int 2) (.int 32)) (.int 1)) (.int 255) (.loc 2)))
  (.seq (.set 12 (.str ""))
  (.seq (.ife (.cmp .Gt (.loc 9) (.loc 11)) (.seq (.set 12 (.ite (.cmp .Eq (.loc 2) (.str "X")) (.str "bad_char") (.str "number_too_large")))
  (.seq (.set 9 (.int 0))
  .skip)) .skip)
  (.seq (.ife (.and (.cmp .Eq (.loc 2) (.str "H")) (.cmp .GtE (.loc 9) (.bin .Pow (.int 2) (.int 31)))) (.seq (.aug 9 .Sub (.bin .Pow (.int 2) (.int 32)))
  .skip) .skip)
  (.seq (.set 13 (.bin .Mult (.str " ") (.call aPick (.cons (.loc 1) (.cons (.int 4) .nil)))))
  (.seq (.set 14 (.call aErrorList .nil))
  (.seq (.set 15 (.call aScanner (.cons (.bin .Add (.bin .Add (.bin .Add (.loc 13) (.loc 5)) (.loc 2)) (.loc 7)) (.cons (.loc 14) .nil))))
  (.seq (.set 16 (.meth aScanner aTake (.loc 15) .nil))
  (.seq (.set 17 (.ite (.cmp .Eq (.loc 2) (.str "X")) (.tup (.cons (.str "string") (.cons (.chr (.loc 9)) .nil))) (.tup (.cons (.str "int") (.cons (.loc 9) .nil)))))
  (.seq (.ife (.cmp .NotEq (.tup (.cons (.attr 16 4) (.cons (.attr 16 5) (.cons (.attr 16 2) .nil)))) (.tadd (.loc 17) (.tup (.cons (.len (.loc 13)) .nil)))) (.seq (.ret (.bool false))
  .skip) .skip)
  (.seq (.ife (.cmp .NotEq (.attr 14 6) (.ite (.cmp .NotEq (.loc 12) (.str "")) (.lst (.cons (.tup (.cons (.len (.loc 13)) (.cons (.loc 12) .nil))) .nil)) (.lst .nil))) (.seq (.ret (.bool false))
  .skip) .skip)
  (.seq (.set 16 (.meth aScanner aTake (.loc 15) .nil))
  (.seq (.ret (.and (.cmp .Eq (.attr 16 4) (.loc 8)) (.cmp .Eq (.attr 16 2) (.bin .Add (.len (.bin .Add (.bin .Add (.loc 13) (.loc 5)) (.loc 2))) (.ite (.cmp .Eq (.loc 7) (.str " H")) (.int 1) (.int 0))))))
  .skip)))))))))))))
noncomputable def irB2 : IS := (.seq (.ife (.and (.cmp .Eq (.loc 2) (.str "H")) (.cmp .GtE (.loc 9) (.bin .Pow (.int 2) (.int 31)))) (.seq (.aug 9 .Sub (.bin .Pow (.int 2) (.int 32)))
  .skip) .skip)
  (.seq (.set 13 (.bin .Mult (.str " ") (.call aPick (.cons (.loc 1) (.cons (.int 4) .nil)))))
  (.seq (.set 14 (.call aErrorList .nil))
  (.seq (.set 15 (.call aScanner (.cons (.bin .Add (.bin .Add (.bin .Add (.loc 13) (.loc 5)) (.loc 2)) (.loc 7)) (.cons (.loc 14) .nil))))
  (.seq (.set 16 (.meth aScanner aTake (.loc 15) .nil))
  (.seq (.set 17 (.ite (.cmp .Eq (.loc 2) (.str "X")) (.tup (.cons (.str "string") (.cons (.chr (.loc 9)) .nil))) (.tup (.cons (.str "int") (.cons (.loc 9) .nil)))))
  (.seq (.ife (.cmp .NotEq (.tup (.cons (.attr 16 4) (.cons (.attr 16 5) (.cons (.attr 16 2) .nil)))) (.tadd (.loc 17) (.tup (.cons (.len (.loc 13)) .nil)))) (.seq (.ret (.bool false))
  .skip) .skip)
  (.seq (.ife (.cmp .NotEq (.attr 14 6) (.ite (.cmp .NotEq (.loc 12) (.str "")) (.lst (.cons (.tup (.cons (.len (.loc 13)) (.cons (.loc 12) .nil))) .nil)) (.lst .nil))) (.seq (.ret (.bool false))
  .skip) .skip)
  (.seq (.set 16 (.meth aScanner aTake (.loc 15) .nil))
  (.seq (.ret (.and (.cmp .Eq (.attr 16 4) (.loc 8)) (.cmp .Eq (.attr 16 2) (.bin .Add (.len (.bin .Add (.bin .Add (.loc 13) (.loc 5)) (.loc 2))) (.ite (.cmp .Eq (.loc 7) (.str " H")) (.int 1) (.int 0))))))
  .skip))))))))))
theorem pw_ok (y : Int) (h1 : 0 ≤ y) (h2 : y ≤ 40) : (Builtin.Int.intBits 2 : Int) * y ≤ 2 ^ 27 := by
  have : (Builtin.Int.intBits 2 : Int) = 2 := by decide
  rw [this]
  omega
theorem pw31 : (2 : Int) ^ (31 : Int).toNat = 2147483648 := by decide
theorem pw32 : (2 : Int) ^ (32 : Int).toNat = 4294967296 := by decide
theorem em_ok {el : List Nat} (hE : Ends el) : (if sl el = PySem.Str.ofString "" then (2147483648 : Int) - 1 else if sl el = PySem.Str.ofString "H" then (4294967296 : Int) - 1 else 255) = (mst el : Nat) := by
  rw [L_nil, L_H]
  rcases hE with rfl | rfl | rfl
  · rw [if_pos rfl]; rfl
  · rw [if_neg (by decide), if_pos rfl]; rfl
  · rw [if_neg (by decide), if_neg (by decide)]; rfl
theorem nd_ok : [PySem.Str.ofString "", PySem.Str.ofString "H", PySem.Str.ofString "X"].Nodup := by decide
theorem or_ok {el : List Nat} (hE : Ends el) : sl el = PySem.Str.ofString "" ∨ sl el = PySem.Str.ofString "H" ∨ sl el = PySem.Str.ofString "X" := by
  rw [L_nil, L_H, L_X]
  rcases hE with rfl | rfl | rfl
  · exact .inl rfl
  · exact .inr (.inl rfl)
  · exact .inr (.inr rfl)
theorem eq_X {el : List Nat} : (sl el == PySem.Str.ofString "X") = (el == [88]) := by rw [L_X, sl_beq]
section
variable {G : Gl}
theorem lawB2 (O : Ok G) {hp : List AO} (hP : PoolAt hp 0 1) (hlen : hp.length = 2) {ds el bl : List Nat} {F : Str} {d : Nat} {o0 o3 o4 o6 o10 o11 : Option AV} (hB : (bl, F, d) ∈ tabB) (hE : Ends el) (h0 : isDig ds[0]? = true) (hds : ∀ c ∈ ds, hx c = true) (hdg : el = [] → ∀ c ∈ ds, dg c = true) (hl : ds.length ≤ 12)
    {t : Int} {T : Nat} (hT : tot (bas el) ds = T) (ht : t = (if mst el < T then 0 else (T : Int))) :
    vS G 40 irB2 ⟨[o0, some (.obj 1), some (.str (sl el)), o3, o4, some (.str (sl ds)), o6, some (.str (sl bl)), some (.str F), some (.int t), o10, o11, some (.str (cod el T)), none, none, none, none, none, none, none, none, none, none, none, none], hp⟩ (fun fl _ => retOf fl = .bool true) := by
  unfold irB2
  have C := lawC O hP hlen (o0 := o0) (o3 := o3) (o4 := o4) (o6 := o6) (o10 := o10) (o11 := o11) hB hE h0 hds hdg hl
  unfold irC at C
  rw [hT] at C
  clear hT
  refine sq_ife (t_and (x := sl el == sl [72]) (y := decide ((2147483648 : Int) ≤ t)) (fun R h => ?_) (fun _ R h => ?_) ?_)
  · simp only [vE, vT, vA, onLoc, onStr, onLst, onInt, onTup, onList, onB, Bin, small, goOn, retOf, turnEnd, List.map_cons, List.map_nil, List.append_nil, List.cons_append, List.nil_append, List.replicate, List.getElem?_cons_zero, List.getElem?_cons_succ, List.set_cons_zero, List.set_cons_succ, List.length_cons, List.length_nil, List.length_append, Nat.zero_add, Nat.reduceAdd, Nat.add_zero, Cmp, L_H]
    exact h
  · simp only [vE, vT, vA, onLoc, onStr, onLst, onInt, onTup, onList, onB, Bin, small, goOn, retOf, turnEnd, List.map_cons, List.map_nil, List.append_nil, List.cons_append, List.nil_append, List.replicate, List.getElem?_cons_zero, List.getElem?_cons_succ, List.set_cons_zero, List.set_cons_succ, List.length_cons, List.length_nil, List.length_append, Nat.zero_add, Nat.reduceAdd, Nat.add_zero, Cmp, pw31]
    exact ⟨⟨by decide, pw_ok _ (by decide) (by decide)⟩, h⟩
  rw [sl_beq]
  refine ⟨fun e => ?_, fun e => ?_⟩
  · rw [Bool.and_eq_true, beq_iff_eq, decide_eq_true_eq] at e
    refine sq_aug ?_
    simp only [vE, vT, vA, onLoc, onStr, onLst, onInt, onTup, onList, onB, Bin, small, goOn, retOf, turnEnd, List.map_cons, List.map_nil, List.append_nil, List.cons_append, List.nil_append, List.replicate, List.getElem?_cons_zero, List.getElem?_cons_succ, List.set_cons_zero, List.set_cons_succ, List.length_cons, List.length_nil, List.length_append, Nat.zero_add, Nat.reduceAdd, Nat.add_zero, Aug, pw32]
    refine ⟨⟨by decide, pw_ok _ (by decide) (by decide)⟩, ?_⟩
    refine sq_skip ?_
    have hv : t - 4294967296 = val el T := by
      rw [val, ht]
      have e2 := e.2
      rw [ht] at e2
      split at e2
      · omega
      · rename_i h; rw [if_neg h, if_neg h, if_pos ⟨e.1, by omega⟩]
    rw [hv]
    exact C
  · refine sq_skip ?_
    have hv : t = val el T := by
      rw [val, ht]
      split
      · rfl
      · rename_i h
        rw [if_neg]
        intro z
        rw [ht, if_neg h, z.1] at e
        simp at e
        omega
    rw [hv]
    exact C
theorem lawB (O : Ok G) {hp : List AO} (hP : PoolAt hp 0 1) (hlen : hp.length = 2) {ds el bl : List Nat} {F : Str} {d : Nat} {o0 o3 o4 o6 o10 : Option AV} (hB : (bl, F, d) ∈ tabB) (hE : Ends el) (h0 : isDig ds[0]? = true) (hds : ∀ c ∈ ds, hx c = true) (hdg : el = [] → ∀ c ∈ ds, dg c = true) (hl : ds.length ≤ 12) :
    vS G 40 irB ⟨[o0, some (.obj 1), some (.str (sl el)), o3, o4, some (.str (sl ds)), o6, some (.str (sl bl)), some (.str F), some (.int (tot (bas el) ds : Nat)), o10, none, none, none, none, none, none, none, none, none, none, none, none, none, none], hp⟩ (fun fl _ => retOf fl = .bool true) := by
  unfold irB
  generalize hT : tot (bas el) ds = T
  refine sq_set ?_
  simp only [vE, vT, vA, onLoc, onStr, onLst, onInt, onTup, onList, onB, Bin, small, goOn, retOf, turnEnd, List.map_cons, List.map_nil, List.append_nil, List.cons_append, List.nil_append, List.replicate, List.getElem?_cons_zero, List.getElem?_cons_succ, List.set_cons_zero, List.set_cons_succ, List.length_cons, List.length_nil, List.length_append, Nat.zero_add, Nat.reduceAdd, Nat.add_zero, Pick3, pw31, pw32]
  refine ⟨⟨by decide, pw_ok _ (by decide) (by decide)⟩, ⟨by decide, pw_ok _ (by decide) (by decide)⟩, ⟨nd_ok, or_ok hE⟩, ?_⟩
  rw [em_ok hE]
  refine sq_set ?_
  simp only [vE, vT, vA, onLoc, onStr, onLst, onInt, onTup, onList, onB, Bin, small, goOn, retOf, turnEnd, List.map_cons, List.map_nil, List.append_nil, List.cons_append, List.nil_append, List.replicate, List.getElem?_cons_zero, List.getElem?_cons_succ, List.set_cons_zero, List.set_cons_succ, List.length_cons, List.length_nil, List.length_append, Nat.zero_add, Nat.reduceAdd, Nat.add_zero]
  have tl : ∀ (t : Int) (cc : Str), t = (if mst el < T then 0 else (T : Int)) → cc = cod el T → vS G 40 ((.seq (.ife (.and (.cmp .Eq (.loc 2) (.str "H")) (.cmp .GtE (.loc 9) (.bin .Pow (.int 2) (.int 31)))) (.seq (.aug 9 .Sub (.bin .Pow (.int 2) (.int 32)))
  .skip) .skip)
  (.seq (.set 13 (.bin .Mult (.str " ") (.call aPick (.cons (.loc 1) (.cons (.int 4) .nil)))))
  (.seq (.set 14 (.call aErrorList .nil))
  (.seq (.set 15 (.call aScanner (.cons (.bin .Add (.bin .Add (.bin .Add (.loc 13) (.loc 5)) (.loc 2)) (.loc 7)) (.cons (.loc 14) .nil))))
  (.seq (.set 16 (.meth aScanner aTake (.loc 15) .nil))
  (.seq (.set 17 (.ite (.cmp .Eq (.loc 2) (.str "X")) (.tup (.cons (.str "string") (.cons (.chr (.loc 9)) .nil))) (.tup (.cons (.str "int") (.cons (.loc 9) .nil)))))
  (.seq (.ife (.cmp .NotEq (.tup (.cons (.attr 16 4) (.cons (.attr 16 5) (.cons (.attr 16 2) .nil)))) (.tadd (.loc 17) (.tup (.cons (.len (.loc 13)) .nil)))) (.seq (.ret (.bool false))
  .skip) .skip)
  (.seq (.ife (.cmp .NotEq (.attr 14 6) (.ite (.cmp .NotEq (.loc 12) (.str "")) (.lst (.cons (.tup (.cons (.len (.loc 13)) (.cons (.loc 12) .nil))) .nil)) (.lst .nil))) (.seq (.ret (.bool false))
  .skip) .skip)
  (.seq (.set 16 (.meth aScanner aTake (.loc 15) .nil))
  (.seq (.ret (.and (.cmp .Eq (.attr 16 4) (.loc 8)) (.cmp .Eq (.attr 16 2) (.bin .Add (.len (.bin .Add (.bin .Add (.loc 13) (.loc 5)) (.loc 2))) (.ite (.cmp .Eq (.loc 7) (.str " H")) (.int 1) (.int 0))))))
  .skip))))))))))) ⟨[o0, some (.obj 1), some (.str (sl el)), o3, o4, some (.str (sl ds)), o6, some (.str (sl bl)), some (.str F), some (.int t), o10, some (.int (mst el : Nat)), some (.str cc), none, none, none, none, none, none, none, none, none, none, none, none], hp⟩ (fun fl _ => retOf fl = .bool true) := by
    intro t cc ht hc
    subst hc
    have B2 := lawB2 O hP hlen (o0 := o0) (o3 := o3) (o4 := o4) (o6 := o6) (o10 := o10) (o11 := some (.int (mst el : Nat))) hB hE h0 hds hdg hl hT ht
    unfold irB2 at B2
    exact B2
  refine sq_ife ?_
  simp only [vE, vT, vA, onLoc, onStr, onLst, onInt, onTup, onList, onB, Bin, small, goOn, retOf, turnEnd, List.map_cons, List.map_nil, List.append_nil, List.cons_append, List.nil_append, List.replicate, List.getElem?_cons_zero, List.getElem?_cons_succ, List.set_cons_zero, List.set_cons_succ, List.length_cons, List.length_nil, List.length_append, Nat.zero_add, Nat.reduceAdd, Nat.add_zero, Cmp]
  refine ⟨fun e => ?_, fun e => ?_⟩
  · have e := of_decide_eq_true e
    have e : mst el < T := by omega
    refine sq_set ?_
    simp only [vE, vT, vA, onLoc, onStr, onLst, onInt, onTup, onList, onB, Bin, small, goOn, retOf, turnEnd, List.map_cons, List.map_nil, List.append_nil, List.cons_append, List.nil_append, List.replicate, List.getElem?_cons_zero, List.getElem?_cons_succ, List.set_cons_zero, List.set_cons_succ, List.length_cons, List.length_nil, List.length_append, Nat.zero_add, Nat.reduceAdd, Nat.add_zero, Cmp]
    rw [eq_X]
    refine ⟨fun ex => ?_, fun ex => ?_⟩
    · have ex := beq_iff_eq.mp ex
      refine sq_set ?_
      simp only [vE, vT, vA, onLoc, onStr, onLst, onInt, onTup, onList, onB, Bin, small, goOn, retOf, turnEnd, List.map_cons, List.map_nil, List.append_nil, List.cons_append, List.nil_append, List.replicate, List.getElem?_cons_zero, List.getElem?_cons_succ, List.set_cons_zero, List.set_cons_succ, List.length_cons, List.length_nil, List.length_append, Nat.zero_add, Nat.reduceAdd, Nat.add_zero]
      refine sq_skip ?_
      exact tl 0 _ (if_pos e).symm (by rw [cod, if_pos e, if_pos ex])
    · have ex := beq_eq_false_iff_ne.mp ex
      refine sq_set ?_
      simp only [vE, vT, vA, onLoc, onStr, onLst, onInt, onTup, onList, onB, Bin, small, goOn, retOf, turnEnd, List.map_cons, List.map_nil, List.append_nil, List.cons_append, List.nil_append, List.replicate, List.getElem?_cons_zero, List.getElem?_cons_succ, List.set_cons_zero, List.set_cons_succ, List.length_cons, List.length_nil, List.length_append, Nat.zero_add, Nat.reduceAdd, Nat.add_zero]
      refine sq_skip ?_
      exact tl 0 _ (if_pos e).symm (by rw [cod, if_pos e, if_neg ex])
  · have e := of_decide_eq_false e
    have e : ¬ mst el < T := by omega
    refine sq_skip ?_
    exact tl _ _ (if_neg e).symm (by rw [cod, if_neg e])
theorem pick_fork (O : Ok G) {n i j : Nat} (hn : 1 ≤ n) {hp : List AO} (hP : PoolAt hp i j) {x : Bool} {K : AV → List AO → Prop}
    (h : ∀ v hp', 0 ≤ v → v < (if x = true then (16 : Int) else 10) → PoolAt hp' i j → hp'.length = hp.length → (∀ q, q ≠ j → hp'[q]? = hp[q]?) → K (.int v) hp') : fork x (TF G n aPick [.obj j, .int 16] hp K) (TF G n aPick [.obj j, .int 10] hp K) :=
  ⟨fun e => c_pick O hn (by decide) hP fun v hp' h1 h2 => h v hp' h1 (by rw [if_pos e]; exact h2), fun e => c_pick O hn (by decide) hP fun v hp' h1 h2 => h v hp' h1 (by rw [if_neg (by rw [e]; decide)]; exact h2)⟩
noncomputable def fc (n : Nat) : Nat := hexc.getD n 0
theorem fig_at : ∀ n ∈ List.range 16, Txt.item "0123456789ABCDEF" (n : Int) = sl [fc n] ∧ hx (fc n) = true ∧ (n < 10 → dg (fc n) = true) := by decide +kernel
theorem fig_item {v : Int} (h0 : 0 ≤ v) (h1 : v < 16) : ∃ c, Txt.item (PySem.Str.ofString "0123456789ABCDEF") v = sl [c] ∧ hx c = true ∧ (v < 10 → dg c = true) := by
  obtain ⟨a, b, c⟩ := fig_at v.toNat (List.mem_range.mpr (by omega))
  rw [show ((v.toNat : Nat) : Int) = v by omega] at a
  exact ⟨_, a, b, fun h => c (by omega)⟩
theorem fig_len : (PySem.Str.ofString "0123456789ABCDEF").length = 16 := by decide
theorem menu3 {v : Int} (h0 : 0 ≤ v) (h1 : v < 3) : ∃ el, Ends el ∧ [AV.str (PySem.Str.ofString ""), .str (PySem.Str.ofString "H"), .str (PySem.Str.ofString "X")][v.toNat]? = some (.str (sl el)) := by
  have : v = 0 ∨ v = 1 ∨ v = 2 := by omega
  rcases this with rfl | rfl | rfl
  · exact ⟨[], .inl rfl, by rw [L_nil]; rfl⟩
  · exact ⟨[72], .inr (.inl rfl), by rw [L_H]; rfl⟩
  · exact ⟨[88], .inr (.inr rfl), by rw [L_X]; rfl⟩
noncomputable def avB : List AV := [.tup [.str "", .str "eof"], .tup [.str " H", .str "ident"], .tup [.str "..", .str ".."], .tup [.str "ELSE", .str "ELSE"], .tup [.str ";", .str ";"], .tup [.str "G1", .str "ident"], .tup [.str "x", .str "ident"]]
theorem avB_eq : avB = tabB.map fun x => AV.tup [.str (sl x.1), .str x.2.1] := by
  simp only [avB, tabB, List.map_cons, List.map_nil]
  rw [show PySem.Str.ofString " H" = sl [32, 72] by decide, show PySem.Str.ofString ".." = sl [46, 46] by decide, show PySem.Str.ofString "G1" = sl [71, 49] by decide, show PySem.Str.ofString "x" = sl [120] by decide, show PySem.Str.ofString ";" = sl [59] by decide, show PySem.Str.ofString "ELSE" = sl [69, 76, 83, 69] by decide, show PySem.Str.ofString "" = sl [] by decide]
theorem menu7 {v : Int} (h0 : 0 ≤ v) (h1 : v < 7) : ∃ bl F d, (bl, F, d) ∈ tabB ∧ avB[v.toNat]? = some (.tup [.str (sl bl), .str F]) := by
  have hlt : v.toNat < tabB.length := by show _ < 7; omega
  refine ⟨(tabB[v.toNat]).1, (tabB[v.toNat]).2.1, (tabB[v.toNat]).2.2, List.getElem_mem hlt, ?_⟩
  rw [avB_eq, List.getElem?_map, List.getElem?_eq_getElem hlt]
  rfl
end
end Mine
end
section
set_option maxRecDepth 20000
namespace Mine
theorem ne_nil {el : List Nat} : (sl el == PySem.Str.ofString "") = decide (el = []) := by
  rw [L_nil, sl_beq, Bool.eq_iff_iff, beq_iff_eq, decide_eq_true_eq]
noncomputable def irA1 : IS := (.seq (.set 9 (.int 0))
  (.seq (.forS 10 (.loc 5) (.seq (.set 9 (.bin .Add (.bin .Mult (.loc 9) (.ite (.cmp .NotEq (.loc 2) (.str "")) (.int 16) (.int 10))) (.index (.loc 4) (.loc 10))))
  .skip))
  (.seq (.set 11 (.tab "" "H" "X" (.bin .Sub (.bin .Pow (.int 2) (.int 31)) (.int 1)) (.bin .Sub (.bin .Pow (.int 2) (.int 32)) (.int 1)) (.int 255) (.loc 2)))
  (.seq (.set 12 (.str ""))
  (.seq (.ife (.cmp .Gt (.loc 9) (.loc 11)) (.seq (.set 12 (.ite (.cmp .Eq (.loc 2) (.str "X")) (.str "bad_char") (.str "number_too_large")))
  (.seq (.set 9 (.int 0))
  .skip)) .skip)
  (.seq (.ife (.and (.cmp .Eq (.loc 2) (.str "H")) (.cmp .GtE (.loc 9) (.bin .Pow (.int 2) (.int 31)))) (.seq (.aug 9 .Sub (.bin .Pow (.int 2) (.int 32)))
  .skip) .skip)
  (.seq (.set 13 (.bin .Mult (.str " ") (.call aPick (.cons (.loc 1) (.cons (.int 4) .nil)))))
  (.seq (.set 14 (.call aErrorList .nil))
  (.seq (.set 15 (.call aScanner (.cons (.bin .Add (.bin .Add (.bin .Add (.loc 13) (.loc 5)) (.loc 2)) (.loc 7)) (.cons (.loc 14) .nil))))
  (.seq (.set 16 (.meth aScanner aTake (.loc 15) .nil))
  (.seq (.set 17 (.ite (.cmp .Eq (.loc 2) (.str "X")) (.tup (.cons (.str "string") (.cons (.chr (.loc 9)) .nil))) (.tup (.cons (.str "int") (.cons (.loc 9) .nil)))))
  (.seq (.ife (.cmp .NotEq (.tup (.cons (.attr 16 4) (.cons (.attr 16 5) (.cons (.attr 16 2) .nil)))) (.tadd (.loc 17) (.tup (.cons (.len (.loc 13)) .nil)))) (.seq (.ret (.bool false))
  .skip) .skip)
  (.seq (.ife (.cmp .NotEq (.attr 14 6) (.ite (.cmp .NotEq (.loc 12) (.str "")) (.lst (.cons (.tup (.cons (.len (.loc 13)) (.cons (.loc 12) .nil))) .nil)) (.lst .nil))) (.seq (.ret (.bool false))
  .skip) .skip)
  (.seq (.set 16 (.meth aScanner aTake (.loc 15) .nil))
  (.seq (.ret (.and (.cmp .Eq (.attr 16 4) (.loc 8)) (.cmp .Eq (.attr 16 2) (.bin .Add (.len (.bin .Add (.bin .Add (.loc 13) (.loc 5)) (.loc 2))) (.ite (.cmp .Eq (.loc 7) (.str " H")) (.int 1) (.int 0))))))
  .skip)))))))))))))))
noncomputable def irA : IS := (.seq (.set 4 (.str "0123456789ABCDEF"))
  (.seq (.set 5 (.idx (.loc 4) (.call aPick (.cons (.loc 1) (.cons (.int 10) .nil)))))
  (.seq (.forR 6 (.bin .Sub (.loc 3) (.int 1)) (.seq (.aug 5 .Add (.idx (.loc 4) (.call aPick (.cons (.loc 1) (.cons (.ite (.cmp .NotEq (.loc 2) (.str "")) (.int 16) (.int 10)) .nil)))))
  .skip))
  (.seq (.many [7, 8] (.idx (.lst (.cons (.tup (.cons (.str "") (.cons (.str "eof") .nil))) (.cons (.tup (.cons (.str " H") (.cons (.str "ident") .nil))) (.cons (.tup (.cons (.str "..") (.cons (.str "..") .nil))) (.cons (.tup (.cons (.str "ELSE") (.cons (.str "ELSE") .nil))) (.cons (.tup (.cons (.str ";") (.cons (.str ";") .nil))) (.cons (.tup (.cons (.str "G1") (.cons (.str "ident") .nil))) (.cons (.tup (.cons (.str "x") (.cons (.str "ident") .nil))) .nil)))))))) (.call aPick (.cons (.loc 1) (.cons (.int 7) .nil)))))
  (.seq (.set 9 (.int 0))
  (.seq (.forS 10 (.loc 5) (.seq (.set 9 (.bin .Add (.bin .Mult (.loc 9) (.ite (.cmp .NotEq (.loc 2) (.str "")) (.int 16) (.int 10))) (.index (.loc 4) (.loc 10))))
  .skip))
  (.seq (.set 11 (.tab "" "H" "X" (.bin .Sub (.bin .Pow (.int 2) (.int 31)) (.int 1)) (.bin .Sub (.bin .Pow (.int 2) (.int 32)) (.int 1)) (.int 255) (.loc 2)))
  (.seq (.set 12 (.str ""))
  (.seq (.ife (.cmp .Gt (.loc 9) (.loc 11)) (.seq (.set 12 (.ite (.cmp .Eq (.loc 2) (.str "X")) (.str "bad_char") (.str "number_too_large")))
  (.seq (.set 9 (.int 0))
  .skip)) .skip)
  (.seq (.ife (.and (.cmp .Eq (.loc 2) (.str "H")) (.cmp .GtE (.loc 9) (.bin .Pow (.int 2) (.int 31)))) (.seq (.aug 9 .Sub (.bin .Pow (.int 2) (.int 32)))
  .skip) .skip)
  (.seq (.set 13 (.bin .Mult (.str " ") (.call aPick (.cons (.loc 1) (.cons (.int 4) .nil)))))
  (.seq (.set 14 (.call aErrorList .nil))
  (.seq (.set 15 (.call aScanner (.cons (.bin .Add (.bin .Add (.bin .Add (.loc 13) (.loc 5)) (.loc 2)) (.loc 7)) (.cons (.loc 14) .nil))))
  (.seq (.set 16 (.meth aScanner aTake (.loc 15) .nil))
  (.seq (.set 17 (.ite (.cmp .Eq (.loc 2) (.str "X")) (.tup (.cons (.str "string") (.cons (.chr (.loc 9)) .nil))) (.tup (.cons (.str "int") (.cons (.loc 9) .nil)))))
  (.seq (.ife (.cmp .NotEq (.tup (.cons (.attr 16 4) (.cons (.attr 16 5) (.cons (.attr 16 2) .nil)))) (.tadd (.loc 17) (.tup (.cons (.len (.loc 13)) .nil)))) (.seq (.ret (.bool false))
  .skip) .skip)
  (.seq (.ife (.cmp .NotEq (.attr 14 6) (.ite (.cmp .NotEq (.loc 12) (.str "")) (.lst (.cons (.tup (.cons (.len (.loc 13)) (.cons (.loc 12) .nil))) .nil)) (.lst .nil))) (.seq (.ret (.bool false))
  .skip) .skip)
  (.seq (.set 16 (.meth aScanner aTake (.loc 15) .nil))
  (.seq (.ret (.and (.cmp .Eq (.attr 16 4) (.loc 8)) (.cmp .Eq (.attr 16 2) (.bin .Add (.len (.bin .Add (.bin .Add (.loc 13) (.loc 5)) (.loc 2))) (.ite (.cmp .Eq (.loc 7) (.str " H")) (.int 1) (.int 0))))))
  .skip)))))))))))))))))))
section
variable {G : Gl}
theorem lawA1 (O : Ok G) {hp : List AO} (hP : PoolAt hp 0 1) (hlen : hp.length = 2) {ds el bl : List Nat} {F : Str} {d : Nat} {o0 o3 o6 : Option AV} (hB : (bl, F, d) ∈ tabB) (hE : Ends el) (h0 : isDig ds[0]? = true) (hds : ∀ c ∈ ds, hx c = true) (hdg : el = [] → ∀ c ∈ ds, dg c = true) (hl : ds.length ≤ 12) :
    vS G 40 irA1 ⟨[o0, some (.obj 1), some (.str (sl el)), o3, some (.str (PySem.Str.ofString "0123456789ABCDEF")), some (.str (sl ds)), o6, some (.str (sl bl)), some (.str F), none, none, none, none, none, none, none, none, none, none, none, none, none, none, none, none], hp⟩ (fun fl _ => retOf fl = .bool true) := by
  unfold irA1
  refine sq_set ?_
  simp only [vE, vT, vA, onLoc, onStr, onLst, onInt, onTup, onList, onB, Bin, small, goOn, retOf, turnEnd, List.map_cons, List.map_nil, List.append_nil, List.cons_append, List.nil_append, List.replicate, List.getElem?_cons_zero, List.getElem?_cons_succ, List.set_cons_zero, List.set_cons_succ, List.length_cons, List.length_nil, List.length_append, Nat.zero_add, Nat.reduceAdd, Nat.add_zero]
  refine sq_forS ?_
  simp only [vE, vT, vA, onLoc, onStr, onLst, onInt, onTup, onList, onB, Bin, small, goOn, retOf, turnEnd, List.map_cons, List.map_nil, List.append_nil, List.cons_append, List.nil_append, List.replicate, List.getElem?_cons_zero, List.getElem?_cons_succ, List.set_cons_zero, List.set_cons_succ, List.length_cons, List.length_nil, List.length_append, Nat.zero_add, Nat.reduceAdd, Nat.add_zero]
  refine ⟨fun k st => ∃ o, st = ⟨[o0, some (.obj 1), some (.str (sl el)), o3, some (.str (PySem.Str.ofString "0123456789ABCDEF")), some (.str (sl ds)), o6, some (.str (sl bl)), some (.str F), some (.int (tot (bas el) (ds.take k) : Nat)), o, none, none, none, none, none, none, none, none, none, none, none, none, none, none], hp⟩, ⟨_, rfl⟩, ?_, ?_⟩
  · intro k a ha st1 hi
    obtain ⟨o, rfl⟩ := hi
    rw [sl_list, List.getElem?_map] at ha
    obtain ⟨c, hc, rfl⟩ := Option.map_eq_some_iff.mp ha
    have hcm : c ∈ hexc := hx_mem (hds c (List.mem_of_getElem? hc))
    have e : (tot (bas el) (ds.take k) : Int) * (bas el : Int) + (dgt c : Int) = ((tot (bas el) (ds.take (k + 1)) : Nat) : Int) := by rw [take_succ_get hc, tot_snoc]; simp
    refine sq_set ?_
    simp only [vE, vT, vA, onLoc, onStr, onLst, onInt, onTup, onList, onB, Bin, small, goOn, retOf, turnEnd, List.map_cons, List.map_nil, List.append_nil, List.cons_append, List.nil_append, List.replicate, List.getElem?_cons_zero, List.getElem?_cons_succ, List.set_cons_zero, List.set_cons_succ, List.length_cons, List.length_nil, List.length_append, Nat.zero_add, Nat.reduceAdd, Nat.add_zero, Cmp, bne]
    rw [ne_nil]
    refine ⟨fun h => ?_, fun h => ?_⟩
    · have hne : el ≠ [] := by simpa using h
      have hb : ((bas el : Nat) : Int) = 16 := congrArg Nat.cast (if_neg hne : bas el = 16)
      rw [hb] at e
      simp only [vE, vT, vA, onLoc, onStr, onLst, onInt, onTup, onList, onB, Bin, small, goOn, retOf, turnEnd, List.map_cons, List.map_nil, List.append_nil, List.cons_append, List.nil_append, List.replicate, List.getElem?_cons_zero, List.getElem?_cons_succ, List.set_cons_zero, List.set_cons_succ, List.length_cons, List.length_nil, List.length_append, Nat.zero_add, Nat.reduceAdd, Nat.add_zero, Index, find_hex c hcm]
      refine ⟨IntMulOk.of_right (by decide), idx_hex c hcm, ?_⟩
      refine sq_skip ?_
      simp only [vE, vT, vA, onLoc, onStr, onLst, onInt, onTup, onList, onB, Bin, small, goOn, retOf, turnEnd, List.map_cons, List.map_nil, List.append_nil, List.cons_append, List.nil_append, List.replicate, List.getElem?_cons_zero, List.getElem?_cons_succ, List.set_cons_zero, List.set_cons_succ, List.length_cons, List.length_nil, List.length_append, Nat.zero_add, Nat.reduceAdd, Nat.add_zero]
      exact ⟨some (.str ⟨#[c]⟩), by rw [← e]⟩
    · have hne : el = [] := by simpa using h
      have hb : ((bas el : Nat) : Int) = 10 := congrArg Nat.cast (if_pos hne : bas el = 10)
      rw [hb] at e
      simp only [vE, vT, vA, onLoc, onStr, onLst, onInt, onTup, onList, onB, Bin, small, goOn, retOf, turnEnd, List.map_cons, List.map_nil, List.append_nil, List.cons_append, List.nil_append, List.replicate, List.getElem?_cons_zero, List.getElem?_cons_succ, List.set_cons_zero, List.set_cons_succ, List.length_cons, List.length_nil, List.length_append, Nat.zero_add, Nat.reduceAdd, Nat.add_zero, Index, find_hex c hcm]
      refine ⟨IntMulOk.of_right (by decide), idx_hex c hcm, ?_⟩
      refine sq_skip ?_
      simp only [vE, vT, vA, onLoc, onStr, onLst, onInt, onTup, onList, onB, Bin, small, goOn, retOf, turnEnd, List.map_cons, List.map_nil, List.append_nil, List.cons_append, List.nil_append, List.replicate, List.getElem?_cons_zero, List.getElem?_cons_succ, List.set_cons_zero, List.set_cons_succ, List.length_cons, List.length_nil, List.length_append, Nat.zero_add, Nat.reduceAdd, Nat.add_zero]
      exact ⟨some (.str ⟨#[c]⟩), by rw [← e]⟩
  · intro st1 hi
    rw [List.length_map, sl_list, List.take_length] at hi
    obtain ⟨o, rfl⟩ := hi
    exact lawB O hP hlen hB hE h0 hds hdg hl
theorem lawA (O : Ok G) {hp : List AO} (hP : PoolAt hp 0 1) (hlen : hp.length = 2) {el : List Nat} {c : Int} {o0 : Option AV} (hE : Ends el) (hc0 : 0 ≤ c) (hc1 : c < 12) :
    vS G 40 irA ⟨[o0, some (.obj 1), some (.str (sl el)), some (.int (1 + c)), none, none, none, none, none, none, none, none, none, none, none, none, none, none, none, none, none, none, none, none, none], hp⟩ (fun fl _ => retOf fl = .bool true) := by
  unfold irA
  have hsz : sizeLine = 16777216 := sizeLine_eq
  refine sq_set ?_
  simp only [vE, vT, vA, onLoc, onStr, onLst, onInt, onTup, onList, onB, Bin, small, goOn, retOf, turnEnd, List.map_cons, List.map_nil, List.append_nil, List.cons_append, List.nil_append, List.replicate, List.getElem?_cons_zero, List.getElem?_cons_succ, List.set_cons_zero, List.set_cons_succ, List.length_cons, List.length_nil, List.length_append, Nat.zero_add, Nat.reduceAdd, Nat.add_zero]
  refine sq_set ?_
  simp only [vE, vT, vA, onLoc, onStr, onLst, onInt, onTup, onList, onB, Bin, small, goOn, retOf, turnEnd, List.map_cons, List.map_nil, List.append_nil, List.cons_append, List.nil_append, List.replicate, List.getElem?_cons_zero, List.getElem?_cons_succ, List.set_cons_zero, List.set_cons_succ, List.length_cons, List.length_nil, List.length_append, Nat.zero_add, Nat.reduceAdd, Nat.add_zero]
  refine c_pick O (by omega) (by decide) hP fun v hp1 hv0 hv1 hP1 hl1 _ => ?_
  obtain ⟨x0, e0, hx0, hd0⟩ := fig_item hv0 (by omega)
  have hd0 := hd0 hv1
  simp only [Idx, e0]
  refine ⟨⟨hv0, by rw [fig_len]; omega, by rw [fig_len]; omega⟩, ?_⟩
  refine sq_forR ?_
  simp only [vE, vT, vA, onLoc, onStr, onLst, onInt, onTup, onList, onB, Bin, small, goOn, retOf, turnEnd, List.map_cons, List.map_nil, List.append_nil, List.cons_append, List.nil_append, List.replicate, List.getElem?_cons_zero, List.getElem?_cons_succ, List.set_cons_zero, List.set_cons_succ, List.length_cons, List.length_nil, List.length_append, Nat.zero_add, Nat.reduceAdd, Nat.add_zero]
  refine ⟨by omega, ?_⟩
  refine ⟨fun k st => ∃ ds hp' o6, ds.length = k + 1 ∧ isDig ds[0]? = true ∧ (∀ c ∈ ds, hx c = true) ∧ (el = [] → ∀ c ∈ ds, dg c = true) ∧ PoolAt hp' 0 1 ∧ hp'.length = 2 ∧
      st = ⟨[o0, some (.obj 1), some (.str (sl el)), some (.int (1 + c)), some (.str (PySem.Str.ofString "0123456789ABCDEF")), some (.str (sl ds)), o6, none, none, none, none, none, none, none, none, none, none, none, none, none, none, none, none, none, none], hp'⟩,
    ⟨[x0], hp1, none, rfl, (show isDig (some x0) = true from hd0), by simpa using hx0, fun _ => by simpa using hd0, hP1, by omega, rfl⟩, ?_, ?_⟩
  · intro k a ha st1 hi
    obtain ⟨ds, hp2, o6, k1, k2, k3, k4, hP2, hl2, rfl⟩ := hi
    have hk : k < 12 := by
      have := (List.getElem?_eq_some_iff.mp ha).1
      simp only [upItems, List.length_map, List.length_range] at this
      omega
    refine sq_aug ?_
    simp only [vE, vT, vA, onLoc, onStr, onLst, onInt, onTup, onList, onB, Bin, small, goOn, retOf, turnEnd, List.map_cons, List.map_nil, List.append_nil, List.cons_append, List.nil_append, List.replicate, List.getElem?_cons_zero, List.getElem?_cons_succ, List.set_cons_zero, List.set_cons_succ, List.length_cons, List.length_nil, List.length_append, Nat.zero_add, Nat.reduceAdd, Nat.add_zero, Cmp, bne]
    rw [ne_nil]
    refine pick_fork O (by omega) hP2 fun v hp3 hv0 hv1 hP3 hl3 _ => ?_
    obtain ⟨x, e1, hx1, hd1⟩ := fig_item hv0 (by split at hv1 <;> omega)
    have hd1 : el = [] → dg x = true := fun z => hd1 (by rw [if_neg (by simp [z])] at hv1; exact hv1)
    simp only [Idx, e1, Aug, sl_append]
    refine ⟨⟨hv0, by rw [fig_len]; split at hv1 <;> omega, by rw [fig_len]; omega⟩, by rw [sl_length, sl_length]; simp; omega, ?_⟩
    refine sq_skip ?_
    refine ⟨ds ++ [x], hp3, _, by simp [k1], by rw [List.getElem?_append_left (by omega)]; exact k2, ?_, ?_, hP3, by omega, rfl⟩
    · intro y hy
      rcases List.mem_append.mp hy with hy | hy
      · exact k3 y hy
      · cases List.mem_singleton.mp hy; exact hx1
    · intro z y hy
      rcases List.mem_append.mp hy with hy | hy
      · exact k4 z y hy
      · cases List.mem_singleton.mp hy; exact hd1 z
  · intro st1 hi
    obtain ⟨ds, hp2, o6, k1, k2, k3, k4, hP2, hl2, rfl⟩ := hi
    simp only [upItems, List.length_map, List.length_range] at k1
    simp only [vE, vT, vA, onLoc, onStr, onLst, onInt, onTup, onList, onB, Bin, small, goOn, retOf, turnEnd, List.map_cons, List.map_nil, List.append_nil, List.cons_append, List.nil_append, List.replicate, List.getElem?_cons_zero, List.getElem?_cons_succ, List.set_cons_zero, List.set_cons_succ, List.length_cons, List.length_nil, List.length_append, Nat.zero_add, Nat.reduceAdd, Nat.add_zero]
    refine sq_many ?_
    simp only [vE, vT, vA, onLoc, onStr, onLst, onInt, onTup, onList, onB, Bin, small, goOn, retOf, turnEnd, List.map_cons, List.map_nil, List.append_nil, List.cons_append, List.nil_append, List.replicate, List.getElem?_cons_zero, List.getElem?_cons_succ, List.set_cons_zero, List.set_cons_succ, List.length_cons, List.length_nil, List.length_append, Nat.zero_add, Nat.reduceAdd, Nat.add_zero]
    refine ⟨by omega, by omega, by omega, by omega, by omega, by omega, by omega, by omega, ?_⟩
    refine c_pick O (by omega) (by decide) hP2 fun v hp3 hv0 hv1 hP3 hl3 _ => ?_
    obtain ⟨bl, F, d, hB, hget⟩ := menu7 hv0 hv1
    have hget : [AV.tup [.str (PySem.Str.ofString ""), .str (PySem.Str.ofString "eof")], .tup [.str (PySem.Str.ofString " H"), .str (PySem.Str.ofString "ident")], .tup [.str (PySem.Str.ofString ".."), .str (PySem.Str.ofString "..")], .tup [.str (PySem.Str.ofString "ELSE"), .str (PySem.Str.ofString "ELSE")], .tup [.str (PySem.Str.ofString ";"), .str (PySem.Str.ofString ";")], .tup [.str (PySem.Str.ofString "G1"), .str (PySem.Str.ofString "ident")], .tup [.str (PySem.Str.ofString "x"), .str (PySem.Str.ofString "ident")]][v.toNat]? = some (.tup [.str (sl bl), .str F]) := hget
    simp only [Idx, seqOf]
    refine ⟨⟨hv0, by omega⟩, _, hget, ?_⟩
    simp only [vE, vT, vA, onLoc, onStr, onLst, onInt, onTup, onList, onB, Bin, small, goOn, retOf, turnEnd, List.map_cons, List.map_nil, List.append_nil, List.cons_append, List.nil_append, List.replicate, List.getElem?_cons_zero, List.getElem?_cons_succ, List.set_cons_zero, List.set_cons_succ, List.length_cons, List.length_nil, List.length_append, Nat.zero_add, Nat.reduceAdd, Nat.add_zero, setMany]
    exact ⟨trivial, lawA1 O hP3 (by omega) hB hE k2 k3 k4 (by omega)⟩
end
theorem body2 : Body2 := by
  intro G P hK hmt hct is hl
  have O : Ok G := ⟨⟨P, hK⟩, hmt, hct⟩
  unfold ir_law
  refine sq_set ?_
  simp only [vE, vT, vA, onLoc, onStr, onLst, onInt, onTup, onList, onB, Bin, small, goOn, retOf, turnEnd, List.map_cons, List.map_nil, List.append_nil, List.cons_append, List.nil_append, List.replicate, List.getElem?_cons_zero, List.getElem?_cons_succ, List.set_cons_zero, List.set_cons_succ, List.length_cons, List.length_nil, List.length_append, Nat.zero_add, Nat.reduceAdd, Nat.add_zero]
  refine c_pool O (is := is) (by omega) (by omega) fun hp1 hP1 hl1 _ => ?_
  have hP1 : PoolAt hp1 0 1 := hP1
  have hl1 : hp1.length = 2 := hl1
  refine sq_set ?_
  simp only [vE, vT, vA, onLoc, onStr, onLst, onInt, onTup, onList, onB, Bin, small, goOn, retOf, turnEnd, List.map_cons, List.map_nil, List.append_nil, List.cons_append, List.nil_append, List.replicate, List.getElem?_cons_zero, List.getElem?_cons_succ, List.set_cons_zero, List.set_cons_succ, List.length_cons, List.length_nil, List.length_append, Nat.zero_add, Nat.reduceAdd, Nat.add_zero]
  refine ⟨by rw [sizeLine_eq]; omega, ?_⟩
  refine c_pick O (by omega) (by decide) hP1 fun v hp2 hv0 hv1 hP2 hl2 _ => ?_
  obtain ⟨el, hE, hget⟩ := menu3 hv0 hv1
  simp only [Idx, seqOf]
  refine ⟨⟨hv0, by omega⟩, _, hget, ?_⟩
  refine sq_set ?_
  simp only [vE, vT, vA, onLoc, onStr, onLst, onInt, onTup, onList, onB, Bin, small, goOn, retOf, turnEnd, List.map_cons, List.map_nil, List.append_nil, List.cons_append, List.nil_append, List.replicate, List.getElem?_cons_zero, List.getElem?_cons_succ, List.set_cons_zero, List.set_cons_succ, List.length_cons, List.length_nil, List.length_append, Nat.zero_add, Nat.reduceAdd, Nat.add_zero]
  refine c_pick O (by omega) (by decide) hP2 fun c hp3 hc0 hc1 hP3 hl3 _ => ?_
  exact lawA O hP3 (by omega) hE hc0 hc1
end Mine
end
section
namespace Mine
set_option maxRecDepth 1000000 in
set_option maxHeartbeats 0 in
theorem left2 : Left2 := fun w => by
  kernel_rfl!
end Mine
end
section
namespace Mine
theorem holds : PySem.Challenge.rw_nu0329_02.Holds := en2 left2 body2
end Mine
end
set_option maxRecDepth 100000 in
set_option maxHeartbeats 8000000 in
theorem PySem.Challenge.cw_nu0329_02_holds : PySem.Challenge.rw_nu0329_02.Holds := by
  exact Mine.holds
