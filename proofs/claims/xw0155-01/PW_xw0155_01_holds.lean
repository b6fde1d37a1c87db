import PyProof.Rows.All
import Wide.All
import OpenK.AllK
import Wide.FinOn
import PySem.Challenge.RW_xw0155_01
set_option Elab.async false
set_option maxRecDepth 100000
set_option maxHeartbeats 8000000
set_option linter.unusedVariables false
set_option linter.unusedSectionVars false
set_option linter.unusedSimpArgs false
namespace Mine
open PySem PySem.Calls PyProof.Rows
section PMB1
/-! ## The pure side of values -/

/-- a plain tuple -/
noncomputable def PTup (h : Heap) (a : Addr) (items : Array Value) : Prop := ∃ n, h.get? a = some { cls := .type "tuple", data := .seq items n }
theorem PTup.is {h : Heap} {a : Addr} {items : Array Value} (x : PTup h a items) : IsTup h a items := let ⟨n, e⟩ := x; ⟨_, e, rfl, n, rfl⟩

mutual
/-- value v bears the pure datum d at heap h; no part of it lies among φ (the lists that may change) -/
inductive Rep (φ : List Addr) (h : Heap) : Value → PyData → Prop
  | none : Rep φ h .none .none
  | bool (b : Bool) : Rep φ h (.bool b) (.bool b)
  | int (i : Int) (t : Tok) : Rep φ h (.int i t) (.int i)
  | str (x : Str) (t : Tok) (hx : PyData.strOk x = true) : Rep φ h (.str x t) (.str x)
  | tuple {a : Addr} {vs : List Value} {ds : List PyData} (hn : a ∉ φ) (hl : PTup h a vs.toArray) (ha : RepAll φ h vs ds) : Rep φ h (.ref a) (.tuple ds)
  | list {a : Addr} {vs : List Value} {ds : List PyData} (hn : a ∉ φ) (hl : h.IsList a vs.toArray) (ha : RepAll φ h vs ds) : Rep φ h (.ref a) (.list ds)
inductive RepAll (φ : List Addr) (h : Heap) : List Value → List PyData → Prop
  | nil : RepAll φ h [] []
  | cons {v : Value} {d : PyData} {vs : List Value} {ds : List PyData} (hd : Rep φ h v d) (ht : RepAll φ h vs ds) : RepAll φ h (v :: vs) (d :: ds)
end

/-- what of h must stand in h' for data to stand -/
noncomputable def KeepSeq (φ : List Addr) (h h' : Heap) : Prop := ∀ b o vs n, b ∉ φ → h.get? b = some o → o.data = .seq vs n → h'.get? b = some o
/-- the lists that may change: no old one is added -/
noncomputable def Grow (φ : List Addr) (h : Heap) (φ' : List Addr) : Prop := ∀ b ∈ φ', b ∈ φ ∨ h.get? b = none

theorem isTup_keep {φ φ' : List Addr} {h h' : Heap} {a : Addr} {vs : Array Value} (k : KeepSeq φ h h') (g : Grow φ h φ') (hn : a ∉ φ) (x : PTup h a vs) : a ∉ φ' ∧ PTup h' a vs := by
  obtain ⟨n, ho⟩ := x
  refine ⟨fun hm => ?_, n, k a _ vs n hn ho rfl⟩
  rcases g a hm with h1 | h1
  · exact hn h1
  · rw [ho] at h1; cases h1
theorem isList_keep {φ φ' : List Addr} {h h' : Heap} {a : Addr} {vs : Array Value} (k : KeepSeq φ h h') (g : Grow φ h φ') (hn : a ∉ φ) (x : h.IsList a vs) : a ∉ φ' ∧ h'.IsList a vs := by
  obtain ⟨o, ho, hc, n, hd⟩ := x
  refine ⟨fun hm => ?_, o, k a o vs n hn ho hd, hc, n, hd⟩
  rcases g a hm with h1 | h1
  · exact hn h1
  · rw [ho] at h1; cases h1

mutual
theorem Rep.keep {φ φ' : List Addr} {h h' : Heap} (k : KeepSeq φ h h') (g : Grow φ h φ') : ∀ {v : Value} {d : PyData}, Rep φ h v d → Rep φ' h' v d
  | _, _, .none => .none
  | _, _, .bool b => .bool b
  | _, _, .int i t => .int i t
  | _, _, .str x t hx => .str x t hx
  | _, _, .tuple hn hl ha => .tuple (isTup_keep k g hn hl).1 (isTup_keep k g hn hl).2 (RepAll.keep k g ha)
  | _, _, .list hn hl ha => .list (isList_keep k g hn hl).1 (isList_keep k g hn hl).2 (RepAll.keep k g ha)
theorem RepAll.keep {φ φ' : List Addr} {h h' : Heap} (k : KeepSeq φ h h') (g : Grow φ h φ') : ∀ {vs : List Value} {ds : List PyData}, RepAll φ h vs ds → RepAll φ' h' vs ds
  | _, _, .nil => .nil
  | _, _, .cons hd ht => .cons (Rep.keep k g hd) (RepAll.keep k g ht)
end

mutual
theorem Rep.reads {φ : List Addr} {h : Heap} : ∀ {v : Value} {d : PyData}, Rep φ h v d → ∃ as, Reads h v d as
  | _, _, .none => ⟨_, .none⟩
  | _, _, .bool b => ⟨_, .bool b⟩
  | _, _, .int i t => ⟨_, .int i t⟩
  | _, _, .str x t _ => ⟨_, .str x t⟩
  | _, _, .tuple _ hl ha => by
    obtain ⟨o, ho, hc, n, hd⟩ := hl.is
    obtain ⟨as, ra⟩ := RepAll.reads ha
    exact ⟨_, reads_tuple_at ho hc hd (by simpa using ra)⟩
  | _, _, .list _ hl ha => by
    obtain ⟨o, ho, hc, n, hd⟩ := hl
    obtain ⟨as, ra⟩ := RepAll.reads ha
    exact ⟨_, reads_list_at ho hc hd (by simpa using ra)⟩
theorem RepAll.reads {φ : List Addr} {h : Heap} : ∀ {vs : List Value} {ds : List PyData}, RepAll φ h vs ds → ∃ as, ReadsAll h vs ds as
  | _, _, .nil => ⟨_, .nil⟩
  | _, _, .cons hd ht => by
    obtain ⟨as, r⟩ := Rep.reads hd
    obtain ⟨bs, q⟩ := RepAll.reads ht
    exact ⟨_, .cons r q⟩
end

mutual
theorem Rep.can {φ : List Addr} {h : Heap} : ∀ {v : Value} {d : PyData}, Rep φ h v d → d.canLay0 = true
  | _, _, .none => rfl
  | _, _, .bool b => rfl
  | _, _, .int i t => rfl
  | _, _, .str x t hx => by simpa [PyData.canLay0] using hx
  | _, _, .tuple _ _ ha => by simpa [PyData.canLay0] using RepAll.can ha
  | _, _, .list _ _ ha => by simpa [PyData.canLay0] using RepAll.can ha
theorem RepAll.can {φ : List Addr} {h : Heap} : ∀ {vs : List Value} {ds : List PyData}, RepAll φ h vs ds → PyData.canLayAll0 ds = true
  | _, _, .nil => rfl
  | _, _, .cons hd ht => by simp [PyData.canLayAll0, Rep.can hd, RepAll.can ht]
end
theorem RepAll.length {φ : List Addr} {h : Heap} {vs : List Value} {ds : List PyData} (r : RepAll φ h vs ds) : vs.length = ds.length := by
  induction ds generalizing vs with
  | nil => cases r; rfl
  | cons e ds ih => cases r with | cons hd ht => rw [List.length_cons, List.length_cons, ih ht]
theorem RepAll.append {φ : List Addr} {h : Heap} {vs ws : List Value} {ds es : List PyData} (r : RepAll φ h vs ds) (h2 : RepAll φ h ws es) : RepAll φ h (vs ++ ws) (ds ++ es) := by
  induction ds generalizing vs with
  | nil => cases r; exact h2
  | cons e ds ih => cases r with | cons hd ht => exact .cons hd (ih ht)
theorem RepAll.get {φ : List Addr} {h : Heap} {vs : List Value} {ds : List PyData} {i : Nat} {d : PyData} (r : RepAll φ h vs ds) (e1 : ds[i]? = some d) : ∃ v, vs[i]? = some v ∧ Rep φ h v d := by
  induction ds generalizing vs i with
  | nil => cases e1
  | cons e ds ih => cases r with
    | cons hd ht => cases i with
      | zero => cases e1; exact ⟨_, rfl, hd⟩
      | succ i => obtain ⟨v, hv, hr⟩ := ih (i := i) ht e1; exact ⟨v, hv, hr⟩
theorem RepAll.snoc {φ : List Addr} {h : Heap} {vs : List Value} {ds : List PyData} {d : PyData} (r : RepAll φ h vs (ds ++ [d])) : ∃ ws v, vs = ws ++ [v] ∧ RepAll φ h ws ds ∧ Rep φ h v d := by
  induction ds generalizing vs with
  | nil => cases r with | cons hd ht => cases ht; exact ⟨[], _, rfl, .nil, hd⟩
  | cons e ds ih => cases r with | cons hd ht => obtain ⟨ws, u, rfl, h1, h2⟩ := ih ht; exact ⟨_ :: ws, u, rfl, .cons hd h1, h2⟩
theorem RepAll.of_get {φ : List Addr} {h : Heap} {vs : List Value} {ds : List PyData} {i : Nat} {v : Value} (r : RepAll φ h vs ds) (hv : vs[i]? = some v) : ∃ d, ds[i]? = some d ∧ Rep φ h v d := by
  have hi : i < vs.length := (List.getElem?_eq_some_iff.mp hv).1
  have hj : i < ds.length := r.length ▸ hi
  obtain ⟨u, hu, hr⟩ := r.get (List.getElem?_eq_getElem hj)
  rw [hv] at hu; cases hu
  exact ⟨_, List.getElem?_eq_getElem hj, hr⟩

/-- a local's value: a datum, or the number of a list that may change -/
inductive LV where
  | dat (d : PyData)
  | mu (i : Nat)

inductive RepL (φ : List Addr) (h : Heap) : Value → LV → Prop
  | dat {v : Value} {d : PyData} (r : Rep φ h v d) : RepL φ h v (.dat d)
  | mu {a : Addr} {i : Nat} (e : φ[i]? = some a) : RepL φ h (.ref a) (.mu i)

theorem RepL.keep {φ φ' ext : List Addr} {h h' : Heap} (k : KeepSeq φ h h') (g : Grow φ h φ') (e : φ' = φ ++ ext) {v : Value} {l : LV} (r : RepL φ h v l) : RepL φ' h' v l := by
  cases r with
  | dat r => exact .dat (r.keep k g)
  | mu i => subst e; exact .mu (by rw [List.getElem?_append_left (List.getElem?_eq_some_iff.mp i).1]; exact i)

noncomputable abbrev Sto := List (List PyData)

/-- the store: the lists that may change, in order; g is the heap that the call found -/
structure StoR (g : Heap) (φ : List Addr) (h : Heap) (σ : Sto) : Prop where
  len : φ.length = σ.length
  nd : φ.Nodup
  item : ∀ (i : Nat) (a : Addr) (l : List PyData), φ[i]? = some a → σ[i]? = some l → ∃ vs, h.PlainList a vs.toArray ∧ RepAll φ h vs l
  off : ∀ a ∈ φ, g.get? a = none

theorem StoR.isSeq {g : Heap} {φ : List Addr} {h : Heap} {σ : Sto} (x : StoR g φ h σ) {a : Addr} (ha : a ∈ φ) : ∃ o vs n, h.get? a = some o ∧ o.data = .seq vs n := by
  obtain ⟨i, hi, rfl⟩ := List.getElem_of_mem ha
  have hs : i < σ.length := x.len ▸ hi
  obtain ⟨vs, ⟨n, ho⟩, _⟩ := x.item i _ _ (List.getElem?_eq_getElem hi) (List.getElem?_eq_getElem hs)
  exact ⟨_, _, n, ho, rfl⟩

/-- one step of an expression: everything but the store's lists stands -/
structure Step (g : Heap) (φ : List Addr) (σ' : Sto) (s : Shared) (φ' : List Addr) (s' : Shared) : Prop where
  same : ∃ h tk, s' = { s with heap := h, toks := tk }
  keep : ∀ b o, b ∉ φ → s.heap.get? b = some o → s'.heap.get? b = some o
  grow : Grow φ s.heap φ'
  pre : ∃ ext, φ' = φ ++ ext
  sto : StoR g φ' s'.heap σ'

theorem Step.keepSeq {g : Heap} {φ φ' : List Addr} {σ' : Sto} {s s' : Shared} (x : Step g φ σ' s φ' s') : KeepSeq φ s.heap s'.heap := fun b o _ _ hb ho _ => x.keep b o hb ho
theorem Step.rep {g : Heap} {φ φ' : List Addr} {σ' : Sto} {s s' : Shared} (x : Step g φ σ' s φ' s') {v : Value} {d : PyData} (r : Rep φ s.heap v d) : Rep φ' s'.heap v d := r.keep x.keepSeq x.grow
theorem Step.repAll {g : Heap} {φ φ' : List Addr} {σ' : Sto} {s s' : Shared} (x : Step g φ σ' s φ' s') {v : List Value} {d : List PyData} (r : RepAll φ s.heap v d) : RepAll φ' s'.heap v d := r.keep x.keepSeq x.grow
theorem Step.repL {g : Heap} {φ φ' : List Addr} {σ' : Sto} {s s' : Shared} (x : Step g φ σ' s φ' s') {v : Value} {d : LV} (r : RepL φ s.heap v d) : RepL φ' s'.heap v d := by
  obtain ⟨ext, e⟩ := x.pre
  exact r.keep x.keepSeq x.grow e

theorem Grow.trans {φ φ' φ'' : List Addr} {h h' : Heap} (g : Grow φ h φ') (g' : Grow φ' h' φ'') (k : ∀ b o, b ∉ φ → h.get? b = some o → h'.get? b = some o) : Grow φ h φ'' := by
  intro b hb
  rcases g' b hb with h1 | h1
  · exact g b h1
  · by_cases hm : b ∈ φ
    · exact .inl hm
    · refine .inr ?_
      cases e : h.get? b with
      | none => rfl
      | some o => rw [k b o hm e] at h1; cases h1
theorem Grow.not {φ φ' : List Addr} {h : Heap} (g : Grow φ h φ') {b : Addr} {o : Obj} (hb : b ∉ φ) (e : h.get? b = some o) : b ∉ φ' := fun hm => by
  rcases g b hm with h1 | h1
  · exact hb h1
  · rw [e] at h1; cases h1
theorem Step.trans {g : Heap} {φ φ' φ'' : List Addr} {σ' σ'' : Sto} {s s' s'' : Shared} (x : Step g φ σ' s φ' s') (y : Step g φ' σ'' s' φ'' s'') : Step g φ σ'' s φ'' s'' where
  same := by
    obtain ⟨h, tk, rfl⟩ := x.same
    obtain ⟨h', tk', rfl⟩ := y.same
    exact ⟨h', tk', rfl⟩
  keep := fun b o hb e => y.keep b o (x.grow.not hb e) (x.keep b o hb e)
  grow := x.grow.trans y.grow x.keep
  pre := by
    obtain ⟨e, rfl⟩ := x.pre
    obtain ⟨e', rfl⟩ := y.pre
    exact ⟨e ++ e', by rw [List.append_assoc]⟩
  sto := y.sto

/-- nothing of the store changes, nothing known is lost -/
theorem StoR.keeps {g : Heap} {φ : List Addr} {h h' : Heap} {σ : Sto} (x : StoR g φ h σ) (k : ∀ b o vs n, h.get? b = some o → o.data = .seq vs n → h'.get? b = some o) : StoR g φ h' σ where
  len := x.len
  nd := x.nd
  item := fun i a l e1 e2 => by
    obtain ⟨vs, ⟨n, ho⟩, hr⟩ := x.item i a l e1 e2
    exact ⟨vs, ⟨n, k _ _ _ _ ho rfl⟩, hr.keep (fun b o vs n _ e d => k b o vs n e d) fun b hb => .inl hb⟩
  off := x.off
theorem Step.of_keeps {g : Heap} {φ : List Addr} {σ : Sto} {s : Shared} {h' : Heap} {tk : Nat} (x : StoR g φ s.heap σ) (k : ∀ b o, s.heap.get? b = some o → h'.get? b = some o) : Step g φ σ s φ { s with heap := h', toks := tk } where
  same := ⟨_, _, rfl⟩
  keep := fun b o _ e => k b o e
  grow := fun b hb => .inl hb
  pre := ⟨[], by rw [List.append_nil]⟩
  sto := x.keeps fun b o _ _ e _ => k b o e
theorem Step.refl {g : Heap} {φ : List Addr} {σ : Sto} {s : Shared} (x : StoR g φ s.heap σ) : Step g φ σ s φ s := Step.of_keeps x fun _ _ e => e
theorem Step.tok {g : Heap} {φ : List Addr} {σ : Sto} {s : Shared} {tk : Nat} (x : StoR g φ s.heap σ) : Step g φ σ s φ { s with toks := tk } := Step.of_keeps x fun _ _ e => e
end PMB1
section PMB2
/-! ## Frames -/

noncomputable abbrev Loc := List (Str × LV)
inductive Get : Loc → Str → LV → Prop
  | here {x : Str} {v : LV} {ρ : Loc} : Get ((x, v) :: ρ) x v
  | there {x y : Str} {u v : LV} {ρ : Loc} (hn : y ≠ x) (h : Get ρ x v) : Get ((y, u) :: ρ) x v
inductive Put : Loc → Str → LV → Loc → Prop
  | nil {x : Str} {v : LV} : Put [] x v [(x, v)]
  | here {x : Str} {u v : LV} {ρ : Loc} : Put ((x, u) :: ρ) x v ((x, v) :: ρ)
  | there {x y : Str} {u v : LV} {ρ ρ' : Loc} (hn : y ≠ x) (h : Put ρ x v ρ') : Put ((y, u) :: ρ) x v ((y, u) :: ρ')

theorem Put.get {ρ ρ' : Loc} {x : Str} {v : LV} (p : Put ρ x v ρ') : ∀ {y : Str} {u : LV}, Get ρ' y u → (y = x ∧ u = v) ∨ (y ≠ x ∧ Get ρ y u) := by
  induction p with
  | nil => intro y u h; cases h with
    | here => exact .inl ⟨rfl, rfl⟩
    | there hn h => cases h
  | here => intro y u h; cases h with
    | here => exact .inl ⟨rfl, rfl⟩
    | there hn h => exact .inr ⟨Ne.symm hn, .there hn h⟩
  | there hn _ ih => intro y u h; cases h with
    | here => exact .inr ⟨hn, .here⟩
    | there hn' h => rcases ih h with ⟨e1, e2⟩ | ⟨e1, e2⟩
                     · exact .inl ⟨e1, e2⟩
                     · exact .inr ⟨e1, .there hn' e2⟩

/-- the name x of the frame holds v -/
noncomputable def Bound (env : Env) (h : Heap) (x : Str) (v : Value) : Prop :=
  (env.kindOf x = some .local ∧ ∃ m, h.Ns env.locals m ∧ m x = some v) ∨ (env.kindOf x = some .cell ∧ ∃ c, env.cells.lookup x = some c ∧ h.IsCell c (some v))

/-- what stands fixed: the world, the heap that the law's call found, and what is known of it -/
structure Cx where
  prog : Program
  w : World
  g : Heap
  mg : Str → Option Value
  mb : Str → Option Value
  recs : List DefRec
  gns : g.Ns mainGlobals mg
  bns : g.Ns builtinsNs mb
  nolim : g.NoLimit
  hdef : ∀ d ∈ recs, ∃ a o pm code doc, mg d.name = some (.ref a) ∧ g.get? a = some o ∧ o.data = .func (docDef d.name d.params d.body d.scope pm code doc) ∧ g.CodeRec code d.name
  hfree : ∀ x ∈ (["isinstance", "tuple", "len", "max", "int", "any", "range"] : List Str), mg x = none ∧ mb x = bootBuiltins x
  hplaces : ∃ v, mg "PLACES" = some v ∧ Rep [] g v (.tuple [.str "local", .str "deref", .str "field", .str "index"])

/-- an address is the frame's own -/
noncomputable def Own (env : Env) (b : Addr) : Prop := b = env.locals ∨ ∃ n, env.cells.lookup n = some b

structure FrOk (K : Cx) (env : Env) (h : Heap) : Prop where
  kind : env.scope.kind = .function
  globals : env.globals = mainGlobals
  builtins : env.builtins = builtinsNs
  ns : ∃ m, h.Ns env.locals m
  cells : ∀ n c, env.cells.lookup n = some c → ∃ v, h.IsCell c v
  off : ∀ b, Own env b → K.g.get? b = none
  cellk : ∀ x, env.kindOf x = some .cell → ∃ c, env.cells.lookup x = some c
  inj : ∀ n n' c, env.cells.lookup n = some c → env.cells.lookup n' = some c → n = n'

structure St (K : Cx) (env : Env) (ρ : Loc) (φ : List Addr) (σ : Sto) (s : Shared) : Prop where
  fr : FrOk K env s.heap
  loc : ∀ x lv, Get ρ x lv → ∃ v, Bound env s.heap x v ∧ RepL φ s.heap v lv
  sto : StoR K.g φ s.heap σ
  gr : ∀ b o, K.g.get? b = some o → s.heap.get? b = some o

theorem ns_notSeq {h : Heap} {L : Addr} {m : Str → Option Value} (n : h.Ns L m) {o : Obj} {vs : Array Value} {k : Nat} (e : h.get? L = some o) (d : o.data = .seq vs k) : False := by
  obtain ⟨o', es, ep, ho, hd, _⟩ := n
  rw [e] at ho; cases ho; rw [d] at hd; cases hd
theorem cell_notSeq {h : Heap} {c : Addr} {v : Option Value} (n : h.IsCell c v) {o : Obj} {vs : Array Value} {k : Nat} (e : h.get? c = some o) (d : o.data = .seq vs k) : False := by
  obtain ⟨o', ho, hd⟩ := n
  rw [e] at ho; cases ho; rw [d] at hd; cases hd
theorem own_notSeq {K : Cx} {env : Env} {h : Heap} (f : FrOk K env h) {b : Addr} (w : Own env b) {o : Obj} {vs : Array Value} {k : Nat} (e : h.get? b = some o) (d : o.data = .seq vs k) : False := by
  rcases w with rfl | ⟨n, hn⟩
  · obtain ⟨m, hm⟩ := f.ns; exact ns_notSeq hm e d
  · obtain ⟨v, hv⟩ := f.cells n b hn; exact cell_notSeq hv e d
theorem own_notSto {K : Cx} {env : Env} {h : Heap} {φ : List Addr} {σ : Sto} (f : FrOk K env h) (x : StoR K.g φ h σ) {b : Addr} (w : Own env b) : b ∉ φ := fun hm => by
  obtain ⟨o, vs, n, ho, hd⟩ := x.isSeq hm
  exact own_notSeq f w ho hd

theorem FrOk.keep {K : Cx} {env : Env} {h h' : Heap} (f : FrOk K env h) (k : ∀ b o, Own env b → h.get? b = some o → h'.get? b = some o) : FrOk K env h' where
  kind := f.kind
  globals := f.globals
  builtins := f.builtins
  ns := by
    obtain ⟨m, o, es, ep, ho, r⟩ := f.ns
    exact ⟨m, o, es, ep, k _ _ (.inl rfl) ho, r⟩
  cells := fun n c hm => by
    obtain ⟨v, o, ho, hd⟩ := f.cells n c hm
    exact ⟨v, o, k _ _ (.inr ⟨n, hm⟩) ho, hd⟩
  off := f.off
  cellk := f.cellk
  inj := f.inj
theorem Bound.keep {env : Env} {h h' : Heap} (k : ∀ b o, Own env b → h.get? b = some o → h'.get? b = some o) {x : Str} {v : Value} (b : Bound env h x v) : Bound env h' x v := by
  rcases b with ⟨hk, m, ⟨o, es, ep, ho, r⟩, hm⟩ | ⟨hk, c, hc, o, ho, hd⟩
  · exact .inl ⟨hk, m, ⟨o, es, ep, k _ _ (.inl rfl) ho, r⟩, hm⟩
  · exact .inr ⟨hk, c, hc, o, k _ _ (.inr ⟨x, hc⟩) ho, hd⟩

theorem St.step {K : Cx} {env : Env} {ρ : Loc} {φ φ' : List Addr} {σ σ' : Sto} {s s' : Shared} (x : St K env ρ φ σ s) (y : Step K.g φ σ' s φ' s') : St K env ρ φ' σ' s' where
  fr := x.fr.keep fun b o hb e => y.keep b o (own_notSto x.fr x.sto hb) e
  loc := fun z lv hz => by
    obtain ⟨v, hb, hr⟩ := x.loc z lv hz
    exact ⟨v, hb.keep fun b o hb e => y.keep b o (own_notSto x.fr x.sto hb) e, y.repL hr⟩
  sto := y.sto
  gr := fun b o e => y.keep b o (fun hm => by rw [x.sto.off b hm] at e; cases e) (x.gr b o e)

/-- less may be known of the names -/
theorem St.forget {K : Cx} {env : Env} {ρ ρ' : Loc} {φ : List Addr} {σ : Sto} {s : Shared} (x : St K env ρ φ σ s) (h : ∀ y u, Get ρ' y u → Get ρ y u) : St K env ρ' φ σ s :=
  ⟨x.fr, fun y u hy => x.loc y u (h y u hy), x.sto, x.gr⟩

structure Room (n : Nat) (A : Around) : Prop where
  hh : A.handled = none
  hd : A.depth + n < recursionLimit
  hu : A.units + 10 * n + 200 < cLine
theorem Room.le {n m : Nat} {A : Around} (r : Room n A) (h : m ≤ n) : Room m A := ⟨r.hh, by have := r.hd; omega, by have := r.hu; omega⟩

/-- a step in which the addresses X may change besides the store's -/
structure StepX (X : Addr → Prop) (φ : List Addr) (s : Shared) (φ' : List Addr) (s' : Shared) : Prop where
  same : ∃ h tk, s' = { s with heap := h, toks := tk }
  keep : ∀ b o, b ∉ φ → ¬ X b → s.heap.get? b = some o → s'.heap.get? b = some o
  grow : Grow φ s.heap φ'
  pre : ∃ ext, φ' = φ ++ ext
  own : ∀ b, X b → b ∉ φ → b ∉ φ'

theorem StepX.trans {X : Addr → Prop} {φ φ' φ'' : List Addr} {s s' s'' : Shared} (x : StepX X φ s φ' s') (y : StepX X φ' s' φ'' s'') : StepX X φ s φ'' s'' where
  same := by
    obtain ⟨h, tk, rfl⟩ := x.same
    obtain ⟨h', tk', rfl⟩ := y.same
    exact ⟨h', tk', rfl⟩
  keep := fun b o hb ho e => y.keep b o (x.grow.not hb e) ho (x.keep b o hb ho e)
  grow := by
    intro b hb
    rcases y.grow b hb with h1 | h1
    · exact x.grow b h1
    · by_cases hm : b ∈ φ
      · exact .inl hm
      · refine .inr ?_
        cases e : s.heap.get? b with
        | none => rfl
        | some o =>
          by_cases ho : X b
          · exact absurd hb (y.own b ho (x.own b ho hm))
          · rw [x.keep b o hm ho e] at h1; cases h1
  pre := by
    obtain ⟨e, rfl⟩ := x.pre
    obtain ⟨e', rfl⟩ := y.pre
    exact ⟨e ++ e', by rw [List.append_assoc]⟩
  own := fun b hb hm => y.own b hb (x.own b hb hm)
theorem StepX.refl {X : Addr → Prop} {φ : List Addr} {s : Shared} : StepX X φ s φ s :=
  ⟨⟨_, _, rfl⟩, fun _ _ _ _ e => e, fun _ hb => .inl hb, ⟨[], by rw [List.append_nil]⟩, fun _ _ h => h⟩
theorem StepX.weaken {X Y : Addr → Prop} {φ φ' : List Addr} {s s' : Shared} (x : StepX X φ s φ' s') (h : ∀ b, X b → Y b) (hy : ∀ b, Y b → b ∉ φ → b ∉ φ') : StepX Y φ s φ' s' :=
  ⟨x.same, fun b o hb ho e => x.keep b o hb (fun hx => ho (h b hx)) e, x.grow, x.pre, hy⟩
theorem StepX.weaken0 {X Y : Addr → Prop} {φ : List Addr} {s s' : Shared} (x : StepX X φ s φ s') (h : ∀ b, X b → Y b) : StepX Y φ s φ s' := x.weaken h fun _ _ h => h
theorem Step.toX {g : Heap} {X : Addr → Prop} {φ φ' : List Addr} {σ' : Sto} {s s' : Shared} (y : Step g φ σ' s φ' s') (hx : ∀ b, X b → b ∉ φ → b ∉ φ') : StepX X φ s φ' s' :=
  ⟨y.same, fun b o hb _ e => y.keep b o hb e, y.grow, y.pre, hx⟩

/-- one step of a statement: everything but the store's lists and the frame's own stands -/
noncomputable abbrev StepS (K : Cx) (env : Env) : List Addr → Shared → List Addr → Shared → Prop := StepX (Own env)
theorem St.live {K : Cx} {env : Env} {ρ : Loc} {φ : List Addr} {σ : Sto} {s : Shared} (x : St K env ρ φ σ s) {b : Addr} (hb : Own env b) : ∃ o, s.heap.get? b = some o := by
  rcases hb with rfl | ⟨n, hn⟩
  · obtain ⟨m, o, _, _, ho, _⟩ := x.fr.ns; exact ⟨o, ho⟩
  · obtain ⟨v, o, ho, _⟩ := x.fr.cells n b hn; exact ⟨o, ho⟩
theorem Step.toS {K : Cx} {env : Env} {ρ : Loc} {φ φ' : List Addr} {σ σ' : Sto} {s s' : Shared} (x : St K env ρ φ σ s) (y : Step K.g φ σ' s φ' s') : StepS K env φ s φ' s' :=
  y.toX fun b hb hm => by
    obtain ⟨o, ho⟩ := x.live hb
    exact y.grow.not hm ho

inductive RepLs (φ : List Addr) (h : Heap) : List Value → List LV → Prop
  | nil : RepLs φ h [] []
  | cons {v : Value} {l : LV} {vs : List Value} {ls : List LV} (hd : RepL φ h v l) (ht : RepLs φ h vs ls) : RepLs φ h (v :: vs) (l :: ls)
theorem Step.repLs {g : Heap} {φ φ' : List Addr} {σ' : Sto} {s s' : Shared} (x : Step g φ σ' s φ' s') : ∀ {vs : List Value} {ls : List LV}, RepLs φ s.heap vs ls → RepLs φ' s'.heap vs ls
  | _, _, .nil => .nil
  | _, _, .cons hd ht => .cons (x.repL hd) (x.repLs ht)
/-- how a block ends, over pure data -/
inductive Fl where
  | next | brk | cont
  | ret (r : LV)
inductive FlR (φ : List Addr) (h : Heap) : Flow → Fl → Prop
  | next : FlR φ h .next .next
  | brk : FlR φ h .brk .brk
  | cont : FlR φ h .cont .cont
  | ret {v : Value} {r : LV} (x : RepL φ h v r) : FlR φ h (.ret v) (.ret r)

/-- the expression gives r, the store becomes σ' -/
noncomputable def EvE (K : Cx) (n : Nat) (env : Env) (ρ : Loc) (σ : Sto) (e : Expr) (r : LV) (σ' : Sto) : Prop :=
  ∀ (A : Around) (φ : List Addr) (s : Shared) (Q : Value → Shared → Prop) (E : Value → Shared → Prop), Room n A → St K env ρ φ σ s →
    (∀ v φ' s', Step K.g φ σ' s φ' s' → RepL φ' s'.heap v r → Q v s') → wpAny (model K.prog K.w) A (eval e env) Q E s
/-- its truth -/
noncomputable def EvT (K : Cx) (n : Nat) (env : Env) (ρ : Loc) (σ : Sto) (e : Expr) (r : Bool) (σ' : Sto) : Prop :=
  ∀ (A : Around) (φ : List Addr) (s : Shared) (Q : Bool → Shared → Prop) (E : Value → Shared → Prop), Room n A → St K env ρ φ σ s →
    (∀ φ' s', Step K.g φ σ' s φ' s' → Q r s') → wpAny (model K.prog K.w) A (isTrue e env (eval e env)) Q E s
noncomputable def EvS (K : Cx) (n : Nat) (env : Env) (ρ : Loc) (σ : Sto) (st : Stmt) (f : Fl) (ρ' : Loc) (σ' : Sto) : Prop :=
  ∀ (A : Around) (φ : List Addr) (s : Shared) (Q : Flow → Shared → Prop) (E : Value → Shared → Prop), Room n A → St K env ρ φ σ s →
    (∀ v φ' s', StepS K env φ s φ' s' → St K env ρ' φ' σ' s' → FlR φ' s'.heap v f → Q v s') → wpAny (model K.prog K.w) A (exec st env) Q E s
noncomputable def EvB (K : Cx) (n : Nat) (env : Env) (ρ : Loc) (σ : Sto) (st : List Stmt) (f : Fl) (ρ' : Loc) (σ' : Sto) : Prop :=
  ∀ (A : Around) (φ : List Addr) (s : Shared) (Q : Flow → Shared → Prop) (E : Value → Shared → Prop), Room n A → St K env ρ φ σ s →
    (∀ v φ' s', StepS K env φ s φ' s' → St K env ρ' φ' σ' s' → FlR φ' s'.heap v f → Q v s') → wpAny (model K.prog K.w) A (execs st env) Q E s
/-- the call of the value at the def's name -/
noncomputable def EvC (K : Cx) (n : Nat) (name : Str) (args : List LV) (σ : Sto) (r : LV) (σ' : Sto) : Prop :=
  ∀ (A : Around) (φ : List Addr) (s : Shared) (f : Addr) (vs : List Value) (Q : Value → Shared → Prop) (E : Value → Shared → Prop), Room n A → K.mg name = some (.ref f) →
    StoR K.g φ s.heap σ → (∀ b o, K.g.get? b = some o → s.heap.get? b = some o) → RepLs φ s.heap vs args →
    (∀ v φ' s', Step K.g φ σ' s φ' s' → RepL φ' s'.heap v r → Q v s') → wpAny (model K.prog K.w) A (call (.ref f) vs) Q E s
end PMB2
section PMB3
/-! ## Expressions: the nodes -/
section
variable {K : Cx} {n : Nat} {env : Env} {ρ : Loc} {σ σ₁ σ₂ σ' : Sto}

theorem EvE.int {i : Int} {k : Nat} {pos : Pos} : EvE K n env ρ σ (.Constant (.int i) k pos) (.dat (.int i)) σ :=
  fun _ _ _ _ _ _ x h => wpAny_Constant_int (h _ _ _ (Step.tok x.sto) (.dat (.int _ _)))
theorem EvE.str {y : Str} {k : Nat} {pos : Pos} (hy : PyData.strOk y = true := by decide +kernel) : EvE K n env ρ σ (.Constant (.str y) k pos) (.dat (.str y)) σ :=
  fun _ _ _ _ _ _ x h => Constant_str (h _ _ _ (Step.tok x.sto) (.dat (.str _ _ hy)))
theorem EvE.bool {b : Bool} {k : Nat} {pos : Pos} : EvE K n env ρ σ (.Constant (.bool b) k pos) (.dat (.bool b)) σ :=
  fun _ _ _ _ _ _ x h => Constant_bool (h _ _ _ (Step.refl x.sto) (.dat (.bool _)))
theorem EvE.none {k : Nat} {pos : Pos} : EvE K n env ρ σ (.Constant .none k pos) (.dat .none) σ :=
  fun _ _ _ _ _ _ x h => Constant_none (h _ _ _ (Step.refl x.sto) (.dat .none))

theorem wp_bound {M : Model} {A : Around} {E : Value → Shared → Prop} {s : Shared} {Q : Value → Shared → Prop} {x : Str} {pos : Pos} {v : Value} (hk : env.scope.kind = .function) (b : Bound env s.heap x v) (h : Q v s)
    (hd : (x == ("__debug__" : Str)) = false) : wpAny M A (eval (.Name x pos) env) Q E s := by
  rcases b with ⟨hl, m, hm, hv⟩ | ⟨hl, c, hc, hv⟩
  · exact wpAny_Name (wpAny_loadName_local hk hl hm hv h) hd
  · exact wpAny_Name (wpAny_loadName_cell hk hl hc hv h) hd
theorem EvE.name {x : Str} {pos : Pos} {v : LV} (hg : Get ρ x v) (hd : (x == ("__debug__" : Str)) = false := by decide) : EvE K n env ρ σ (.Name x pos) v σ :=
  fun _ _ _ _ _ _ y h => by
    obtain ⟨u, hb, hr⟩ := y.loc x v hg
    exact wp_bound y.fr.kind hb (h _ _ _ (Step.refl y.sto) hr) hd

/-- the expressions of a display or of a call, in order -/
noncomputable def EvA (K : Cx) (n : Nat) (env : Env) (ρ : Loc) (σ : Sto) (es : List Expr) (rs : List LV) (σ' : Sto) : Prop :=
  ∀ (A : Around) (φ : List Addr) (s : Shared) (pos : Pos) (Q : List Value → Shared → Prop) (E : Value → Shared → Prop), Room n A → St K env ρ φ σ s →
    (∀ vs φ' s', Step K.g φ σ' s φ' s' → RepLs φ' s'.heap vs rs → Q vs s') → wpAny (model K.prog K.w) A (spliced (backTo pos (starEach es env))) Q E s
theorem EvA.nil : EvA K n env ρ σ [] [] σ := fun _ _ _ _ _ _ _ x h => spliced_none (h _ _ _ (Step.refl x.sto) .nil)
theorem EvA.cons {e : Expr} {es : List Expr} {r : LV} {rs : List LV} (he : EvE K n env ρ σ e r σ₁) (hs : EvA K n env ρ σ₁ es rs σ')
    (h0 : starEach (e :: es) env = (false, eval e env) :: starEach es env := by with_unfolding_all rfl) : EvA K n env ρ σ (e :: es) (r :: rs) σ' :=
  fun A φ s pos Q E R x h => spliced_more (he A φ s _ E R x fun v φ₁ s₁ y₁ r₁ => hs A φ₁ s₁ pos _ E R (x.step y₁) fun vs φ₂ s₂ y₂ r₂ => h _ _ _ (y₁.trans y₂) (.cons (y₂.repL r₁) r₂)) h0

/-- all of them data -/
inductive Dats : List LV → List PyData → Prop
  | nil : Dats [] []
  | cons {d : PyData} {ls : List LV} {ds : List PyData} (h : Dats ls ds) : Dats (.dat d :: ls) (d :: ds)
theorem RepLs.dats {φ : List Addr} {h : Heap} {vs : List Value} {ls : List LV} {ds : List PyData} (r : RepLs φ h vs ls) (k : Dats ls ds) : RepAll φ h vs ds := by
  induction k generalizing vs with
  | nil => cases r; exact .nil
  | cons _ ih => cases r with | cons hd hr => cases hd with | dat hd => exact .cons hd (ih hr)
theorem RepLs.length {φ : List Addr} {h : Heap} {vs : List Value} {ls : List LV} (r : RepLs φ h vs ls) : vs.length = ls.length := by
  induction r with
  | nil => rfl
  | cons _ _ ih => rw [List.length_cons, List.length_cons, ih]
theorem Dats.length {ls : List LV} {ds : List PyData} (k : Dats ls ds) : ls.length = ds.length := by
  induction k with
  | nil => rfl
  | cons _ ih => rw [List.length_cons, List.length_cons, ih]

theorem get_none_ge {h : Heap} {a : Addr} (ha : h.objs.size ≤ a) : h.get? a = none := by
  cases e : h.get? a with
  | none => rfl
  | some o => exact absurd (Heap.lt_size e) (Nat.not_lt.mpr ha)
theorem StoR.lt {g : Heap} {φ : List Addr} {h : Heap} {σ : Sto} (x : StoR g φ h σ) {a : Addr} (ha : a ∈ φ) : a < h.objs.size := by
  obtain ⟨o, _, _, ho, _⟩ := x.isSeq ha
  exact Heap.lt_size ho

/-- a new object that is no part of the store -/
theorem Step.push {g : Heap} {φ : List Addr} {σ : Sto} {s : Shared} (o : Obj) {tk : Nat} (x : StoR g φ s.heap σ) : Step g φ σ s φ { s with heap := s.heap.push o, toks := tk } :=
  Step.of_keeps x fun _ _ e => Heap.get?_push_of_some _ e
theorem size_notIn {g : Heap} {φ : List Addr} {σ : Sto} {h : Heap} (x : StoR g φ h σ) : h.objs.size ∉ φ := fun hm => Nat.lt_irrefl _ (x.lt hm)

theorem newTuple_ev {g : Heap} {M : Model} {A : Around} {E : Value → Shared → Prop} {s : Shared} {Q : Value → Shared → Prop} {φ : List Addr} {σ : Sto} {vs : List Value} {ds : List PyData} (x : StoR g φ s.heap σ) (r : RepAll φ s.heap vs ds) (hsz : ds.length ≤ sizeLine)
    (h : ∀ v s', Step g φ σ s φ s' → Rep φ s'.heap v (.tuple ds) → Q v s') : wpAny M A (newTuple vs) Q E s := by
  refine wpAny_newObj_type (h _ _ (Step.push _ x (tk := s.toks)) ?_) (by show vs.toArray.size ≤ sizeLine; rw [List.size_toArray, r.length]; exact hsz)
  exact .tuple (size_notIn x) ⟨_, Heap.get?_push_size _ rfl⟩ (r.keep (fun _ _ _ _ _ e _ => Heap.get?_push_of_some _ e) fun _ hb => .inl hb)
theorem newList_ev {g : Heap} {M : Model} {A : Around} {E : Value → Shared → Prop} {s : Shared} {Q : Value → Shared → Prop} {φ : List Addr} {σ : Sto} {vs : List Value} {ds : List PyData} (x : StoR g φ s.heap σ) (r : RepAll φ s.heap vs ds) (hsz : ds.length ≤ sizeLine)
    (h : ∀ v s', Step g φ σ s φ s' → Rep φ s'.heap v (.list ds) → Q v s') : wpAny M A (newList vs) Q E s := by
  refine wpAny_newObj_type (h _ _ (Step.push _ x (tk := s.toks)) ?_) (by show vs.toArray.size ≤ sizeLine; rw [List.size_toArray, r.length]; exact hsz)
  exact .list (size_notIn x) ⟨_, Heap.get?_push_size _ rfl, rfl, _, rfl⟩ (r.keep (fun _ _ _ _ _ e _ => Heap.get?_push_of_some _ e) fun _ hb => .inl hb)
/-- a list that may change: it goes into the store -/
theorem newMu_ev {g : Heap} {M : Model} {A : Around} {E : Value → Shared → Prop} {s : Shared} {Q : Value → Shared → Prop} {φ : List Addr} {σ : Sto} {vs : List Value} {ds : List PyData} (x : StoR g φ s.heap σ) (gr : ∀ b o, g.get? b = some o → s.heap.get? b = some o) (r : RepAll φ s.heap vs ds) (hsz : ds.length ≤ sizeLine)
    (h : ∀ v φ' s', Step g φ (σ ++ [ds]) s φ' s' → RepL φ' s'.heap v (.mu σ.length) → Q v s') : wpAny M A (newList vs) Q E s := by
  have ks : KeepSeq φ s.heap (s.heap.push { cls := .type "list", data := .seq vs.toArray }) := fun _ _ _ _ _ e _ => Heap.get?_push_of_some _ e
  have gw : Grow φ s.heap (φ ++ [s.heap.objs.size]) := fun b hb => by
    rcases List.mem_append.mp hb with hb | hb
    · exact .inl hb
    · rw [List.mem_singleton.mp hb]; exact .inr (get_none_ge (Nat.le_refl _))
  refine wpAny_newObj_type (h _ (φ ++ [s.heap.objs.size]) _ ⟨⟨_, s.toks, rfl⟩, fun b o _ e => Heap.get?_push_of_some _ e, gw, ⟨_, rfl⟩, ?_⟩ ?_) (by show vs.toArray.size ≤ sizeLine; rw [List.size_toArray, r.length]; exact hsz)
  · refine ⟨by rw [List.length_append, List.length_append, x.len]; rfl, ?_, fun i a l e1 e2 => ?_, fun a ha => ?_⟩
    · exact List.nodup_append.mpr ⟨x.nd, List.nodup_cons.mpr ⟨by simp, List.nodup_nil⟩, fun a ha b hb => by rw [List.mem_singleton.mp hb]; rintro rfl; exact size_notIn x ha⟩
    · by_cases hi : i < φ.length
      · rw [List.getElem?_append_left hi] at e1
        rw [List.getElem?_append_left (x.len ▸ hi)] at e2
        obtain ⟨us, ⟨k, ho⟩, hr⟩ := x.item i a l e1 e2
        exact ⟨us, ⟨k, Heap.get?_push_of_some _ ho⟩, hr.keep ks gw⟩
      · rw [List.getElem?_append_right (Nat.not_lt.mp hi)] at e1
        rw [List.getElem?_append_right (x.len ▸ Nat.not_lt.mp hi), ← x.len] at e2
        cases hj : i - φ.length with
        | zero =>
          rw [hj] at e1 e2
          simp at e1 e2
          subst e1 e2
          exact ⟨vs, ⟨_, Heap.get?_push_size _ rfl⟩, r.keep ks gw⟩
        | succ j => rw [hj] at e1; simp at e1
    · rcases List.mem_append.mp ha with ha | ha
      · exact x.off a ha
      · rw [List.mem_singleton.mp ha]
        cases e : g.get? s.heap.objs.size with
        | none => rfl
        | some o => have := gr _ _ e; rw [get_none_ge (Nat.le_refl _)] at this; cases this
  · exact .mu (by rw [List.getElem?_append_right (by rw [x.len]; exact Nat.le_refl _), x.len, Nat.sub_self]; rfl)

theorem EvE.tuple {es : List Expr} {k : Nat} {pos : Pos} {ls : List LV} {ds : List PyData} (h : EvA K n env ρ σ es ls σ') (hd : Dats ls ds) (hsz : ds.length ≤ sizeLine := by decide) : EvE K n env ρ σ (.Tuple es k pos) (.dat (.tuple ds)) σ' :=
  fun A φ s Q E R x hQ => Tuple_ (h A φ s pos _ E R x fun vs φ₁ s₁ y₁ r₁ => newTuple_ev y₁.sto (r₁.dats hd) hsz fun v s₂ y₂ r₂ => hQ v φ₁ s₂ (y₁.trans y₂) (.dat r₂))
theorem EvE.list {es : List Expr} {pos : Pos} {ls : List LV} {ds : List PyData} (h : EvA K n env ρ σ es ls σ') (hd : Dats ls ds) (hsz : ds.length ≤ sizeLine := by decide) : EvE K n env ρ σ (.List es pos) (.dat (.list ds)) σ' :=
  fun A φ s Q E R x hQ => List_ (h A φ s pos _ E R x fun vs φ₁ s₁ y₁ r₁ => newList_ev y₁.sto (r₁.dats hd) hsz fun v s₂ y₂ r₂ => hQ v φ₁ s₂ (y₁.trans y₂) (.dat r₂))
theorem EvE.listMu {es : List Expr} {pos : Pos} {ls : List LV} {ds : List PyData} (h : EvA K n env ρ σ es ls σ') (hd : Dats ls ds) (hsz : ds.length ≤ sizeLine := by decide) : EvE K n env ρ σ (.List es pos) (.mu σ'.length) (σ' ++ [ds]) :=
  fun A φ s Q E R x hQ => List_ (h A φ s pos _ E R x fun vs φ₁ s₁ y₁ r₁ => newMu_ev y₁.sto (x.step y₁).gr (r₁.dats hd) hsz fun v φ₂ s₂ y₂ r₂ => hQ v φ₂ s₂ (y₁.trans y₂) r₂)

/-- a binary operation on two data -/
noncomputable def BinR (K : Cx) (n : Nat) (op : Operator) (a b r : PyData) : Prop :=
  ∀ (A : Around) (φ : List Addr) (σ : Sto) (s : Shared) (u v : Value) (Q : Value → Shared → Prop) (E : Value → Shared → Prop), Room n A → StoR K.g φ s.heap σ → (∀ b o, K.g.get? b = some o → s.heap.get? b = some o) → Rep φ s.heap u a → Rep φ s.heap v b →
    (∀ v s', Step K.g φ σ s φ s' → Rep φ s'.heap v r → Q v s') → wpAny (model K.prog K.w) A (binaryOp op u v) Q E s
theorem EvE.bin {l r : Expr} {op : Operator} {pos : Pos} {a b c : PyData} (h₁ : EvE K n env ρ σ l (.dat a) σ₁) (h₂ : EvE K n env ρ σ₁ r (.dat b) σ') (ho : BinR K n op a b c) : EvE K n env ρ σ (.BinOp l op r pos) (.dat c) σ' :=
  fun A φ s Q E R x hQ => wpAny_BinOp (h₁ A φ s _ E R x fun u φ₁ s₁ y₁ r₁ => h₂ A φ₁ s₁ _ E R (x.step y₁) fun v φ₂ s₂ y₂ r₂ => by
    cases r₁ with
    | dat r₁ => cases r₂ with
      | dat r₂ => exact ho A φ₂ σ' s₂ u v _ E R y₂.sto (x.step (y₁.trans y₂)).gr (y₂.rep r₁) r₂ fun v s₃ y₃ r₃ => hQ v φ₂ s₃ ((y₁.trans y₂).trans y₃) (.dat r₃))

/-- a comparison of two data -/
noncomputable def CmpR (K : Cx) (n : Nat) (op : CmpOp) (a b : PyData) (r : Bool) : Prop :=
  ∀ (A : Around) (φ : List Addr) (σ : Sto) (s : Shared) (u v : Value) (Q : Value → Shared → Prop) (E : Value → Shared → Prop), Room n A → StoR K.g φ s.heap σ → Rep φ s.heap u a → Rep φ s.heap v b →
    (∀ s', Step K.g φ σ s φ s' → Q (.bool r) s') → wpAny (model K.prog K.w) A (compareOp op u v) Q E s
theorem EvE.cmp {l r : Expr} {op : CmpOp} {pos : Pos} {a b : PyData} {c : Bool} (h₁ : EvE K n env ρ σ l (.dat a) σ₁) (h₂ : EvE K n env ρ σ₁ r (.dat b) σ') (ho : CmpR K n op a b c) (hm : behindInMarks op r = false := by with_unfolding_all rfl) :
    EvE K n env ρ σ (.Compare l [op] [r] pos) (.dat (.bool c)) σ' :=
  fun A φ s Q E R x hQ => wpAny_Compare1 (h₁ A φ s _ E R x fun u φ₁ s₁ y₁ r₁ => h₂ A φ₁ s₁ _ E R (x.step y₁) fun v φ₂ s₂ y₂ r₂ => by
    cases r₁ with
    | dat r₁ => cases r₂ with
      | dat r₂ => exact ho A φ₂ σ' s₂ u v _ E R y₂.sto (y₂.rep r₁) r₂ fun s₃ y₃ => hQ _ φ₂ s₃ ((y₁.trans y₂).trans y₃) (.dat (.bool c))) hm
theorem EvT.cmp {l r : Expr} {op : CmpOp} {pos : Pos} {a b : PyData} {c : Bool} (h₁ : EvE K n env ρ σ l (.dat a) σ₁) (h₂ : EvE K n env ρ σ₁ r (.dat b) σ') (ho : CmpR K n op a b c) (hm : behindInMarks op r = false := by with_unfolding_all rfl) :
    EvT K n env ρ σ (.Compare l [op] [r] pos) c σ' :=
  fun A φ s Q E R x hQ => wpAny_isTrue_Compare1 (h₁ A φ s _ E R x fun u φ₁ s₁ y₁ r₁ => h₂ A φ₁ s₁ _ E R (x.step y₁) fun v φ₂ s₂ y₂ r₂ => by
    cases r₁ with
    | dat r₁ => cases r₂ with
      | dat r₂ => exact ho A φ₂ σ' s₂ u v _ E R y₂.sto (y₂.rep r₁) r₂ fun s₃ y₃ => wpAny_truthy_bool (hQ φ₂ s₃ ((y₁.trans y₂).trans y₃))) hm

/-- the truth of a value whose truth is asked as it is (calls, names, ..) -/
theorem EvT.plain {e : Expr} {b : Bool} (h : EvE K n env ρ σ e (.dat (.bool b)) σ')
    (he : isTrue e env (eval e env) = (do let v ← eval e env; standAt e.pos; holding [v] (truthy v)) := by with_unfolding_all rfl) : EvT K n env ρ σ e b σ' :=
  fun A φ s Q E R x hQ => isTrue_plain (h A φ s _ E R x fun v φ₁ s₁ y₁ r₁ => by
    cases r₁ with
    | dat r₁ => cases r₁; exact wpAny_truthy_bool (hQ φ₁ s₁ y₁)) he
theorem EvT.not {e : Expr} {pos : Pos} {b : Bool} (h : EvT K n env ρ σ e b σ') : EvT K n env ρ σ (.UnaryOp .Not e pos) (!b) σ' :=
  fun A φ s Q E R x hQ => isTrue_not (h A φ s _ E R x fun φ₁ s₁ y₁ => hQ φ₁ s₁ y₁)
theorem EvT.andNil {pos : Pos} : EvT K n env ρ σ (.BoolOp .And [] pos) true σ := fun _ _ _ _ _ _ x hQ => isTrue_and_nil (hQ _ _ (Step.refl x.sto))
theorem EvT.orNil {pos : Pos} : EvT K n env ρ σ (.BoolOp .Or [] pos) false σ := fun _ _ _ _ _ _ x hQ => isTrue_or_nil (hQ _ _ (Step.refl x.sto))
theorem EvT.and {e : Expr} {es : List Expr} {pos : Pos} {b c : Bool} (h₁ : EvT K n env ρ σ e b σ₁) (h₂ : b = true → EvT K n env ρ σ₁ (.BoolOp .And es pos) c σ') (h₃ : b = false → c = false ∧ σ' = σ₁) :
    EvT K n env ρ σ (.BoolOp .And (e :: es) pos) c σ' :=
  fun A φ s Q E R x hQ => isTrue_and (h₁ A φ s _ E R x fun φ₁ s₁ y₁ => by
    cases b with
    | true => exact h₂ rfl A φ₁ s₁ Q E R (x.step y₁) fun φ₂ s₂ y₂ => hQ φ₂ s₂ (y₁.trans y₂)
    | false => obtain ⟨rfl, rfl⟩ := h₃ rfl; exact hQ φ₁ s₁ y₁)
theorem EvT.or {e : Expr} {es : List Expr} {pos : Pos} {b c : Bool} (h₁ : EvT K n env ρ σ e b σ₁) (h₂ : b = false → EvT K n env ρ σ₁ (.BoolOp .Or es pos) c σ') (h₃ : b = true → c = true ∧ σ' = σ₁) :
    EvT K n env ρ σ (.BoolOp .Or (e :: es) pos) c σ' :=
  fun A φ s Q E R x hQ => isTrue_or (h₁ A φ s _ E R x fun φ₁ s₁ y₁ => by
    cases b with
    | false => exact h₂ rfl A φ₁ s₁ Q E R (x.step y₁) fun φ₂ s₂ y₂ => hQ φ₂ s₂ (y₁.trans y₂)
    | true => obtain ⟨rfl, rfl⟩ := h₃ rfl; exact hQ φ₁ s₁ y₁)

/-- and, or as values: every operand a bool -/
theorem EvE.boolOne {op : BoolOp} {e : Expr} {pos : Pos} {r : LV} (h : EvE K n env ρ σ e r σ') : EvE K n env ρ σ (.BoolOp op [e] pos) r σ' := fun A φ s Q E R x hQ => BoolOp_one (h A φ s Q E R x hQ)
theorem EvE.and {e₁ e₂ : Expr} {es : List Expr} {pos : Pos} {b c : Bool} (h₁ : EvE K n env ρ σ e₁ (.dat (.bool b)) σ₁) (h₂ : b = true → EvE K n env ρ σ₁ (.BoolOp .And (e₂ :: es) pos) (.dat (.bool c)) σ')
    (h₃ : b = false → c = false ∧ σ' = σ₁) : EvE K n env ρ σ (.BoolOp .And (e₁ :: e₂ :: es) pos) (.dat (.bool c)) σ' :=
  fun A φ s Q E R x hQ => BoolOp_and (h₁ A φ s _ E R x fun v φ₁ s₁ y₁ r₁ => by
    cases r₁ with
    | dat r₁ =>
      cases r₁
      refine wpAny_truthy_bool ?_
      cases b with
      | true => exact h₂ rfl A φ₁ s₁ Q E R (x.step y₁) fun v φ₂ s₂ y₂ r₂ => hQ v φ₂ s₂ (y₁.trans y₂) r₂
      | false => obtain ⟨rfl, rfl⟩ := h₃ rfl; exact hQ _ φ₁ s₁ y₁ (.dat (.bool false)))
theorem EvE.or {e₁ e₂ : Expr} {es : List Expr} {pos : Pos} {b c : Bool} (h₁ : EvE K n env ρ σ e₁ (.dat (.bool b)) σ₁) (h₂ : b = false → EvE K n env ρ σ₁ (.BoolOp .Or (e₂ :: es) pos) (.dat (.bool c)) σ')
    (h₃ : b = true → c = true ∧ σ' = σ₁) : EvE K n env ρ σ (.BoolOp .Or (e₁ :: e₂ :: es) pos) (.dat (.bool c)) σ' :=
  fun A φ s Q E R x hQ => BoolOp_or (h₁ A φ s _ E R x fun v φ₁ s₁ y₁ r₁ => by
    cases r₁ with
    | dat r₁ =>
      cases r₁
      refine wpAny_truthy_bool ?_
      cases b with
      | false => exact h₂ rfl A φ₁ s₁ Q E R (x.step y₁) fun v φ₂ s₂ y₂ r₂ => hQ v φ₂ s₂ (y₁.trans y₂) r₂
      | true => obtain ⟨rfl, rfl⟩ := h₃ rfl; exact hQ _ φ₁ s₁ y₁ (.dat (.bool true)))
theorem EvE.ifTrue {t e₁ e₂ : Expr} {pos : Pos} {r : LV} (ht : EvT K n env ρ σ t true σ₁) (h : EvE K n env ρ σ₁ e₁ r σ') : EvE K n env ρ σ (.IfExp t e₁ e₂ pos) r σ' :=
  fun A φ s Q E R x hQ => IfExp_ (ht A φ s _ E R x fun φ₁ s₁ y₁ => h A φ₁ s₁ Q E R (x.step y₁) fun v φ₂ s₂ y₂ r₂ => hQ v φ₂ s₂ (y₁.trans y₂) r₂)
theorem EvE.ifFalse {t e₁ e₂ : Expr} {pos : Pos} {r : LV} (ht : EvT K n env ρ σ t false σ₁) (h : EvE K n env ρ σ₁ e₂ r σ') : EvE K n env ρ σ (.IfExp t e₁ e₂ pos) r σ' :=
  fun A φ s Q E R x hQ => IfExp_ (ht A φ s _ E R x fun φ₁ s₁ y₁ => h A φ₁ s₁ Q E R (x.step y₁) fun v φ₂ s₂ y₂ r₂ => hQ v φ₂ s₂ (y₁.trans y₂) r₂)
end
end PMB3
section PMB4
/-! ## Operations on data -/
section
variable {K : Cx} {n : Nat}

theorem BinR.add {a b : Int} : BinR K n .Add (.int a) (.int b) (.int (a + b)) := by
  intro A φ σ s u v Q E R x gr r₁ r₂ h
  cases r₁; cases r₂
  exact add_int (h _ _ (Step.tok x) (.int _ _))
theorem BinR.sub {a b : Int} : BinR K n .Sub (.int a) (.int b) (.int (a - b)) := by
  intro A φ σ s u v Q E R x gr r₁ r₂ h
  cases r₁; cases r₂
  exact sub_int (h _ _ (Step.tok x) (.int _ _))
theorem BinR.mul {a b : Int} (hm : IntMulOk a b) : BinR K n .Mult (.int a) (.int b) (.int (a * b)) := by
  intro A φ σ s u v Q E R x gr r₁ r₂ h
  cases r₁; cases r₂
  exact PyProof.Rows.mul_int (h _ _ (Step.tok x) (.int _ _)) hm
theorem BinR.mod {a b : Int} (hb : b ≠ 0) : BinR K n .Mod (.int a) (.int b) (.int (a.fmod b)) := by
  intro A φ σ s u v Q E R x gr r₁ r₂ h
  cases r₁; cases r₂
  exact mod_int' hb (h _ _ (Step.tok x) (.int _ _))
theorem BinR.floordiv {a b : Int} (hb : b ≠ 0) (hs : b.natAbs < 1073741824) : BinR K n .FloorDiv (.int a) (.int b) (.int (a.fdiv b)) := by
  intro A φ σ s u v Q E R x gr r₁ r₂ h
  cases r₁; cases r₂
  exact floordiv_int hb (h _ _ (Step.tok x) (.int _ _)) (.inl (PyProof.noPylong_small hs))
theorem BinR.pow {a b : Int} (hn : 0 ≤ b) (hsz : (Builtin.Int.intBits a : Int) * b ≤ 2 ^ 27) : BinR K n .Pow (.int a) (.int b) (.int (a ^ b.toNat)) := by
  intro A φ σ s u v Q E R x gr r₁ r₂ h
  cases r₁; cases r₂
  exact PyProof.Rows.pow_int hn hsz (h _ _ (Step.tok x) (.int _ _))

theorem BinR.addList {a b : List PyData} (hsz : a.length + b.length ≤ sizeLine) : BinR K n .Add (.list a) (.list b) (.list (a ++ b)) := by
  intro A φ σ s u v Q E R x gr r₁ r₂ h
  cases r₁ with
  | list hn hl ha =>
  cases r₂ with
  | list hn2 hl2 ha2 =>
  rename_i l vs b' ws
  obtain ⟨⟨cls, dd, data, sl⟩, ho, hc, k, hd⟩ := id hl
  obtain ⟨⟨cls2, dd2, data2, sl2⟩, ho2, hc2, k2, hd2⟩ := id hl2
  simp only at hc hd hc2 hd2
  subst hc hd hc2 hd2
  have e : vs.toArray ++ ws.toArray = (vs ++ ws).toArray := by simp
  refine concat_meets ⟨_, ho, rfl⟩ ⟨_, ho2, rfl⟩ noFill_list_add seq_list_add PySem.F.slot_list_add PySem.F.entry_list_add (PySem.F.args_list_add_2 _ _) (list_addW l b' vs.toArray ws.toArray k k2 dd dd2 sl sl2 (by simpa [ha.length, ha2.length] using hsz)) ⟨ho, ho2, ?_⟩
  rw [e]
  refine h _ _ (Step.push _ x) (.list (size_notIn x) ⟨_, Heap.get?_push_size _ rfl, rfl, _, rfl⟩ ?_)
  exact (ha.append ha2).keep (fun _ _ _ _ _ e _ => Heap.get?_push_of_some _ e) fun _ hb => .inl hb
theorem BinR.addTuple {a b : List PyData} (ha0 : a ≠ []) (hb0 : b ≠ []) (hsz : a.length + b.length ≤ sizeLine) : BinR K n .Add (.tuple a) (.tuple b) (.tuple (a ++ b)) := by
  intro A φ σ s u v Q E R x gr r₁ r₂ h
  cases r₁ with
  | tuple hn hl ha =>
  cases r₂ with
  | tuple hn2 hl2 ha2 =>
  rename_i l vs b' ws
  obtain ⟨⟨cls, dd, data, sl⟩, ho, hc, k, hd⟩ := hl.is
  obtain ⟨⟨cls2, dd2, data2, sl2⟩, ho2, hc2, k2, hd2⟩ := hl2.is
  simp only at hc hd hc2 hd2
  subst hc hd hc2 hd2
  have hv : vs ≠ [] := fun e => ha0 (List.eq_nil_of_length_eq_zero (by rw [← ha.length, e]; rfl))
  have hw : ws ≠ [] := fun e => hb0 (List.eq_nil_of_length_eq_zero (by rw [← ha2.length, e]; rfl))
  have e : vs.toArray ++ ws.toArray = (vs ++ ws).toArray := by simp
  refine concat_meets ⟨_, ho, rfl⟩ ⟨_, ho2, rfl⟩ noFill_tuple_add seq_tuple_add PySem.F.slot_tuple_add PySem.F.entry_tuple_add (PySem.F.args_tuple_add_2 _ _) (tuple_addW2 l b' vs.toArray ws.toArray k k2 dd dd2 sl sl2 (by simpa using hv) (by simpa using hw) (by simpa [ha.length, ha2.length] using hsz)) ⟨ho, ho2, ?_⟩
  rw [e]
  refine h _ _ (Step.push _ x) (.tuple (size_notIn x) ⟨_, Heap.get?_push_size _ rfl⟩ ?_)
  exact (ha.append ha2).keep (fun _ _ _ _ _ e _ => Heap.get?_push_of_some _ e) fun _ hb => .inl hb

theorem RepAll.rep {φ : List Addr} {h : Heap} {vs : List Value} {ds : List PyData} (r : RepAll φ h vs ds) : ∀ k : Nat, RepAll φ h (List.replicate k vs).flatten (List.replicate k ds).flatten
  | 0 => by simp; exact .nil
  | k + 1 => by rw [List.replicate_succ, List.replicate_succ, List.flatten_cons, List.flatten_cons]; exact r.append (r.rep k)
theorem BinR.mulList {a : List PyData} {b : Int} (hb0 : 0 ≤ b) (hb : b ≤ 8) (ha8 : a.length ≤ 8) : BinR K n .Mult (.list a) (.int b) (.list (List.replicate b.toNat a).flatten) := by
  intro A φ σ s u v Q E R x gr r₁ r₂ h
  cases r₁ with
  | list hn hl ha =>
  cases r₂ with
  | int i t =>
  rename_i l vs
  obtain ⟨⟨cls, dd, data, sl⟩, ho, hc, k, hd⟩ := id hl
  simp only at hc hd
  subst hc hd
  have hsz : vs.toArray.size * b.toNat ≤ 64 := by
    have h1 : vs.toArray.size ≤ 8 := by simpa [ha.length] using ha8
    have h2 : b.toNat ≤ 8 := by omega
    exact Nat.le_trans (Nat.mul_le_mul h1 h2) (by decide)
  refine wpAny_binaryOp_repeat_ref (T := "list") (U := "int") (by decide) ⟨_, ho, rfl⟩ (fun s' => typeIs_int s' b t) noFill_list_mul F.fills_int_mul F.slot_int_rmul repeat_list F.slot_int_index.lookup
    (call_meets F.slot_int_rmul (typeIs_int s b t) F.entry_int_rmul (F.args_int_rmul_2 _ _) (lm_int_rmul_list_any b t l vs.toArray k dd sl)
      ⟨ho, rfl, ⟨_, ho, rfl⟩, call_meets F.slot_list_mul ⟨_, ho, rfl⟩ F.entry_list_mul (F.args_list_mul_2 _ _)
        (lm_list_mul_any l vs.toArray k dd sl b t (by simp [Builtin.List.listFitsIndex]; omega) (by omega) (by simp [Builtin.List.listTooLong, sizeLine]; simp at hsz; omega))
        ⟨ho, ?_⟩⟩)
  rw [listMul_foldl_if]
  refine h _ _ (Step.push _ x) (.list (size_notIn x) ⟨_, Heap.get?_push_size _ rfl, rfl, _, rfl⟩ ?_)
  exact (ha.rep b.toNat).keep (fun _ _ _ _ _ e _ => Heap.get?_push_of_some _ e) fun _ hb => .inl hb

theorem CmpR.eqOf {a b : PyData} (hd : min a.depth b.depth ≤ 150) : CmpR K n .Eq a b (PyData.eqv a b) := by
  intro A φ σ s u v Q E R x r₁ r₂ h
  obtain ⟨as, q₁⟩ := r₁.reads
  obtain ⟨bs, q₂⟩ := r₂.reads
  exact SeqAt.compareEq_reads q₁ q₂ r₁.can r₂.can (by have := R.hu; omega) (h _ (Step.refl x))
theorem CmpR.neOf {a b : PyData} (hd : min a.depth b.depth ≤ 150) : CmpR K n .NotEq a b (!PyData.eqv a b) := by
  intro A φ σ s u v Q E R x r₁ r₂ h
  obtain ⟨as, q₁⟩ := r₁.reads
  obtain ⟨bs, q₂⟩ := r₂.reads
  exact SeqAt.compareNe_reads q₁ q₂ r₁.can r₂.can (by have := R.hu; omega) (h _ (Step.refl x))
theorem CmpR.eq {a b : PyData} {c : Bool} (hd : min a.depth b.depth ≤ 150) (hc : PyData.eqv a b = c) : CmpR K n .Eq a b c := hc ▸ CmpR.eqOf hd
theorem CmpR.ne {a b : PyData} {c : Bool} (hd : min a.depth b.depth ≤ 150) (hc : (!PyData.eqv a b) = c) : CmpR K n .NotEq a b c := hc ▸ CmpR.neOf hd
theorem CmpR.gt {a b : Int} {c : Bool} (hc : decide (b < a) = c) : CmpR K n .Gt (.int a) (.int b) c := by
  intro A φ σ s u v Q E R x r₁ r₂ h
  cases r₁; cases r₂
  exact gt_int (hc ▸ h _ (Step.refl x))
theorem CmpR.lt {a b : Int} {c : Bool} (hc : decide (a < b) = c) : CmpR K n .Lt (.int a) (.int b) c := by
  intro A φ σ s u v Q E R x r₁ r₂ h
  cases r₁; cases r₂
  exact lt_int (hc ▸ h _ (Step.refl x))
theorem CmpR.inList {a : PyData} {b : List PyData} {c : Bool} (hd : a.depth ≤ 100) (hc : (b.any fun y => PyData.eqv y a) = c) : CmpR K n .In a (.list b) c := by
  intro A φ σ s u v Q E R x r₁ r₂ h
  obtain ⟨as, q₁⟩ := r₁.reads
  obtain ⟨bs, q₂⟩ := r₂.reads
  refine SeqAt.in_list_reads q₂ q₁ (by have := r₂.can; simpa [PyData.canLay0] using this) r₁.can (by have := R.hu; omega) (hc ▸ h _ (Step.refl x))
theorem CmpR.inTuple {a : PyData} {b : List PyData} {c : Bool} (hd : a.depth ≤ 100) (hc : (b.any fun y => PyData.eqv y a) = c) : CmpR K n .In a (.tuple b) c := by
  intro A φ σ s u v Q E R x r₁ r₂ h
  obtain ⟨as, q₁⟩ := r₁.reads
  obtain ⟨bs, q₂⟩ := r₂.reads
  refine SeqAt.in_tuple_reads q₂ q₁ (by have := r₂.can; simpa [PyData.canLay0] using this) r₁.can (by have := R.hu; omega) (hc ▸ h _ (Step.refl x))
end
end PMB4
section PMB5
section
variable {K : Cx} {n : Nat} {env : Env} {ρ : Loc} {σ σ₁ σ₂ σ' : Sto}

theorem CmpR.isNotNone {a : PyData} {c : Bool} (hc : (match a with | .none => false | _ => true) = c) : CmpR K n .IsNot a .none c := by
  intro A φ σ s u v Q E R x r₁ r₂ h
  subst hc
  cases r₂
  cases r₁ <;> first | exact isnot_none_none (h _ (Step.refl x)) | exact isnot_none_ne (by intro e; cases e) (h _ (Step.refl x))
theorem CmpR.ge {a b : Int} {c : Bool} (hc : decide (b ≤ a) = c) : CmpR K n .GtE (.int a) (.int b) c := by
  intro A φ σ s u v Q E R x r₁ r₂ h
  cases r₁; cases r₂
  exact ge_int (hc ▸ h _ (Step.refl x))

/-! ## Items -/
theorem EvE.itemTup {value slice : Expr} {pos : Pos} {ds : List PyData} {k : Int} {j : Nat} {d : PyData} (h₁ : EvE K n env ρ σ value (.dat (.tuple ds)) σ₁) (h₂ : EvE K n env ρ σ₁ slice (.dat (.int k)) σ') (hj : seqIndex? k ds.length = some j) (hd : ds[j]? = some d)
    (hs : ∀ t u, subscripted slice false (.ref t) (.int k u) = operate [.ref t, .int k u] (getItem (.ref t) (.int k u)) := by intro _ _; with_unfolding_all rfl) (hlo : -(2 ^ 63) ≤ k := by decide) (hhi : k < 2 ^ 63 := by decide) :
    EvE K n env ρ σ (.Subscript value slice pos) (.dat d) σ' :=
  fun A φ s Q E R x hQ => Subscript_ (h₁ A φ s _ E R x fun u φ₁ s₁ y₁ r₁ => h₂ A φ₁ s₁ _ E R (x.step y₁) fun v φ₂ s₂ y₂ r₂ => by
    cases r₁ with
    | dat r₁ => cases r₂ with
      | dat r₂ =>
        cases r₂
        have r₁' := y₂.rep r₁
        cases r₁' with
        | tuple hn hl ha =>
          obtain ⟨v, hv, hr⟩ := ha.get hd
          exact item_tupleT hl.is hlo hhi (by rw [ha.length]; exact hj) hv (hQ v φ₂ s₂ (y₁.trans y₂) (.dat hr)) (hs _ _))
theorem EvE.itemList {value slice : Expr} {pos : Pos} {ds : List PyData} {k : Int} {d : PyData} (h₁ : EvE K n env ρ σ value (.dat (.list ds)) σ₁) (h₂ : EvE K n env ρ σ₁ slice (.dat (.int k)) σ') (h0 : 0 ≤ k) (hhi : k < 2 ^ 63) (hd : ds[k.toNat]? = some d)
    (hs : ∀ t u, subscripted slice false (.ref t) (.int k u) = operate [.ref t, .int k u] (getItem (.ref t) (.int k u)) := by intro _ _; with_unfolding_all rfl) : EvE K n env ρ σ (.Subscript value slice pos) (.dat d) σ' :=
  fun A φ s Q E R x hQ => Subscript_ (h₁ A φ s _ E R x fun u φ₁ s₁ y₁ r₁ => h₂ A φ₁ s₁ _ E R (x.step y₁) fun v φ₂ s₂ y₂ r₂ => by
    cases r₁ with
    | dat r₁ => cases r₂ with
      | dat r₂ =>
        cases r₂
        have r₁' := y₂.rep r₁
        cases r₁' with
        | list hn hl ha =>
          obtain ⟨v, hv, hr⟩ := ha.get hd
          exact tail_any hl.typeIs slot_list_getitem.lookup (wpAny_getItem_list hl h0 hhi (by simpa using hv) (hQ v φ₂ s₂ (y₁.trans y₂) (.dat hr))) (hs _ _))
theorem EvE.itemMu {value slice : Expr} {pos : Pos} {i : Nat} {ds : List PyData} {k : Int} {d : PyData} (h₁ : EvE K n env ρ σ value (.mu i) σ₁) (h₂ : EvE K n env ρ σ₁ slice (.dat (.int k)) σ') (hi : σ'[i]? = some ds) (h0 : 0 ≤ k) (hhi : k < 2 ^ 63) (hd : ds[k.toNat]? = some d)
    (hs : ∀ t u, subscripted slice false (.ref t) (.int k u) = operate [.ref t, .int k u] (getItem (.ref t) (.int k u)) := by intro _ _; with_unfolding_all rfl) : EvE K n env ρ σ (.Subscript value slice pos) (.dat d) σ' :=
  fun A φ s Q E R x hQ => Subscript_ (h₁ A φ s _ E R x fun u φ₁ s₁ y₁ r₁ => h₂ A φ₁ s₁ _ E R (x.step y₁) fun v φ₂ s₂ y₂ r₂ => by
    cases r₂ with
      | dat r₂ =>
        cases r₂
        have r₁' := y₂.repL r₁
        cases r₁' with
        | mu e =>
          obtain ⟨vs, hl, ha⟩ := y₂.sto.item i _ ds e hi
          obtain ⟨v, hv, hr⟩ := ha.get hd
          exact tail_any hl.isList.typeIs slot_list_getitem.lookup (wpAny_getItem_list hl.isList h0 hhi (by simpa using hv) (hQ v φ₂ s₂ (y₁.trans y₂) (.dat hr))) (hs _ _))

theorem EvE.neg {e : Expr} {pos : Pos} {i : Int} (h : EvE K n env ρ σ e (.dat (.int i)) σ') : EvE K n env ρ σ (.UnaryOp .USub e pos) (.dat (.int (-i))) σ' :=
  fun A φ s Q E R x hQ => UnaryOp_ (h A φ s _ E R x fun u φ₁ s₁ y₁ r₁ => by
    cases r₁ with
    | dat r₁ => cases r₁; exact neg_int (hQ _ φ₁ _ (y₁.trans (Step.tok y₁.sto)) (.dat (.int _ _))))
theorem EvE.notE {e : Expr} {pos : Pos} {b : Bool} (h : EvE K n env ρ σ e (.dat (.bool b)) σ') : EvE K n env ρ σ (.UnaryOp .Not e pos) (.dat (.bool (!b))) σ' :=
  fun A φ s Q E R x hQ => UnaryOp_ (h A φ s _ E R x fun u φ₁ s₁ y₁ r₁ => by
    cases r₁ with
    | dat r₁ => cases r₁; exact not_of (wpAny_truthy_bool (hQ _ φ₁ _ y₁ (.dat (.bool _)))))

/-- the list that may change, compared with a datum -/
theorem EvT.neMu {l r : Expr} {pos : Pos} {i : Nat} {ds : List PyData} {b : PyData} {c : Bool} (h₁ : EvE K n env ρ σ l (.mu i) σ₁) (h₂ : EvE K n env ρ σ₁ r (.dat b) σ') (hi : σ'[i]? = some ds) (hd : min (PyData.list ds).depth b.depth ≤ 150) (hc : (!PyData.eqv (.list ds) b) = c)
    (hm : behindInMarks .NotEq r = false := by with_unfolding_all rfl) : EvT K n env ρ σ (.Compare l [.NotEq] [r] pos) c σ' :=
  fun A φ s Q E R x hQ => wpAny_isTrue_Compare1 (h₁ A φ s _ E R x fun u φ₁ s₁ y₁ r₁ => h₂ A φ₁ s₁ _ E R (x.step y₁) fun v φ₂ s₂ y₂ r₂ => by
    cases r₂ with
      | dat r₂ =>
        have r₁' := y₂.repL r₁
        cases r₁' with
        | mu e =>
          obtain ⟨vs, hpl, ha⟩ := y₂.sto.item i _ ds e hi
          obtain ⟨o, ho, hcl, k, hdt⟩ := hpl.isList
          obtain ⟨as, q₁⟩ := ha.reads
          obtain ⟨bs, q₂⟩ := r₂.reads
          exact SeqAt.compareNe_reads (reads_list_at ho hcl hdt (by simpa using q₁)) q₂ (by simpa [PyData.canLay0] using ha.can) r₂.can (by have := R.hu; omega) (hc ▸ wpAny_truthy_bool (hQ φ₂ s₂ (y₁.trans y₂)))) hm

/-! ## Names of the top -/
theorem St.glob (x : St K env ρ φ σ s) : s.heap.Ns env.globals K.mg := by rw [x.fr.globals]; exact K.gns.keeps x.gr
theorem St.built (x : St K env ρ φ σ s) : s.heap.Ns env.builtins K.mb := by rw [x.fr.builtins]; exact K.bns.keeps x.gr
theorem wp_glob {M : Model} {A : Around} {E : Value → Shared → Prop} {s : Shared} {φ : List Addr} {Q : Value → Shared → Prop} {y : Str} {pos : Pos} {v : Value} (x : St K env ρ φ σ s) (hx : env.kindOf y = some .globalImplicit) (hv : K.mg y = some v) (h : Q v s)
    (hd : (y == ("__debug__" : Str)) = false := by decide) : wpAny M A (eval (.Name y pos) env) Q E s :=
  Name_function_global x.fr.kind hx (loadGlobal_global x.glob hv h) hd
theorem wp_built {M : Model} {A : Around} {E : Value → Shared → Prop} {s : Shared} {φ : List Addr} {Q : Value → Shared → Prop} {y : Str} {pos : Pos} {v : Value} (x : St K env ρ φ σ s) (hx : env.kindOf y = some .globalImplicit) (hy : y ∈ (["isinstance", "tuple", "len", "max", "int", "any", "range"] : List Str))
    (hv : bootBuiltins y = some v) (h : Q v s) (hd : (y == ("__debug__" : Str)) = false := by decide) : wpAny M A (eval (.Name y pos) env) Q E s :=
  Name_function_global x.fr.kind hx (loadGlobal_builtin x.glob (K.hfree y hy).1 x.built ((K.hfree y hy).2.trans hv) h) hd
theorem rep_at {φ : List Addr} {g h : Heap} {v : Value} {d : PyData} (r : Rep [] g v d) (k : ∀ b o, g.get? b = some o → h.get? b = some o) (off : ∀ a ∈ φ, g.get? a = none) : Rep φ h v d :=
  r.keep (fun b o _ _ _ e _ => k b o e) fun b hb => .inr (off b hb)
theorem EvE.places {pos : Pos} (hx : env.kindOf "PLACES" = some .globalImplicit := by with_unfolding_all rfl) : EvE K n env ρ σ (.Name "PLACES" pos) (.dat (.tuple [.str "local", .str "deref", .str "field", .str "index"])) σ :=
  fun A φ s Q E R x hQ => by
    obtain ⟨v, hv, hr⟩ := K.hplaces
    exact wp_glob x hx hv (hQ v φ s (Step.refl x.sto) (.dat (rep_at hr x.gr x.sto.off)))

/-! ## Calls -/
theorem evalArgs_ev {M : Model} {A : Around} {E : Value → Shared → Prop} {s : Shared} {f : Value} {es : List Expr} {pos : Pos} {Q : Args → Shared → Prop} (h : wpAny M A (spliced (backTo pos (starEach es env))) (fun vs s' => Q ⟨vs, []⟩ s') E s)
    (h0 : (starEach es env).all (fun x => !x.1) = true) : wpAny M A (evalArgs f true (backTo pos (starEach es env)) []) Q E s := by
  cases hs : starEach es env with
  | nil =>
    rw [hs] at h
    unfold evalArgs
    show wpAny M A (spliced [] >>= _) Q E s
    refine wpAny_bind (wpAny_mono h (fun vs s' h' => ?_) fun _ _ x => x)
    refine wpAny_holding ?_
    exact wpAny_bind (wpAny_pure (wpAny_bind (wpAny_pure (wpAny_pure h'))))
  | cons p r =>
    obtain ⟨b, t⟩ := p
    rw [hs] at h0 h
    have hb : b = false := by simpa using (List.all_eq_true.mp h0 _ (.head _))
    subst hb
    exact evalArgs_plain h

/-- the call of one of the text's defs -/
theorem EvE.call {y : Str} {p pos : Pos} {es : List Expr} {ls : List LV} {r : LV} {d : DefRec} (ha : EvA K n env ρ σ es ls σ₁) (hc : EvC K n y ls σ₁ r σ') (hd : d ∈ K.recs) (hn : d.name = y)
    (hx : env.kindOf y = some .globalImplicit := by with_unfolding_all rfl) (h0 : (starEach es env).all (fun x => !x.1) = true := by with_unfolding_all rfl) (hdb : (y == ("__debug__" : Str)) = false := by decide) : EvE K n env ρ σ (.Call (.Name y p) es [] pos) r σ' :=
  fun A φ s Q E R x hQ => by
    obtain ⟨f, o, pm, code, doc, h1, h2, h3, h4⟩ := K.hdef d hd
    rw [hn] at h1
    refine wpAny_Call_NameR (wp_glob x hx h1 (callWith_function (o := o) (fd := docDef d.name d.params d.body d.scope pm code doc) (evalArgs_ev (ha A φ s pos _ E R x fun vs φ₁ s₁ y₁ r₁ => ?_) h0)) hdb)
    exact ⟨⟨(x.step y₁).gr _ _ h2, h3⟩, hc A φ₁ s₁ f vs Q E R h1 y₁.sto (x.step y₁).gr r₁ fun v φ₂ s₂ y₂ r₂ => hQ v φ₂ s₂ (y₁.trans y₂) r₂⟩

theorem argsOne (h0 : True) : True := h0

/-- the call of a built-in function on data -/
noncomputable def BltR (K : Cx) (n : Nat) (f : Value) (args : List PyData) (r : PyData) : Prop :=
  ∀ (A : Around) (φ : List Addr) (σ : Sto) (s : Shared) (vs : List Value) (Q : Value → Shared → Prop) (E : Value → Shared → Prop), Room n A → StoR K.g φ s.heap σ → RepAll φ s.heap vs args →
    (∀ v s', Step K.g φ σ s φ s' → Rep φ s'.heap v r → Q v s') → wpAny (model K.prog K.w) A (PySem.call f vs) Q E s
theorem callWith_blt {M : Model} {A : Around} {E : Value → Shared → Prop} {s : Shared} {id : String} {es : List Expr} {pos : Pos} {Q : Value → Shared → Prop} (h : wpAny M A (spliced (backTo pos (starEach es env))) (fun vs s' => wpAny M A (PySem.call (.builtin id) vs) Q E s') E s)
    (h0 : (starEach es env).all (fun x => !x.1) = true) : wpAny M A (callWith pos (.builtin id) [] (backTo pos (starEach es env)) []) Q E s := by
  refine callWith_builtin ?_ (evalArgs_ev h h0)
  rw [List.any_eq_false]
  intro x hx
  obtain ⟨y, hy, rfl⟩ := List.mem_map.mp hx
  have := List.all_eq_true.mp h0 y hy
  simpa using this
theorem EvE.blt {y : Str} {id : String} {p pos : Pos} {es : List Expr} {ls : List LV} {ds : List PyData} {r : PyData} (ha : EvA K n env ρ σ es ls σ') (hl : Dats ls ds) (hc : BltR K n (.builtin id) ds r) (hv : bootBuiltins y = some (.builtin id))
    (hy : y ∈ (["isinstance", "tuple", "len", "max", "int", "any", "range"] : List Str) := by decide)
    (hx : env.kindOf y = some .globalImplicit := by with_unfolding_all rfl) (h0 : (starEach es env).all (fun x => !x.1) = true := by with_unfolding_all rfl) (hdb : (y == ("__debug__" : Str)) = false := by decide) : EvE K n env ρ σ (.Call (.Name y p) es [] pos) (.dat r) σ' :=
  fun A φ s Q E R x hQ => by
    refine wpAny_Call_NameR (wp_built x hx hy hv (callWith_blt (ha A φ s pos _ E R x fun vs φ₁ s₁ y₁ r₁ => ?_) h0) hdb)
    exact hc A φ₁ σ' s₁ vs Q E R y₁.sto (r₁.dats hl) fun v s₂ y₂ r₂ => hQ v φ₁ s₂ (y₁.trans y₂) (.dat r₂)
end
end PMB5
section PMB6
/-! ## Storing names -/
theorem ns_fun {h : Heap} {a : Addr} {m m' : Str → Option Value} (x : h.Ns a m) (y : h.Ns a m') : m = m' := by
  obtain ⟨o, es, ep, ho, hd, _, hm⟩ := x
  obtain ⟨o', es', ep', ho', hd', _, hm'⟩ := y
  rw [ho] at ho'; cases ho'; rw [hd] at hd'; cases hd'
  funext z; rw [← hm, ← hm']
theorem ns_cell {h : Heap} {a : Addr} {m : Str → Option Value} {v : Option Value} (x : h.Ns a m) (y : h.IsCell a v) : False := by
  obtain ⟨o, es, ep, ho, hd, _⟩ := x
  obtain ⟨o', ho', hd'⟩ := y
  rw [ho] at ho'; cases ho'; rw [hd] at hd'; cases hd'

section
variable {K : Cx} {n : Nat} {env : Env} {ρ ρ' : Loc} {φ : List Addr} {σ σ₁ σ₂ σ' : Sto} {s : Shared}

/-- one of the frame's own objects changes -/
theorem St.own {b₀ : Addr} {h' : Heap} {tk : Nat} (x : St K env ρ φ σ s) (w : Own env b₀) (k : ∀ b o, b ≠ b₀ → s.heap.get? b = some o → h'.get? b = some o)
    (f : FrOk K env h') (g : ∀ y u, Get ρ' y u → ∃ v, Bound env h' y v ∧ RepL φ s.heap v u) :
    StepX (· = b₀) φ s φ { s with heap := h', toks := tk } ∧ St K env ρ' φ σ { s with heap := h', toks := tk } := by
  have ks : ∀ b o vs n, s.heap.get? b = some o → o.data = .seq vs n → h'.get? b = some o := fun b o vs n e d => k b o (by rintro rfl; exact own_notSeq x.fr w e d) e
  refine ⟨⟨⟨_, _, rfl⟩, fun b o _ hb e => k b o hb e, fun b hb => .inl hb, ⟨[], by rw [List.append_nil]⟩, fun _ _ h => h⟩, ⟨f, ?_, x.sto.keeps ks, ?_⟩⟩
  · intro y u hy
    obtain ⟨v, hv, hr⟩ := g y u hy
    exact ⟨v, hv, hr.keep (fun b o vs n _ e d => ks b o vs n e d) (fun b hb => .inl hb) (ext := []) (by rw [List.append_nil])⟩
  · intro b o e
    refine k b o ?_ (x.gr b o e)
    rintro rfl
    rw [f.off b w] at e; cases e

theorem wp_storeL {M : Model} {A : Around} {E : Value → Shared → Prop} {Q : Unit → Shared → Prop} {y : Str} {v : Value} {lv : LV} (x : St K env ρ φ σ s) (r : RepL φ s.heap v lv) (p : Put ρ y lv ρ')
    (hk : env.kindOf y = some .local)
    (h : ∀ s', StepX (· = env.locals) φ s φ s' → St K env ρ' φ σ s' → Q () s') : wpAny M A (storeName env y v) Q E s := by
  obtain ⟨m, hm⟩ := x.fr.ns
  refine wpAny_storeName_local hk hm (fun h' hn' hs' => ?_) (by rw [x.fr.kind]; rfl)
  have kk : ∀ b o, b ≠ env.locals → s.heap.get? b = some o → h'.get? b = some o := fun b o hb e => hs'.extBut b o hb e
  have hc : ∀ n c, env.cells.lookup n = some c → c ≠ env.locals := fun n c hm' => by
    rintro rfl; obtain ⟨w, hw⟩ := x.fr.cells _ _ hm'; exact ns_cell hm hw
  have hg : ∀ z u, Get ρ' z u → ∃ w, Bound env h' z w ∧ RepL φ s.heap w u := fun z u hz => by
    rcases p.get hz with ⟨rfl, rfl⟩ | ⟨hne, hg⟩
    · exact ⟨v, .inl ⟨hk, _, hn', if_pos rfl⟩, r⟩
    · obtain ⟨w, hb, hr⟩ := x.loc z u hg
      refine ⟨w, ?_, hr⟩
      rcases hb with ⟨hl, m', hm', hv⟩ | ⟨hl, c, hc', o, ho, hd⟩
      · exact .inl ⟨hl, _, hn', by rw [if_neg hne, ns_fun hm hm']; exact hv⟩
      · exact .inr ⟨hl, c, hc', o, kk _ _ (hc z c hc') ho, hd⟩
  obtain ⟨h1, h2⟩ := x.own (ρ' := ρ') (tk := s.toks + 1) (.inl rfl) kk ⟨x.fr.kind, x.fr.globals, x.fr.builtins, ⟨_, hn'⟩, fun n c hm' => by
      obtain ⟨w, o, ho, hd⟩ := x.fr.cells n c hm'; exact ⟨w, o, kk _ _ (hc n c hm') ho, hd⟩, x.fr.off, x.fr.cellk, x.fr.inj⟩ hg
  exact h _ h1 h2
theorem wp_store {M : Model} {A : Around} {E : Value → Shared → Prop} {Q : Unit → Shared → Prop} {y : Str} {v : Value} {lv : LV} (x : St K env ρ φ σ s) (r : RepL φ s.heap v lv) (p : Put ρ y lv ρ')
    (hk : env.kindOf y = some .local ∨ env.kindOf y = some .cell)
    (h : ∀ s', StepS K env φ s φ s' → St K env ρ' φ σ s' → Q () s') : wpAny M A (storeName env y v) Q E s := by
  rcases hk with hk | hk
  · exact wp_storeL x r p hk fun s' h1 h2 => h s' (h1.weaken0 fun b hb => .inl hb) h2
  · obtain ⟨c, hc⟩ := x.fr.cellk y hk
    obtain ⟨v₀, hv₀⟩ := x.fr.cells y c hc
    refine wpAny_storeName_cell x.fr.kind hk hc hv₀ fun h' hn' hs' => ?_
    have kk : ∀ b o, b ≠ c → s.heap.get? b = some o → h'.get? b = some o := fun b o hb e => hs'.extBut b o hb e
    obtain ⟨m, hm⟩ := x.fr.ns
    have hLc : env.locals ≠ c := by rintro rfl; exact ns_cell hm hv₀
    have hg : ∀ z u, Get ρ' z u → ∃ w, Bound env h' z w ∧ RepL φ s.heap w u := fun z u hz => by
      rcases p.get hz with ⟨rfl, rfl⟩ | ⟨hne, hg⟩
      · exact ⟨v, .inr ⟨hk, c, hc, hn'⟩, r⟩
      · obtain ⟨w, hb, hr⟩ := x.loc z u hg
        refine ⟨w, ?_, hr⟩
        rcases hb with ⟨hl, m', hm', hv⟩ | ⟨hl, c', hc', hv⟩
        · exact .inl ⟨hl, m', hm'.sameBut hs' hLc, hv⟩
        · exact .inr ⟨hl, c', hc', hv.sameBut hs' (by rintro rfl; exact hne (x.fr.inj _ _ _ hc' hc))⟩
    obtain ⟨h1, h2⟩ := x.own (ρ' := ρ') (tk := s.toks) (.inr ⟨y, hc⟩) kk ⟨x.fr.kind, x.fr.globals, x.fr.builtins, ⟨m, hm.sameBut hs' hLc⟩, fun n c' hm' => by
        obtain ⟨w, hw⟩ := x.fr.cells n c' hm'
        by_cases e : c' = c
        · exact ⟨_, e ▸ hn'⟩
        · exact ⟨w, hw.sameBut hs' e⟩, x.fr.off, x.fr.cellk, x.fr.inj⟩ hg
    exact h _ (h1.weaken0 fun b hb => .inr ⟨y, by rw [hb]; exact hc⟩) h2

/-- binding a target; X may change -/
noncomputable def AsT (K : Cx) (n : Nat) (X : Addr → Prop) (env : Env) (ρ : Loc) (t : Expr) (lv : LV) (ρ' : Loc) : Prop :=
  ∀ (A : Around) (φ : List Addr) (σ : Sto) (s : Shared) (v : Value) (Q : Unit → Shared → Prop) (E : Value → Shared → Prop), Room n A → St K env ρ φ σ s → RepL φ s.heap v lv →
    (∀ s', StepX X φ s φ s' → St K env ρ' φ σ s' → Q () s') → wpAny (model K.prog K.w) A (assign t env v) Q E s
theorem AsT.nameL {y : Str} {pos : Pos} {lv : LV} (p : Put ρ y lv ρ') (hk : env.kindOf y = some .local := by with_unfolding_all rfl) : AsT K n (· = env.locals) env ρ (.Name y pos) lv ρ' :=
  fun A φ σ s v Q E R x r h => wpAny_assign_Name (wp_storeL x r p hk h)
theorem AsT.name {y : Str} {pos : Pos} {lv : LV} (p : Put ρ y lv ρ') (hk : env.kindOf y = some .local ∨ env.kindOf y = some .cell := by first | exact .inl (by with_unfolding_all rfl) | exact .inr (by with_unfolding_all rfl)) :
    AsT K n (Own env) env ρ (.Name y pos) lv ρ' :=
  fun A φ σ s v Q E R x r h => wpAny_assign_Name (wp_store x r p hk h)

/-! ## Statements -/
theorem EvS.assign {y : Str} {p pos : Pos} {e : Expr} {lv : LV} (h₁ : EvE K n env ρ σ e lv σ') (p' : Put ρ y lv ρ') (hk : env.kindOf y = some .local ∨ env.kindOf y = some .cell := by first | exact .inl (by with_unfolding_all rfl) | exact .inr (by with_unfolding_all rfl))
    (hs : swapsWith e (some (.Name y p)) pos.line env = pure false := by with_unfolding_all rfl) : EvS K n env ρ σ (.Assign [.Name y p] e pos) .next ρ' σ' :=
  fun A φ s Q E R x h => wpAny_Assign_Name (h₁ A φ s _ E R x fun v φ₁ s₁ y₁ r₁ => wp_store (x.step y₁) r₁ p' hk fun s' h1 h2 => h _ _ _ ((Step.toS x y₁).trans h1) h2 .next) hs
theorem EvS.ret {e : Expr} {pos : Pos} {lv : LV} (h₁ : EvE K n env ρ σ e lv σ') : EvS K n env ρ σ (.Return (some e) pos) (.ret lv) ρ σ' :=
  fun A φ s Q E R x h => wpAny_Return_some (h₁ A φ s _ E R x fun v φ₁ s₁ y₁ r₁ => h _ _ _ (Step.toS x y₁) (x.step y₁) (.ret r₁))
theorem EvS.cont {pos : Pos} : EvS K n env ρ σ (.Continue pos) .cont ρ σ :=
  fun A φ s Q E R x h => wpAny_Continue (h _ _ _ StepX.refl x .cont)
theorem EvS.ifTrue {t : Expr} {b₁ b₂ : List Stmt} {pos : Pos} {f : Fl} (ht : EvT K n env ρ σ t true σ₁) (h₁ : EvB K n env ρ σ₁ b₁ f ρ' σ') : EvS K n env ρ σ (.If t b₁ b₂ pos) f ρ' σ' :=
  fun A φ s Q E R x h => wpAny_If (ht A φ s _ E R x fun φ₁ s₁ y₁ => by
    rw [if_pos rfl]
    exact h₁ A φ₁ s₁ Q E R (x.step y₁) fun v φ₂ s₂ z h2 hf => h _ _ _ ((Step.toS x y₁).trans z) h2 hf)
theorem EvS.ifFalse {t : Expr} {b₁ b₂ : List Stmt} {pos : Pos} {f : Fl} (ht : EvT K n env ρ σ t false σ₁) (h₁ : EvB K n env ρ σ₁ b₂ f ρ' σ') : EvS K n env ρ σ (.If t b₁ b₂ pos) f ρ' σ' :=
  fun A φ s Q E R x h => wpAny_If (ht A φ s _ E R x fun φ₁ s₁ y₁ => by
    rw [if_neg (by decide)]
    exact h₁ A φ₁ s₁ Q E R (x.step y₁) fun v φ₂ s₂ z h2 hf => h _ _ _ ((Step.toS x y₁).trans z) h2 hf)
theorem EvB.nil : EvB K n env ρ σ [] .next ρ σ := fun A φ s Q E R x h => wpAny_execs_nil (h _ _ _ StepX.refl x .next)
theorem EvB.cons {st : Stmt} {r : List Stmt} {f : Fl} {ρ₁ : Loc} (h₁ : EvS K n env ρ σ st .next ρ₁ σ₁) (h₂ : EvB K n env ρ₁ σ₁ r f ρ' σ') : EvB K n env ρ σ (st :: r) f ρ' σ' :=
  fun A φ s Q E R x h => wpAny_execs_cons (h₁ A φ s _ E R x fun v φ₁ s₁ y₁ x₁ f₁ => by
    cases f₁
    exact h₂ A φ₁ s₁ Q E R x₁ fun v φ₂ s₂ y₂ x₂ f₂ => h _ _ _ (y₁.trans y₂) x₂ f₂)
theorem EvB.ret {st : Stmt} {r : List Stmt} {lv : LV} (h₁ : EvS K n env ρ σ st (.ret lv) ρ' σ') : EvB K n env ρ σ (st :: r) (.ret lv) ρ' σ' :=
  fun A φ s Q E R x h => wpAny_execs_cons (h₁ A φ s _ E R x fun v φ₁ s₁ y₁ x₁ f₁ => by
    cases f₁ with
    | ret r => exact h _ _ _ y₁ x₁ (.ret r))
theorem EvB.cont {st : Stmt} {r : List Stmt} (h₁ : EvS K n env ρ σ st .cont ρ' σ') : EvB K n env ρ σ (st :: r) .cont ρ' σ' :=
  fun A φ s Q E R x h => wpAny_execs_cons (h₁ A φ s _ E R x fun v φ₁ s₁ y₁ x₁ f₁ => by
    cases f₁
    exact h _ _ _ y₁ x₁ .cont)
end
end PMB6
section PMB7
/-! ## Lists that change -/
theorem mapSeq_plain (f : Array Value → Array Value) (its : Array Value) (n : Nat) :
    ∃ n', Obj.mapSeq f { cls := .type "list", data := .seq its n } = { cls := .type "list", data := .seq (f its) n' } := ⟨_, rfl⟩
theorem upd_plain {h : Heap} {a : Addr} {its : Array Value} {n : Nat} (f : Array Value → Array Value) (ho : h.get? a = some { cls := .type "list", data := .seq its n }) :
    (h.update a (Obj.mapSeq f)).PlainList a (f its) := by
  obtain ⟨n', e⟩ := mapSeq_plain f its n
  exact ⟨n', by rw [Heap.get?_update_self _ ho (by rw [e]; rfl), e]⟩

theorem setItem_plain {prog : Program} {w : World} {A : Around} {E : Value → Shared → Prop} {s : Shared} {l : Addr} {items : Array Value} {k : Int} {t : Tok} {v : Value} {Q : Unit → Shared → Prop} (hl : s.heap.PlainList l items)
    (h0 : 0 ≤ k) (hfit : k < 2 ^ 63) (hn : k < items.size)
    (hQ : ∀ h', h'.PlainList l (items.setIfInBounds k.toNat v) → Heap.SameBut l s.heap h' → Q () { s with heap := h' }) :
    wpAny (model prog w) A (setItem (.ref l) (.int k t) v) Q E s := by
  have hl' := hl.isList
  obtain ⟨ne, ho⟩ := hl
  have hd : ({ cls := .type "list", data := .seq items ne } : Obj).data = .seq items ne := rfl
  unfold setItem
  try with_reducible refine wpAny_holding ?_
  first | refine wpAny_bind (wpAny_pure ?_) | skip
  refine wpAny_bind (wpAny_sequenceKey hl'.typeIs (by decide) ?_)
  refine wpAny_bind (wpAny_callSpecial?_slot (name := Str.ofString "__setitem__") hl'.typeIs slot_list_setitem
    (wpAny_call_entry slot_list_setitem hl'.typeIs entry_list_setitem ?_ (args_list_setitem _ _ _)))
  show wpAny _ _ (Builtin.List.listSubscript? (.int k t) >>= _) _ _ s
  refine wpAny_bind (wpAny_listSubscript_int (fitsIndex_of h0 hfit) ?_)
  clear hfit
  obtain ⟨j, rfl⟩ := Int.eq_ofNat_of_zero_le h0
  have hj : j < items.size := by omega
  have hx' : items[j]? = some items[j] := Array.getElem?_eq_getElem hj
  show wpAny _ _ ((seqItemAt l j >>= fun r => pure (r.map (j, ·))) >>= _) _ _ s
  refine wpAny_bind (wpAny_bind (wpAny_seqItemAt ho hd (wpAny_pure ?_)))
  rw [hx']
  show wpAny _ _ (setSeqItemAt l j v >>= _) _ _ s
  have hfin := upd_plain (fun x => x.setIfInBounds j v) ho
  refine wpAny_bind (wpAny_setSeqItemAt ho hd ?_)
  first
    | exact wpAny_bind (wpAny_pure (wpAny_pure ⟨.none, rfl, wpAny_pure (hQ _ hfin (Heap.SameBut.update ..))⟩))
    | exact wpAny_pure ⟨.none, rfl, wpAny_pure (hQ _ hfin (Heap.SameBut.update ..))⟩

theorem RepAll.set {φ : List Addr} {h : Heap} : ∀ {vs : List Value} {ds : List PyData} {i : Nat} {v : Value} {d : PyData}, RepAll φ h vs ds → Rep φ h v d → RepAll φ h (vs.set i v) (ds.set i d)
  | _, _, _, _, _, .nil, _ => .nil
  | _, _, 0, _, _, .cons _ ht, r => .cons r ht
  | _, _, i + 1, _, _, .cons hd ht, r => .cons hd (ht.set r)

section
variable {K : Cx} {n : Nat} {env : Env} {ρ ρ' : Loc} {φ : List Addr} {σ σ₁ σ₂ σ' : Sto} {s : Shared}

theorem Step.mut {g : Heap} {i : Nat} {a : Addr} {l l' : List PyData} {ys : List Value} {h' : Heap} {tk : Nat} (x : StoR g φ s.heap σ) (e1 : φ[i]? = some a) (e2 : σ[i]? = some l) (hs : Heap.SameBut a s.heap h')
    (hp : h'.PlainList a ys.toArray) (hr : RepAll φ s.heap ys l') : Step g φ (σ.set i l') s φ { s with heap := h', toks := tk } := by
  have hm : a ∈ φ := List.mem_of_getElem? e1
  have ks : KeepSeq φ s.heap h' := fun b o vs n hb e _ => hs.extBut b o (by rintro rfl; exact hb hm) e
  have gw : Grow φ s.heap φ := fun b hb => .inl hb
  refine ⟨⟨_, _, rfl⟩, fun b o hb e => hs.extBut b o (by rintro rfl; exact hb hm) e, gw, ⟨[], by rw [List.append_nil]⟩, ⟨by rw [List.length_set]; exact x.len, x.nd, fun j b m f1 f2 => ?_, x.off⟩⟩
  by_cases hij : i = j
  · subst hij
    rw [e1] at f1; cases f1
    have hlt : i < σ.length := (List.getElem?_eq_some_iff.mp e2).1
    rw [List.getElem?_set_self hlt] at f2; cases f2
    exact ⟨ys, hp, hr.keep ks gw⟩
  · rw [List.getElem?_set_ne hij] at f2
    obtain ⟨vs, ⟨k, ho⟩, hr'⟩ := x.item j b m f1 f2
    have hb : b ≠ a := by
      rintro rfl
      exact hij ((List.getElem?_inj (List.getElem?_eq_some_iff.mp e1).1 x.nd).mp (e1.trans f1.symm))
    exact ⟨vs, ⟨k, hs.extBut b _ hb ho⟩, hr'.keep ks gw⟩

theorem callWith_blt1 {M : Model} {A : Around} {E : Value → Shared → Prop} {s : Shared} {id : String} {first : List Value} {es : List Expr} {pos : Pos} {Q : Value → Shared → Prop} (h : wpAny M A (spliced (backTo pos (starEach es env))) (fun vs s' => wpAny M A (PySem.call (.builtin id) (first ++ vs)) Q E s') E s)
    (h0 : (starEach es env).all (fun x => !x.1) = true) : wpAny M A (callWith pos (.builtin id) first (backTo pos (starEach es env)) []) Q E s := by
  refine callWith_builtin ?_ (evalArgs_ev h h0)
  rw [List.any_eq_false]
  intro x hx
  obtain ⟨y, hy, rfl⟩ := List.mem_map.mp hx
  have := List.all_eq_true.mp h0 y hy
  simpa using this

theorem EvE.pop {o : Expr} {apos pos : Pos} {i : Nat} {ds : List PyData} {d : PyData} (h₁ : EvE K n env ρ σ o (.mu i) σ₁) (hi : σ₁[i]? = some (ds ++ [d])) (hsz : (ds ++ [d]).length ≤ sizeLine) (he : σ₁.set i ds = σ')
    (hbase : attributeBase o "pop" env (eval o env) = eval o env := by with_unfolding_all rfl) (hline : (apos.endLine == pos.line) = true := by with_unfolding_all rfl) :
    EvE K n env ρ σ (.Call (.Attribute o "pop" apos) [] [] pos) (.dat d) σ' := by
  subst he
  intro A φ s Q E R x hQ
  refine wpAny_Call_method hbase (by with_unfolding_all rfl) hline PySem.F.plainAttrs_list PySem.F.slot_list_pop PySem.F.type_list_pop (h₁ A φ s _ E R x fun v φ₁ s₁ y₁ r₁ => ?_)
  cases r₁ with
  | @mu a _ e =>
    obtain ⟨vs, ⟨k, ho⟩, ha⟩ := y₁.sto.item i a _ e hi
    refine ⟨⟨_, ho, rfl⟩, fun b eb => by cases eb; exact ⟨_, ho, rfl⟩, callWith_blt1 (spliced_none ?_) (by with_unfolding_all rfl)⟩
    obtain ⟨ws, u, rfl, ha1, ha2⟩ := ha.snoc
    have hw : (ws ++ [u]).toArray.size ≤ sizeLine := by
      rw [List.size_toArray, ha.length]; exact hsz
    refine call_meets PySem.F.slot_list_pop ⟨_, ho, rfl⟩ PySem.F.entry_list_pop (PySem.F.args_list_pop_1 _) (MeetsSeq.list_pop_last a (ws ++ [u]).toArray k u (by simp) hw) ⟨ho, ?_⟩
    have hp := upd_plain (fun xs => xs.eraseIdxIfInBounds ((ws ++ [u]).toArray.size - 1)) ho
    have e' : ((ws ++ [u]).toArray.eraseIdxIfInBounds ((ws ++ [u]).toArray.size - 1)) = ws.toArray := by
      simp [Array.eraseIdxIfInBounds, List.eraseIdx_append_of_length_le]
    simp only [e'] at hp
    have st := Step.mut (tk := s₁.toks) y₁.sto e hi (Heap.SameBut.update ..) hp ha1
    exact hQ u φ₁ _ (y₁.trans st) (.dat (st.rep ha2))

theorem EvE.extend {o e : Expr} {apos pos : Pos} {i : Nat} {ds es : List PyData} (h₁ : EvE K n env ρ σ o (.mu i) σ₁) (h₂ : EvE K n env ρ σ₁ e (.dat (.tuple es)) σ₂) (hi : σ₂[i]? = some ds) (hsz : ds.length + es.length ≤ sizeLine) (he : σ₂.set i (ds ++ es) = σ')
    (hbase : attributeBase o "extend" env (eval o env) = eval o env := by with_unfolding_all rfl) (hline : (apos.endLine == pos.line) = true := by with_unfolding_all rfl)
    (hfew : ((backTo pos (starEach [e] env)).all (fun x => !x.1) && (backToKw pos (keywordEach [] env)).all (fun x => x.1.isSome)
      && decide (([e] : List Expr).length + ([] : List Keyword).length + (if ([] : List Keyword).isEmpty then 0 else 1) < 30)) = true := by with_unfolding_all rfl)
    (h0 : starEach [e] env = (false, eval e env) :: starEach [] env := by with_unfolding_all rfl) :
    EvE K n env ρ σ (.Call (.Attribute o "extend" apos) [e] [] pos) (.dat .none) σ' := by
  subst he
  intro A φ s Q E R x hQ
  refine wpAny_Call_method hbase hfew hline PySem.F.plainAttrs_list PySem.F.slot_list_extend PySem.F.type_list_extend (h₁ A φ s _ E R x fun v φ₁ s₁ y₁ r₁ => ?_)
  have hm : ∃ a, v = .ref a ∧ φ₁[i]? = some a := by cases r₁ with | @mu a _ e => exact ⟨a, rfl, e⟩
  obtain ⟨a, rfl, ea⟩ := hm
  obtain ⟨o₁, hol, hcl⟩ : ∃ o₁ : Obj, s₁.heap.get? a = some o₁ ∧ o₁.cls = .type "list" ∧ o₁.dict = Option.none := by
    have hlt : i < σ₁.length := by
      have := (List.getElem?_eq_some_iff.mp ea).1
      rw [y₁.sto.len] at this; exact this
    obtain ⟨vs, ⟨k, ho⟩, _⟩ := y₁.sto.item i a _ ea (List.getElem?_eq_getElem hlt)
    exact ⟨_, ho, rfl, rfl⟩
  refine ⟨⟨_, hol, hcl.1⟩, fun b eb => by cases eb; exact ⟨_, hol, hcl.2⟩, callWith_blt1 (spliced_more (h₂ A φ₁ s₁ _ E R (x.step y₁) fun w φ₂ s₂ y₂ r₂ => spliced_none ?_) h0) (by rw [h0]; rfl)⟩
  have r₁' := y₂.repL r₁
  cases r₁' with
  | mu e2 =>
    cases r₂ with
    | dat r₂ =>
      cases r₂ with
      | @tuple b ws _ hn hl hb =>
        obtain ⟨vs, ⟨k, ho⟩, ha⟩ := y₂.sto.item i a _ e2 hi
        obtain ⟨k2, ho2⟩ := hl
        have hw : vs.toArray.size + ws.toArray.size ≤ sizeLine := by
          rw [List.size_toArray, List.size_toArray, ha.length, hb.length]; exact hsz
        refine call_meets PySem.F.slot_list_extend ⟨_, ho, rfl⟩ PySem.F.entry_list_extend (PySem.F.args_list_extend_2 _ _) (AutoSeq1.list_extend_list_tuple_0 a vs.toArray k b ws.toArray k2 (extend_door hw) (Nat.le_trans (Nat.le_add_right _ _) hw) (Nat.le_succ_of_le hw)) ⟨ho, ho2, ?_⟩
        have hp := upd_plain (fun x => x ++ ws.toArray) ho
        have e' : vs.toArray ++ ws.toArray = (vs ++ ws).toArray := by simp
        simp only [e'] at hp
        have st := Step.mut (tk := s₂.toks) y₂.sto e2 hi (Heap.SameBut.update ..) hp (ha.append hb)
        exact hQ _ φ₂ _ ((y₁.trans y₂).trans st) (.dat .none)

/-- an expression that stands alone and gives None -/
theorem EvS.expr {e : Expr} {pos : Pos} (h₁ : EvE K n env ρ σ e (.dat .none) σ') (hi : interactive env = false := by with_unfolding_all rfl) (hs : swapsWith e none pos.line env = pure false := by with_unfolding_all rfl) : EvS K n env ρ σ (.Expr e pos) .next ρ σ' :=
  fun A φ s Q E R x h => wpAny_Expr (h₁ A φ s _ E R x fun v φ₁ s₁ y₁ r₁ => by
    cases r₁ with
    | dat r₁ => cases r₁; exact h _ _ _ (Step.toS x y₁) (x.step y₁) .next) hi hs

/-- source[k] = e -/
theorem EvS.setItem {o i e : Expr} {p pos : Pos} {j : Nat} {ds : List PyData} {k : Int} {d : PyData} (h₁ : EvE K n env ρ σ e (.dat d) σ₁) (h₂ : EvE K n env ρ σ₁ o (.mu j) σ₁) (h₃ : EvE K n env ρ σ₁ i (.dat (.int k)) σ₁)
    (hj : σ₁[j]? = some ds) (h0 : 0 ≤ k) (hhi : k < 2 ^ 63) (hk : k < ds.length) (he : σ₁.set j (ds.set k.toNat d) = σ')
    (hs : swapsWith e (some (.Subscript o i p)) pos.line env = pure false := by with_unfolding_all rfl) : EvS K n env ρ σ (.Assign [.Subscript o i p] e pos) .next ρ σ' := by
  subst he
  intro A φ s Q E R x h
  refine wpAny_Assign_Subscript (h₁ A φ s _ E R x fun v φ₁ s₁ y₁ r₁ => h₂ A φ₁ s₁ _ E R (x.step y₁) fun u φ₂ s₂ y₂ r₂ => h₃ A φ₂ s₂ _ E R ((x.step y₁).step y₂) fun w φ₃ s₃ y₃ r₃ => ?_) hs
  have r₁' := y₃.repL (y₂.repL r₁)
  have r₂' := y₃.repL r₂
  cases r₁' with
  | dat r₁' => cases r₂' with
    | @mu a _ e2 => cases r₃ with
      | dat r₃ =>
        cases r₃
        obtain ⟨vs, hp, ha⟩ := y₃.sto.item j a _ e2 hj
        refine setItem_plain hp h0 hhi (by rw [List.size_toArray, ha.length]; exact hk) fun h' hp' hs' => ?_
        have e' : vs.toArray.setIfInBounds k.toNat v = (vs.set k.toNat v).toArray := by simp
        rw [e'] at hp'
        have st := Step.mut (tk := s₃.toks) y₃.sto e2 hj hs' hp' (ha.set r₁')
        exact h .next φ₃ _ (Step.toS x (((y₁.trans y₂).trans y₃).trans st)) (x.step (((y₁.trans y₂).trans y₃).trans st)) .next
end
end PMB7
section PMB8
/-! ## Built-in functions -/
noncomputable def isTupB : PyData → Bool
  | .tuple _ => true
  | _ => false

section
variable {K : Cx} {n : Nat} {env : Env} {ρ ρ' : Loc} {φ : List Addr} {σ σ₁ σ₂ σ' : Sto} {s : Shared}

theorem wp_isTuple {g : Heap} {M : Program} {w : World} {A : Around} {E : Value → Shared → Prop} {s : Shared} {Q : Value → Shared → Prop} {v : Value} {d : PyData} (x : StoR g φ s.heap σ) (r : Rep φ s.heap v d)
    (h : ∀ s', Step g φ σ s φ s' → Q (.bool (isTupB d)) s') : wpAny (model M w) A (PySem.call (.builtin "isinstance") [v, .type "tuple"]) Q E s := by
  cases r with
  | none => exact IsiPair.NoneType_tuple (h _ (Step.tok x))
  | bool b => exact IsiPair.bool_tuple (h _ (Step.tok x))
  | int i t => exact IsiPair.int_tuple (h _ (Step.tok x))
  | str y t hx => exact IsiPair.str_tuple (h _ (Step.tok x))
  | tuple hn hl ha => obtain ⟨k, ho⟩ := hl; exact IsiPair.tuple_tuple ho rfl (h _ (Step.refl x))
  | list hn hl ha => obtain ⟨o, ho, hc, _⟩ := hl; exact IsiPair.list_tuple ho hc (h _ (Step.tok x))

theorem EvE.isTuple {e : Expr} {p p2 pos : Pos} {d : PyData} {b : Bool} (h₁ : EvE K n env ρ σ e (.dat d) σ') (hb : isTupB d = b)
    (hx : env.kindOf "isinstance" = some .globalImplicit := by with_unfolding_all rfl) (hy : env.kindOf "tuple" = some .globalImplicit := by with_unfolding_all rfl)
    (h0 : starEach [e, .Name "tuple" p2] env = [(false, eval e env), (false, eval (.Name "tuple" p2) env)] := by with_unfolding_all rfl) :
    EvE K n env ρ σ (.Call (.Name "isinstance" p) [e, .Name "tuple" p2] [] pos) (.dat (.bool b)) σ' := by
  subst hb
  intro A φ s Q E R x hQ
  have hdb : (("isinstance" : Str) == ("__debug__" : Str)) = false := by decide
  refine wpAny_Call_NameR (wp_built x hx (by decide) (v := .builtin "isinstance") (by with_unfolding_all rfl) (callWith_blt ?_ (by rw [h0]; rfl)) hdb)
  refine spliced_more (h₁ A φ s _ E R x fun v φ₁ s₁ y₁ r₁ => ?_) h0
  refine spliced_more (wp_built (x.step y₁) hy (by decide) (v := .type "tuple") (by with_unfolding_all rfl) (spliced_none ?_)) (by with_unfolding_all rfl)
  cases r₁ with
  | dat r₁ => exact wp_isTuple y₁.sto r₁ fun s' y₂ => hQ _ φ₁ s' (y₁.trans y₂) (.dat (.bool _))

theorem BltR.lenTuple {ds : List PyData} {k : Int} (hk : (ds.length : Int) = k) (hs : ds.length ≤ sizeLine := by decide) : BltR K n (.builtin "len") [.tuple ds] (.int k) := by
  subst hk
  intro A φ σ s vs Q E R x r h
  cases r with
  | cons hd ht => cases ht; cases hd with
    | tuple hn hl ha =>
      refine len_tuple hl.is (by rw [List.size_toArray, ha.length]; have := sizeLine_eq; omega) (by rw [List.size_toArray, ha.length]; exact h _ _ (Step.tok x) (.int _ _))
theorem BltR.lenList {ds : List PyData} {k : Int} (hk : (ds.length : Int) = k) (hs : ds.length ≤ sizeLine := by decide) : BltR K n (.builtin "len") [.list ds] (.int k) := by
  subst hk
  intro A φ σ s vs Q E R x r h
  cases r with
  | cons hd ht => cases ht; cases hd with
    | list hn hl ha =>
      refine len_list hl (by rw [List.size_toArray, ha.length]; have := sizeLine_eq; omega) (by rw [List.size_toArray, ha.length]; exact h _ _ (Step.tok x) (.int _ _))
theorem BltR.max {a b : Int} : BltR K n (.builtin "max") [.int a, .int b] (.int (if b > a then b else a)) := by
  intro A φ σ s vs Q E R x r h
  cases r with
  | cons hd ht => cases hd; cases ht with
    | cons hd ht => cases hd; cases ht
                    refine max_two_ints R.hh fun h' tk hk => ?_
                    by_cases c : b > a
                    · rw [if_pos c]; rw [if_pos c] at h; exact h _ _ (Step.of_keeps x hk) (.int _ _)
                    · rw [if_neg c]; rw [if_neg c] at h; exact h _ _ (Step.of_keeps x hk) (.int _ _)
theorem BltR.int {b : Bool} : BltR K n (.type "int") [.bool b] (.int (if b then 1 else 0)) := by
  intro A φ σ s vs Q E R x r h
  cases r with
  | cons hd ht => cases hd; cases ht
                  exact call_int_bool (h _ _ (Step.tok x) (.int _ _))
theorem BltR.tuple {ds : List PyData} (hs : ds.length ≤ sizeLine) : BltR K n (.type "tuple") [.list ds] (.tuple ds) := by
  intro A φ σ s vs Q E R x r h
  cases r with
  | cons hd ht => cases ht; cases hd with
    | @list a vs' _ hn hl ha =>
      refine call_tuple_list hl (fun h' hk => ?_) (by rw [List.size_toArray, ha.length]; exact hs)
      have st : Step K.g φ σ s φ { s with heap := h', toks := s.toks } := Step.of_keeps x hk
      have st2 := Step.push (tk := s.toks) (s := { s with heap := h', toks := s.toks }) { cls := .type "tuple", data := .seq vs'.toArray } st.sto
      exact h _ _ (st.trans st2) (.tuple (size_notIn st.sto) ⟨_, Heap.get?_push_size _ rfl⟩ (st2.repAll (st.repAll ha)))

theorem any_range (bs : List Bool) : (List.range bs.length).any (fun i => bs.getD i false) = bs.any id := by
  rw [Bool.eq_iff_iff]
  simp only [List.any_eq_true, List.mem_range, id]
  constructor
  · rintro ⟨i, hi, hb⟩
    rw [List.getD_eq_getElem?_getD, List.getElem?_eq_getElem hi] at hb
    exact ⟨_, List.getElem_mem hi, hb⟩
  · rintro ⟨b, hm, hb⟩
    obtain ⟨i, hi, rfl⟩ := List.getElem_of_mem hm
    exact ⟨i, hi, by rw [List.getD_eq_getElem?_getD, List.getElem?_eq_getElem hi]; exact hb⟩
theorem BltR.any {bs : List Bool} {b : Bool} (hb : bs.any id = b) : BltR K n (.builtin "any") [.list (bs.map .bool)] (.bool b) := by
  subst hb
  intro A φ σ s vs Q E R x r h
  cases r with
  | cons hd ht => cases ht; cases hd with
    | @list a ws _ hn hl ha =>
      have hne : a ≠ s.heap.objs.size := by obtain ⟨o, ho, _⟩ := hl; exact Nat.ne_of_lt (Heap.lt_size ho)
      refine call_any_walk (wpAny_pyIter_list hl ⟨s.heap.objs.size, _, _, _, _, _, (fun i => bs.getD i false), rfl, Walks.list (A := A.in1) R.hh _ a hne ws.toArray, ⟨⟨_, Heap.get?_push_size _ rfl, rfl, rfl⟩, hl.push _⟩, ?_, ?_⟩)
      · intro i v s' Q' E' hP hQ'
        obtain ⟨d, hd, hr⟩ := ha.of_get (i := i) (v := v) (by simpa using hP)
        rw [List.getElem?_map] at hd
        cases hb : bs[i]? with
        | none => rw [hb] at hd; cases hd
        | some c =>
          rw [hb] at hd; cases hd
          cases hr
          refine wpAny_truthy_bool ?_
          simp only [List.getD_eq_getElem?_getD, hb] at hQ'
          exact hQ'
      · intro h' tk hk
        have e : ws.toArray.size = bs.length := by rw [List.size_toArray, ha.length, List.length_map]
        rw [e, any_range]
        refine h _ _ (Step.of_keeps (h' := h') (tk := tk) x fun b o e => hk b o ?_ (Heap.get?_push_of_some _ e)) (.bool _)
        rw [List.mem_singleton]; rintro rfl; rw [get_none_ge (Nat.le_refl _)] at e; cases e

theorem callWith_typ {M : Model} {A : Around} {E : Value → Shared → Prop} {s : Shared} {id : String} {es : List Expr} {pos : Pos} {Q : Value → Shared → Prop} (h : wpAny M A (spliced (backTo pos (starEach es env))) (fun vs s' => wpAny M A (PySem.call (.type id) vs) Q E s') E s)
    (h0 : (starEach es env).all (fun x => !x.1) = true) : wpAny M A (callWith pos (.type id) [] (backTo pos (starEach es env)) []) Q E s := by
  refine PySem.callWith_type ?_ (evalArgs_ev h h0)
  rw [List.any_eq_false]
  intro x hx
  obtain ⟨y, hy, rfl⟩ := List.mem_map.mp hx
  have := List.all_eq_true.mp h0 y hy
  simpa using this
theorem EvE.typ {y : Str} {id : String} {p pos : Pos} {es : List Expr} {ls : List LV} {ds : List PyData} {r : PyData} (ha : EvA K n env ρ σ es ls σ') (hl : Dats ls ds) (hc : BltR K n (.type id) ds r) (hv : bootBuiltins y = some (.type id))
    (hy : y ∈ (["isinstance", "tuple", "len", "max", "int", "any", "range"] : List Str) := by decide)
    (hx : env.kindOf y = some .globalImplicit := by with_unfolding_all rfl) (h0 : (starEach es env).all (fun x => !x.1) = true := by with_unfolding_all rfl) (hdb : (y == ("__debug__" : Str)) = false := by decide) : EvE K n env ρ σ (.Call (.Name y p) es [] pos) (.dat r) σ' :=
  fun A φ s Q E R x hQ => by
    refine wpAny_Call_NameR (wp_built x hx hy hv (callWith_typ (ha A φ s pos _ E R x fun vs φ₁ s₁ y₁ r₁ => ?_) h0) hdb)
    exact hc A φ₁ σ' s₁ vs Q E R y₁.sto (r₁.dats hl) fun v s₂ y₂ r₂ => hQ v φ₁ s₂ (y₁.trans y₂) (.dat r₂)
end
end PMB8
section PMB9
/-! ## The frame of a call -/
noncomputable def fenv (scope : Scope) (name : Str) (L a : Addr) (code : Value) : Env := newEnv scope L mainGlobals (cellsFrom (L + 1) scope.names []) (name ++ ".<locals>.") (some a) code none builtinsNs

theorem kindOf_lookup (env : Env) (x : Str) : env.kindOf x = env.scope.names.lookup x := by
  first | rfl | (unfold Env.kindOf; rfl)

theorem cellsFrom_acc : ∀ (names : List (Str × NameKind)) (n : Nat) (acc : List (Str × Addr)) (x : Str), (acc.lookup x).isSome = true → ((cellsFrom n names acc).lookup x).isSome = true
  | [], _, _, _, h => h
  | (y, k) :: r, n, acc, x, h => by
    unfold cellsFrom
    split
    · refine cellsFrom_acc r _ _ x ?_
      rw [List.lookup_cons]
      cases x == y <;> simp [h]
    · exact cellsFrom_acc r _ _ x h
theorem cellsFrom_has : ∀ (names : List (Str × NameKind)) (n : Nat) (acc : List (Str × Addr)) (x : Str), names.lookup x = some .cell → ((cellsFrom n names acc).lookup x).isSome = true
  | [], _, _, _, h => by cases h
  | (y, k) :: r, n, acc, x, h => by
    rw [List.lookup_cons] at h
    unfold cellsFrom
    cases hb : x == y with
    | true =>
      rw [hb] at h; cases h
      rw [if_pos (by rfl)]
      refine cellsFrom_acc r _ _ x ?_
      rw [List.lookup_cons, hb]; rfl
    | false =>
      rw [hb] at h
      split
      · exact cellsFrom_has r _ _ x h
      · exact cellsFrom_has r _ _ x h

theorem bindL_other {kindOf : Str → Option NameKind} {y : Str} : ∀ {bs : List (Str × Value)} {m : Str → Option Value}, (∀ p ∈ bs, p.1 ≠ y) → bindL kindOf bs m y = m y
  | [], _, _ => rfl
  | (x, v) :: r, m, h => by
    unfold bindL
    rw [bindL_other fun p hp => h p (List.mem_cons_of_mem _ hp)]
    split
    · exact if_neg (Ne.symm (h _ List.mem_cons_self))
    · rfl
theorem bindC_other {kindOf : Str → Option NameKind} {y : Str} : ∀ {bs : List (Str × Value)} {m : Str → Option Value}, (∀ p ∈ bs, p.1 ≠ y) → bindC kindOf bs m y = m y
  | [], _, _ => rfl
  | (x, v) :: r, m, h => by
    unfold bindC
    rw [bindC_other fun p hp => h p (List.mem_cons_of_mem _ hp)]
    split
    · rfl
    · exact if_neg (Ne.symm (h _ List.mem_cons_self))
theorem bind_get {kindOf : Str → Option NameKind} {φ : List Addr} {h : Heap} {y : Str} {lv : LV} : ∀ {xs : List Str} {vs : List Value} {ls : List LV} {m cm : Str → Option Value}, xs.Nodup → RepLs φ h vs ls → Get (xs.zip ls) y lv →
    ∃ v, RepL φ h v lv ∧ (kindOf y = some .local → bindL kindOf (xs.zip vs) m y = some v) ∧ (kindOf y ≠ some .local → bindC kindOf (xs.zip vs) cm y = some v)
  | [], _, _, _, _, _, _, g => by cases g
  | _ :: _, _, [], _, _, _, _, g => by cases g
  | x :: xs, _, _ :: ls, m, cm, nd, .cons (v := v) (vs := vs) hd ht, g => by
    have nd' := List.nodup_cons.mp nd
    have hne : ∀ p ∈ xs.zip vs, p.1 ≠ x := fun p hp e => nd'.1 (e ▸ (List.of_mem_zip (show (p.1, p.2) ∈ xs.zip vs from hp)).1)
    cases g with
    | here =>
      refine ⟨v, hd, fun hk => ?_, fun hk => ?_⟩
      · rw [List.zip_cons_cons]; unfold bindL; rw [bindL_other hne, if_pos hk]; exact if_pos rfl
      · rw [List.zip_cons_cons]; unfold bindC; rw [bindC_other hne, if_neg hk]; exact if_pos rfl
    | there hn g =>
      obtain ⟨u, hu, h1, h2⟩ := bind_get (kindOf := kindOf) (m := if kindOf x = some .local then fun z => if z = x then some v else m z else m) (cm := if kindOf x = some .local then cm else fun z => if z = x then some v else cm z) nd'.2 ht g
      exact ⟨u, hu, fun hk => by rw [List.zip_cons_cons]; unfold bindL; exact h1 hk, fun hk => by rw [List.zip_cons_cons]; unfold bindC; exact h2 hk⟩

theorem enter_one {K : Cx} {n : Nat} {σ σ' : Sto} {ρ' : Loc} {args : List LV} {r : LV} {A : Around} {φ : List Addr} {s : Shared} {f : Addr} {vs : List Value} {Q : Value → Shared → Prop} {E : Value → Shared → Prop} {o : Obj} {pm code doc : Value}
    (d : DefRec) (xs : List Str) (hlen : xs.length = args.length)
    (hbind : ∀ pm code doc vs, vs.length = xs.length → bindArgs (docDef d.name d.params d.body d.scope pm code doc) ⟨vs, []⟩ = pure (xs.zip vs))
    (R : Room (n + 1) A) (h2 : K.g.get? f = some o) (h3 : o.data = .func (docDef d.name d.params d.body d.scope pm code doc)) (h4 : K.g.CodeRec code d.name)
    (sto : StoR K.g φ s.heap σ) (gr : ∀ b o, K.g.get? b = some o → s.heap.get? b = some o) (rs : RepLs φ s.heap vs args)
    (hbody : EvB K n (fenv d.scope d.name s.heap.objs.size f code) (xs.zip args) σ d.body (.ret r) ρ' σ')
    (hQ : ∀ v φ' s', Step K.g φ σ' s φ' s' → RepL φ' s'.heap v r → Q v s')
    (hnd : xs.Nodup) (hks : ∀ x ∈ xs, d.scope.names.lookup x = some .local ∨ d.scope.names.lookup x = some .cell)
    (hco : d.scope.isCoroutine = false) (hgen : d.scope.isGenerator = false) (hk : d.scope.kind = .function) : wpAny (model K.prog K.w) A (call (.ref f) vs) Q E s := by
  have hl : vs.length = xs.length := by rw [rs.length, hlen]
  refine wpAny_call (codeAny_call_cells (by have := R.hd; omega) (gr _ _ h2) h3 (K.nolim.keeps gr) ?_ rfl (hbind pm code doc vs hl) rfl ?_ (fun s₁ x => ?_) hco hgen hk)
  · obtain ⟨c, oc, vs', t, e1, e2, e3, e4⟩ := h4
    exact ⟨c, oc, vs', t, e1, gr _ _ e2, e3, e4⟩
  · intro p hp
    have hx : p.1 ∈ xs := (List.of_mem_zip (show (p.1, p.2) ∈ xs.zip vs from hp)).1
    rcases hks _ hx with h | h
    · exact .inl h
    · exact .inr ⟨h, cellsFrom_has _ _ _ _ h⟩
  · have henv : callEnvC (docDef d.name d.params d.body d.scope pm code doc) s.heap.objs.size f = fenv d.scope d.name s.heap.objs.size f code := rfl
    rw [henv] at x ⊢
    have hsz : ∀ b, s.heap.objs.size ≤ b → K.g.get? b = none := fun b hb => by
      cases e : K.g.get? b with
      | none => rfl
      | some o => exact absurd (Heap.lt_size (gr _ _ e)) (Nat.not_lt.mpr hb)
    have st : Step K.g φ σ s φ s₁ := by
      obtain ⟨h', tk, rfl⟩ := x.toInCall.same
      exact Step.of_keeps sto x.toInCall.keep
    have R' : Room n (A.deeper (fenv d.scope d.name s.heap.objs.size f code)) := ⟨R.hh, by have := R.hd; show A.depth + 1 + n < _; omega, by have := R.hu; show A.units + 3 + _ + 200 < _; omega⟩
    have X : St K (fenv d.scope d.name s.heap.objs.size f code) (xs.zip args) φ σ s₁ := by
      refine ⟨⟨hk, rfl, rfl, ⟨_, x.toInCall.ns⟩, fun n c hc => ⟨_, x.cell n c hc⟩, fun b hb => ?_, fun y hy => ?_, fun n n' c h1 h2 => name_of_addr x.apart (mem_of_lookup h1) (mem_of_lookup h2)⟩, fun y u hy => ?_, st.sto, fun b o e => x.toInCall.keep _ _ (gr _ _ e)⟩
      · rcases hb with rfl | ⟨m, hm⟩
        · exact hsz _ (Nat.le_refl _)
        · exact hsz _ (Nat.le_of_lt (x.above m b (mem_of_lookup hm)))
      · rw [kindOf_lookup] at hy
        obtain ⟨c, hc⟩ := Option.isSome_iff_exists.mp (cellsFrom_has d.scope.names (s.heap.objs.size + 1) [] y hy)
        exact ⟨c, hc⟩
      · obtain ⟨v, hv, hb1, hb2⟩ := bind_get (kindOf := (fenv d.scope d.name s.heap.objs.size f code).kindOf) (m := fun _ => none) (cm := fun _ => none) hnd rs hy
        refine ⟨v, ?_, st.repL hv⟩
        have hx : y ∈ xs := by
          have : ∀ {ps : List Str} {ls : List LV}, Get (ps.zip ls) y u → y ∈ ps := by
            intro ps
            induction ps with
            | nil => intro ls g; cases g
            | cons p ps ih => intro ls g; cases ls with
              | nil => cases g
              | cons l ls => cases g with
                | here => exact List.mem_cons_self
                | there _ g => exact List.mem_cons_of_mem _ (ih g)
          exact this hy
        rcases hks y hx with h | h
        · exact .inl ⟨by rw [kindOf_lookup]; exact h, _, x.toInCall.ns, hb1 (by rw [kindOf_lookup]; exact h)⟩
        · have h' : (fenv d.scope d.name s.heap.objs.size f code).kindOf y = some .cell := by rw [kindOf_lookup]; exact h
          obtain ⟨c, hc⟩ := Option.isSome_iff_exists.mp (cellsFrom_has d.scope.names (s.heap.objs.size + 1) [] y h)
          refine .inr ⟨h', c, hc, ?_⟩
          have := x.cell y c hc
          rw [hb2 (by rw [h']; decide)] at this
          exact this
    refine hbody _ φ s₁ _ _ R' X fun v φ' s' y X' hf' => ?_
    cases hf' with
    | @ret v r hr =>
      refine hQ v φ' s' ⟨?_, ?_, ?_, ?_, X'.sto⟩ hr
      · obtain ⟨h', tk, rfl⟩ := st.same
        obtain ⟨h'', tk', rfl⟩ := y.same
        exact ⟨_, _, rfl⟩
      · intro b o hb e
        refine y.keep b o hb ?_ (x.toInCall.keep b o e)
        rintro (rfl | ⟨m, hm⟩)
        · exact absurd (Heap.lt_size e) (Nat.lt_irrefl _)
        · exact absurd (Heap.lt_size e) (Nat.not_lt.mpr (Nat.le_of_lt (x.above m b (mem_of_lookup hm))))
      · intro b hb
        rcases y.grow b hb with h | h
        · exact .inl h
        · refine .inr ?_
          cases e : s.heap.get? b with
          | none => rfl
          | some o => rw [x.toInCall.keep _ _ e] at h; cases h
      · exact y.pre
theorem EvC.enter {K : Cx} {n : Nat} {σ σ' : Sto} {args : List LV} {r : LV} (d : DefRec) (xs : List Str) (hd : d ∈ K.recs) (hlen : xs.length = args.length)
    (hbind : ∀ pm code doc vs, vs.length = xs.length → bindArgs (docDef d.name d.params d.body d.scope pm code doc) ⟨vs, []⟩ = pure (xs.zip vs))
    (body : ∀ L a code, ∃ ρ', EvB K n (fenv d.scope d.name L a code) (xs.zip args) σ d.body (.ret r) ρ' σ')
    (hnd : xs.Nodup := by decide) (hks : ∀ x ∈ xs, d.scope.names.lookup x = some .local ∨ d.scope.names.lookup x = some .cell := by decide)
    (hco : d.scope.isCoroutine = false := by rfl) (hgen : d.scope.isGenerator = false := by rfl) (hk : d.scope.kind = .function := by rfl) : EvC K (n + 1) d.name args σ r σ' := by
  intro A φ s f vs Q E R hf sto gr rs hQ
  obtain ⟨f', o, pm, code, doc, h1, h2, h3, h4⟩ := K.hdef d hd
  rw [hf] at h1; cases h1
  obtain ⟨ρ', hbody⟩ := body s.heap.objs.size f code
  exact enter_one d xs hlen hbind R h2 h3 h4 sto gr rs hbody hQ hnd hks hco hgen hk

/-- the lists that were made meanwhile may be forgotten -/
theorem Step.drop {g : Heap} {φ φ' : List Addr} {σ σ' τ : Sto} {s s' : Shared} {v : Value} {d : PyData} (sto : StoR g φ s.heap σ) (y : Step g φ (σ' ++ τ) s φ' s') (r : Rep φ' s'.heap v d) (hl : σ.length ≤ σ'.length) :
    ∃ φ'', Step g φ σ' s φ'' s' ∧ Rep φ'' s'.heap v d := by
  obtain ⟨ext, rfl⟩ := y.pre
  have l1 := y.sto.len
  have l0 := sto.len
  rw [List.length_append, List.length_append, l0] at l1
  have hk : (φ ++ ext).take σ'.length = φ ++ ext.take (σ'.length - φ.length) := by
    rw [List.take_append, List.take_of_length_le (by rw [l0]; exact hl)]
  have hlen : ((φ ++ ext).take σ'.length).length = σ'.length := by rw [List.length_take, List.length_append, l0]; omega
  have hsub : ∀ b ∈ (φ ++ ext).take σ'.length, b ∈ φ ++ ext := fun b hb => List.mem_of_mem_take hb
  refine ⟨(φ ++ ext).take σ'.length, ⟨y.same, y.keep, fun b hb => y.grow b (hsub b hb), ⟨_, hk⟩, hlen, y.sto.nd.sublist (List.take_sublist _ _), fun i a l e1 e2 => ?_, fun a ha => y.sto.off a (hsub a ha)⟩, r.keep (fun b o vs n _ e _ => e) fun b hb => .inl (hsub b hb)⟩
  have hi : i < σ'.length := (List.getElem?_eq_some_iff.mp e2).1
  rw [List.getElem?_take_of_lt hi] at e1
  obtain ⟨vs', h1, h2⟩ := y.sto.item i a l e1 (by rw [List.getElem?_append_left hi]; exact e2)
  exact ⟨vs', h1, h2.keep (fun b o vs n _ e _ => e) fun b hb => .inl (hsub b hb)⟩
theorem EvC.enterD {K : Cx} {n : Nat} {σ σ' : Sto} {args : List LV} {r : PyData} (d : DefRec) (xs : List Str) (hd : d ∈ K.recs) (hlen : xs.length = args.length)
    (hbind : ∀ pm code doc vs, vs.length = xs.length → bindArgs (docDef d.name d.params d.body d.scope pm code doc) ⟨vs, []⟩ = pure (xs.zip vs))
    (hl : σ.length ≤ σ'.length) (body : ∀ L a code, ∃ ρ' τ, EvB K n (fenv d.scope d.name L a code) (xs.zip args) σ d.body (.ret (.dat r)) ρ' (σ' ++ τ))
    (hnd : xs.Nodup := by decide) (hks : ∀ x ∈ xs, d.scope.names.lookup x = some .local ∨ d.scope.names.lookup x = some .cell := by decide)
    (hco : d.scope.isCoroutine = false := by rfl) (hgen : d.scope.isGenerator = false := by rfl) (hk : d.scope.kind = .function := by rfl) : EvC K (n + 1) d.name args σ (.dat r) σ' := by
  intro A φ s f vs Q E R hf sto gr rs hQ
  obtain ⟨f', o, pm, code, doc, h1, h2, h3, h4⟩ := K.hdef d hd
  rw [hf] at h1; cases h1
  obtain ⟨ρ', τ, hbody⟩ := body s.heap.objs.size f code
  refine enter_one d xs hlen hbind R h2 h3 h4 sto gr rs hbody (fun v φ' s' y hr => ?_) hnd hks hco hgen hk
  cases hr with
  | dat hr =>
    obtain ⟨φ'', y', r'⟩ := Step.drop sto y hr hl
    exact hQ v φ'' s' y' (.dat r')
theorem EvC.le {K : Cx} {n m : Nat} {y : Str} {args : List LV} {σ σ' : Sto} {r : LV} (h : EvC K n y args σ r σ') (hm : n ≤ m) : EvC K m y args σ r σ' :=
  fun A φ s f vs Q E R => h A φ s f vs Q E (R.le hm)
end PMB9
section PMB10
/-! ## Iterators -/
noncomputable def owners : List String := ["enumerate", "zip", "dict_itemiterator", "dict_reverseitemiterator", "odict_iterator", "itertools.zip_longest", "itertools.pairwise"]

theorem letgo_load {M : Model} {A : Around} {E : Value → Shared → Prop} {s : Shared} {t : Expr} {I a : Addr} {o : Obj} {T : String} {Q : Unit → Shared → Prop} (ho : s.heap.get? I = some o) (hc : o.cls = .type T) (hT : owners.contains T = false) (h : Q () s)
    (e : letOwnedTupleGo t (.ref I) (.ref a) = (do
      let o ← load I
      match o.cls, o.data with
      | .type n, .fields vs =>
        if owners.contains n && vs[0]? == some (rawInt a) then
          rule "for.unpacks-the-owned-tuple"
          updateField I 0 .none
      | _, _ => pure ())) : wpAny M A (letOwnedTupleGo t (.ref I) (.ref a)) Q E s := by
  rw [e]
  refine wpAny_bind (wpAny_load ho ?_)
  obtain ⟨c, d, dt, sl⟩ := o
  simp only at hc
  subst hc
  cases dt <;> first | exact wpAny_pure h | (dsimp only; rw [hT, Bool.false_and]; exact wpAny_pure h)
theorem letgo_of {M : Model} {A : Around} {E : Value → Shared → Prop} {s : Shared} {t : Expr} {I : Addr} {o : Obj} {T : String} {v : Value} {Q : Unit → Shared → Prop} (ho : s.heap.get? I = some o) (hc : o.cls = .type T) (hT : owners.contains T = false) (h : Q () s) :
    wpAny M A (letOwnedTupleGo t (.ref I) v) Q E s := by
  cases t with
  | Tuple elts k pos => cases v with
    | ref a => exact letgo_load ho hc hT h rfl
    | _ => exact wpAny_pure h
  | List elts pos => cases v with
    | ref a => exact letgo_load ho hc hT h rfl
    | _ => exact wpAny_pure h
  | _ => exact wpAny_pure h

/-- an iterator over data that lie apart from all that may change; h₀: the heap before -/
structure Wk (K : Cx) (A : Around) (X : Addr → Prop) (h₀ : Heap) (φ : List Addr) (h : Heap) (ds : List PyData) (I : Addr) (fp wr : List Addr) (P : Nat → Value → Prop) (S : Nat → Heap → Prop) : Prop where
  w : Walks K.prog K.w A I fp wr ds.length P S
  st : S 0 h
  rep : ∀ i v d, P i v → ds[i]? = some d → Rep φ h v d
  apart : ∀ b ∈ fp, ¬ X b
  off : ∀ b ∈ fp, b ∉ φ
  live : ∀ i h', S i h' → ∀ b ∈ fp, ∃ o, h'.get? b = some o
  fresh : ∀ b ∈ wr, h₀.get? b = none
  nseq : ∀ i h', S i h' → ∀ b ∈ wr, ∀ o vs n, h'.get? b = some o → o.data = .seq vs n → False
  go : ∀ i (s : Shared) (t : Expr) v (Q : Unit → Shared → Prop) (E : Value → Shared → Prop), S i s.heap → Q () s → wpAny (model K.prog K.w) A (letOwnedTupleGo t (.ref I) v) Q E s

section
variable {K : Cx} {n : Nat} {env : Env} {ρ ρ' : Loc} {φ : List Addr} {σ σ₁ σ₂ σ' : Sto} {s : Shared}

/-- the expression gives something that can be walked, of these data -/
noncomputable def EvI (K : Cx) (n : Nat) (env : Env) (ρ : Loc) (σ : Sto) (e : Expr) (ds : List PyData) (σ' : Sto) : Prop :=
  ∀ (A : Around) (φ : List Addr) (s : Shared) (Q : Value → Shared → Prop) (E : Value → Shared → Prop), Room n A → St K env ρ φ σ s →
    (∀ φ₁ s₁ I fp wr P S, Step K.g φ σ' s φ₁ s₁ → Wk K A (Own env) s.heap φ₁ s₁.heap ds I fp wr P S → Q (.ref I) s₁) →
    wpAny (model K.prog K.w) A (eval e env) (fun x s₁ => wpAny (model K.prog K.w) A (pyIter x) Q E s₁) E s

theorem EvI.list {e : Expr} {ds : List PyData} (h : EvE K n env ρ σ e (.dat (.list ds)) σ') : EvI K n env ρ σ e ds σ' := by
  intro A φ s Q E R x hQ
  refine h A φ s _ E R x fun v φ₁ s₁ y r => ?_
  cases r with
  | dat r => cases r with
    | @list l vs _ hn hl ha =>
      refine wpAny_pyIter_list hl ?_
      have hlt : l < s₁.heap.objs.size := by obtain ⟨o, ho, _⟩ := hl; exact Heap.lt_size ho
      have x₁ := x.step y
      have st := Step.push (tk := s₁.toks) { cls := .type "list_iterator", data := .fields #[.ref l, .int 0 0] } y.sto
      have hsz : vs.toArray.size = ds.length := by rw [List.size_toArray, ha.length]
      have x₂ := x₁.step st
      refine hQ φ₁ _ s₁.heap.objs.size _ _ _ _ (y.trans st) ⟨hsz ▸ Walks.list R.hh _ l (Nat.ne_of_lt hlt) vs.toArray, ⟨⟨_, Heap.get?_push_size _ rfl, rfl, rfl⟩, hl.push _⟩, ?_, ?_, ?_, ?_, ?_, ?_, ?_⟩
      · intro i v d hv hd
        obtain ⟨d', hd', hr⟩ := ha.of_get (i := i) (v := v) (by simpa using hv)
        rw [hd] at hd'; cases hd'
        exact st.rep hr
      · intro b hb ho
        rcases List.mem_cons.mp hb with rfl | hb
        · obtain ⟨o, ho'⟩ := x₁.live ho; rw [get_none_ge (Nat.le_refl _)] at ho'; cases ho'
        · rw [List.mem_singleton.mp hb] at ho
          obtain ⟨o, e1, _, k, e2⟩ := hl
          exact own_notSeq x₁.fr ho e1 e2
      · intro b hb
        rcases List.mem_cons.mp hb with rfl | hb
        · exact size_notIn y.sto
        · rw [List.mem_singleton.mp hb]; exact hn
      · rintro i h' ⟨⟨o, ho, _⟩, ⟨o', ho', _⟩⟩ b hb
        rcases List.mem_cons.mp hb with rfl | hb
        · exact ⟨o, ho⟩
        · rw [List.mem_singleton.mp hb]; exact ⟨o', ho'⟩
      · intro b hb
        rw [List.mem_singleton.mp hb]
        cases e1 : s.heap.get? s₁.heap.objs.size with
        | none => rfl
        | some o =>
          by_cases hm : s₁.heap.objs.size ∈ φ
          · obtain ⟨ext, hx⟩ := y.pre
            exact absurd (hx ▸ List.mem_append_left _ hm) (size_notIn y.sto)
          · exact absurd (Heap.lt_size (y.keep _ _ hm e1)) (Nat.lt_irrefl _)
      · rintro i h' ⟨⟨o, ho, _, hd⟩, _⟩ b hb o' vs' k e1 e2
        rw [List.mem_singleton.mp hb, ho] at e1; cases e1; rw [hd] at e2; cases e2
      · rintro i s' t v Q' E' ⟨⟨o, ho, hc, hd⟩, _⟩ hQ'
        exact letgo_of ho hc (by decide) hQ'

theorem EvI.tuple {e : Expr} {ds : List PyData} (h : EvE K n env ρ σ e (.dat (.tuple ds)) σ') : EvI K n env ρ σ e ds σ' := by
  intro A φ s Q E R x hQ
  refine h A φ s _ E R x fun v φ₁ s₁ y r => ?_
  cases r with
  | dat r => cases r with
    | @tuple l vs _ hn hl0 ha =>
      have hl : s₁.heap.IsTuple l vs.toArray := hl0.is
      refine wpAny_pyIter_tuple hl ?_
      have hlt : l < s₁.heap.objs.size := by obtain ⟨o, ho, _⟩ := hl; exact Heap.lt_size ho
      have x₁ := x.step y
      have st := Step.push (tk := s₁.toks) { cls := .type "tuple_iterator", data := .fields #[.ref l, .int 0 0] } y.sto
      have hsz : vs.toArray.size = ds.length := by rw [List.size_toArray, ha.length]
      have x₂ := x₁.step st
      refine hQ φ₁ _ s₁.heap.objs.size _ _ _ _ (y.trans st) ⟨hsz ▸ Walks.tuple R.hh _ l (Nat.ne_of_lt hlt) vs.toArray, ⟨⟨_, Heap.get?_push_size _ rfl, rfl, rfl⟩, hl.at fun o e => Heap.get?_push_of_some _ e⟩, ?_, ?_, ?_, ?_, ?_, ?_, ?_⟩
      · intro i v d hv hd
        obtain ⟨d', hd', hr⟩ := ha.of_get (i := i) (v := v) (by simpa using hv)
        rw [hd] at hd'; cases hd'
        exact st.rep hr
      · intro b hb ho
        rcases List.mem_cons.mp hb with rfl | hb
        · obtain ⟨o, ho'⟩ := x₁.live ho; rw [get_none_ge (Nat.le_refl _)] at ho'; cases ho'
        · rw [List.mem_singleton.mp hb] at ho
          obtain ⟨o, e1, _, k, e2⟩ := hl
          exact own_notSeq x₁.fr ho e1 e2
      · intro b hb
        rcases List.mem_cons.mp hb with rfl | hb
        · exact size_notIn y.sto
        · rw [List.mem_singleton.mp hb]; exact hn
      · rintro i h' ⟨⟨o, ho, _⟩, ⟨o', ho', _⟩⟩ b hb
        rcases List.mem_cons.mp hb with rfl | hb
        · exact ⟨o, ho⟩
        · rw [List.mem_singleton.mp hb]; exact ⟨o', ho'⟩
      · intro b hb
        rw [List.mem_singleton.mp hb]
        cases e1 : s.heap.get? s₁.heap.objs.size with
        | none => rfl
        | some o =>
          by_cases hm : s₁.heap.objs.size ∈ φ
          · obtain ⟨ext, hx⟩ := y.pre
            exact absurd (hx ▸ List.mem_append_left _ hm) (size_notIn y.sto)
          · exact absurd (Heap.lt_size (y.keep _ _ hm e1)) (Nat.lt_irrefl _)
      · rintro i h' ⟨⟨o, ho, _, hd⟩, _⟩ b hb o' vs' k e1 e2
        rw [List.mem_singleton.mp hb, ho] at e1; cases e1; rw [hd] at e2; cases e2
      · rintro i s' t v Q' E' ⟨⟨o, ho, hc, hd⟩, _⟩ hQ'
        exact letgo_of ho hc (by decide) hQ'

/-- 0, 1, .. -/
noncomputable def upto (k : Nat) : List PyData := (List.range k).map fun i => .int (i : Nat)
theorem upto_length (k : Nat) : (upto k).length = k := by simp [upto]

theorem EvI.range {e : Expr} {p pos : Pos} {k : Int} (h : EvE K n env ρ σ e (.dat (.int k)) σ') (hlo : 0 ≤ k) (hhi : k ≤ 1000)
    (hx : env.kindOf "range" = some .globalImplicit := by with_unfolding_all rfl)
    (h0 : starEach [e] env = [(false, eval e env)] := by with_unfolding_all rfl) : EvI K n env ρ σ (.Call (.Name "range" p) [e] [] pos) (upto k.toNat) σ' := by
  intro A φ s Q E R x hQ
  have hdb : (("range" : Str) == ("__debug__" : Str)) = false := by decide
  refine wpAny_Call_NameR (wp_built x hx (by decide) (v := .type "range") (by with_unfolding_all rfl) (callWith_typ ?_ (by rw [h0]; rfl)) hdb)
  refine spliced_more (h A φ s _ E R x fun v φ₁ s₁ y r => spliced_none ?_) h0
  cases r with
  | dat r =>
    cases r with
    | int _ t =>
      refine call_range_1 ?_
      have x₁ := x.step y
      have st := Step.push (tk := s₁.toks + 1 + 1) { cls := .type "range", data := .fields #[.int 0 s₁.toks, .int k t, .int 1 (s₁.toks + 1)] } y.sto
      have y₁ := y.trans st
      have x₂ := x₁.step st
      refine wpAny_pyIter_range (IsRange.new ..) (small_one (by decide) (by decide) (by omega) (by omega)) ?_
      generalize hs₂ : ({ s₁ with heap := s₁.heap.push { cls := .type "range", data := .fields #[.int 0 s₁.toks, .int k t, .int 1 (s₁.toks + 1)] }, toks := s₁.toks + 1 + 1 } : Shared) = s₂ at st y₁ x₂ ⊢
      have e : Builtin.Range.rangeSize 0 k 1 = (k.toNat : Int) := by rw [rangeSize_nat]; simp
      rw [e]
      have st2 := Step.push (tk := s₂.toks) { cls := .type "range_iterator", data := .fields #[rawInt 0, rawInt (k.toNat : Int), rawInt 1] } y₁.sto
      refine hQ φ₁ _ s₂.heap.objs.size [s₂.heap.objs.size] [s₂.heap.objs.size] (fun i v => ∃ t, v = .int (0 + i * 1) t) (fun i h => IsRangeIter h s₂.heap.objs.size (0 + (i : Nat) * 1) ((k.toNat : Int) - (i : Nat)) 1) (y₁.trans st2) ⟨(upto_length k.toNat).symm ▸ Walks.range R.hh _ 0 1 k.toNat, by simpa using Heap.get?_push_size _ rfl, ?_, ?_, ?_, ?_, ?_, ?_, ?_⟩
      · rintro i v d ⟨t, rfl⟩ hd
        have hi : i < k.toNat := by rw [← upto_length k.toNat]; exact (List.getElem?_eq_some_iff.mp hd).1
        have : d = .int (i : Nat) := by
          simp [upto, hi] at hd; exact hd.symm
        subst this
        rw [Int.zero_add, Int.mul_one]
        exact .int _ _
      · intro b hb ho
        rw [List.mem_singleton.mp hb] at ho
        obtain ⟨o, ho'⟩ := x₂.live ho; rw [get_none_ge (Nat.le_refl _)] at ho'; cases ho'
      · intro b hb
        rw [List.mem_singleton.mp hb]; exact size_notIn y₁.sto
      · intro i h' hi b hb
        rw [List.mem_singleton.mp hb]; exact ⟨_, hi⟩
      · intro b hb
        rw [List.mem_singleton.mp hb]
        cases e1 : s.heap.get? s₂.heap.objs.size with
        | none => rfl
        | some o =>
          by_cases hm : s₂.heap.objs.size ∈ φ
          · obtain ⟨ext, hx⟩ := y₁.pre
            exact absurd (hx ▸ List.mem_append_left _ hm) (size_notIn y₁.sto)
          · exact absurd (Heap.lt_size (y₁.keep _ _ hm e1)) (Nat.lt_irrefl _)
      · intro i h' hi b hb o' vs' k e1 e2
        rw [List.mem_singleton.mp hb, hi] at e1; cases e1; cases e2
      · intro i s' t v Q' E' hi hQ'
        exact letgo_of hi rfl (by decide) hQ'
end
end PMB10
section PMB11
/-! ## Loops -/
section
variable {K : Cx} {n : Nat} {env : Env} {ρ ρ' : Loc} {φ : List Addr} {σ σ₁ σ₂ σ' : Sto} {s : Shared}

/-- objects that are neither the frame's, nor the store's, nor sequences, change -/
theorem St.other {wr : List Addr} {h' : Heap} {tk : Nat} (x : St K env ρ φ σ s) (k : ∀ b o, b ∉ wr → s.heap.get? b = some o → h'.get? b = some o)
    (ho : ∀ b ∈ wr, ¬ Own env b) (hφ : ∀ b ∈ wr, b ∉ φ) (hq : ∀ b ∈ wr, ∀ o vs n, s.heap.get? b = some o → o.data = .seq vs n → False) (hg : ∀ b ∈ wr, K.g.get? b = none) :
    St K env ρ φ σ { s with heap := h', toks := tk } := by
  have ks : ∀ b o vs n, s.heap.get? b = some o → o.data = .seq vs n → h'.get? b = some o := fun b o vs n e d => k b o (fun hb => hq b hb o vs n e d) e
  have ko : ∀ b o, Own env b → s.heap.get? b = some o → h'.get? b = some o := fun b o hb e => k b o (fun hw => ho b hw hb) e
  exact ⟨x.fr.keep ko, fun y u hy => by
    obtain ⟨v, hv, hr⟩ := x.loc y u hy
    exact ⟨v, hv.keep ko, hr.keep (fun b o vs n _ e d => ks b o vs n e d) (fun b hb => .inl hb) (ext := []) (by rw [List.append_nil])⟩,
    x.sto.keeps ks, fun b o e => k b o (fun hb => by rw [hg b hb] at e; cases e) (x.gr b o e)⟩

theorem St.gnone (x : St K env ρ φ σ s) {b : Addr} (h : s.heap.get? b = none) : K.g.get? b = none := by
  cases e : K.g.get? b with
  | none => rfl
  | some o => rw [x.gr b o e] at h; cases h

/-- the turns of a for -/
inductive EvFor (K : Cx) (n : Nat) (env : Env) (target : Expr) (body : List Stmt) : Loc → Sto → List PyData → Fl → Loc → Sto → Prop
  | nil {ρ : Loc} {σ : Sto} : EvFor K n env target body ρ σ [] .next ρ σ
  | next {ρ ρ₁ ρ₂ ρ' : Loc} {σ σ₂ σ' : Sto} {d : PyData} {ds : List PyData} {f : Fl} (ht : AsT K n (Own env) env ρ target (.dat d) ρ₁) (hb : EvB K n env ρ₁ σ body .next ρ₂ σ₂)
      (hr : EvFor K n env target body ρ₂ σ₂ ds f ρ' σ') : EvFor K n env target body ρ σ (d :: ds) f ρ' σ'
  | ret {ρ ρ₁ ρ' : Loc} {σ σ' : Sto} {d : PyData} {ds : List PyData} {r : LV} (ht : AsT K n (Own env) env ρ target (.dat d) ρ₁) (hb : EvB K n env ρ₁ σ body (.ret r) ρ' σ') :
      EvFor K n env target body ρ σ (d :: ds) (.ret r) ρ' σ'

/-- a step within a loop, seen from before the iterator was made -/
theorem StepX.hide {wr : List Addr} {φ₁ φ' : List Addr} {s₁ s' : Shared} (x : St K env ρ φ σ s) (y : StepS K env φ s φ₁ s₁) (z : StepX (fun b => Own env b ∨ b ∈ wr) φ₁ s₁ φ' s')
    (hf : ∀ b ∈ wr, s.heap.get? b = none) : StepS K env φ s φ' s' where
  same := by
    obtain ⟨h, tk, rfl⟩ := y.same
    obtain ⟨h', tk', rfl⟩ := z.same
    exact ⟨h', tk', rfl⟩
  keep := fun b o hb ho e => z.keep b o (y.grow.not hb e) (fun h => h.elim ho fun h => by rw [hf b h] at e; cases e) (y.keep b o hb ho e)
  grow := by
    intro b hb
    rcases z.grow b hb with h1 | h1
    · exact y.grow b h1
    · by_cases hm : b ∈ φ
      · exact .inl hm
      · refine .inr ?_
        cases e : s.heap.get? b with
        | none => rfl
        | some o =>
          by_cases ho : Own env b
          · exact absurd hb (z.own b (.inl ho) (y.own b ho hm))
          · rw [y.keep b o hm ho e] at h1; cases h1
  pre := by
    obtain ⟨e, rfl⟩ := y.pre
    obtain ⟨e', rfl⟩ := z.pre
    exact ⟨e ++ e', by rw [List.append_assoc]⟩
  own := fun b hb hm => z.own b (.inl hb) (y.own b hb hm)

theorem EvS.for {target iter : Expr} {body : List Stmt} {pos : Pos} {ds : List PyData} {f : Fl} (hi : EvI K n env ρ σ iter ds σ₁) (hf : EvFor K n env target body ρ σ₁ ds f ρ' σ')
    (hs : ∀ x, foldedSetIterable iter env x = pure x := by intro _; with_unfolding_all rfl) : EvS K n env ρ σ (.For target iter body [] pos) f ρ' σ' := by
  intro A φ s Q E R x hQ
  refine wpAny_For (hi A φ s _ E R x fun φ₁ s₁ I fp wr P S y wk => ?_) hs
  have x₁ := x.step y
  have y₁ := Step.toS x y
  have hgw : ∀ b ∈ wr, K.g.get? b = none := fun b hb => x.gnone (wk.fresh b hb)
  refine codeAny_forLoop_any
    (fun k s' => ∃ i φ' ρ₂ σ₂, k = ds.length - i ∧ i ≤ ds.length ∧ StepX (fun b => Own env b ∨ b ∈ wr) φ₁ s₁ φ' s' ∧ St K env ρ₂ φ' σ₂ s' ∧ S i s'.heap ∧ (∀ b ∈ fp, b ∉ φ') ∧ EvFor K n env target body ρ₂ σ₂ (ds.drop i) f ρ' σ')
    ?_ ds.length ⟨0, φ₁, ρ, σ₁, rfl, Nat.zero_le _, StepX.refl, x₁, wk.st, wk.off, by simpa using hf⟩
  rintro k s' ⟨i, φ', ρ₂, σ₂, rfl, hi, st, x', hS, hoff, hd⟩
  have ho : ∀ b ∈ wr, ¬ Own env b := fun b hb => wk.apart b (wk.w.sub b hb)
  have hφ : ∀ b ∈ wr, b ∉ φ' := fun b hb => hoff b (wk.w.sub b hb)
  -- a step of the iterator itself
  have itr : ∀ h' tk, (∀ b o, b ∉ wr → s'.heap.get? b = some o → h'.get? b = some o) →
      StepX (fun b => Own env b ∨ b ∈ wr) φ₁ s₁ φ' { s' with heap := h', toks := tk } ∧ St K env ρ₂ φ' σ₂ { s' with heap := h', toks := tk } := fun h' tk hk =>
    ⟨st.trans ⟨⟨_, _, rfl⟩, fun b o _ hb e => hk b o (fun h => hb (.inr h)) e, fun b hb => .inl hb, ⟨[], by rw [List.append_nil]⟩, fun _ _ h => h⟩,
      x'.other hk ho hφ (wk.nseq i _ hS) hgw⟩
  rcases Nat.lt_or_ge i ds.length with hlt | hge
  · refine wk.w.item i s' _ _ hlt hS fun v h' tk hP hS' hk => ?_
    obtain ⟨st', x''⟩ := itr h' tk hk
    refine wk.go (i + 1) _ target v _ _ hS' ?_
    have hdrop : ds.drop i = ds[i] :: ds.drop (i + 1) := by simp
    rw [hdrop] at hd
    have hrep : Rep φ' h' v ds[i] := by
      refine (wk.rep i v ds[i] hP (by simp)).keep (fun b o vs m hb e d => ?_) st'.grow
      exact st'.keep b o hb (fun h => h.elim (fun h => own_notSeq x₁.fr h e d) fun h => wk.nseq 0 _ wk.st b h o vs m e d) e
    -- what a step of the frame keeps of the iterator
    have live' := wk.live (i + 1) _ hS'
    have stp : ∀ {φ'' : List Addr} {s'' : Shared}, StepS K env φ' { s' with heap := h', toks := tk } φ'' s'' →
        StepX (fun b => Own env b ∨ b ∈ wr) φ₁ s₁ φ'' s'' ∧ S (i + 1) s''.heap ∧ (∀ b ∈ fp, b ∉ φ'') := fun {φ''} {s''} z => by
      have hoff' : ∀ b ∈ fp, b ∉ φ'' := fun b hb => by
        obtain ⟨o, e⟩ := live' b hb
        exact z.grow.not (hoff b hb) e
      refine ⟨st'.trans (z.weaken (fun b hb => .inl hb) fun b hb hm => hb.elim (fun h => z.own b h hm) fun h => hoff' b (wk.w.sub b h)), ?_, hoff'⟩
      exact wk.w.frame (i + 1) h' s''.heap hS' fun b hb o e => z.keep b o (hoff b hb) (wk.apart b hb) e
    cases hd with
    | next ht hb hr =>
      refine ht A φ' σ₂ _ v _ _ R x'' (.dat hrep) fun s₃ z₁ x₃ => ?_
      refine hb A φ' s₃ _ _ R x₃ fun fl φ₄ s₄ z₂ x₄ hfl => ?_
      cases hfl
      obtain ⟨h1, h2, h3⟩ := stp (z₁.trans z₂)
      exact ⟨ds.length - (i + 1), by omega, i + 1, φ₄, _, _, rfl, hlt, h1, x₄, h2, h3, hr⟩
    | ret ht hb =>
      refine ht A φ' σ₂ _ v _ _ R x'' (.dat hrep) fun s₃ z₁ x₃ => ?_
      refine hb A φ' s₃ _ _ R x₃ fun fl φ₄ s₄ z₂ x₄ hfl => ?_
      obtain ⟨h1, h2, h3⟩ := stp (z₁.trans z₂)
      cases hfl with
      | ret hr => exact hQ _ φ₄ s₄ (StepX.hide x y₁ h1 wk.fresh) x₄ (.ret hr)
  · have hin : i = ds.length := Nat.le_antisymm hi hge
    subst hin
    refine wk.w.done s' _ _ hS fun h' tk hk => ?_
    obtain ⟨st', x''⟩ := itr h' tk hk
    rw [List.drop_length] at hd
    cases hd
    exact wpAny_execs_nil (hQ _ φ' _ (StepX.hide x y₁ st' wk.fresh) x'' .next)

/-- the turns of a while -/
inductive EvWh (K : Cx) (n : Nat) (env : Env) (test : Expr) (body : List Stmt) : Nat → Loc → Sto → Fl → Loc → Sto → Prop
  | stop {k : Nat} {ρ : Loc} {σ σ' : Sto} (ht : EvT K n env ρ σ test false σ') : EvWh K n env test body k ρ σ .next ρ σ'
  | next {k : Nat} {ρ ρ₂ ρ' : Loc} {σ σ₁ σ₂ σ' : Sto} {f : Fl} (ht : EvT K n env ρ σ test true σ₁) (hb : EvB K n env ρ σ₁ body .next ρ₂ σ₂) (hr : EvWh K n env test body k ρ₂ σ₂ f ρ' σ') :
      EvWh K n env test body (k + 1) ρ σ f ρ' σ'
  | cont {k : Nat} {ρ ρ₂ ρ' : Loc} {σ σ₁ σ₂ σ' : Sto} {f : Fl} (ht : EvT K n env ρ σ test true σ₁) (hb : EvB K n env ρ σ₁ body .cont ρ₂ σ₂) (hr : EvWh K n env test body k ρ₂ σ₂ f ρ' σ') :
      EvWh K n env test body (k + 1) ρ σ f ρ' σ'
  | ret {k : Nat} {ρ ρ' : Loc} {σ σ₁ σ' : Sto} {r : LV} (ht : EvT K n env ρ σ test true σ₁) (hb : EvB K n env ρ σ₁ body (.ret r) ρ' σ') : EvWh K n env test body k ρ σ (.ret r) ρ' σ'

theorem EvS.while {test : Expr} {body : List Stmt} {pos : Pos} {k : Nat} {f : Fl} (h : EvWh K n env test body k ρ σ f ρ' σ') : EvS K n env ρ σ (.While test body [] pos) f ρ' σ' := by
  intro A φ s Q E R x hQ
  refine wpAny_While (codeAny_whileLoop (fun k s' => ∃ φ' ρ₂ σ₂, StepS K env φ s φ' s' ∧ St K env ρ₂ φ' σ₂ s' ∧ EvWh K n env test body k ρ₂ σ₂ f ρ' σ') ?_ k ⟨φ, ρ, σ, StepX.refl, x, h⟩)
  rintro k s' ⟨φ', ρ₂, σ₂, st, x', hw⟩
  cases hw with
  | stop ht =>
    refine ht A φ' s' _ _ R x' fun φ₁ s₁ y => ?_
    rw [if_neg (by decide)]
    exact wpAny_execs_nil (hQ _ φ₁ s₁ (st.trans (Step.toS x' y)) (x'.step y) .next)
  | next ht hb hr =>
    refine ht A φ' s' _ _ R x' fun φ₁ s₁ y => ?_
    rw [if_pos rfl]
    refine hb A φ₁ s₁ _ _ R (x'.step y) fun fl φ₂ s₂ z x₂ hfl => ?_
    cases hfl
    exact ⟨_, Nat.lt_succ_self _, φ₂, _, _, (st.trans (Step.toS x' y)).trans z, x₂, hr⟩
  | cont ht hb hr =>
    refine ht A φ' s' _ _ R x' fun φ₁ s₁ y => ?_
    rw [if_pos rfl]
    refine hb A φ₁ s₁ _ _ R (x'.step y) fun fl φ₂ s₂ z x₂ hfl => ?_
    cases hfl
    exact ⟨_, Nat.lt_succ_self _, φ₂, _, _, (st.trans (Step.toS x' y)).trans z, x₂, hr⟩
  | ret ht hb =>
    refine ht A φ' s' _ _ R x' fun φ₁ s₁ y => ?_
    rw [if_pos rfl]
    refine hb A φ₁ s₁ _ _ R (x'.step y) fun fl φ₂ s₂ z x₂ hfl => ?_
    cases hfl with
    | ret hr => exact hQ _ φ₂ s₂ ((st.trans (Step.toS x' y)).trans z) x₂ (.ret hr)

/-! ## Several targets at once -/
inductive AsTs (K : Cx) (n : Nat) (X : Addr → Prop) (env : Env) : Loc → List Expr → List PyData → Loc → Prop
  | nil {ρ : Loc} : AsTs K n X env ρ [] [] ρ
  | cons {ρ ρ₁ ρ' : Loc} {t : Expr} {ts : List Expr} {d : PyData} {ds : List PyData} (h : AsT K n X env ρ t (.dat d) ρ₁) (hr : AsTs K n X env ρ₁ ts ds ρ') : AsTs K n X env ρ (t :: ts) (d :: ds) ρ'

theorem Rep.stepX {X : Addr → Prop} {φ φ' : List Addr} {s s' : Shared} {v : Value} {d : PyData} (r : Rep φ s.heap v d) (y : StepX X φ s φ' s') (h : ∀ b o vs n, X b → s.heap.get? b = some o → o.data = .seq vs n → False) : Rep φ' s'.heap v d :=
  r.keep (fun b o vs n hb e d => y.keep b o hb (fun hx => h b o vs n hx e d) e) y.grow
theorem RepAll.stepX {X : Addr → Prop} {φ φ' : List Addr} {s s' : Shared} {v : List Value} {d : List PyData} (r : RepAll φ s.heap v d) (y : StepX X φ s φ' s') (h : ∀ b o vs n, X b → s.heap.get? b = some o → o.data = .seq vs n → False) : RepAll φ' s'.heap v d :=
  r.keep (fun b o vs n hb e d => y.keep b o hb (fun hx => h b o vs n hx e d) e) y.grow

theorem wp_assigns {X : Addr → Prop} {A : Around} {E : Value → Shared → Prop} {es : List Expr} {ds : List PyData} (hX : ∀ b, X b → Own env b) (R : Room n A) (h : AsTs K n X env ρ es ds ρ') :
    ∀ {s : Shared} {vs : List Value} {Q : Unit → Shared → Prop}, St K env ρ φ σ s → RepAll φ s.heap vs ds → (∀ s', StepX X φ s φ s' → St K env ρ' φ σ s' → Q () s') →
      wpAny (model K.prog K.w) A (assignInOrder (es.map fun e => assign e env) vs) Q E s := by
  induction h with
  | nil => intro s vs Q x r hQ; cases r; exact wpAny_pure (hQ _ StepX.refl x)
  | cons h hr ih =>
    intro s vs Q x r hQ
    cases r with
    | cons hd ht =>
      rw [List.map_cons]
      show wpAny _ _ (do holding _ (assign _ env _); assignInOrder _ _) _ _ _
      refine wpAny_bind (wpAny_holding (h A φ σ s _ _ E R x (.dat hd) fun s₁ y x₁ => ?_))
      exact ih x₁ (ht.stepX y fun b o vs n hb e d => own_notSeq x.fr (hX b hb) e d) fun s₂ y₂ x₂ => hQ _ (y.trans y₂) x₂

theorem AsT.tuple {X : Addr → Prop} {es : List Expr} {k : Nat} {pos : Pos} {ds : List PyData} (h : AsTs K n X env ρ es ds ρ') (hX : ∀ b, X b → Own env b)
    (he : assignEach es env = es.map fun e => (false, assign e env) := by with_unfolding_all rfl) : AsT K n X env ρ (.Tuple es k pos) (.dat (.tuple ds)) ρ' := by
  intro A φ σ s v Q E R x r hQ
  cases r with
  | dat r =>
    cases r with
    | @tuple t vs _ hn hl ha =>
      rw [assign_Tuple, he]
      refine wpAny_bind (wpAny_standAt ?_)
      show wpAny _ _ (do assignInOrder _ (← holding _ (unpackItems _ _ _))) _ _ _
      have hlen : ∀ {es : List Expr} {ds : List PyData} {ρ ρ' : Loc}, AsTs K n X env ρ es ds ρ' → es.length = ds.length := by
        intro es ds ρ ρ' h
        induction h with
        | nil => rfl
        | cons _ _ ih => rw [List.length_cons, List.length_cons, ih]
      have e1 : (es.map fun e => (false, assign e env)).length = vs.toArray.size := by rw [List.length_map, hlen h, List.size_toArray, ha.length]
      have e2 : (es.map fun e => (false, assign e env)).findIdx? (·.1) = none := by
        rw [List.findIdx?_eq_none_iff]; intro p hp
        obtain ⟨e, _, rfl⟩ := List.mem_map.mp hp; rfl
      rw [e1, e2, List.map_map]
      refine wpAny_bind (wpAny_holding (unpackItems_tuple R.hh hl.is fun h' hx => ?_))
      have st : Step K.g φ σ s φ { s with heap := h' } := Step.of_keeps (tk := s.toks) x.sto fun b o e => hx b o (by rintro rfl; rw [get_none_ge (Nat.le_refl _)] at e; cases e) e
      have x₁ := x.step st
      have y₁ : StepX X φ s φ { s with heap := h' } := st.toX fun _ _ h => h
      exact wp_assigns hX R h x₁ (st.repAll (by simpa using ha)) fun s' y x' => hQ s' (y₁.trans y) x'

theorem EvS.assignT {es : List Expr} {k : Nat} {p pos : Pos} {e : Expr} {d : PyData} (h₁ : EvE K n env ρ σ e (.dat d) σ') (h₂ : AsT K n (Own env) env ρ (.Tuple es k p) (.dat d) ρ')
    (hs : swapsWithSole [.Tuple es k p] e pos.line env = pure false := by with_unfolding_all rfl) (hw : swappedStores [.Tuple es k p] e env = pure none := by with_unfolding_all rfl) :
    EvS K n env ρ σ (.Assign [.Tuple es k p] e pos) .next ρ' σ' :=
  fun A φ s Q E R x hQ => Assign_Tuple (h₁ A φ s _ E R x fun v φ₁ s₁ y r => h₂ A φ₁ σ' s₁ v _ E R (x.step y) r fun s₂ y₂ x₂ => hQ _ φ₁ s₂ ((Step.toS x y).trans y₂) x₂ .next) hs hw

/-- names in order -/
inductive Puts (env : Env) : Loc → List Str → List PyData → Loc → Prop
  | nil {ρ : Loc} : Puts env ρ [] [] ρ
  | cons {ρ ρ₁ ρ' : Loc} {y : Str} {ys : List Str} {d : PyData} {ds : List PyData} (h : Put ρ y (.dat d) ρ₁) (hk : env.kindOf y = some .local) (hr : Puts env ρ₁ ys ds ρ') : Puts env ρ (y :: ys) (d :: ds) ρ'
theorem wp_puts {A : Around} {E : Value → Shared → Prop} {ys : List Str} {ds : List PyData} (h : Puts env ρ ys ds ρ') :
    ∀ {s : Shared} {vs : List Value} {Q : Unit → Shared → Prop}, St K env ρ φ σ s → RepAll φ s.heap vs ds → (∀ s', StepS K env φ s φ s' → St K env ρ' φ σ s' → Q () s') →
      wpAny (model K.prog K.w) A (assignInOrder (ys.map fun y => bindName env y) vs) Q E s := by
  induction h with
  | nil => intro s vs Q x r hQ; cases r; exact wpAny_pure (hQ _ StepX.refl x)
  | cons h hk hr ih =>
    intro s vs Q x r hQ
    cases r with
    | cons hd ht =>
      rw [List.map_cons]
      show wpAny _ _ (do holding _ (bindName env _ _); assignInOrder _ _) _ _ _
      refine wpAny_bind (wpAny_holding (bindName_ (wp_store x (.dat hd) h (.inl hk) fun s₁ y x₁ => ?_)))
      exact ih x₁ (ht.stepX y fun b o vs n hb e d => own_notSeq x.fr hb e d) fun s₂ y₂ x₂ => hQ _ (y.trans y₂) x₂
theorem RepAll.rev {φ : List Addr} {h : Heap} : ∀ {vs : List Value} {ds : List PyData}, RepAll φ h vs ds → RepAll φ h vs.reverse ds.reverse
  | _, _, .nil => .nil
  | _, _, .cons hd ht => by rw [List.reverse_cons, List.reverse_cons]; exact ht.rev.append (.cons hd .nil)
theorem EvS.assignSw {es : List Expr} {k : Nat} {p pos : Pos} {e : Expr} {ds : List PyData} {ys : List Str} (h₁ : EvE K n env ρ σ e (.dat (.tuple ds)) σ') (h₂ : Puts env ρ ys.reverse ds.reverse ρ')
    (hlen : ds.length = ys.length := by rfl)
    (hs : swapsWithSole [.Tuple es k p] e pos.line env = pure false := by with_unfolding_all rfl) (hw : swappedStores [.Tuple es k p] e env = pure (some ys) := by with_unfolding_all rfl) :
    EvS K n env ρ σ (.Assign [.Tuple es k p] e pos) .next ρ' σ' := by
  intro A φ s Q E R x hQ
  refine Assign_Tuple_swapped (h₁ A φ s _ E R x fun v φ₁ s₁ y r => ?_) hs hw
  cases r with
  | dat r =>
    cases r with
    | @tuple t vs _ hn hl ha =>
      have e1 : ys.length = vs.toArray.size := by rw [← hlen, List.size_toArray, ha.length]
      rw [e1]
      refine unpackItems_tuple R.hh hl.is fun h' hx => ?_
      have st : Step K.g φ₁ σ' s₁ φ₁ { s₁ with heap := h' } := Step.of_keeps (tk := s₁.toks) y.sto fun b o e => hx b o (by rintro rfl; rw [get_none_ge (Nat.le_refl _)] at e; cases e) e
      have x₁ := (x.step y).step st
      have y₁ := Step.toS x (y.trans st)
      exact wp_puts h₂ x₁ (st.repAll (by simpa using ha)).rev fun s' y x' => hQ _ φ₁ s' (y₁.trans y) x' .next
end
end PMB11
section PMB12
/-! ## List comprehensions -/
noncomputable def closL (env : Env) : List (Str × NameKind) → List (Str × Addr) → List (Str × Addr)
  | [], acc => acc
  | (x, k) :: r, acc => if k == .free then closL env r ((x, (env.cells.lookup x).getD 0) :: acc) else closL env r acc
noncomputable def capsOk (scope : Scope) (env : Env) : Bool := scope.names.all fun p => p.2 != .free || ((env.cells.lookup p.1).isSome && env.kindOf p.1 == some .cell)

theorem closureFor_closL {scope : Scope} {env : Env} (h : capsOk scope env = true) : closureFor scope env = pure (closL env scope.names []) := by
  have main : ∀ (f : Str × NameKind → List (Str × Addr) → Sem (ForInStep (List (Str × Addr)))) (hf : ∀ x k cs, f (x, k) cs = (if k == .free then (cellOf env x >>= fun c => pure (ForInStep.yield ((x, c) :: cs))) else pure (ForInStep.yield cs)))
      (names : List (Str × NameKind)) (acc : List (Str × Addr)), (∀ p ∈ names, p.2 = .free → ∃ c, env.cells.lookup p.1 = some c) →
      forIn names acc f = (pure (closL env names acc) : Sem (List (Str × Addr))) := by
    intro f hf
    intro names
    induction names with
    | nil => intro acc _; rfl
    | cons p r ih =>
      intro acc hp
      obtain ⟨x, k⟩ := p
      have hr : ∀ p ∈ r, p.2 = .free → ∃ c, env.cells.lookup p.1 = some c := fun p hm => hp p (List.mem_cons_of_mem _ hm)
      rw [List.forIn_cons, hf]
      unfold closL
      by_cases hk : k = .free
      · subst hk
        obtain ⟨c, hc⟩ := hp (x, .free) List.mem_cons_self rfl
        have hc' : cellOf env x = pure c := by unfold cellOf; rw [hc]
        have hb : ((NameKind.free == NameKind.free) = true) := by decide
        simp only [hc', hb, if_true]
        have hc'' : env.cells.lookup x = some c := hc
        simp only [hc'', Option.getD_some]
        exact ih _ hr
      · have hb : (k == NameKind.free) = false := by simpa using hk
        simp only [hb, Bool.false_eq_true, if_false]
        exact ih _ hr
  have hp : ∀ p ∈ scope.names, p.2 = .free → ∃ c, env.cells.lookup p.1 = some c := fun p hm hf => by
    have := List.all_eq_true.mp h p hm
    rw [hf] at this
    have h2 : (env.cells.lookup p.1).isSome = true := by
      have hb : ((NameKind.free != NameKind.free) = false) := by decide
      rw [hb, Bool.false_or, Bool.and_eq_true] at this
      exact this.1
    exact Option.isSome_iff_exists.mp h2
  simp only [closureFor]
  rw [main _ (fun x k cs => by cases hk : (k == NameKind.free) <;> simp <;> rfl) scope.names [] hp]
  rfl

theorem closL_lookup {env : Env} : ∀ (names : List (Str × NameKind)) (acc : List (Str × Addr)) (x : Str) (c : Addr), (∀ p ∈ names, p.2 = .free → ∃ c, env.cells.lookup p.1 = some c) → (∀ x c, acc.lookup x = some c → env.cells.lookup x = some c) →
    (closL env names acc).lookup x = some c → env.cells.lookup x = some c
  | [], acc, x, c, _, ha, h => ha x c h
  | (y, k) :: r, acc, x, c, hp, ha, h => by
    have hr : ∀ p ∈ r, p.2 = .free → ∃ c, env.cells.lookup p.1 = some c := fun p hm => hp p (List.mem_cons_of_mem _ hm)
    unfold closL at h
    split at h
    · rename_i hk
      refine closL_lookup r _ x c hr (fun z d hz => ?_) h
      rw [List.lookup_cons] at hz
      cases hb : z == y with
      | true =>
        rw [hb] at hz
        have e : z = y := beq_iff_eq.mp hb
        obtain ⟨c', hc'⟩ := hp (y, k) List.mem_cons_self (by simpa using hk)
        have hc2 : env.cells.lookup y = some c' := hc'
        rw [hc2] at hz
        cases hz
        rw [e]; exact hc2
      | false => rw [hb] at hz; exact ha z d hz
    · exact closL_lookup r _ x c hr ha h
theorem closL_acc {env : Env} : ∀ (names : List (Str × NameKind)) (acc : List (Str × Addr)) (x : Str), (acc.lookup x).isSome = true → ((closL env names acc).lookup x).isSome = true
  | [], _, _, h => h
  | (y, k) :: r, acc, x, h => by
    unfold closL
    split
    · refine closL_acc r _ x ?_
      rw [List.lookup_cons]; cases x == y <;> simp [h]
    · exact closL_acc r _ x h
theorem closL_has {env : Env} : ∀ (names : List (Str × NameKind)) (acc : List (Str × Addr)) (x : Str), (x, NameKind.free) ∈ names → ((closL env names acc).lookup x).isSome = true
  | (y, k) :: r, acc, x, h => by
    unfold closL
    rcases List.mem_cons.mp h with e | h
    · cases e
      rw [if_pos (by decide)]
      refine closL_acc r _ _ ?_
      rw [List.lookup_cons_self]; rfl
    · split
      · exact closL_has r _ x h
      · exact closL_has r _ x h

theorem mem_lookup {α : Type} : ∀ {l : List (Str × α)} {x : Str} {c : α}, l.lookup x = some c → (x, c) ∈ l
  | (k, v) :: r, x, c, h => by
    rw [List.lookup_cons] at h
    cases hb : x == k with
    | true => rw [hb] at h; cases h; rw [beq_iff_eq.mp hb]; exact List.mem_cons_self
    | false => rw [hb] at h; exact List.mem_cons_of_mem _ (mem_lookup h)
theorem relabel_free {env : Env} (hf : env.scope.kind = .function) : ∀ {names : List (Str × NameKind)} {x : Str}, names.lookup x = some .free → env.kindOf x = some .cell →
    (names.map fun (n, k) => if (k == NameKind.free && env.scope.kind == .function && env.kindOf n == some .cell) then (n, NameKind.cell) else (n, k)).lookup x = some .cell
  | (y, k) :: r, x, h, hx => by
    have ih := @relabel_free _ hf r x
    show List.lookup x ((if (k == NameKind.free && env.scope.kind == .function && env.kindOf y == some .cell) = true then (y, NameKind.cell) else (y, k)) :: _) = _
    rw [List.lookup_cons] at h
    cases hb : x == y with
    | true =>
      rw [hb] at h; cases h
      have e : x = y := beq_iff_eq.mp hb
      subst e
      rw [hf, hx, if_pos (by decide), List.lookup_cons, hb]
    | false =>
      rw [hb] at h
      split
      · rw [List.lookup_cons, hb]; exact ih h hx
      · rw [List.lookup_cons, hb]; exact ih h hx
theorem relabel_cell {scope : Scope} {env : Env} (hc : ∀ y ∈ scope.names, y.2 ≠ .cell) {x : Str} (h : (relabel scope env).names.lookup x = some .cell) : (x, NameKind.free) ∈ scope.names := by
  have := mem_lookup h
  obtain ⟨⟨y, k⟩, hm, e⟩ := List.mem_map.mp this
  dsimp only at e
  split at e
  · rename_i hk
    cases e
    simp only [Bool.and_eq_true, beq_iff_eq] at hk
    rw [hk.1.1] at hm; exact hm
  · cases e; exact absurd rfl (hc _ hm)

section
variable {prog : Program} {w : World} {A : Around} {E : Value → Shared → Prop} {R : Result → Shared → Prop} {s : Shared}
theorem codeAny_compLoop_go {elt target iter : Expr} {ifs : List Expr} {scope : Scope} {pos : Pos} {it acc : Value} {env : Env} (I : Nat → Shared → Prop)
    (turn : ∀ n s, I n s → wpAny (model prog w) A (pyNext it) (fun r s₁ => match r with
      | none => R (.ok .next) s₁
      | some v => wpAny (model prog w) A (letOwnedTupleGo target it v) (fun _ s₁' => wpAny (model prog w) A (assign target env v) (fun _ s₂ =>
          wpAny (model prog w) A (forIn ifs true fun c r => if r = true then do let ok ← isTrue c env (eval c env); pure (ForInStep.yield ok) else pure (ForInStep.yield r)) (fun ok s₃ =>
            if ok = true then wpAny (model prog w) A (eval elt env) (fun x s₄ =>
              wpAny (model prog w) A (call (.builtin "list.append") [acc, x]) (fun _ s₅ => ∃ m, m < n ∧ I m s₅) (notedBy (model prog w) A env fun e s' => R (.error e) s') s₄) (notedBy (model prog w) A env fun e s' => R (.error e) s') s₃
            else ∃ m, m < n ∧ I m s₃) (notedBy (model prog w) A env fun e s' => R (.error e) s') s₂) (notedBy (model prog w) A env fun e s' => R (.error e) s') s₁') (notedBy (model prog w) A env fun e s' => R (.error e) s') s₁) (notedBy (model prog w) A env fun e s' => R (.error e) s') s)
    (n : Nat) (h : I n s) :
    codeAny (model prog w) A (.compLoop (.ListComp elt [⟨target, iter, ifs, 0⟩] scope pos) 0 it acc env) R s := by
  refine codeAny_loop rfl I (fun n s hI => ?_) n h
  show wpAny _ A ((compTurn (.ListComp elt [⟨target, iter, ifs, 0⟩] scope pos) 0 it acc env).onRaise (fun x => do noteFrame x env; theTreesLotGoes x)) _ _ s
  refine wpAny_noted ?_
  rw [compTurn_list]
  refine wpAny_bind (wpAny_standAt (wpAny_bind (wpAny_mono (turn n s hI) (fun r s₁ h₁ => ?_) fun _ _ h' => h')))
  cases r with
  | none => exact wpAny_pure h₁
  | some v =>
    refine wpAny_bind (wpAny_mono h₁ (fun _ s₁' h₁' => ?_) fun _ _ h' => h')
    refine wpAny_bind (wpAny_mono h₁' (fun _ s₂ h₂ => wpAny_bind (wpAny_mono h₂ (fun ok s₃ h₃ => ?_) fun _ _ h' => h')) fun _ _ h' => h')
    cases ok with
    | false => exact wpAny_pure ⟨rfl, h₃⟩
    | true =>
      exact wpAny_bind (wpAny_bind (wpAny_mono h₃ (fun x s₄ h₄ => wpAny_bind (wpAny_mono h₄ (fun _ s₅ h₅ => wpAny_pure (wpAny_pure ⟨rfl, h₅⟩)) fun _ _ h' => h')) fun _ _ h' => h'))
end

section
variable {K : Cx} {n : Nat} {env : Env} {ρ ρ' : Loc} {φ : List Addr} {σ σ₁ σ₂ σ' : Sto} {s : Shared}

/-- the tests of a comprehension -/
noncomputable def EvTs (K : Cx) (n : Nat) (env : Env) (ρ : Loc) (σ : Sto) (ifs : List Expr) (b : Bool) (σ' : Sto) : Prop :=
  ∀ (A : Around) (φ : List Addr) (s : Shared) (Q : Bool → Shared → Prop) (E : Value → Shared → Prop), Room n A → St K env ρ φ σ s → (∀ φ' s', Step K.g φ σ' s φ' s' → Q b s') →
    wpAny (model K.prog K.w) A (forIn ifs true fun c r => if r = true then do let ok ← isTrue c env (eval c env); pure (ForInStep.yield ok) else pure (ForInStep.yield r)) Q E s
theorem EvTs.nil : EvTs K n env ρ σ [] true σ := fun _ _ _ _ _ _ x h => wpAny_tests_nil (h _ _ (Step.refl x.sto))
theorem EvTs.one {c : Expr} {b : Bool} (h : EvT K n env ρ σ c b σ') : EvTs K n env ρ σ [c] b σ' := fun A φ s Q E R x hQ => wpAny_tests_one (h A φ s Q E R x hQ)

/-- the turns of a comprehension; acc is the list so far: it stands last in the store -/
inductive EvCp (K : Cx) (n : Nat) (cenv : Addr → Env) (target : Expr) (ifs : List Expr) (elt : Expr) (ρc : Loc) : List PyData → Sto → List PyData → List PyData → Sto → Prop
  | nil {acc : List PyData} {σ : Sto} : EvCp K n cenv target ifs elt ρc acc σ [] acc σ
  | keep {acc rs ds : List PyData} {σ σ₁ σ₂ σ' : Sto} {d r : PyData} {ρ₁ : Loc} (ht : ∀ C, AsT K n (· = C) (cenv C) ρc target (.dat d) ρ₁) (hi : ∀ C, EvTs K n (cenv C) ρ₁ (σ ++ [acc]) ifs true (σ₁ ++ [acc]))
      (he : ∀ C, EvE K n (cenv C) ρ₁ (σ₁ ++ [acc]) elt (.dat r) (σ₂ ++ [acc])) (hl₁ : σ₁.length = σ.length) (hl : σ₂.length = σ.length) (hr : EvCp K n cenv target ifs elt ρc (acc ++ [r]) σ₂ ds rs σ') : EvCp K n cenv target ifs elt ρc acc σ (d :: ds) rs σ'
  | drop {acc rs ds : List PyData} {σ σ₁ σ' : Sto} {d : PyData} {ρ₁ : Loc} (ht : ∀ C, AsT K n (· = C) (cenv C) ρc target (.dat d) ρ₁) (hi : ∀ C, EvTs K n (cenv C) ρ₁ (σ ++ [acc]) ifs false (σ₁ ++ [acc]))
      (hl : σ₁.length = σ.length) (hr : EvCp K n cenv target ifs elt ρc acc σ₁ ds rs σ') : EvCp K n cenv target ifs elt ρc acc σ (d :: ds) rs σ'

theorem EvCp.grows {cenv : Addr → Env} {target : Expr} {ifs : List Expr} {elt : Expr} {ρc : Loc} {acc ds rs : List PyData} (h : EvCp K n cenv target ifs elt ρc acc σ ds rs σ') : acc.length ≤ rs.length := by
  induction h with
  | nil => exact Nat.le_refl _
  | keep ht hi he hl₁ hl hr ih => rw [List.length_append, List.length_singleton] at ih; omega
  | drop ht hi hl hr ih => exact ih

/-- what the comprehension's own frame sees of the frame around it -/
inductive Caps (env : Env) (scope : Scope) (ρ : Loc) : Loc → Prop
  | nil : Caps env scope ρ []
  | cons {y : Str} {u : LV} {ρc : Loc} (g : Get ρ y u) (k : env.kindOf y = some .cell) (f : scope.names.lookup y = some .free) (r : Caps env scope ρ ρc) : Caps env scope ρ ((y, u) :: ρc)
theorem Caps.get {scope : Scope} {ρc : Loc} (c : Caps env scope ρ ρc) {y : Str} {u : LV} (h : Get ρc y u) : Get ρ y u ∧ env.kindOf y = some .cell ∧ scope.names.lookup y = some .free := by
  induction c with
  | nil => cases h
  | cons g k f r ih => cases h with
    | here => exact ⟨g, k, f⟩
    | there _ h => exact ih h

theorem StoR.pop {g : Heap} {φ : List Addr} {h : Heap} {l : List PyData} {D : Addr} (x : StoR g (φ ++ [D]) h (σ ++ [l])) : StoR g φ h σ ∧ (∃ vs, h.PlainList D vs.toArray ∧ RepAll (φ ++ [D]) h vs l) ∧ D ∉ φ := by
  have hlen : φ.length = σ.length := by have := x.len; simpa using this
  have nd := List.nodup_append.mp x.nd
  refine ⟨⟨hlen, nd.1, fun i a m e1 e2 => ?_, fun a ha => x.off a (List.mem_append_left _ ha)⟩, ?_, fun hm => nd.2.2 D hm D (List.mem_singleton.mpr rfl) rfl⟩
  · obtain ⟨vs, h1, h2⟩ := x.item i a m (by rw [List.getElem?_append_left (List.getElem?_eq_some_iff.mp e1).1]; exact e1) (by rw [List.getElem?_append_left (List.getElem?_eq_some_iff.mp e2).1]; exact e2)
    exact ⟨vs, h1, h2.keep (fun b o vs n hb e _ => e) fun b hb => .inl (List.mem_append_left _ hb)⟩
  · exact x.item φ.length D l (by simp) (by rw [hlen]; simp)
theorem RepAll.less {φ φ' : List Addr} {h : Heap} {vs : List Value} {ds : List PyData} (r : RepAll φ' h vs ds) (hs : ∀ b ∈ φ, b ∈ φ') : RepAll φ h vs ds := r.keep (fun b o vs n hb e _ => e) fun b hb => .inl (hs b hb)
end
end PMB12
section PMB13
section
variable {K : Cx} {n : Nat} {env : Env} {ρ ρ' : Loc} {φ : List Addr} {σ σ₁ σ₂ σ' : Sto} {s : Shared}

theorem Step.sameφ {g : Heap} {φ φ' : List Addr} {s s' : Shared} (y : Step g φ σ' s φ' s') (h : φ.length = σ'.length) : φ' = φ := by
  obtain ⟨ext, rfl⟩ := y.pre
  have := y.sto.len
  rw [List.length_append, ← h] at this
  have : ext = [] := List.eq_nil_of_length_eq_zero (by omega)
  rw [this, List.append_nil]

theorem St.over {X : Addr → Prop} {φ' : List Addr} {s' : Shared} (x : St K env ρ φ σ s) (y : StepX X φ s φ' s') (t : StoR K.g φ' s'.heap σ') (ho : ∀ b, X b → ¬ Own env b)
    (hq : ∀ b, X b → ∀ o vs n, s.heap.get? b = some o → o.data = .seq vs n → False) (hg : ∀ b, X b → K.g.get? b = none) : St K env ρ φ' σ' s' := by
  have ko : ∀ b o, Own env b → s.heap.get? b = some o → s'.heap.get? b = some o := fun b o hb e => y.keep b o (own_notSto x.fr x.sto hb) (fun hx => ho b hx hb) e
  refine ⟨x.fr.keep ko, fun z u hz => ?_, t, fun b o e => y.keep b o (fun hm => by rw [x.sto.off b hm] at e; cases e) (fun hx => by rw [hg b hx] at e; cases e) (x.gr b o e)⟩
  obtain ⟨v, hv, hr⟩ := x.loc z u hz
  obtain ⟨ext, e⟩ := y.pre
  exact ⟨v, hv.keep ko, hr.keep (fun b o vs n hb e d => y.keep b o hb (fun hx => hq b hx o vs n e d) e) y.grow e⟩

theorem comp_core {elt target iter : Expr} {ifs : List Expr} {scope : Scope} {pos p : Pos} {ds rs : List PyData} {ρc : Loc} {use : Option (Value → Sem Unit)} {A : Around} {Q : Value → Shared → Prop} {E : Value → Shared → Prop}
    (hi : EvI K n env ρ σ iter ds σ₁)
    (hd : EvCp K n (fun C => compEnvC scope (closL env scope.names []) C env) target ifs elt ρc [] σ₁ ds rs σ')
    (hc : Caps env scope ρ ρc) (hcap : capsOk scope env = true) (hcell : ∀ y ∈ scope.names, y.2 ≠ .cell) (hkind : scope.kind = .function)
    (hnames : ∀ y ∈ scope.names, y.2 = .local → scope.names.lookup y.1 = some .local)
    (hs : ∀ x, foldedSetIterable iter env x = pure x) (hsz : rs.length ≤ sizeLine)
    (R : Room n A) (x : St K env ρ φ σ s)
    (hQ : ∀ D C φ' s' m, Step K.g φ σ' s φ' s' → Rep φ' s'.heap (.ref D) (.list rs) → s'.heap.Ns C m → s.heap.get? C = none → C ∉ φ' → C ≠ D → compPost (model K.prog K.w) A E use Q (.ref D) C (.ok .next) s') :
    wpAny (model K.prog K.w) A (comprehension (.ListComp elt [⟨target, iter, ifs, 0⟩] scope pos) scope env p (newList []) false (eval iter env) use) Q E s := by
  refine wpAny_comprehension_free rfl hs (closureFor_closL hcap) hkind hnames (hi A φ s _ E R x fun φ₁ s₁ I fp wr P S y wk => ?_)
  have x₁ := x.step y
  refine newMu_ev (g := K.g) (φ := φ₁) (σ := σ₁) (vs := []) (ds := []) y.sto x₁.gr .nil (Nat.zero_le _) fun v φ₂ s₂ y₂ r₂ => ?_
  have x₂ := x₁.step y₂
  obtain ⟨D, rfl, hD⟩ : ∃ D, v = .ref D ∧ φ₂[σ₁.length]? = some D := by cases r₂ with | mu e => exact ⟨_, rfl, e⟩
  have hφ₂ : φ₂ = φ₁ ++ [D] := by
    obtain ⟨ext, rfl⟩ := y₂.pre
    have l1 := y₂.sto.len
    have l2 := y.sto.len
    rw [List.length_append, List.length_append, l2] at l1
    rw [List.getElem?_append_right (by rw [l2]; exact Nat.le_refl _), l2, Nat.sub_self] at hD
    match ext, l1, hD with
    | [e], _, hD => simp at hD; rw [hD]
    | [], l1, _ => simp at l1
    | _ :: _ :: _, l1, _ => simp at l1
  refine wpAny_newFunctionEnv hcell (by intro y hy; simp at hy) (fun h₃ hns hsb => ?_) hkind
  try dsimp only at hns hsb ⊢
  generalize hC : s₂.heap.objs.size = C at hns hsb ⊢
  have hCn : s₂.heap.get? C = none := get_none_ge (by rw [hC]; exact Nat.le_refl _)
  have hCφ : C ∉ φ₂ := fun hm => by have := y₂.sto.lt hm; rw [hC] at this; exact Nat.lt_irrefl _ this
  have old₂ : ∀ b o, s₂.heap.get? b = some o → h₃.get? b = some o := fun b o e => hsb.extBut b o (by rw [← hC]; exact Nat.ne_of_lt (Heap.lt_size e)) (Heap.get?_push_of_some _ e)
  generalize hs₃ : ({ s₂ with heap := h₃, toks := s₂.toks + ([] : List (Str × Value)).length } : Shared) = s₃
  have e₃ : s₃.heap = h₃ := by rw [← hs₃]
  have y₃ : Step K.g φ₂ (σ₁ ++ [[]]) s₂ φ₂ s₃ := by rw [← hs₃]; exact Step.of_keeps y₂.sto old₂
  have xo₃ := x₂.step y₃
  have hCown : ¬ Own env C := fun h => by obtain ⟨o, e⟩ := x₂.live h; rw [hCn] at e; cases e
  have hCg : K.g.get? C = none := x₂.gnone hCn
  have hfree : ∀ p ∈ scope.names, p.2 = .free → ∃ c, env.cells.lookup p.1 = some c := fun p hm hf => by
    have := List.all_eq_true.mp hcap p hm
    rw [hf] at this
    have hb : ((NameKind.free != NameKind.free) = false) := by decide
    rw [hb, Bool.false_or, Bool.and_eq_true] at this
    exact Option.isSome_iff_exists.mp this.1
  have hcl : ∀ z c, (closL env scope.names []).lookup z = some c → env.cells.lookup z = some c := fun z c => closL_lookup scope.names [] z c hfree (fun _ _ h => by cases h)
  -- the inner frame, from the outer one
  have inner : ∀ {σx : Sto} {s' : Shared}, St K env ρ φ₂ σx s' → (∃ m, s'.heap.Ns C m) → St K (compEnvC scope (closL env scope.names []) C env) ρc φ₂ σx s' := fun {σx} {s'} xo hn => by
    refine ⟨⟨hkind, x.fr.globals, x.fr.builtins, hn, fun z c hz => xo.fr.cells z c (hcl z c hz), ?_, ?_, fun z z' c h1 h2 => x.fr.inj z z' c (hcl z c h1) (hcl z' c h2)⟩, ?_, xo.sto, xo.gr⟩
    · rintro b (rfl | ⟨z, hz⟩)
      · exact hCg
      · exact x.fr.off b (.inr ⟨z, hcl z b hz⟩)
    · intro z hz
      rw [kindOf_lookup] at hz
      exact Option.isSome_iff_exists.mp (closL_has scope.names [] z (relabel_cell hcell hz))
    · intro z u hz
      obtain ⟨g, k, f⟩ := hc.get hz
      obtain ⟨v, hb, hr⟩ := xo.loc z u g
      refine ⟨v, ?_, hr⟩
      rcases hb with ⟨hl, _⟩ | ⟨hk, c, hc', hcc⟩
      · rw [k] at hl; cases hl
      · obtain ⟨c', e'⟩ := Option.isSome_iff_exists.mp (closL_has (env := env) scope.names [] z (mem_lookup f))
        have := hcl z c' e'
        rw [hc'] at this; cases this
        exact .inr ⟨by rw [kindOf_lookup]; exact relabel_free x.fr.kind f k, c, e', hcc⟩
  have hoff : ∀ b ∈ fp, b ∉ φ₂ := fun b hb => by
    obtain ⟨o, e⟩ := wk.live 0 _ wk.st b hb
    exact y₂.grow.not (wk.off b hb) e
  have hCfp : ∀ b ∈ fp, b ≠ C := fun b hb e => by
    obtain ⟨o, h⟩ := wk.live 0 _ wk.st b hb
    rw [e] at h
    rw [y₂.keep C o (by rw [← e]; exact wk.off b hb) h] at hCn; cases hCn
  have hgw : ∀ b ∈ wr, K.g.get? b = none := fun b hb => x.gnone (wk.fresh b hb)
  have hown : ∀ b ∈ wr, ¬ Own env b := fun b hb => wk.apart b (wk.w.sub b hb)
  have hS₃ : S 0 s₃.heap := by
    rw [e₃]
    exact wk.w.frame 0 s₁.heap h₃ wk.st fun b hb o e => old₂ b o (y₂.keep b o (wk.off b hb) e)
  have loop : codeAny (model K.prog K.w) A (.compLoop (.ListComp elt [⟨target, iter, ifs, 0⟩] scope pos) 0 (.ref I) (.ref D) (compEnvC scope (closL env scope.names []) C env)) (compPost (model K.prog K.w) A E use Q (.ref D) C) s₃ := by
    refine codeAny_compLoop_go
      (fun k s' => ∃ i σ₂ acc, k = ds.length - i ∧ i ≤ ds.length ∧ StepX (fun b => b = C ∨ b ∈ wr) φ₂ s₃ φ₂ s' ∧ St K env ρ φ₂ (σ₂ ++ [acc]) s' ∧ (∃ m, s'.heap.Ns C m) ∧ S i s'.heap ∧ σ₂.length = σ₁.length ∧
        EvCp K n (fun C => compEnvC scope (closL env scope.names []) C env) target ifs elt ρc acc σ₂ (ds.drop i) rs σ')
      ?_ ds.length ⟨0, σ₁, [], rfl, Nat.zero_le _, StepX.refl, xo₃, ⟨_, by rw [e₃]; exact hns⟩, hS₃, rfl, by simpa using hd⟩
    rintro k s' ⟨i, σ₂, acc, rfl, hi', st, xo, hns', hS, hlen, hdd⟩
    have hφlen : φ₂.length = σ₁.length + 1 := by rw [y₂.sto.len, List.length_append]; rfl
    have itr : ∀ h' tk, (∀ b o, b ∉ wr → s'.heap.get? b = some o → h'.get? b = some o) →
        StepX (fun b => b = C ∨ b ∈ wr) φ₂ s₃ φ₂ { s' with heap := h', toks := tk } ∧ St K env ρ φ₂ (σ₂ ++ [acc]) { s' with heap := h', toks := tk } ∧ (∃ m, h'.Ns C m) := fun h' tk hk =>
      ⟨st.trans ⟨⟨_, _, rfl⟩, fun b o _ hb e => hk b o (fun h => hb (.inr h)) e, fun b hb => .inl hb, ⟨[], by rw [List.append_nil]⟩, fun _ _ h => h⟩,
        xo.other hk hown (fun b hb => hoff b (wk.w.sub b hb)) (wk.nseq i _ hS) hgw, by
          obtain ⟨m, hm⟩ := hns'
          exact ⟨m, hm.at' fun o e => hk C o (fun h => hCfp C (wk.w.sub C h) rfl) e⟩⟩
    rcases Nat.lt_or_ge i ds.length with hlt | hge
    · refine wk.w.item i s' _ _ hlt hS fun v h' tk hP hS' hk => ?_
      obtain ⟨st', xo', hn'⟩ := itr h' tk hk
      refine wk.go (i + 1) _ target v _ _ hS' ?_
      have hdrop : ds.drop i = ds[i] :: ds.drop (i + 1) := by simp
      rw [hdrop] at hdd
      have hrep : Rep φ₂ h' v ds[i] := by
        have r1 : Rep φ₂ s₃.heap v ds[i] := (y₂.trans y₃).rep (wk.rep i v ds[i] hP (by simp))
        refine r1.keep (fun b o vs m hb e d => st'.keep b o hb (fun h => ?_) e) st'.grow
        rcases h with rfl | h
        · rw [e₃] at e; exact ns_notSeq hns e d
        · exact wk.nseq 0 _ hS₃ b h o vs m e d
      have xi := inner xo' hn'
      -- after binding the target
      have bound : ∀ {ρ₁ : Loc} s₄, StepX (· = C) φ₂ { s' with heap := h', toks := tk } φ₂ s₄ → St K (compEnvC scope (closL env scope.names []) C env) ρ₁ φ₂ (σ₂ ++ [acc]) s₄ →
          StepX (fun b => b = C ∨ b ∈ wr) φ₂ s₃ φ₂ s₄ ∧ St K env ρ φ₂ (σ₂ ++ [acc]) s₄ ∧ S (i + 1) s₄.heap := fun {ρ₁} s₄ z x₄ => by
        refine ⟨st'.trans (z.weaken0 fun b hb => .inl hb), ?_, wk.w.frame (i + 1) h' s₄.heap hS' fun b hb o e => z.keep b o (hoff b hb) (hCfp b hb) e⟩
        refine xo'.over z x₄.sto ?_ ?_ ?_
        · intro b hb; rw [hb]; exact hCown
        · intro b hb o vs m e d; rw [hb] at e; obtain ⟨mm, hmm⟩ := hn'; exact ns_notSeq hmm e d
        · intro b hb; rw [hb]; exact hCg
      -- an expression's step within the turn
      have cX : ∀ {σb : Sto} {sa sb : Shared}, Step K.g φ₂ σb sa φ₂ sb → StepX (fun b => b = C ∨ b ∈ wr) φ₂ sa φ₂ sb := fun y => y.toX fun _ _ h => h
      have cS : ∀ {σb : Sto} {sa sb : Shared}, Step K.g φ₂ σb sa φ₂ sb → S (i + 1) sa.heap → S (i + 1) sb.heap := fun y h => wk.w.frame (i + 1) _ _ h fun b hb o e => y.keep b o (hoff b hb) e
      have hSt : ∀ {σb : Sto}, σb.length = σ₁.length → φ₂.length = (σb ++ [acc]).length := fun h => by rw [hφlen, List.length_append, h]; rfl
      cases hdd with
      | @keep _ _ _ _ σ₃ σ₄ _ _ r ρ₁ ht hti he hl₁ hl hr =>
        refine ht C A φ₂ _ _ v _ _ R xi (.dat hrep) fun s₄ z x₄ => ?_
        obtain ⟨st₄, xo₄, hS₄⟩ := bound s₄ z x₄
        refine hti C A φ₂ s₄ _ _ R x₄ fun φ₅ s₅ y₅ => ?_
        obtain rfl := y₅.sameφ (hSt (hl₁.trans hlen))
        rw [if_pos rfl]
        have x₅ := x₄.step y₅
        refine he C A φ₅ s₅ _ _ R x₅ fun w φ₆ s₆ y₆ r₆ => ?_
        obtain rfl := y₆.sameφ (hSt (hl.trans hlen))
        have x₆ := x₅.step y₆
        have i1 : φ₆[σ₄.length]? = some D := by rw [hl.trans hlen]; exact hD
        have i2 : (σ₄ ++ [acc])[σ₄.length]? = some acc := by simp
        obtain ⟨vs, hp, ha⟩ := y₆.sto.item σ₄.length D acc i1 i2
        have hle : vs.toArray.size ≤ sizeLine := by
          have := hr.grows
          rw [List.length_append, List.length_singleton] at this
          rw [List.size_toArray, ha.length]; omega
        refine wpAny_list_append_plain hp (fun h₇ hp₇ hs₇ => ?_) hle
        cases r₆ with
        | dat r₆ =>
          rw [show vs.toArray.push w = (vs ++ [w]).toArray by simp] at hp₇
          have y₇ := Step.mut (tk := s₆.toks) y₆.sto i1 i2 hs₇ hp₇ (ha.append (.cons r₆ .nil))
          rw [show (σ₄ ++ [acc]).set σ₄.length (acc ++ [r]) = σ₄ ++ [acc ++ [r]] by simp] at y₇
          refine ⟨ds.length - (i + 1), by omega, i + 1, σ₄, acc ++ [r], rfl, hlt, ((st₄.trans (cX y₅)).trans (cX y₆)).trans (cX y₇), ((xo₄.step y₅).step y₆).step y₇, (x₆.step y₇).fr.ns, cS y₇ (cS y₆ (cS y₅ hS₄)), hl.trans hlen, hr⟩
      | @drop _ _ _ _ σ₃ _ _ ρ₁ ht hti hl hr =>
        refine ht C A φ₂ _ _ v _ _ R xi (.dat hrep) fun s₄ z x₄ => ?_
        obtain ⟨st₄, xo₄, hS₄⟩ := bound s₄ z x₄
        refine hti C A φ₂ s₄ _ _ R x₄ fun φ₅ s₅ y₅ => ?_
        obtain rfl := y₅.sameφ (hSt (hl.trans hlen))
        rw [if_neg (by decide)]
        exact ⟨ds.length - (i + 1), by omega, i + 1, σ₃, acc, rfl, hlt, st₄.trans (cX y₅), xo₄.step y₅, (x₄.step y₅).fr.ns, cS y₅ hS₄, hl.trans hlen, hr⟩
    · have hin : i = ds.length := Nat.le_antisymm hi' hge
      subst hin
      refine wk.w.done s' _ _ hS fun h' tk hk => ?_
      obtain ⟨st', xo', m, hm⟩ := itr h' tk hk
      rw [List.drop_length] at hdd
      generalize hs'' : ({ s' with heap := h', toks := tk } : Shared) = s'' at st' xo'
      have e'' : s''.heap = h' := by rw [← hs'']
      cases hdd with
      | nil =>
        have hpop := xo'.sto
        rw [hφ₂] at hpop
        obtain ⟨p1, ⟨vs, p2, p3⟩, p4⟩ := hpop.pop
        have hsub : ∀ b ∈ φ₁, b ∈ φ₂ := fun b hb => by rw [hφ₂]; exact List.mem_append_left _ hb
        have hCφ₁ : C ∉ φ₁ := fun h => hCφ (hsub C h)
        have up : ∀ b o, b ∉ φ → s.heap.get? b = some o → s₂.heap.get? b = some o ∧ b ∉ φ₂ := fun b o hb e => by
          have e1 := y.keep b o hb e
          have n1 := y.grow.not hb e
          exact ⟨y₂.keep b o n1 e1, y₂.grow.not n1 e1⟩
        have hCs : s.heap.get? C = none := by
          cases e : s.heap.get? C with
          | none => rfl
          | some o =>
            have hCφ0 : C ∉ φ := fun h => by obtain ⟨ext, h'⟩ := y.pre; exact hCφ₁ (h' ▸ List.mem_append_left _ h)
            rw [(up C o hCφ0 e).1] at hCn; cases hCn
        refine hQ D C φ₁ s'' m ⟨?_, ?_, y.grow, y.pre, p1⟩ (.list p4 p2.isList (p3.less fun b hb => List.mem_append_left _ hb)) (by rw [e'']; exact hm) hCs hCφ₁ (fun h => hCφ (by rw [h, hφ₂]; exact List.mem_append_right _ (List.mem_singleton.mpr rfl)))
        · obtain ⟨_, _, rfl⟩ := y.same
          obtain ⟨_, _, rfl⟩ := y₂.same
          obtain ⟨_, _, rfl⟩ := y₃.same
          obtain ⟨_, _, rfl⟩ := st'.same
          exact ⟨_, _, rfl⟩
        · intro b o hb e
          obtain ⟨e2, n2⟩ := up b o hb e
          refine st'.keep b o n2 (fun h => ?_) (y₃.keep b o n2 e2)
          rcases h with rfl | h
          · rw [hCn] at e2; cases e2
          · rw [wk.fresh b h] at e; cases e
  exact codeAny_compStart_list loop (wk.w.self 0 _ _ _ hS₃ loop)

/-- a comprehension as an expression -/
theorem EvE.comp {elt target iter : Expr} {ifs : List Expr} {scope : Scope} {pos : Pos} {ds rs : List PyData} {ρc : Loc}
    (hi : EvI K n env ρ σ iter ds σ₁) (hc : Caps env scope ρ ρc)
    (hd : EvCp K n (fun C => compEnvC scope (closL env scope.names []) C env) target ifs elt ρc [] σ₁ ds rs σ')
    (hsz : rs.length ≤ sizeLine)
    (hcap : capsOk scope env = true := by with_unfolding_all rfl) (hcell : ∀ y ∈ scope.names, y.2 ≠ .cell := by decide) (hkind : scope.kind = .function := by rfl)
    (hnames : ∀ y ∈ scope.names, y.2 = .local → scope.names.lookup y.1 = some .local := by decide)
    (hs : ∀ x, foldedSetIterable iter env x = pure x := by intro _; with_unfolding_all rfl) :
    EvE K n env ρ σ (.ListComp elt [⟨target, iter, ifs, 0⟩] scope pos) (.dat (.list rs)) σ' := by
  intro A φ s Q E R x hQ
  rw [eval_ListComp]
  refine comp_core hi hd hc hcap hcell hkind hnames hs hsz R x fun D C φ' s' m y r hm hCs hC hCD => ?_
  refine ⟨m, hm, fun h' hs' => hQ _ φ' _ ⟨?_, fun b o hb e => hs'.extBut b o (by rintro rfl; rw [hCs] at e; cases e) (y.keep b o hb e), y.grow, y.pre, y.sto.keeps fun b o vs k e d => hs'.extBut b o (by rintro rfl; exact ns_notSeq hm e d) e⟩
    (.dat (r.keep (fun b o vs k _ e d => hs'.extBut b o (by rintro rfl; exact ns_notSeq hm e d) e) fun b hb => .inl hb))⟩
  obtain ⟨_, _, rfl⟩ := y.same
  exact ⟨_, _, rfl⟩

set_option maxHeartbeats 2000000 in
/-- a comprehension whose value goes into a name at once -/
theorem EvS.assignComp {elt target iter : Expr} {ifs : List Expr} {scope : Scope} {pos p spos : Pos} {z : Str} {ds rs : List PyData} {ρc : Loc}
    (hi : EvI K n env ρ σ iter ds σ₁) (hc : Caps env scope ρ ρc)
    (hd : EvCp K n (fun C => compEnvC scope (closL env scope.names []) C env) target ifs elt ρc [] σ₁ ds rs σ')
    (hp : Put ρ z (.dat (.list rs)) ρ') (hsz : rs.length ≤ sizeLine)
    (hz : env.kindOf z = some .local := by with_unfolding_all rfl)
    (hsw : swapsWith (.ListComp elt [⟨target, iter, ifs, 0⟩] scope pos) (some (.Name z p)) spos.line env = pure true := by with_unfolding_all rfl)
    (hcap : capsOk scope env = true := by with_unfolding_all rfl) (hcell : ∀ y ∈ scope.names, y.2 ≠ .cell := by decide) (hkind : scope.kind = .function := by rfl)
    (hnames : ∀ y ∈ scope.names, y.2 = .local → scope.names.lookup y.1 = some .local := by decide)
    (hs : ∀ x, foldedSetIterable iter env x = pure x := by intro _; with_unfolding_all rfl) :
    EvS K n env ρ σ (.Assign [.Name z p] (.ListComp elt [⟨target, iter, ifs, 0⟩] scope pos) spos) .next ρ' σ' := by
  intro A φ s Q E R x hQ
  rw [exec_Assign_Name_used _ _ _ _ hsw]
  refine wpAny_bind (wpAny_standAt (wpAny_bind ?_))
  show wpAny _ A (do let _ ← comprehension (.ListComp elt [⟨target, iter, ifs, 0⟩] scope pos) scope env _ (newList []) false (eval iter env) (some (PySem.assign (.Name z p) env))) _ _ s
  refine wpAny_bind (wpAny_mono (comp_core (use := some (PySem.assign (.Name z p) env)) (Q := fun _ s' => Q .next s') (E := E) hi hd hc hcap hcell hkind hnames hs hsz R x fun D C φ' s' m y r hm hCs hC hCD => ?_) (fun _ s' hq => wpAny_pure (wpAny_pure hq)) fun _ _ e => e)
  have x' := x.step y
  have hCown : ¬ Own env C := fun h => by obtain ⟨o, e⟩ := x.live h; rw [hCs] at e; cases e
  have hCg : K.g.get? C = none := x.gnone hCs
  show wpAny _ A (PySem.assign (.Name z p) env (.ref D)) _ _ _
  refine wpAny_assign_Name (wp_storeL x' (.dat r) hp hz fun s₂ y₂ x₂ => ?_)
  have hm₂ : s₂.heap.Ns C m := hm.at' fun o e => y₂.keep C o hC (fun h => hCown (.inl h)) e
  refine ⟨m, hm₂, fun h' hs' => ?_⟩
  have k' : StepX (· = C) φ' s₂ φ' { s₂ with heap := h' } := ⟨⟨h', s₂.toks, rfl⟩, fun b o _ hb e => hs'.extBut b o hb e, fun b hb => .inl hb, ⟨[], by rw [List.append_nil]⟩, fun _ _ h => h⟩
  have x₃ : St K env ρ' φ' σ' { s₂ with heap := h' } := x₂.over k' (x₂.sto.keeps fun b o vs k e d => hs'.extBut b o (by rintro rfl; exact ns_notSeq hm₂ e d) e)
    (fun b hb => by rw [hb]; exact hCown) (fun b hb o vs k e d => by rw [hb] at e; exact ns_notSeq hm₂ e d) (fun b hb => by rw [hb]; exact hCg)
  refine hQ .next φ' _ ?_ x₃ .next
  have st : StepX (fun b => Own env b ∨ b ∈ [C]) φ' s' φ' { s₂ with heap := h' } :=
    (y₂.weaken0 fun b hb => .inl (.inl hb)).trans (k'.weaken0 fun b hb => .inr (List.mem_singleton.mpr hb))
  exact StepX.hide x (Step.toS x y) st fun b hb => by rw [List.mem_singleton.mp hb]; exact hCs
end
end PMB13
section PMB14
section
variable {prog : Program} {w : World} {A : Around} {E : Value → Shared → Prop} {s : Shared}
theorem draw_list {it t : Addr} {items : Array Value} (hne : t ≠ it) : ∀ (n i : Nat) (s : Shared) (Q : List Value → Shared → Prop), s.heap.IsListIter it t i → s.heap.IsList t items → i + n ≤ items.size →
    (∀ h', h'.IsListIter it t (i + n) → Heap.SameBut it s.heap h' → Q ((items.toList.drop i).take n) { s with heap := h' }) → wpAny (model prog w) A (draw (.ref it) n) Q E s
  | 0, i, s, Q, hit, _, _, hQ => by
    show wpAny _ _ (pure []) Q E s
    exact wpAny_pure (by simpa using hQ s.heap hit (Heap.SameBut.refl ..))
  | n + 1, i, s, Q, hit, ht, hle, hQ => by
    have hlt : i < items.size := by omega
    show wpAny _ _ (pyNext (.ref it) >>= _) Q E s
    refine wpAny_bind (wpAny_pyNext_list_item hit ht (x := items[i]) (by simp [hlt]) fun h₁ hit₁ hs₁ => ?_)
    refine wpAny_bind (wpAny_holding (draw_list hne n (i + 1) _ _ hit₁ (ht.extBut hs₁.extBut hne) (by omega) fun h₂ hit₂ hs₂ => wpAny_pure ?_))
    have hd : items.toList.drop i = items[i] :: items.toList.drop (i + 1) := by simp [List.drop_eq_getElem_cons, hlt]
    have := hQ h₂ (by rw [show i + (n + 1) = i + 1 + n by omega]; exact hit₂) (hs₁.trans hs₂)
    rw [hd, List.take_succ_cons] at this
    exact this
theorem unpackItems_list {t : Addr} {items : Array Value} {Q : List Value → Shared → Prop} (hh : A.handled = none) (ht : s.heap.IsList t items)
    (hQ : ∀ h', Heap.ExtBut s.heap.objs.size s.heap h' → Q items.toList { s with heap := h' }) : wpAny (model prog w) A (unpackItems (.ref t) items.size none) Q E s := by
  have hlt : t ≠ s.heap.objs.size := by obtain ⟨o, ho, _⟩ := ht; exact Nat.ne_of_lt (Heap.lt_size ho)
  unfold unpackItems
  refine wpAny_bind ?_
  · unfold notIterableAtAll
    refine wpAny_bind (wpAny_specialOf ht.typeIs slot_list_iter.lookup ?_)
    refine wpAny_pure ?_
    simp only [Bool.false_eq_true, if_false]
    refine wpAny_bind (wpAny_holding (wpAny_pyIter_list ht ?_))
    refine wpAny_bind (wpAny_holding (draw_list hlt items.size 0 _ _ ⟨_, Heap.get?_push_size _ rfl, rfl, rfl⟩ (ht.push _) (by omega) fun h₁ hit₁ hs₁ => ?_))
    have hall : List.take items.size (List.drop 0 items.toList) = items.toList := by
      rw [List.drop_zero]; exact List.take_of_length_le (by simp)
    rw [hall]
    rw [if_neg (by simp)]
    have ht₁ : h₁.IsList t items := (ht.push _).extBut hs₁.extBut hlt
    refine wpAny_bind (wpAny_holding (wpAny_pyNext_list_end hh hit₁ ht₁ (by simp) fun h₂ he₂ => ?_))
    simp only [Option.isSome_none, Bool.false_eq_true, if_false]
    refine wpAny_pure (hQ h₂ fun b o hb e => he₂ b o hb (hs₁.extBut b o hb (Heap.get?_push_of_some _ e)))
end

section
variable {K : Cx} {n : Nat} {env : Env} {ρ ρ' : Loc} {φ : List Addr} {σ σ₁ σ₂ σ' : Sto} {s : Shared}
theorem AsT.listT {X : Addr → Prop} {es : List Expr} {k : Nat} {pos : Pos} {ds : List PyData} (h : AsTs K n X env ρ es ds ρ') (hX : ∀ b, X b → Own env b)
    (he : assignEach es env = es.map fun e => (false, PySem.assign e env) := by with_unfolding_all rfl) : AsT K n X env ρ (.Tuple es k pos) (.dat (.list ds)) ρ' := by
  intro A φ σ s v Q E R x r hQ
  cases r with
  | dat r =>
    cases r with
    | @list t vs _ hn hl ha =>
      rw [assign_Tuple, he]
      refine wpAny_bind (wpAny_standAt ?_)
      show wpAny _ _ (do assignInOrder _ (← holding _ (unpackItems _ _ _))) _ _ _
      have hlen : ∀ {es : List Expr} {ds : List PyData} {ρ ρ' : Loc}, AsTs K n X env ρ es ds ρ' → es.length = ds.length := by
        intro es ds ρ ρ' h
        induction h with
        | nil => rfl
        | cons _ _ ih => rw [List.length_cons, List.length_cons, ih]
      have e1 : (es.map fun e => (false, PySem.assign e env)).length = vs.toArray.size := by rw [List.length_map, hlen h, List.size_toArray, ha.length]
      have e2 : (es.map fun e => (false, PySem.assign e env)).findIdx? (·.1) = none := by
        rw [List.findIdx?_eq_none_iff]; intro p hp
        obtain ⟨e, _, rfl⟩ := List.mem_map.mp hp; rfl
      rw [e1, e2, List.map_map]
      refine wpAny_bind (wpAny_holding (unpackItems_list R.hh hl fun h' hx => ?_))
      have st : Step K.g φ σ s φ { s with heap := h' } := Step.of_keeps (tk := s.toks) x.sto fun b o e => hx b o (by rintro rfl; rw [get_none_ge (Nat.le_refl _)] at e; cases e) e
      have x₁ := x.step st
      have y₁ : StepX X φ s φ { s with heap := h' } := st.toX fun _ _ h => h
      exact wp_assigns hX R h x₁ (st.repAll (by simpa using ha)) fun s' y x' => hQ s' (y₁.trans y) x'

theorem EvI.range0 {e : Expr} {p pos : Pos} (h : EvE K n env ρ σ e (.dat (.int 0)) σ') (hx : env.kindOf "range" = some .globalImplicit := by with_unfolding_all rfl) (h0 : starEach [e] env = [(false, eval e env)] := by with_unfolding_all rfl) :
    EvI K n env ρ σ (.Call (.Name "range" p) [e] [] pos) [] σ' := EvI.range h (by decide) (by decide) hx h0
theorem EvI.range1 {e : Expr} {p pos : Pos} (h : EvE K n env ρ σ e (.dat (.int 1)) σ') (hx : env.kindOf "range" = some .globalImplicit := by with_unfolding_all rfl) (h0 : starEach [e] env = [(false, eval e env)] := by with_unfolding_all rfl) :
    EvI K n env ρ σ (.Call (.Name "range" p) [e] [] pos) [.int 0] σ' := EvI.range h (by decide) (by decide) hx h0
theorem EvI.range2 {e : Expr} {p pos : Pos} (h : EvE K n env ρ σ e (.dat (.int 2)) σ') (hx : env.kindOf "range" = some .globalImplicit := by with_unfolding_all rfl) (h0 : starEach [e] env = [(false, eval e env)] := by with_unfolding_all rfl) :
    EvI K n env ρ σ (.Call (.Name "range" p) [e] [] pos) [.int 0, .int 1] σ' := EvI.range h (by decide) (by decide) hx h0
theorem EvI.range3 {e : Expr} {p pos : Pos} (h : EvE K n env ρ σ e (.dat (.int 3)) σ') (hx : env.kindOf "range" = some .globalImplicit := by with_unfolding_all rfl) (h0 : starEach [e] env = [(false, eval e env)] := by with_unfolding_all rfl) :
    EvI K n env ρ σ (.Call (.Name "range" p) [e] [] pos) [.int 0, .int 1, .int 2] σ' := EvI.range h (by decide) (by decide) hx h0
theorem EvI.range4 {e : Expr} {p pos : Pos} (h : EvE K n env ρ σ e (.dat (.int 4)) σ') (hx : env.kindOf "range" = some .globalImplicit := by with_unfolding_all rfl) (h0 : starEach [e] env = [(false, eval e env)] := by with_unfolding_all rfl) :
    EvI K n env ρ σ (.Call (.Name "range" p) [e] [] pos) [.int 0, .int 1, .int 2, .int 3] σ' := EvI.range h (by decide) (by decide) hx h0

theorem EvS.assignSw3 {a b c : Str} {p1 p2 p3 : Pos} {k : Nat} {p pos : Pos} {e : Expr} {d1 d2 d3 : PyData} {ρ₁ ρ₂ : Loc} (h₁ : EvE K n env ρ σ e (.dat (.tuple [d1, d2, d3])) σ') (q3 : Put ρ c (.dat d3) ρ₁) (q2 : Put ρ₁ b (.dat d2) ρ₂) (q1 : Put ρ₂ a (.dat d1) ρ')
    (ka : env.kindOf a = some .local := by with_unfolding_all rfl) (kb : env.kindOf b = some .local := by with_unfolding_all rfl) (kc : env.kindOf c = some .local := by with_unfolding_all rfl)
    (hs : swapsWithSole [.Tuple [.Name a p1, .Name b p2, .Name c p3] k p] e pos.line env = pure false := by with_unfolding_all rfl) (hw : swappedStores [.Tuple [.Name a p1, .Name b p2, .Name c p3] k p] e env = pure (some [a, b, c]) := by with_unfolding_all rfl) :
    EvS K n env ρ σ (.Assign [.Tuple [.Name a p1, .Name b p2, .Name c p3] k p] e pos) .next ρ' σ' :=
  EvS.assignSw (ys := [a, b, c]) h₁ (.cons q3 kc (.cons q2 kb (.cons q1 ka .nil))) rfl hs hw
theorem EvS.assignSw2 {a b : Str} {p1 p2 : Pos} {k : Nat} {p pos : Pos} {e : Expr} {d1 d2 : PyData} {ρ₁ : Loc} (h₁ : EvE K n env ρ σ e (.dat (.tuple [d1, d2])) σ') (q2 : Put ρ b (.dat d2) ρ₁) (q1 : Put ρ₁ a (.dat d1) ρ')
    (ka : env.kindOf a = some .local := by with_unfolding_all rfl) (kb : env.kindOf b = some .local := by with_unfolding_all rfl)
    (hs : swapsWithSole [.Tuple [.Name a p1, .Name b p2] k p] e pos.line env = pure false := by with_unfolding_all rfl) (hw : swappedStores [.Tuple [.Name a p1, .Name b p2] k p] e env = pure (some [a, b]) := by with_unfolding_all rfl) :
    EvS K n env ρ σ (.Assign [.Tuple [.Name a p1, .Name b p2] k p] e pos) .next ρ' σ' :=
  EvS.assignSw (ys := [a, b]) h₁ (.cons q2 kb (.cons q1 ka .nil)) rfl hs hw
theorem EvCp.zeroS {cenv : Addr → Env} {target : Expr} {ifs : List Expr} {elt : Expr} {ρc : Loc} {σ : Sto} : EvCp K n cenv target ifs elt ρc [] σ [] [] σ := .nil
theorem EvCp.oneS {cenv : Addr → Env} {target elt : Expr} {ρc ρ₁ : Loc} {src src₁ : List PyData} {τ : Sto} {d r : PyData} (ht : ∀ C, AsT K n (· = C) (cenv C) ρc target (.dat d) ρ₁)
    (he : ∀ C, EvE K n (cenv C) ρ₁ (src :: (τ ++ [[]])) elt (.dat r) (src₁ :: (τ ++ [[]]))) : EvCp K n cenv target [] elt ρc [] (src :: τ) [d] [r] (src₁ :: τ) :=
  .keep (σ₁ := src :: τ) (σ₂ := src₁ :: τ) (r := r) ht (fun C => EvTs.nil) he rfl rfl .nil
theorem EvCp.twoS {cenv : Addr → Env} {target elt : Expr} {ρc ρ₁ ρ₂ : Loc} {src src₁ src₂ : List PyData} {τ : Sto} {d r d' r' : PyData} (ht : ∀ C, AsT K n (· = C) (cenv C) ρc target (.dat d) ρ₁)
    (he : ∀ C, EvE K n (cenv C) ρ₁ (src :: (τ ++ [[]])) elt (.dat r) (src₁ :: (τ ++ [[]]))) (ht' : ∀ C, AsT K n (· = C) (cenv C) ρc target (.dat d') ρ₂)
    (he' : ∀ C, EvE K n (cenv C) ρ₂ (src₁ :: (τ ++ [[r]])) elt (.dat r') (src₂ :: (τ ++ [[r]]))) : EvCp K n cenv target [] elt ρc [] (src :: τ) [d, d'] [r, r'] (src₂ :: τ) :=
  .keep (σ₁ := src :: τ) (σ₂ := src₁ :: τ) (r := r) ht (fun C => EvTs.nil) he rfl rfl (.keep (σ₁ := src₁ :: τ) (σ₂ := src₂ :: τ) (r := r') ht' (fun C => EvTs.nil) he' rfl rfl .nil)
theorem EvCp.oneP {cenv : Addr → Env} {target elt : Expr} {ρc ρ₁ : Loc} {σ : Sto} {d r : PyData} (ht : ∀ C, AsT K n (· = C) (cenv C) ρc target (.dat d) ρ₁)
    (he : ∀ C, EvE K n (cenv C) ρ₁ (σ ++ [[]]) elt (.dat r) (σ ++ [[]])) : EvCp K n cenv target [] elt ρc [] σ [d] [r] σ :=
  .keep (σ₁ := σ) ht (fun C => EvTs.nil) he rfl rfl .nil
theorem EvCp.twoP {cenv : Addr → Env} {target elt : Expr} {ρc ρ₁ ρ₂ : Loc} {σ : Sto} {d r d' r' : PyData} (ht : ∀ C, AsT K n (· = C) (cenv C) ρc target (.dat d) ρ₁)
    (he : ∀ C, EvE K n (cenv C) ρ₁ (σ ++ [[]]) elt (.dat r) (σ ++ [[]])) (ht' : ∀ C, AsT K n (· = C) (cenv C) ρc target (.dat d') ρ₂)
    (he' : ∀ C, EvE K n (cenv C) ρ₂ (σ ++ [[r]]) elt (.dat r') (σ ++ [[r]])) : EvCp K n cenv target [] elt ρc [] σ [d, d'] [r, r'] σ :=
  .keep (σ₁ := σ) ht (fun C => EvTs.nil) he rfl rfl (.keep (σ₁ := σ) ht' (fun C => EvTs.nil) he' rfl rfl .nil)
end
end PMB14
section PMF0
/-! ## Rules in the form that the evaluation wants -/
noncomputable def recs0 : List DefRec := defsOf PySem.Challenge.pw_xw0155_01
theorem recs0_len : recs0.length = 22 := by decide +kernel
noncomputable abbrev rec0 (i : Nat) (h : i < recs0.length := by rw [recs0_len]; decide) : DefRec := recs0[i]

theorem wp_execs_append {M : Model} {Γ : Ctx} {env : Env} {b : List Stmt} {Q : Flow → Pos → Shared → Prop} {E : Value → Pos → Shared → Prop} : ∀ {a : List Stmt} {p : Pos} {s : Shared}, Sem.wp M Γ (execs (a ++ b) env) Q E p s →
    Sem.wp M Γ (execs a env) (fun f p' s' => Sem.wp M Γ (match f with | .next => execs b env | f => pure f) Q E p' s') E p s
  | [], p, s, h => h
  | st :: a, p, s, h => by
    rw [List.cons_append, execs_cons, Sem.wp_bind'] at h
    rw [execs_cons, Sem.wp_bind']
    refine Sem.wp_mono M Γ _ (fun f p' s' h' => ?_) (fun _ _ _ h' => h') _ _ h
    cases f with
    | next => exact wp_execs_append h'
    | brk => exact h'
    | cont => exact h'
    | ret v => exact h'

section
variable {K : Cx} {n : Nat} {env : Env} {ρ ρ' : Loc} {φ : List Addr} {σ σ₁ σ₂ σ' : Sto} {s : Shared}

theorem EvB.ifX {t : Expr} {b₁ b₂ rest : List Stmt} {pos : Pos} {b : Bool} {f : Fl} (ht : EvT K n env ρ σ t b σ₁)
    (h : (b = true ∧ EvB K n env ρ σ₁ (b₁ ++ rest) f ρ' σ') ∨ (b = false ∧ EvB K n env ρ σ₁ (b₂ ++ rest) f ρ' σ')) : EvB K n env ρ σ (.If t b₁ b₂ pos :: rest) f ρ' σ' := by
  intro A φ s Q E R x hQ Γ p hΓ
  rw [execs_cons, Sem.wp_bind']
  simp only [exec_If, Sem.wp_bind', Sem.wp_cmd_standAt]
  refine Sem.wp_mono _ _ _ (fun c p₂ s₂ h₂ => ?_) (fun _ _ _ h' => h') _ _ (ht A φ s (fun c s₂ => wpAny (model K.prog K.w) A (execs ((if c then b₁ else b₂) ++ rest) env) Q E s₂) E R x ?_ Γ _ hΓ)
  · have := wp_execs_append (h₂ Γ p₂ hΓ)
    cases c <;> exact this
  · intro φ₁ s₁ y
    rcases h with ⟨rfl, h⟩ | ⟨rfl, h⟩
    · exact h A φ₁ s₁ Q E R (x.step y) fun v φ₂ s₂ z x₂ hf => hQ v φ₂ s₂ ((Step.toS x y).trans z) x₂ hf
    · exact h A φ₁ s₁ Q E R (x.step y) fun v φ₂ s₂ z x₂ hf => hQ v φ₂ s₂ ((Step.toS x y).trans z) x₂ hf

theorem EvT.andX {e : Expr} {es : List Expr} {pos : Pos} {b c : Bool} (h₁ : EvT K n env ρ σ e b σ₁) (h : (b = true ∧ EvT K n env ρ σ₁ (.BoolOp .And es pos) c σ') ∨ (b = false ∧ c = false ∧ σ' = σ₁)) :
    EvT K n env ρ σ (.BoolOp .And (e :: es) pos) c σ' := by
  rcases h with ⟨rfl, h⟩ | ⟨rfl, rfl, rfl⟩
  · exact EvT.and h₁ (fun _ => h) (fun h => by cases h)
  · exact EvT.and h₁ (fun h => by cases h) fun _ => ⟨rfl, rfl⟩
theorem EvT.orX {e : Expr} {es : List Expr} {pos : Pos} {b c : Bool} (h₁ : EvT K n env ρ σ e b σ₁) (h : (b = false ∧ EvT K n env ρ σ₁ (.BoolOp .Or es pos) c σ') ∨ (b = true ∧ c = true ∧ σ' = σ₁)) :
    EvT K n env ρ σ (.BoolOp .Or (e :: es) pos) c σ' := by
  rcases h with ⟨rfl, h⟩ | ⟨rfl, rfl, rfl⟩
  · exact EvT.or h₁ (fun _ => h) (fun h => by cases h)
  · exact EvT.or h₁ (fun h => by cases h) fun _ => ⟨rfl, rfl⟩
theorem EvE.andX {e₁ e₂ : Expr} {es : List Expr} {pos : Pos} {b c : Bool} (h₁ : EvE K n env ρ σ e₁ (.dat (.bool b)) σ₁) (h : (b = true ∧ EvE K n env ρ σ₁ (.BoolOp .And (e₂ :: es) pos) (.dat (.bool c)) σ') ∨ (b = false ∧ c = false ∧ σ' = σ₁)) :
    EvE K n env ρ σ (.BoolOp .And (e₁ :: e₂ :: es) pos) (.dat (.bool c)) σ' := by
  rcases h with ⟨rfl, h⟩ | ⟨rfl, rfl, rfl⟩
  · exact EvE.and h₁ (fun _ => h) (fun h => by cases h)
  · exact EvE.and h₁ (fun h => by cases h) fun _ => ⟨rfl, rfl⟩
theorem EvE.orX {e₁ e₂ : Expr} {es : List Expr} {pos : Pos} {b c : Bool} (h₁ : EvE K n env ρ σ e₁ (.dat (.bool b)) σ₁) (h : (b = false ∧ EvE K n env ρ σ₁ (.BoolOp .Or (e₂ :: es) pos) (.dat (.bool c)) σ') ∨ (b = true ∧ c = true ∧ σ' = σ₁)) :
    EvE K n env ρ σ (.BoolOp .Or (e₁ :: e₂ :: es) pos) (.dat (.bool c)) σ' := by
  rcases h with ⟨rfl, h⟩ | ⟨rfl, rfl, rfl⟩
  · exact EvE.or h₁ (fun _ => h) (fun h => by cases h)
  · exact EvE.or h₁ (fun h => by cases h) fun _ => ⟨rfl, rfl⟩
/-- both looked at, or not: it is all the same -/
theorem EvE.orS {e₁ e₂ : Expr} {es : List Expr} {pos : Pos} {b c : Bool} (h₁ : EvE K n env ρ σ e₁ (.dat (.bool b)) σ) (h : EvE K n env ρ σ (.BoolOp .Or (e₂ :: es) pos) (.dat (.bool c)) σ) :
    EvE K n env ρ σ (.BoolOp .Or (e₁ :: e₂ :: es) pos) (.dat (.bool (b || c))) σ := by
  cases b
  · exact EvE.or h₁ (fun _ => h) (fun h => by cases h)
  · exact EvE.or h₁ (fun h => by cases h) fun _ => ⟨rfl, rfl⟩
theorem EvE.andS {e₁ e₂ : Expr} {es : List Expr} {pos : Pos} {b c : Bool} (h₁ : EvE K n env ρ σ e₁ (.dat (.bool b)) σ) (h : EvE K n env ρ σ (.BoolOp .And (e₂ :: es) pos) (.dat (.bool c)) σ) :
    EvE K n env ρ σ (.BoolOp .And (e₁ :: e₂ :: es) pos) (.dat (.bool (b && c))) σ := by
  cases b
  · exact EvE.and h₁ (fun h => by cases h) fun _ => ⟨rfl, rfl⟩
  · exact EvE.and h₁ (fun _ => h) (fun h => by cases h)
theorem EvT.orS {e : Expr} {es : List Expr} {pos : Pos} {b c : Bool} (h₁ : EvT K n env ρ σ e b σ) (h : EvT K n env ρ σ (.BoolOp .Or es pos) c σ) : EvT K n env ρ σ (.BoolOp .Or (e :: es) pos) (b || c) σ := by
  cases b
  · exact EvT.or h₁ (fun _ => h) (fun h => by cases h)
  · exact EvT.or h₁ (fun h => by cases h) fun _ => ⟨rfl, rfl⟩
theorem EvT.andS {e : Expr} {es : List Expr} {pos : Pos} {b c : Bool} (h₁ : EvT K n env ρ σ e b σ) (h : EvT K n env ρ σ (.BoolOp .And es pos) c σ) : EvT K n env ρ σ (.BoolOp .And (e :: es) pos) (b && c) σ := by
  cases b
  · exact EvT.and h₁ (fun h => by cases h) fun _ => ⟨rfl, rfl⟩
  · exact EvT.and h₁ (fun _ => h) (fun h => by cases h)
theorem EvE.ifX {t e₁ e₂ : Expr} {pos : Pos} {b : Bool} {r : LV} (ht : EvT K n env ρ σ t b σ₁) (h : (b = true ∧ EvE K n env ρ σ₁ e₁ r σ') ∨ (b = false ∧ EvE K n env ρ σ₁ e₂ r σ')) : EvE K n env ρ σ (.IfExp t e₁ e₂ pos) r σ' := by
  rcases h with ⟨rfl, h⟩ | ⟨rfl, h⟩
  · exact EvE.ifTrue ht h
  · exact EvE.ifFalse ht h

/-- an item by a number that is no less than 0 -/
theorem EvE.itemT {value slice : Expr} {pos : Pos} {ds : List PyData} {k : Int} {d : PyData} (h₁ : EvE K n env ρ σ value (.dat (.tuple ds)) σ₁) (h₂ : EvE K n env ρ σ₁ slice (.dat (.int k)) σ') (hd : ds[k.toNat]? = some d)
    (h0 : 0 ≤ k := by decide) (hs : ∀ t u, subscripted slice false (.ref t) (.int k u) = operate [.ref t, .int k u] (getItem (.ref t) (.int k u)) := by intro _ _; with_unfolding_all rfl) (hhi : k < 2 ^ 63 := by decide) :
    EvE K n env ρ σ (.Subscript value slice pos) (.dat d) σ' :=
  EvE.itemTup (j := k.toNat) h₁ h₂ (by
    have hlt : k.toNat < ds.length := (List.getElem?_eq_some_iff.mp hd).1
    unfold seqIndex?
    have e : ¬ (k < 0) := by omega
    have e2 : k < (ds.length : Int) := by omega
    simp [e, h0, e2]) hd hs (by omega) hhi

/-- a call of one of the text's defs, the def's standing at the top said with it -/
noncomputable def EvF (K : Cx) (n : Nat) (y : Str) (args : List LV) (σ : Sto) (r : LV) (σ' : Sto) : Prop := (∃ d ∈ K.recs, d.name = y) ∧ EvC K n y args σ r σ'
theorem EvF.le {m : Nat} {y : Str} {args : List LV} {r : LV} (h : EvF K n y args σ r σ') (hm : n ≤ m) : EvF K m y args σ r σ' := ⟨h.1, h.2.le hm⟩
theorem EvE.callF {y : Str} {p pos : Pos} {es : List Expr} {ls : List LV} {r : LV} (ha : EvA K n env ρ σ es ls σ₁) (hc : EvF K n y ls σ₁ r σ')
    (hx : env.kindOf y = some .globalImplicit := by with_unfolding_all rfl) (h0 : (starEach es env).all (fun x => !x.1) = true := by with_unfolding_all rfl) (hdb : (y == ("__debug__" : Str)) = false := by decide) : EvE K n env ρ σ (.Call (.Name y p) es [] pos) r σ' := by
  obtain ⟨⟨d, hd, hn⟩, hc⟩ := hc
  exact EvE.call ha hc hd hn hx h0 hdb

theorem EvF.enter {r : LV} {args : List LV} {y : Str} (d : DefRec) (xs : List Str) (hd : d ∈ K.recs) (hn : d.name = y) (hlen : xs.length = args.length)
    (hbind : ∀ pm code doc vs, vs.length = xs.length → bindArgs (docDef d.name d.params d.body d.scope pm code doc) ⟨vs, []⟩ = pure (xs.zip vs))
    (hnd : xs.Nodup) (hks : ∀ x ∈ xs, d.scope.names.lookup x = some .local ∨ d.scope.names.lookup x = some .cell)
    (hco : d.scope.isCoroutine = false) (hgen : d.scope.isGenerator = false) (hk : d.scope.kind = .function)
    (body : ∀ L a code, ∃ ρ', EvB K n (fenv d.scope d.name L a code) (xs.zip args) σ d.body (.ret r) ρ' σ') : EvF K (n + 1) y args σ r σ' :=
  ⟨⟨d, hd, hn⟩, hn ▸ EvC.enter d xs hd hlen hbind body hnd hks hco hgen hk⟩
theorem EvF.enterD {r : PyData} {args : List LV} {y : Str} (d : DefRec) (xs : List Str) (hd : d ∈ K.recs) (hn : d.name = y) (hlen : xs.length = args.length)
    (hbind : ∀ pm code doc vs, vs.length = xs.length → bindArgs (docDef d.name d.params d.body d.scope pm code doc) ⟨vs, []⟩ = pure (xs.zip vs))
    (hnd : xs.Nodup) (hks : ∀ x ∈ xs, d.scope.names.lookup x = some .local ∨ d.scope.names.lookup x = some .cell)
    (hco : d.scope.isCoroutine = false) (hgen : d.scope.isGenerator = false) (hk : d.scope.kind = .function)
    (hl : σ.length ≤ σ'.length) (body : ∀ L a code, ∃ ρ' τ, EvB K n (fenv d.scope d.name L a code) (xs.zip args) σ d.body (.ret (.dat r)) ρ' (σ' ++ τ)) : EvF K (n + 1) y args σ (.dat r) σ' :=
  ⟨⟨d, hd, hn⟩, hn ▸ EvC.enterD d xs hd hlen hbind hl body hnd hks hco hgen hk⟩
end
section
variable {K : Cx} {n : Nat} {env : Env} {ρ ρ₁ ρ' : Loc} {σ σ₁ σ' : Sto}
/-- a block before the blocks that still wait -/
noncomputable def EvK (K : Cx) (n : Nat) (env : Env) (ρ : Loc) (σ : Sto) (blk : List Stmt) (stk : List (List Stmt)) (f : Fl) (ρ' : Loc) (σ' : Sto) : Prop := EvB K n env ρ σ (blk ++ stk.flatten) f ρ' σ'
theorem EvK.enter {blk : List Stmt} {f : Fl} (h : EvK K n env ρ σ blk [] f ρ' σ') : EvB K n env ρ σ blk f ρ' σ' := by unfold EvK at h; simpa using h
theorem EvK.done : EvK K n env ρ σ [] [] .next ρ σ := EvB.nil
theorem EvK.pop {b : List Stmt} {stk : List (List Stmt)} {f : Fl} (h : EvK K n env ρ σ b stk f ρ' σ') : EvK K n env ρ σ [] (b :: stk) f ρ' σ' := by
  unfold EvK at h ⊢; simpa using h
theorem EvK.cons {s : Stmt} {b : List Stmt} {stk : List (List Stmt)} {f : Fl} (h : EvS K n env ρ σ s .next ρ₁ σ₁) (k : EvK K n env ρ₁ σ₁ b stk f ρ' σ') : EvK K n env ρ σ (s :: b) stk f ρ' σ' := EvB.cons h k
theorem EvK.ret {s : Stmt} {b : List Stmt} {stk : List (List Stmt)} {r : LV} (h : EvS K n env ρ σ s (.ret r) ρ' σ') : EvK K n env ρ σ (s :: b) stk (.ret r) ρ' σ' := EvB.ret h
theorem EvK.cont {s : Stmt} {b : List Stmt} {stk : List (List Stmt)} (h : EvS K n env ρ σ s .cont ρ' σ') : EvK K n env ρ σ (s :: b) stk .cont ρ' σ' := EvB.cont h
noncomputable def SelK (K : Cx) (n : Nat) (env : Env) (ρ : Loc) (σ : Sto) (b : Bool) (b₁ b₂ : List Stmt) (stk : List (List Stmt)) (f : Fl) (ρ' : Loc) (σ' : Sto) : Prop :=
  (b = true ∧ EvK K n env ρ σ b₁ stk f ρ' σ') ∨ (b = false ∧ EvK K n env ρ σ b₂ stk f ρ' σ')
theorem SelK.yes {b : Bool} {b₁ b₂ : List Stmt} {stk : List (List Stmt)} {f : Fl} (h : b = true) (k : EvK K n env ρ σ b₁ stk f ρ' σ') : SelK K n env ρ σ b b₁ b₂ stk f ρ' σ' := .inl ⟨h, k⟩
theorem SelK.no {b : Bool} {b₁ b₂ : List Stmt} {stk : List (List Stmt)} {f : Fl} (h : b = false) (k : EvK K n env ρ σ b₂ stk f ρ' σ') : SelK K n env ρ σ b b₁ b₂ stk f ρ' σ' := .inr ⟨h, k⟩
theorem EvK.ifX {t : Expr} {b₁ b₂ rest : List Stmt} {stk : List (List Stmt)} {pos : Pos} {b : Bool} {f : Fl} (ht : EvT K n env ρ σ t b σ₁) (h : SelK K n env ρ σ₁ b b₁ b₂ (rest :: stk) f ρ' σ') :
    EvK K n env ρ σ (.If t b₁ b₂ pos :: rest) stk f ρ' σ' := by
  unfold SelK EvK at h
  simp only [List.flatten_cons] at h
  exact EvB.ifX ht h
noncomputable def SelTA (K : Cx) (n : Nat) (env : Env) (ρ : Loc) (σ : Sto) (b : Bool) (e : Expr) (c : Bool) (σ' : Sto) : Prop := (b = true ∧ EvT K n env ρ σ e c σ') ∨ (b = false ∧ c = false ∧ σ' = σ)
theorem SelTA.go {b c : Bool} {e : Expr} (h : b = true) (k : EvT K n env ρ σ e c σ') : SelTA K n env ρ σ b e c σ' := .inl ⟨h, k⟩
theorem SelTA.stop {b : Bool} {e : Expr} (h : b = false) : SelTA K n env ρ σ b e false σ := .inr ⟨h, rfl, rfl⟩
noncomputable def SelTO (K : Cx) (n : Nat) (env : Env) (ρ : Loc) (σ : Sto) (b : Bool) (e : Expr) (c : Bool) (σ' : Sto) : Prop := (b = false ∧ EvT K n env ρ σ e c σ') ∨ (b = true ∧ c = true ∧ σ' = σ)
theorem SelTO.go {b c : Bool} {e : Expr} (h : b = false) (k : EvT K n env ρ σ e c σ') : SelTO K n env ρ σ b e c σ' := .inl ⟨h, k⟩
theorem SelTO.stop {b : Bool} {e : Expr} (h : b = true) : SelTO K n env ρ σ b e true σ := .inr ⟨h, rfl, rfl⟩
theorem EvT.andY {e : Expr} {es : List Expr} {pos : Pos} {b c : Bool} (h₁ : EvT K n env ρ σ e b σ₁) (h : SelTA K n env ρ σ₁ b (.BoolOp .And es pos) c σ') : EvT K n env ρ σ (.BoolOp .And (e :: es) pos) c σ' := EvT.andX h₁ h
theorem EvT.orY {e : Expr} {es : List Expr} {pos : Pos} {b c : Bool} (h₁ : EvT K n env ρ σ e b σ₁) (h : SelTO K n env ρ σ₁ b (.BoolOp .Or es pos) c σ') : EvT K n env ρ σ (.BoolOp .Or (e :: es) pos) c σ' := EvT.orX h₁ h
end
theorem Get.here2 {a x : Str} {p v : LV} {ρ : Loc} (ha : a ≠ x) : Get ((a, p) :: (x, v) :: ρ) x v := .there ha .here
theorem Get.here3 {a b x : Str} {p q v : LV} {ρ : Loc} (ha : a ≠ x) (hb : b ≠ x) : Get ((a, p) :: (b, q) :: (x, v) :: ρ) x v := .there ha (.here2 hb)
theorem Get.skip3 {a b c x : Str} {p q r v : LV} {ρ : Loc} (ha : a ≠ x) (hb : b ≠ x) (hc : c ≠ x) (h : Get ρ x v) : Get ((a, p) :: (b, q) :: (c, r) :: ρ) x v := .there ha (.there hb (.there hc h))
theorem Put.skip3 {a b c x : Str} {p q r v : LV} {ρ ρ' : Loc} (ha : a ≠ x) (hb : b ≠ x) (hc : c ≠ x) (h : Put ρ x v ρ') : Put ((a, p) :: (b, q) :: (c, r) :: ρ) x v ((a, p) :: (b, q) :: (c, r) :: ρ') := .there ha (.there hb (.there hc h))
end PMF0
section PMW
theorem ofStr_inj {a b : String} : Str.ofString a = Str.ofString b ↔ a = b := by
  refine ⟨fun h => ?_, fun h => by rw [h]⟩
  rw [Str.ofString_eq_toList, Str.ofString_eq_toList] at h
  injection h with h
  have h1 : a.toList.map Char.toNat = b.toList.map Char.toNat := by simpa using h
  have h2 : a.toList = b.toList := List.map_inj_right (fun x y hxy => Char.ext (UInt32.toNat_inj.mp hxy)) |>.mp h1
  exact String.toList_inj.mp h2

/-! ## Sizes and searches over data -/
mutual
noncomputable def sz : PyData → Nat
  | .tuple ds => szAll ds + 1
  | _ => 1
noncomputable def szAll : List PyData → Nat
  | [] => 0
  | x :: xs => sz x + szAll xs
end
theorem sz_pos : ∀ d : PyData, 1 ≤ sz d
  | .tuple ds => by rw [sz]; omega
  | .none => by rw [sz] <;> simp
  | .bool _ => by rw [sz] <;> simp
  | .int _ => by rw [sz] <;> simp
  | .str _ => by rw [sz] <;> simp
  | .list _ => by rw [sz] <;> simp
  | .dict _ => by rw [sz] <;> simp
theorem szAll_append : ∀ a b : List PyData, szAll (a ++ b) = szAll a + szAll b
  | [], b => by rw [List.nil_append, szAll]; omega
  | x :: a, b => by rw [List.cons_append, szAll, szAll, szAll_append a b]; omega
theorem szAll_len : ∀ a : List PyData, a.length ≤ szAll a
  | [] => Nat.zero_le _
  | x :: a => by rw [List.length_cons, szAll]; have := sz_pos x; have := szAll_len a; omega

theorem szAll_mem : ∀ {ds : List PyData} {x : PyData}, x ∈ ds → sz x ≤ szAll ds
  | y :: ds, x, h => by
    rw [szAll]
    rcases List.mem_cons.mp h with rfl | h
    · omega
    · have := szAll_mem h; omega

mutual
noncomputable def occ (p : PyData → Bool) : PyData → Bool
  | .tuple ds => p (.tuple ds) || occAll p ds
  | _ => false
noncomputable def occAll (p : PyData → Bool) : List PyData → Bool
  | [] => false
  | x :: xs => occ p x || occAll p xs
end
theorem occAll_any (p : PyData → Bool) : ∀ ds : List PyData, occAll p ds = ds.any (occ p)
  | [] => by rw [occAll]; rfl
  | x :: xs => by rw [occAll, occAll_any p xs, List.any_cons]
noncomputable def kidsT : PyData → List PyData
  | .tuple ds => ds
  | _ => []
theorem occ_eq (p : PyData → Bool) : ∀ d : PyData, occ p d = ((isTupB d && p d) || (kidsT d).any (occ p))
  | .tuple ds => by rw [occ, occAll_any]; simp [isTupB, kidsT]
  | .none | .bool _ | .int _ | .str _ | .list _ | .dict _ => by rw [occ] <;> simp [isTupB, kidsT]
theorem kidsT_lt : ∀ d : PyData, szAll (kidsT d) < sz d
  | .tuple ds => by rw [sz, kidsT]; omega
  | .none | .bool _ | .int _ | .str _ | .list _ | .dict _ => by have h : ∀ d : PyData, kidsT d = [] → szAll (kidsT d) < sz d := fun d h => (by rw [h, szAll]; exact sz_pos d); exact h _ rfl

/-- local number k -/
noncomputable def isLoc (k : Int) : PyData → Bool
  | .tuple [a, _, _, d] => PyData.eqv a (.str "local") && PyData.eqv d (.int k)
  | _ => false
/-- a pattern that binds by a mutable reference -/
noncomputable def isMut : PyData → Bool
  | .tuple [a, _, _, d, _] => PyData.eqv a (.str "bind") && PyData.eqv d (.str "mut")
  | _ => false

theorem sget_last {σ : Sto} {x : List PyData} : (σ ++ [x])[σ.length]? = some x := by simp
theorem sset_last {σ : Sto} {x y : List PyData} : (σ ++ [x]).set σ.length y = σ ++ [y] := by simp
theorem sget_zero {σ : Sto} {x : List PyData} : (x :: σ)[0]? = some x := rfl
theorem sset_zero {σ : Sto} {x y : List PyData} : (x :: σ).set 0 y = y :: σ := rfl

noncomputable def Sub (ρ ρ' : Loc) : Prop := ∀ y u, Get ρ y u → Get ρ' y u
theorem Sub.refl {ρ : Loc} : Sub ρ ρ := fun _ _ h => h
theorem Get.append {ρ τ : Loc} {y : Str} {u : LV} (h : Get ρ y u) : Get (ρ ++ τ) y u := by
  induction h with
  | here => exact .here
  | there hn _ ih => exact .there hn ih
theorem Sub.app {ρ τ : Loc} : Sub ρ (ρ ++ τ) := fun _ _ h => h.append

section
variable {K : Cx} {n : Nat} {env : Env} {ρ ρ' : Loc} {φ : List Addr} {σ σ₁ σ₂ σ' : Sto} {s : Shared}
theorem EvB.post {st : List Stmt} {f : Fl} {ρ₁ : Loc} (h : EvB K n env ρ σ st f ρ₁ σ') (hs : Sub ρ' ρ₁) : EvB K n env ρ σ st f ρ' σ' :=
  fun A φ s Q E R x hQ => h A φ s Q E R x fun v φ' s' y x' hf => hQ v φ' s' y (x'.forget hs) hf
theorem EvB.pre {st : List Stmt} {f : Fl} {ρ₁ : Loc} (h : EvB K n env ρ₁ σ st f ρ' σ') (hs : Sub ρ₁ ρ) : EvB K n env ρ σ st f ρ' σ' :=
  fun A φ s Q E R x hQ => h A φ s Q E R (x.forget hs) hQ

theorem sub_next {st : List Stmt} {ρ₀ τ : Loc} (h : EvB K n env ρ₀ σ st .next (ρ₀ ++ τ) σ') : ∃ ρ', Sub ρ₀ ρ' ∧ (EvB K n env ρ₀ σ st .next ρ' σ' ∨ EvB K n env ρ₀ σ st .cont ρ' σ') := ⟨_, Sub.app, .inl h⟩
theorem sub_cont {st : List Stmt} {ρ₀ τ : Loc} (h : EvB K n env ρ₀ σ st .cont (ρ₀ ++ τ) σ') : ∃ ρ', Sub ρ₀ ρ' ∧ (EvB K n env ρ₀ σ st .next ρ' σ' ∨ EvB K n env ρ₀ σ st .cont ρ' σ') := ⟨_, Sub.app, .inr h⟩
theorem wh_scan {test : Expr} {body : List Stmt} (f hit : PyData → Bool) (kids : PyData → List PyData) (ok : PyData → Prop) {ρ₀ : Loc} {r : LV} {σ : Sto}
    (hf : ∀ d, ok d → f d = (hit d || (kids d).any f)) (hk : ∀ d, ok d → szAll (kids d) < sz d) (hok : ∀ d, ok d → hit d = false → ∀ x ∈ kids d, ok x)
    (hT : ∀ stack, szAll stack ≤ 1000000 → EvT K n env ρ₀ (σ ++ [stack]) test (!stack.isEmpty) (σ ++ [stack]))
    (hB1 : ∀ ds d, ok d → szAll (ds ++ [d]) ≤ 1000000 → hit d = true → ∃ ρ' st, EvB K n env ρ₀ (σ ++ [ds ++ [d]]) body (.ret r) ρ' (σ ++ [st]))
    (hB2 : ∀ ds d, ok d → szAll (ds ++ [d]) ≤ 1000000 → hit d = false → ∃ ρ', Sub ρ₀ ρ' ∧ (EvB K n env ρ₀ (σ ++ [ds ++ [d]]) body .next ρ' (σ ++ [ds ++ kids d]) ∨ EvB K n env ρ₀ (σ ++ [ds ++ [d]]) body .cont ρ' (σ ++ [ds ++ kids d]))) :
    ∀ (m : Nat) (stack : List PyData), (∀ d ∈ stack, ok d) → szAll stack ≤ m → m ≤ 1000000 →
      ∃ ρ' st, EvWh K n env test body m ρ₀ (σ ++ [stack]) (if stack.any f then .ret r else .next) ρ' (σ ++ [st]) := by
  intro m
  induction m with
  | zero =>
    intro stack ha hs hm
    have e : stack = [] := List.eq_nil_of_length_eq_zero (by have := szAll_len stack; omega)
    subst e
    exact ⟨_, _, .stop (hT [] (by rw [szAll]; omega))⟩
  | succ m ih =>
    intro stack ha hs hm
    rcases List.eq_nil_or_concat stack with rfl | ⟨ds, d, rfl⟩
    · exact ⟨_, _, .stop (hT [] (by rw [szAll]; omega))⟩
    · rw [List.concat_eq_append] at *
      have hd : ok d := ha d (List.mem_append_right _ (List.mem_singleton.mpr rfl))
      have ht := hT (ds ++ [d]) (by omega)
      have et : (!(ds ++ [d]).isEmpty) = true := by simp
      rw [et] at ht
      have ea : (ds ++ [d]).any f = (ds.any f || f d) := by simp
      cases hh : hit d with
      | true =>
        obtain ⟨ρ', st, hb⟩ := hB1 ds d hd (by omega) hh
        refine ⟨ρ', st, ?_⟩
        rw [ea, hf d hd, hh, Bool.true_or, Bool.or_true, if_pos rfl]
        exact .ret ht hb
      | false =>
        obtain ⟨ρ', hsub, hb⟩ := hB2 ds d hd (by omega) hh
        have hlt := hk d hd
        have hle : szAll (ds ++ kids d) ≤ m := by rw [szAll_append] at hs ⊢; rw [szAll, szAll] at hs; omega
        obtain ⟨ρ₂, st, hw⟩ := ih (ds ++ kids d) (fun x hx => by
          rcases List.mem_append.mp hx with hx | hx
          · exact ha x (List.mem_append_left _ hx)
          · exact hok d hd hh x hx) hle (by omega)
        refine ⟨ρ₂, st, ?_⟩
        have eb : (ds ++ kids d).any f = (ds ++ [d]).any f := by rw [ea, hf d hd, hh, Bool.false_or, List.any_append]
        rw [← eb]
        rcases hb with hb | hb
        · exact .next ht (hb.post hsub) hw
        · exact .cont ht (hb.post hsub) hw
theorem EvB.scan {s₀ : Stmt} {test : Expr} {body rest : List Stmt} {pos : Pos} {ρ₀ : Loc} {m : Nat} {stack : List PyData} {b : Bool} {r r' : LV} {rr : LV} {σ : Sto} (h0 : EvS K n env ρ σ s₀ .next ρ₀ (σ ++ [stack]))
    (hs : ∃ ρ' st, EvWh K n env test body m ρ₀ (σ ++ [stack]) (if b then .ret r else .next) ρ' (σ ++ [st])) (hret : ∀ ρ' st, EvB K n env ρ' (σ ++ [st]) rest (.ret r') ρ' (σ ++ [st])) (hr : (if b then r else r') = rr) :
    ∃ ρ' τ, EvB K n env ρ σ (s₀ :: .While test body [] pos :: rest) (.ret rr) ρ' (σ ++ τ) := by
  obtain ⟨ρ', st, hw⟩ := hs
  subst hr
  cases b with
  | true => exact ⟨ρ', [st], .cons h0 (.ret (.while hw))⟩
  | false => exact ⟨ρ', [st], .cons h0 (.cons (.while hw) (hret ρ' st))⟩
theorem EvS.set0 {o e : Expr} {p p2 pos : Pos} {kk : Nat} {x : PyData} {xs : List PyData} {τ : Sto} {d : PyData} (h₁ : EvE K n env ρ σ e (.dat d) ((x :: xs) :: τ)) (h₂ : EvE K n env ρ ((x :: xs) :: τ) o (.mu 0) ((x :: xs) :: τ))
    (hs : swapsWith e (some (.Subscript o (.Constant (.int 0) kk p2) p)) pos.line env = pure false := by with_unfolding_all rfl) : EvS K n env ρ σ (.Assign [.Subscript o (.Constant (.int 0) kk p2) p] e pos) .next ρ ((d :: xs) :: τ) :=
  EvS.setItem h₁ h₂ EvE.int sget_zero (by decide) (by decide) (by simp only [List.length_cons]; omega) rfl hs
theorem EvS.set1 {o e : Expr} {p p2 pos : Pos} {kk : Nat} {x y : PyData} {xs : List PyData} {τ : Sto} {d : PyData} (h₁ : EvE K n env ρ σ e (.dat d) ((x :: y :: xs) :: τ)) (h₂ : EvE K n env ρ ((x :: y :: xs) :: τ) o (.mu 0) ((x :: y :: xs) :: τ))
    (hs : swapsWith e (some (.Subscript o (.Constant (.int 1) kk p2) p)) pos.line env = pure false := by with_unfolding_all rfl) : EvS K n env ρ σ (.Assign [.Subscript o (.Constant (.int 1) kk p2) p] e pos) .next ρ ((x :: d :: xs) :: τ) :=
  EvS.setItem h₁ h₂ EvE.int sget_zero (by decide) (by decide) (by simp only [List.length_cons]; omega) rfl hs
theorem EvE.itemTneg {value slice : Expr} {pos : Pos} {d : PyData} {ds : List PyData} (h₁ : EvE K n env ρ σ value (.dat (.tuple ds)) σ₁) (h₂ : EvE K n env ρ σ₁ slice (.dat (.int (-1))) σ') (hd : ds.getLast? = some d)
    (hs : ∀ t u, subscripted slice false (.ref t) (.int (-1) u) = operate [.ref t, .int (-1) u] (getItem (.ref t) (.int (-1) u)) := by intro _ _; with_unfolding_all rfl) :
    EvE K n env ρ σ (.Subscript value slice pos) (.dat d) σ' :=
  EvE.itemTup (j := ds.length - 1) h₁ h₂ (by
    have hne : ds ≠ [] := by rintro rfl; cases hd
    have hpos : 0 < ds.length := List.length_pos_iff.mpr hne
    unfold seqIndex?
    have e2 : (-1 + (ds.length : Int) < ds.length) := by omega
    have e3 : (0 ≤ -1 + (ds.length : Int)) := by omega
    have e4 : (-1 + (ds.length : Int)).toNat = ds.length - 1 := by omega
    simp [e2, e3, e4]) (by rw [← List.getLast?_eq_getElem?]; exact hd) hs
theorem EvE.itemTs {value slice : Expr} {pos : Pos} {ds : List PyData} {k : Int} {d : PyData} (h₁ : EvE K n env ρ σ value (.dat (.tuple ds)) σ₁) (h₂ : EvE K n env ρ σ₁ slice (.dat (.int k)) σ') (hd : ds[k.toNat]? = some d)
    (h0 : 0 ≤ k) (hhi : k < 2 ^ 63) (hs : ∀ t u, subscripted slice false (.ref t) (.int k u) = operate [.ref t, .int k u] (getItem (.ref t) (.int k u)) := by intro _ _; with_unfolding_all rfl) :
    EvE K n env ρ σ (.Subscript value slice pos) (.dat d) σ' := EvE.itemT h₁ h₂ hd h0 hs hhi
theorem intBits_le {a : Int} (h : a.natAbs < 2 ^ 63) : Builtin.Int.intBits a ≤ 64 := by
  unfold Builtin.Int.intBits
  split
  · omega
  · rename_i h0
    have hne : a.natAbs ≠ 0 := by simpa using h0
    have := (Nat.log2_lt hne (k := 63)).mpr h
    omega
end
end PMW
theorem BinR.addListE {K : Cx} {n : Nat} {a b c : List PyData} (hc : a ++ b = c) (hsz : a.length + b.length ≤ sizeLine) : BinR K n .Add (.list a) (.list b) (.list c) := hc ▸ BinR.addList hsz
theorem BinR.addTuple13 {K : Cx} {n : Nat} {x a b c : PyData} : BinR K n .Add (.tuple [x]) (.tuple [a, b, c]) (.tuple [x, a, b, c]) := BinR.addTuple (by simp) (by simp) (by rw [sizeLine_eq]; simp)
theorem mul_ok_ite {a : Int} {c : Bool} : IntMulOk a (if c = true then 1 else 0) := IntMulOk.of_right (by cases c <;> decide)
theorem CmpR.notInList {K : Cx} {n : Nat} {a : PyData} {b : List PyData} {c : Bool} (hd : a.depth ≤ 100) (hc : (!(b.any fun y => PyData.eqv y a)) = c) : CmpR K n .NotIn a (.list b) c := by
  intro A φ σ s u v Q E R x r₁ r₂ h
  obtain ⟨as, q₁⟩ := r₁.reads
  obtain ⟨bs, q₂⟩ := r₂.reads
  refine SeqAt.notIn_list_reads q₂ q₁ (by have := r₂.can; simpa [PyData.canLay0] using this) r₁.can (by have := R.hu; omega) (hc ▸ h _ (Step.refl x))
theorem EvT.notF {K : Cx} {n : Nat} {env : Env} {ρ : Loc} {σ σ' : Sto} {e : Expr} {pos : Pos} (h : EvT K n env ρ σ e true σ') : EvT K n env ρ σ (.UnaryOp .Not e pos) false σ' := EvT.not h
theorem BltR.any1 {K : Cx} {n : Nat} {b : Bool} : BltR K n (.builtin "any") [.list [.bool b]] (.bool b) := BltR.any (bs := [b]) (by simp)
theorem BltR.any2 {K : Cx} {n : Nat} {b c : Bool} : BltR K n (.builtin "any") [.list [.bool b, .bool c]] (.bool (b || c)) := BltR.any (bs := [b, c]) (by simp)
theorem EvI.rangeE {K : Cx} {n : Nat} {env : Env} {ρ : Loc} {σ σ' : Sto} {e : Expr} {p pos : Pos} {k : Int} {ds : List PyData} (h : EvE K n env ρ σ e (.dat (.int k)) σ') (hd : upto k.toNat = ds) (hlo : 0 ≤ k) (hhi : k ≤ 1000)
    (hx : env.kindOf "range" = some .globalImplicit := by with_unfolding_all rfl) (h0 : starEach [e] env = [(false, eval e env)] := by with_unfolding_all rfl) : EvI K n env ρ σ (.Call (.Name "range" p) [e] [] pos) ds σ' := hd ▸ EvI.range h hlo hhi hx h0
theorem last1 {d : PyData} : [d].getLast? = some d := rfl
theorem last2 {c d : PyData} : [c, d].getLast? = some d := rfl
set_option compiler.extract_closed false
local macro_rules | `(tactic| k_extra "get") => `(tactic| first | with_reducible exact Get.here | (with_reducible apply Get.here2; decide) | (with_reducible apply Get.here3 <;> decide) | (with_reducible apply Get.skip3; decide; decide; decide; k_extra "get") | (with_reducible apply Get.there; decide; k_extra "get"))
local macro_rules | `(tactic| k_extra "put") => `(tactic| first | with_reducible exact Put.nil | with_reducible exact Put.here | (with_reducible apply Put.skip3; decide; decide; decide; k_extra "put") | (with_reducible apply Put.there; decide; k_extra "put"))
local macro_rules | `(tactic| k_extra "side") => `(tactic| first | assumption | with_unfolding_all rfl | (simp [*, PyData.eqv, PyData.eqvAll, isTupB, ofStr_inj]; done) | (simp [*, PyData.eqv, PyData.eqvAll, isTupB, ofStr_inj] <;> decide))
local macro_rules | `(tactic| k_extra "dats") => `(tactic| first | with_reducible exact Dats.nil | (with_reducible apply Dats.cons; k_extra "dats"))
local macro_rules | `(tactic| k_extra "len") => `(tactic| first | decide | (simp [sizeLine_eq]; done) | (simp [sizeLine_eq]; omega) | ((have hsz := sizeLine_eq); omega) | ((have hsz := sizeLine_eq); simp only [List.length_cons, List.length_nil, List.length_append]; omega))
local macro_rules | `(tactic| k_extra "dep") => `(tactic| first | (simp [PyData.depth, PyData.depthAll]; done) | omega | exact Nat.le_trans (Nat.min_le_right _ _) (by simp [PyData.depth, PyData.depthAll]))
local macro_rules | `(tactic| k_extra "blt") => `(tactic| first
  | ((with_reducible show BltR _ _ (Value.builtin "len") [PyData.tuple _] _); with_reducible exact BltR.lenTuple (by with_unfolding_all rfl) (by k_extra "len"))
  | ((with_reducible show BltR _ _ (Value.builtin "len") [PyData.list _] _); with_reducible exact BltR.lenList (by with_unfolding_all rfl) (by k_extra "len"))
  | with_reducible exact BltR.max | with_reducible exact BltR.int
  | with_reducible exact BltR.any1 | with_reducible exact BltR.any2
  | ((with_reducible show BltR _ _ (Value.type "tuple") [PyData.list _] _); with_reducible exact BltR.tuple (by k_extra "len")))
local macro_rules | `(tactic| k_extra "bin") => `(tactic| first
  | with_reducible exact BinR.add | with_reducible exact BinR.sub
  | ((with_reducible show BinR _ _ Operator.Add (PyData.list (_ :: _)) (PyData.list _) _); with_reducible exact BinR.addListE (by k_extra "appE") (by k_extra "len"))
  | ((with_reducible show BinR _ _ Operator.Add (PyData.list _) (PyData.list _) _); with_reducible exact BinR.addList (by k_extra "len"))
  | ((with_reducible show BinR _ _ Operator.Add (PyData.tuple _) (PyData.tuple _) _); with_reducible exact BinR.addTuple13)
  | k_extra "bin2")
local macro_rules | `(tactic| k_extra "appE") => `(tactic| first | (simp only [List.cons_append, List.nil_append]; done) | (simp only [List.cons_append, List.nil_append]; rfl))
local macro_rules | `(tactic| k_extra "ne") => `(tactic| first | decide | omega)
local macro_rules | `(tactic| k_extra "mulok") => `(tactic| first | assumption | exact mul_ok_ite | exact IntMulOk.of_right (by decide) | exact IntMulOk.of_left (by decide))
local macro_rules | `(tactic| k_extra "bin2") => `(tactic| first
  | ((with_reducible show BinR _ _ Operator.Mod _ _ _); with_reducible exact BinR.mod (by k_extra "ne"))
  | ((with_reducible show BinR _ _ Operator.FloorDiv _ _ _); with_reducible exact BinR.floordiv (by k_extra "ne") (by k_extra "ne"))
  | ((with_reducible show BinR _ _ Operator.Mult (PyData.int _) (PyData.int _) _); with_reducible exact BinR.mul (by k_extra "mulok"))
  | ((with_reducible show BinR _ _ Operator.Mult (PyData.list _) (PyData.int _) _); with_reducible exact BinR.mulList (by k_extra "ne") (by k_extra "ne") (by k_extra "len"))
  | ((with_reducible show BinR _ _ Operator.Pow _ _ _); with_reducible exact BinR.pow (by decide) (by decide)))
local macro_rules | `(tactic| k_extra "item") => `(tactic| first
  | with_reducible exact EvE.itemMu (by k_extra "ev") (by k_extra "ev") (by k_extra "sget") (by k_extra "ne") (by k_extra "ne") (by first | with_unfolding_all rfl | assumption)
  | with_reducible exact EvE.itemList (by k_extra "ev") (by k_extra "ev") (by k_extra "ne") (by k_extra "ne") (by first | assumption | with_unfolding_all rfl)
  | with_reducible exact EvE.itemTneg (by k_extra "ev") (by k_extra "ev") (by first | with_reducible exact last1 | with_reducible exact last2)
  | with_reducible exact EvE.itemTs (by k_extra "ev") (by k_extra "ev") (by assumption) (by k_extra "ne") (by k_extra "ne"))
local macro_rules | `(tactic| k_extra "cmp") => `(tactic| first
  | ((with_reducible show CmpR _ _ CmpOp.Eq _ _ _); with_reducible exact CmpR.eqOf (by k_extra "dep"))
  | ((with_reducible show CmpR _ _ CmpOp.NotEq _ _ _); with_reducible exact CmpR.neOf (by k_extra "dep"))
  | with_reducible exact CmpR.gt rfl | with_reducible exact CmpR.lt rfl | with_reducible exact CmpR.ge rfl | with_reducible exact CmpR.isNotNone rfl
  | ((with_reducible show CmpR _ _ CmpOp.In _ (PyData.tuple _) _); with_reducible exact CmpR.inTuple (by k_extra "dep") rfl)
  | ((with_reducible show CmpR _ _ CmpOp.NotIn _ (PyData.list _) _); with_reducible exact CmpR.notInList (by k_extra "dep") rfl)
  | ((with_reducible show CmpR _ _ CmpOp.In _ (PyData.list _) _); with_reducible exact CmpR.inList (by k_extra "dep") rfl))
local macro_rules | `(tactic| k_extra "sget") => `(tactic| first | with_reducible exact sget_last | with_reducible exact sget_zero)
local macro_rules | `(tactic| k_extra "sset") => `(tactic| first | with_reducible exact sset_last | with_reducible exact sset_zero)
local macro_rules | `(tactic| k_extra "evs") => `(tactic| first
  | with_reducible exact EvA.nil
  | ((with_reducible show EvA _ _ _ _ _ (_ :: _) _ _); with_reducible exact EvA.cons (by k_extra "ev") (by k_extra "evs")))
local macro_rules | `(tactic| k_extra "ev") => `(tactic| first
  | with_reducible exact EvE.int
  | with_reducible exact EvE.str
  | with_reducible exact EvE.bool
  | with_reducible exact EvE.none
  | ((with_reducible show EvE _ _ _ _ _ (Expr.Name (Str.ofString "PLACES") _) _ _); exact EvE.places)
  | ((with_reducible show EvE _ _ _ _ _ (Expr.Name _ _) _ _); with_reducible exact EvE.name (by k_extra "get"))
  | ((with_reducible show EvE _ _ _ _ _ (Expr.Call (Expr.Name (Str.ofString "isinstance") _) _ _ _) _ _); with_reducible exact EvE.isTuple (by k_extra "ev") rfl)
  | ((with_reducible show EvE _ _ _ _ _ (Expr.Call (Expr.Name (Str.ofString "len") _) _ _ _) _ _); with_reducible exact EvE.blt (by k_extra "evs") (by k_extra "dats") (by k_extra "blt") (by with_unfolding_all rfl))
  | ((with_reducible show EvE _ _ _ _ _ (Expr.Call (Expr.Name (Str.ofString "max") _) _ _ _) _ _); with_reducible exact EvE.blt (by k_extra "evs") (by k_extra "dats") (by k_extra "blt") (by with_unfolding_all rfl))
  | ((with_reducible show EvE _ _ _ _ _ (Expr.Call (Expr.Name (Str.ofString "any") _) _ _ _) _ _); with_reducible exact EvE.blt (by k_extra "evs") (by k_extra "dats") (by k_extra "blt") (by with_unfolding_all rfl))
  | ((with_reducible show EvE _ _ _ _ _ (Expr.Call (Expr.Name (Str.ofString "int") _) _ _ _) _ _); with_reducible exact EvE.typ (by k_extra "evs") (by k_extra "dats") (by k_extra "blt") (by with_unfolding_all rfl))
  | ((with_reducible show EvE _ _ _ _ _ (Expr.Call (Expr.Name (Str.ofString "tuple") _) _ _ _) _ _); with_reducible exact EvE.typ (by k_extra "evs") (by k_extra "dats") (by k_extra "blt") (by with_unfolding_all rfl))
  | ((with_reducible show EvE _ _ _ _ _ (Expr.Call (Expr.Name _ _) _ _ _) _ _); with_reducible exact EvE.callF (by k_extra "evs") (by k_extra "evc"))
  | ((with_reducible show EvE _ _ _ _ _ (Expr.Call (Expr.Attribute _ (Str.ofString "pop") _) [] [] _) _ _); with_reducible exact EvE.pop (by k_extra "ev") (by k_extra "sget") (by k_extra "len") (by k_extra "sset"))
  | ((with_reducible show EvE _ _ _ _ _ (Expr.Call (Expr.Attribute _ (Str.ofString "extend") _) [_] [] _) _ _); with_reducible exact EvE.extend (by k_extra "ev") (by k_extra "ev") (by k_extra "sget") (by k_extra "len") (by k_extra "sset"))
  | ((with_reducible show EvE _ _ _ _ _ (Expr.Subscript _ _ _) _ _); first | with_reducible exact EvE.itemT (by k_extra "ev") (by k_extra "ev") (by with_unfolding_all rfl) | k_extra "item")
  | ((with_reducible show EvE _ _ _ _ _ (Expr.BinOp _ _ _ _) _ _); with_reducible exact EvE.bin (by k_extra "ev") (by k_extra "ev") (by k_extra "bin"))
  | ((with_reducible show EvE _ _ _ _ _ (Expr.Compare _ [_] [_] _) _ _); with_reducible exact EvE.cmp (by k_extra "ev") (by k_extra "ev") (by k_extra "cmp"))
  | ((with_reducible show EvE _ _ _ _ _ (Expr.UnaryOp UnaryOp.USub _ _) _ _); with_reducible exact EvE.neg (by k_extra "ev"))
  | ((with_reducible show EvE _ _ _ _ _ (Expr.BoolOp _ [_] _) _ _); with_reducible exact EvE.boolOne (by k_extra "ev"))
  | ((with_reducible show EvE _ _ _ _ _ (Expr.BoolOp BoolOp.And (_ :: _ :: _) _) _ _); with_reducible exact EvE.andX (by k_extra "ev") (by first | exact .inl ⟨by k_extra "side", by k_extra "ev"⟩ | exact .inr ⟨by k_extra "side", rfl, rfl⟩))
  | ((with_reducible show EvE _ _ _ _ _ (Expr.BoolOp BoolOp.Or (_ :: _ :: _) _) _ _); with_reducible exact EvE.orX (by k_extra "ev") (by first | exact .inl ⟨by k_extra "side", by k_extra "ev"⟩ | exact .inr ⟨by k_extra "side", rfl, rfl⟩))
  | ((with_reducible show EvE _ _ _ _ _ (Expr.BoolOp BoolOp.Or (_ :: _ :: _) _) _ _); with_reducible exact EvE.orS (by k_extra "ev") (by k_extra "ev"))
  | ((with_reducible show EvE _ _ _ _ _ (Expr.ListComp _ [_] _ _) _ _); with_reducible exact EvE.comp (by k_extra "evi") (by k_extra "caps") (by k_extra "ecp") (by k_extra "len"))
  | ((with_reducible show EvE _ _ _ _ _ (Expr.IfExp _ _ _ _) _ _); with_reducible exact EvE.ifX (by k_extra "et") (by first | exact .inl ⟨by k_extra "side", by k_extra "ev"⟩ | exact .inr ⟨by k_extra "side", by k_extra "ev"⟩))
  | ((with_reducible show EvE _ _ _ _ _ (Expr.Tuple _ _ _) _ _); with_reducible exact EvE.tuple (by k_extra "evs") (by k_extra "dats") (by k_extra "len"))
  | ((with_reducible show EvE _ _ _ _ _ (Expr.List _ _) _ _); with_reducible exact EvE.list (by k_extra "evs") (by k_extra "dats") (by k_extra "len")))
local macro_rules | `(tactic| k_extra "selk") => `(tactic| first | with_reducible exact SelK.yes (by k_extra "side") (by k_extra "ek") | with_reducible exact SelK.no (by k_extra "side") (by k_extra "ek"))
local macro_rules | `(tactic| k_extra "selta") => `(tactic| first | with_reducible exact SelTA.go (by k_extra "side") (by k_extra "et") | with_reducible exact SelTA.stop (by k_extra "side"))
local macro_rules | `(tactic| k_extra "selto") => `(tactic| first | with_reducible exact SelTO.go (by k_extra "side") (by k_extra "et") | with_reducible exact SelTO.stop (by k_extra "side"))
local macro_rules | `(tactic| k_extra "et") => `(tactic| first
  | ((with_reducible show EvT _ _ _ _ _ (Expr.Compare _ [_] [_] _) _ _); with_reducible exact EvT.cmp (by k_extra "ev") (by k_extra "ev") (by k_extra "cmp"))
  | ((with_reducible show EvT _ _ _ _ _ (Expr.UnaryOp UnaryOp.Not _ _) _ _); with_reducible exact EvT.not (by k_extra "et"))
  | with_reducible exact EvT.andNil
  | with_reducible exact EvT.orNil
  | ((with_reducible show EvT _ _ _ _ _ (Expr.BoolOp BoolOp.And (_ :: _) _) _ _); with_reducible exact EvT.andY (by k_extra "et") (by k_extra "selta"))
  | ((with_reducible show EvT _ _ _ _ _ (Expr.BoolOp BoolOp.Or (_ :: _) _) _ _); with_reducible exact EvT.orY (by k_extra "et") (by k_extra "selto"))
  | with_reducible exact EvT.plain (by k_extra "ev"))
local macro_rules | `(tactic| k_extra "ek") => `(tactic| first
  | with_reducible exact EvK.done
  | ((with_reducible show EvK _ _ _ _ _ (Stmt.Return _ _ :: _) _ _ _ _); with_reducible exact EvK.ret (EvS.ret (by k_extra "ev")))
  | ((with_reducible show EvK _ _ _ _ _ (Stmt.Continue _ :: _) _ _ _ _); with_reducible exact EvK.cont EvS.cont)
  | ((with_reducible show EvK _ _ _ _ _ (Stmt.If _ _ _ _ :: _) _ _ _ _); with_reducible exact EvK.ifX (by k_extra "et") (by k_extra "selk"))
  | ((with_reducible show EvK _ _ _ _ _ (Stmt.Assign [Expr.Name _ _] (Expr.ListComp _ [_] _ _) _ :: _) _ _ _ _); with_reducible exact EvK.cons (EvS.assignComp (by k_extra "evi") (by k_extra "caps") (by k_extra "ecp") (by k_extra "put") (by k_extra "len")) (by k_extra "ek"))
  | ((with_reducible show EvK _ _ _ _ _ (Stmt.Assign [Expr.Name _ _] _ _ :: _) _ _ _ _); with_reducible exact EvK.cons (EvS.assign (by k_extra "ev") (by k_extra "put")) (by k_extra "ek"))
  | ((with_reducible show EvK _ _ _ _ _ (Stmt.Expr _ _ :: _) _ _ _ _); with_reducible exact EvK.cons (EvS.expr (by k_extra "ev")) (by k_extra "ek"))
  | ((with_reducible show EvK _ _ _ _ _ (Stmt.Assign [Expr.Subscript _ (Expr.Constant (Const.int 0) _ _) _] _ _ :: _) _ _ _ _); with_reducible exact EvK.cons (EvS.set0 (by k_extra "ev") (by k_extra "ev")) (by k_extra "ek"))
  | ((with_reducible show EvK _ _ _ _ _ (Stmt.Assign [Expr.Subscript _ (Expr.Constant (Const.int 1) _ _) _] _ _ :: _) _ _ _ _); with_reducible exact EvK.cons (EvS.set1 (by k_extra "ev") (by k_extra "ev")) (by k_extra "ek"))
  | ((with_reducible show EvK _ _ _ _ _ (Stmt.While _ _ _ _ :: _) _ _ _ _); with_reducible exact EvK.cons (EvS.while (by k_extra "whl")) (by k_extra "ek"))
  | ((with_reducible show EvK _ _ _ _ _ (Stmt.Assign [Expr.Tuple [Expr.Name _ _, Expr.Name _ _, Expr.Name _ _] _ _] (Expr.Tuple _ _ _) _ :: _) _ _ _ _); with_reducible exact EvK.cons (EvS.assignSw3 (by k_extra "ev") (by k_extra "put") (by k_extra "put") (by k_extra "put")) (by k_extra "ek"))
  | ((with_reducible show EvK _ _ _ _ _ (Stmt.Assign [Expr.Tuple [Expr.Name _ _, Expr.Name _ _] _ _] (Expr.Tuple _ _ _) _ :: _) _ _ _ _); first | with_reducible exact EvK.cons (EvS.assignSw2 (by k_extra "ev") (by k_extra "put") (by k_extra "put")) (by k_extra "ek") | with_reducible exact EvK.cons (EvS.assignT (by k_extra "ev") (by k_extra "ast")) (by k_extra "ek"))
  | ((with_reducible show EvK _ _ _ _ _ (Stmt.Assign [Expr.Tuple _ _ _] (Expr.Call _ _ _ _) _ :: _) _ _ _ _); with_reducible exact EvK.cons (EvS.assignT (by k_extra "ev") (by k_extra "ast")) (by k_extra "ek"))
  | ((with_reducible show EvK _ _ _ _ _ (Stmt.Assign [Expr.Tuple _ _ _] (Expr.Name _ _) _ :: _) _ _ _ _); with_reducible exact EvK.cons (EvS.assignT (by k_extra "ev") (by k_extra "ast")) (by k_extra "ek"))
  | ((with_reducible show EvK _ _ _ _ _ (Stmt.For _ _ _ _ _ :: _) _ _ _ _); with_reducible exact EvK.cons (EvS.for (by k_extra "evi") (by k_extra "efor")) (by k_extra "ek"))
  | ((with_reducible show EvK _ _ _ _ _ ([]) _ _ _ _); with_reducible exact EvK.pop (by k_extra "ek")))
local macro_rules | `(tactic| k_extra "eb") => `(tactic| (with_unfolding_all (conv => arg 6; whnf); with_reducible exact EvK.enter (by k_extra "ek")))
local macro_rules | `(tactic| k_extra "etf") => `(tactic| first
  | ((with_reducible show EvT _ _ _ _ _ (Expr.UnaryOp UnaryOp.Not _ _) _ _); with_reducible exact EvT.notF (by k_extra "et"))
  | with_reducible exact EvT.cmp (by k_extra "ev") (by k_extra "ev") (CmpR.ne (by k_extra "dep") (by k_extra "side")))
local macro_rules | `(tactic| k_extra "caps") => `(tactic| first
  | with_reducible exact Caps.cons (y := "floors") (by k_extra "get") (by with_unfolding_all rfl) (by with_unfolding_all rfl) (Caps.cons (y := "source") (by k_extra "get") (by with_unfolding_all rfl) (by with_unfolding_all rfl) Caps.nil)
  | with_reducible exact Caps.cons (y := "source") (by k_extra "get") (by with_unfolding_all rfl) (by with_unfolding_all rfl) Caps.nil
  | with_reducible exact Caps.cons (y := "parts") (by k_extra "get") (by with_unfolding_all rfl) (by with_unfolding_all rfl) Caps.nil
  | with_reducible exact Caps.nil)
local macro_rules | `(tactic| k_extra "astc") => `(tactic| (intro C; first
  | ((with_reducible show AsT _ _ _ _ _ (Expr.Name _ _) _ _); with_unfolding_all exact AsT.nameL (by k_extra "put"))
  | with_unfolding_all exact AsT.tuple (by exact AsTs.cons (by exact AsT.nameL (by k_extra "put")) (by exact AsTs.cons (by exact AsT.nameL (by k_extra "put")) (by exact AsTs.nil))) (fun _ h => .inl h)))
local macro_rules | `(tactic| k_extra "ecp") => `(tactic| first
  | ((with_reducible show EvCp _ _ _ _ [] _ _ _ (_ :: _) [] _ _); with_reducible exact EvCp.zeroS)
  | ((with_reducible show EvCp _ _ _ _ [] _ _ _ (_ :: _) [_] _ _); with_reducible exact EvCp.oneS (by k_extra "astc") (by intro C; k_extra "ev"))
  | ((with_reducible show EvCp _ _ _ _ [] _ _ _ (_ :: _) [_, _] _ _); with_reducible exact EvCp.twoS (by k_extra "astc") (by intro C; k_extra "ev") (by k_extra "astc") (by intro C; k_extra "ev"))
  | ((with_reducible show EvCp _ _ _ _ [] _ _ _ _ [_] _ _); with_reducible exact EvCp.oneP (by k_extra "astc") (by intro C; k_extra "ev"))
  | ((with_reducible show EvCp _ _ _ _ [] _ _ _ _ [_, _] _ _); with_reducible exact EvCp.twoP (by k_extra "astc") (by intro C; k_extra "ev") (by k_extra "astc") (by intro C; k_extra "ev"))
  | ((with_reducible show EvCp _ _ _ _ [_] _ _ _ _ (_ :: _) _ _); with_reducible exact EvCp.drop (by k_extra "astc") (by intro C; exact EvTs.one (by k_extra "etf")) (by rfl) (by k_extra "ecp"))
  | ((with_reducible show EvCp _ _ _ _ _ _ _ _ _ [] _ _); with_reducible exact EvCp.nil))
local macro_rules | `(tactic| k_extra "ast") => `(tactic| first | ((with_reducible show AsT _ _ _ _ _ (Expr.Name _ _) _ _); with_reducible exact AsT.name (by k_extra "put")) | ((with_reducible show AsT _ _ _ _ _ _ (LV.dat (PyData.tuple _)) _); with_reducible exact AsT.tuple (by k_extra "asts") (fun _ h => h)) | ((with_reducible show AsT _ _ _ _ _ _ (LV.dat (PyData.list _)) _); with_reducible exact AsT.listT (by k_extra "asts") (fun _ h => h)))
local macro_rules | `(tactic| k_extra "asts") => `(tactic| first | with_reducible exact AsTs.nil | ((with_reducible show AsTs _ _ _ _ _ (_ :: _) (_ :: _) _); with_reducible exact AsTs.cons (by k_extra "ast") (by k_extra "asts")))
local macro_rules | `(tactic| k_extra "evi") => `(tactic| first
  | ((with_reducible show EvI _ _ _ _ _ (Expr.Call (Expr.Name (Str.ofString "range") _) _ _ _) _ _); first | with_reducible exact EvI.range0 (by k_extra "ev") | with_reducible exact EvI.range1 (by k_extra "ev") | with_reducible exact EvI.range2 (by k_extra "ev") | with_reducible exact EvI.range3 (by k_extra "ev") | with_reducible exact EvI.range4 (by k_extra "ev") | with_reducible exact EvI.rangeE (ds := [.int 0]) (by k_extra "ev") (by with_unfolding_all rfl) (by decide) (by decide) | with_reducible exact EvI.rangeE (ds := [.int 0, .int 1]) (by k_extra "ev") (by with_unfolding_all rfl) (by decide) (by decide) | with_reducible exact EvI.rangeE (ds := [.int 0]) (by k_extra "ev") (by with_unfolding_all rfl) (by simp) (by simp) | with_reducible exact EvI.rangeE (ds := [.int 0, .int 1]) (by k_extra "ev") (by with_unfolding_all rfl) (by simp) (by simp))
  | with_reducible exact EvI.list (by k_extra "ev") | with_reducible exact EvI.tuple (by k_extra "ev"))
local macro_rules | `(tactic| k_extra "efor") => `(tactic| first | with_reducible exact EvFor.nil | ((with_reducible show EvFor _ _ _ _ _ _ _ (_ :: _) _ _ _); with_reducible exact EvFor.next (by k_extra "ast") (by k_extra "eb") (by k_extra "efor")))
local macro_rules | `(tactic| k_extra "open") => `(tactic| (intro L a code; apply Exists.intro; (conv => arg 3; arg 1; whnf)))
section PMF1
section
variable {K : Cx} (hK : K.recs = recs0)
include hK

omit hK in
theorem one_of {p : List Value → Prop} (h : ∀ v, p [v]) {vs : List Value} (e : vs.length = 1) : p vs := by
  cases vs with
  | nil => cases e
  | cons v r => cases r with
    | nil => exact h v
    | cons w r => cases e
omit hK in
theorem two_of {p : List Value → Prop} (h : ∀ v w, p [v, w]) {vs : List Value} (e : vs.length = 2) : p vs := by
  cases vs with
  | nil => cases e
  | cons v r => exact one_of (p := fun r => p (v :: r)) (h v) (Nat.succ.inj e)
theorem bind0 {n : Nat} {y : Str} {σ σ' : Sto} {r : LV} (d : DefRec) (hd : d ∈ recs0) (hn : d.name = y)
    (hb : ∀ pm code doc, bindArgs (docDef d.name d.params d.body d.scope pm code doc) ⟨[], []⟩ = pure [])
    (hco : d.scope.isCoroutine = false) (hgen : d.scope.isGenerator = false) (hk : d.scope.kind = .function)
    (body : ∀ L a code, ∃ ρ', EvB K n (fenv d.scope d.name L a code) [] σ d.body (.ret r) ρ' σ') : EvF K (n + 1) y [] σ r σ' :=
  EvF.enter d [] (hK ▸ hd) hn rfl (fun pm code doc vs h => by rw [List.eq_nil_of_length_eq_zero h]; exact hb pm code doc) List.nodup_nil (fun x hx => by cases hx) hco hgen hk body
theorem bind1 {n : Nat} {y x₁ : Str} {σ σ' : Sto} {a₁ r : LV} (d : DefRec) (hd : d ∈ recs0) (hn : d.name = y)
    (hb : ∀ pm code doc v, bindArgs (docDef d.name d.params d.body d.scope pm code doc) ⟨[v], []⟩ = pure [(x₁, v)])
    (h1 : d.scope.names.lookup x₁ = some .local ∨ d.scope.names.lookup x₁ = some .cell)
    (hco : d.scope.isCoroutine = false) (hgen : d.scope.isGenerator = false) (hk : d.scope.kind = .function)
    (body : ∀ L a code, ∃ ρ', EvB K n (fenv d.scope d.name L a code) [(x₁, a₁)] σ d.body (.ret r) ρ' σ') : EvF K (n + 1) y [a₁] σ r σ' :=
  EvF.enter d [x₁] (hK ▸ hd) hn rfl (fun pm code doc vs h => one_of (p := fun vs => bindArgs (docDef d.name d.params d.body d.scope pm code doc) ⟨vs, []⟩ = pure ([x₁].zip vs)) (hb pm code doc) h) (by simp) (fun x hx => by rw [List.mem_singleton.mp hx]; exact h1) hco hgen hk body
theorem bind2 {n : Nat} {y x₁ x₂ : Str} {σ σ' : Sto} {a₁ a₂ r : LV} (d : DefRec) (hd : d ∈ recs0) (hn : d.name = y)
    (hb : ∀ pm code doc v w, bindArgs (docDef d.name d.params d.body d.scope pm code doc) ⟨[v, w], []⟩ = pure [(x₁, v), (x₂, w)])
    (h1 : d.scope.names.lookup x₁ = some .local ∨ d.scope.names.lookup x₁ = some .cell) (h2 : d.scope.names.lookup x₂ = some .local ∨ d.scope.names.lookup x₂ = some .cell) (hne : x₁ ≠ x₂)
    (hco : d.scope.isCoroutine = false) (hgen : d.scope.isGenerator = false) (hk : d.scope.kind = .function)
    (body : ∀ L a code, ∃ ρ', EvB K n (fenv d.scope d.name L a code) [(x₁, a₁), (x₂, a₂)] σ d.body (.ret r) ρ' σ') : EvF K (n + 1) y [a₁, a₂] σ r σ' :=
  EvF.enter d [x₁, x₂] (hK ▸ hd) hn rfl (fun pm code doc vs h => two_of (p := fun vs => bindArgs (docDef d.name d.params d.body d.scope pm code doc) ⟨vs, []⟩ = pure ([x₁, x₂].zip vs)) (hb pm code doc) h) (by simp [hne]) (fun x hx => by
      rcases List.mem_cons.mp hx with e | hx
      · rw [e]; exact h1
      · rw [List.mem_singleton.mp hx]; exact h2) hco hgen hk body

theorem bind1D {n : Nat} {y x₁ : Str} {σ σ' : Sto} {a₁ : LV} {r : PyData} (d : DefRec) (hd : d ∈ recs0) (hn : d.name = y)
    (hb : ∀ pm code doc v, bindArgs (docDef d.name d.params d.body d.scope pm code doc) ⟨[v], []⟩ = pure [(x₁, v)])
    (h1 : d.scope.names.lookup x₁ = some .local ∨ d.scope.names.lookup x₁ = some .cell)
    (hco : d.scope.isCoroutine = false) (hgen : d.scope.isGenerator = false) (hk : d.scope.kind = .function) (hl : σ.length ≤ σ'.length)
    (body : ∀ L a code, ∃ ρ' τ, EvB K n (fenv d.scope d.name L a code) [(x₁, a₁)] σ d.body (.ret (.dat r)) ρ' (σ' ++ τ)) : EvF K (n + 1) y [a₁] σ (.dat r) σ' :=
  EvF.enterD d [x₁] (hK ▸ hd) hn rfl (fun pm code doc vs h => one_of (p := fun vs => bindArgs (docDef d.name d.params d.body d.scope pm code doc) ⟨vs, []⟩ = pure ([x₁].zip vs)) (hb pm code doc) h) (by simp) (fun x hx => by rw [List.mem_singleton.mp hx]; exact h1) hco hgen hk hl body
theorem bind2D {n : Nat} {y x₁ x₂ : Str} {σ σ' : Sto} {a₁ a₂ : LV} {r : PyData} (d : DefRec) (hd : d ∈ recs0) (hn : d.name = y)
    (hb : ∀ pm code doc v w, bindArgs (docDef d.name d.params d.body d.scope pm code doc) ⟨[v, w], []⟩ = pure [(x₁, v), (x₂, w)])
    (h1 : d.scope.names.lookup x₁ = some .local ∨ d.scope.names.lookup x₁ = some .cell) (h2 : d.scope.names.lookup x₂ = some .local ∨ d.scope.names.lookup x₂ = some .cell) (hne : x₁ ≠ x₂)
    (hco : d.scope.isCoroutine = false) (hgen : d.scope.isGenerator = false) (hk : d.scope.kind = .function) (hl : σ.length ≤ σ'.length)
    (body : ∀ L a code, ∃ ρ' τ, EvB K n (fenv d.scope d.name L a code) [(x₁, a₁), (x₂, a₂)] σ d.body (.ret (.dat r)) ρ' (σ' ++ τ)) : EvF K (n + 1) y [a₁, a₂] σ (.dat r) σ' :=
  EvF.enterD d [x₁, x₂] (hK ▸ hd) hn rfl (fun pm code doc vs h => two_of (p := fun vs => bindArgs (docDef d.name d.params d.body d.scope pm code doc) ⟨vs, []⟩ = pure ([x₁, x₂].zip vs)) (hb pm code doc) h) (by simp [hne]) (fun x hx => by
      rcases List.mem_cons.mp hx with e | hx
      · rw [e]; exact h1
      · rw [List.mem_singleton.mp hx]; exact h2) hco hgen hk hl body
theorem d_mentions {n : Nat} {σ σ' : Sto} {r : PyData} {a₁ a₂ : LV} (hl : σ.length ≤ σ'.length) (body : ∀ L a code, ∃ ρ' τ, EvB K n (fenv (rec0 1).scope (rec0 1).name L a code) [("e", a₁), ("local", a₂)] σ (rec0 1).body (.ret (.dat r)) ρ' (σ' ++ τ)) : EvF K (n + 1) "mentions" [a₁, a₂] σ (.dat r) σ' :=
  bind2D (x₁ := "e") (x₂ := "local") hK (rec0 1) (List.getElem_mem _) (by rfl) (fun _ _ _ _ _ => by with_unfolding_all rfl) (by decide) (by decide) (by decide) (by rfl) (by rfl) (by rfl) hl body
theorem d_binds_mutably {n : Nat} {σ σ' : Sto} {r : PyData} {a₁ : LV} (hl : σ.length ≤ σ'.length) (body : ∀ L a code, ∃ ρ' τ, EvB K n (fenv (rec0 2).scope (rec0 2).name L a code) [("tree", a₁)] σ (rec0 2).body (.ret (.dat r)) ρ' (σ' ++ τ)) : EvF K (n + 1) "binds_mutably" [a₁] σ (.dat r) σ' :=
  bind1D (x₁ := "tree") hK (rec0 2) (List.getElem_mem _) (by rfl) (fun _ _ _ _ => by with_unfolding_all rfl) (by decide) (by rfl) (by rfl) (by rfl) hl body
theorem d_is_just_seen {n : Nat} {σ σ' : Sto} {r : PyData} {a₁ a₂ : LV} (hl : σ.length ≤ σ'.length) (body : ∀ L a code, ∃ ρ' τ, EvB K n (fenv (rec0 4).scope (rec0 4).name L a code) [("e", a₁), ("local", a₂)] σ (rec0 4).body (.ret (.dat r)) ρ' (σ' ++ τ)) : EvF K (n + 1) "is_just_seen" [a₁, a₂] σ (.dat r) σ' :=
  bind2D (x₁ := "e") (x₂ := "local") hK (rec0 4) (List.getElem_mem _) (by rfl) (fun _ _ _ _ _ => by with_unfolding_all rfl) (by decide) (by decide) (by decide) (by rfl) (by rfl) (by rfl) hl body
theorem e_is_local {n : Nat} {σ σ' : Sto} {r : LV} {a₁ a₂ : LV} (body : ∀ L a code, ∃ ρ', EvB K n (fenv (rec0 0).scope (rec0 0).name L a code) [("e", a₁), ("local", a₂)] σ (rec0 0).body (.ret r) ρ' σ') : EvF K (n + 1) "is_local" [a₁, a₂] σ r σ' :=
  bind2 (x₁ := "e") (x₂ := "local") hK (rec0 0) (List.getElem_mem _) (by rfl) (fun _ _ _ _ _ => by with_unfolding_all rfl) (by decide) (by decide) (by decide) (by rfl) (by rfl) (by rfl) body
theorem e_mentions {n : Nat} {σ σ' : Sto} {r : LV} {a₁ a₂ : LV} (body : ∀ L a code, ∃ ρ', EvB K n (fenv (rec0 1).scope (rec0 1).name L a code) [("e", a₁), ("local", a₂)] σ (rec0 1).body (.ret r) ρ' σ') : EvF K (n + 1) "mentions" [a₁, a₂] σ r σ' :=
  bind2 (x₁ := "e") (x₂ := "local") hK (rec0 1) (List.getElem_mem _) (by rfl) (fun _ _ _ _ _ => by with_unfolding_all rfl) (by decide) (by decide) (by decide) (by rfl) (by rfl) (by rfl) body
theorem e_binds_mutably {n : Nat} {σ σ' : Sto} {r : LV} {a₁ : LV} (body : ∀ L a code, ∃ ρ', EvB K n (fenv (rec0 2).scope (rec0 2).name L a code) [("tree", a₁)] σ (rec0 2).body (.ret r) ρ' σ') : EvF K (n + 1) "binds_mutably" [a₁] σ r σ' :=
  bind1 (x₁ := "tree") hK (rec0 2) (List.getElem_mem _) (by rfl) (fun _ _ _ _ => by with_unfolding_all rfl) (by decide) (by rfl) (by rfl) (by rfl) body
theorem e_changed_by {n : Nat} {σ σ' : Sto} {r : LV} {a₁ : LV} (body : ∀ L a code, ∃ ρ', EvB K n (fenv (rec0 3).scope (rec0 3).name L a code) [("here", a₁)] σ (rec0 3).body (.ret r) ρ' σ') : EvF K (n + 1) "changed_by" [a₁] σ r σ' :=
  bind1 (x₁ := "here") hK (rec0 3) (List.getElem_mem _) (by rfl) (fun _ _ _ _ => by with_unfolding_all rfl) (by decide) (by rfl) (by rfl) (by rfl) body
theorem e_is_just_seen {n : Nat} {σ σ' : Sto} {r : LV} {a₁ a₂ : LV} (body : ∀ L a code, ∃ ρ', EvB K n (fenv (rec0 4).scope (rec0 4).name L a code) [("e", a₁), ("local", a₂)] σ (rec0 4).body (.ret r) ρ' σ') : EvF K (n + 1) "is_just_seen" [a₁, a₂] σ r σ' :=
  bind2 (x₁ := "e") (x₂ := "local") hK (rec0 4) (List.getElem_mem _) (by rfl) (fun _ _ _ _ _ => by with_unfolding_all rfl) (by decide) (by decide) (by decide) (by rfl) (by rfl) (by rfl) body
theorem e_is_kept_on {n : Nat} {σ σ' : Sto} {r : LV} {a₁ : LV} (body : ∀ L a code, ∃ ρ', EvB K n (fenv (rec0 5).scope (rec0 5).name L a code) [("e", a₁)] σ (rec0 5).body (.ret r) ρ' σ') : EvF K (n + 1) "is_kept_on" [a₁] σ r σ' :=
  bind1 (x₁ := "e") hK (rec0 5) (List.getElem_mem _) (by rfl) (fun _ _ _ _ => by with_unfolding_all rfl) (by decide) (by rfl) (by rfl) (by rfl) body
theorem e_law_pool {n : Nat} {σ σ' : Sto} {r : LV} {a₁ : LV} (body : ∀ L a code, ∃ ρ', EvB K n (fenv (rec0 6).scope (rec0 6).name L a code) [("script", a₁)] σ (rec0 6).body (.ret r) ρ' σ') : EvF K (n + 1) "_law_pool" [a₁] σ r σ' :=
  bind1 (x₁ := "script") hK (rec0 6) (List.getElem_mem _) (by rfl) (fun _ _ _ _ => by with_unfolding_all rfl) (by decide) (by rfl) (by rfl) (by rfl) body
theorem e_law_take {n : Nat} {σ σ' : Sto} {r : LV} {a₁ a₂ : LV} (body : ∀ L a code, ∃ ρ', EvB K n (fenv (rec0 7).scope (rec0 7).name L a code) [("source", a₁), ("top", a₂)] σ (rec0 7).body (.ret r) ρ' σ') : EvF K (n + 1) "_law_take" [a₁, a₂] σ r σ' :=
  bind2 (x₁ := "source") (x₂ := "top") hK (rec0 7) (List.getElem_mem _) (by rfl) (fun _ _ _ _ _ => by with_unfolding_all rfl) (by decide) (by decide) (by decide) (by rfl) (by rfl) (by rfl) body
theorem e_law_one {n : Nat} {σ σ' : Sto} {r : LV} {a₁ a₂ : LV} (body : ∀ L a code, ∃ ρ', EvB K n (fenv (rec0 8).scope (rec0 8).name L a code) [("source", a₁), ("things", a₂)] σ (rec0 8).body (.ret r) ρ' σ') : EvF K (n + 1) "_law_one" [a₁, a₂] σ r σ' :=
  bind2 (x₁ := "source") (x₂ := "things") hK (rec0 8) (List.getElem_mem _) (by rfl) (fun _ _ _ _ _ => by with_unfolding_all rfl) (by decide) (by decide) (by decide) (by rfl) (by rfl) (by rfl) body
theorem e_law_u8 {n : Nat} {σ σ' : Sto} {r : LV} (body : ∀ L a code, ∃ ρ', EvB K n (fenv (rec0 9).scope (rec0 9).name L a code) [] σ (rec0 9).body (.ret r) ρ' σ') : EvF K (n + 1) "_law_u8" [] σ r σ' :=
  bind0 hK (rec0 9) (List.getElem_mem _) (by rfl) (fun _ _ _ => by with_unfolding_all rfl) (by rfl) (by rfl) (by rfl) body
theorem e_law_reference {n : Nat} {σ σ' : Sto} {r : LV} {a₁ : LV} (body : ∀ L a code, ∃ ρ', EvB K n (fenv (rec0 10).scope (rec0 10).name L a code) [("is_mut", a₁)] σ (rec0 10).body (.ret r) ρ' σ') : EvF K (n + 1) "_law_reference" [a₁] σ r σ' :=
  bind1 (x₁ := "is_mut") hK (rec0 10) (List.getElem_mem _) (by rfl) (fun _ _ _ _ => by with_unfolding_all rfl) (by decide) (by rfl) (by rfl) (by rfl) body
theorem e_law_local {n : Nat} {σ σ' : Sto} {r : LV} {a₁ : LV} (body : ∀ L a code, ∃ ρ', EvB K n (fenv (rec0 11).scope (rec0 11).name L a code) [("source", a₁)] σ (rec0 11).body (.ret r) ρ' σ') : EvF K (n + 1) "_law_local" [a₁] σ r σ' :=
  bind1 (x₁ := "source") hK (rec0 11) (List.getElem_mem _) (by rfl) (fun _ _ _ _ => by with_unfolding_all rfl) (by decide) (by rfl) (by rfl) (by rfl) body
theorem e_law_behind {n : Nat} {σ σ' : Sto} {r : LV} {a₁ : LV} (body : ∀ L a code, ∃ ρ', EvB K n (fenv (rec0 12).scope (rec0 12).name L a code) [("source", a₁)] σ (rec0 12).body (.ret r) ρ' σ') : EvF K (n + 1) "_law_behind" [a₁] σ r σ' :=
  bind1 (x₁ := "source") hK (rec0 12) (List.getElem_mem _) (by rfl) (fun _ _ _ _ => by with_unfolding_all rfl) (by decide) (by rfl) (by rfl) (by rfl) body
theorem e_law_place {n : Nat} {σ σ' : Sto} {r : LV} {a₁ : LV} (body : ∀ L a code, ∃ ρ', EvB K n (fenv (rec0 13).scope (rec0 13).name L a code) [("source", a₁)] σ (rec0 13).body (.ret r) ρ' σ') : EvF K (n + 1) "_law_place" [a₁] σ r σ' :=
  bind1 (x₁ := "source") hK (rec0 13) (List.getElem_mem _) (by rfl) (fun _ _ _ _ => by with_unfolding_all rfl) (by decide) (by rfl) (by rfl) (by rfl) body
theorem e_law_pattern {n : Nat} {σ σ' : Sto} {r : LV} {a₁ : LV} (body : ∀ L a code, ∃ ρ', EvB K n (fenv (rec0 14).scope (rec0 14).name L a code) [("source", a₁)] σ (rec0 14).body (.ret r) ρ' σ') : EvF K (n + 1) "_law_pattern" [a₁] σ r σ' :=
  bind1 (x₁ := "source") hK (rec0 14) (List.getElem_mem _) (by rfl) (fun _ _ _ _ => by with_unfolding_all rfl) (by decide) (by rfl) (by rfl) (by rfl) body
theorem e_law_joined {n : Nat} {σ σ' : Sto} {r : LV} {a₁ : LV} (body : ∀ L a code, ∃ ρ', EvB K n (fenv (rec0 15).scope (rec0 15).name L a code) [("rows", a₁)] σ (rec0 15).body (.ret r) ρ' σ') : EvF K (n + 1) "_law_joined" [a₁] σ r σ' :=
  bind1 (x₁ := "rows") hK (rec0 15) (List.getElem_mem _) (by rfl) (fun _ _ _ _ => by with_unfolding_all rfl) (by decide) (by rfl) (by rfl) (by rfl) body
theorem e_law_tree {n : Nat} {σ σ' : Sto} {r : LV} {a₁ a₂ : LV} (body : ∀ L a code, ∃ ρ', EvB K n (fenv (rec0 16).scope (rec0 16).name L a code) [("source", a₁), ("floors", a₂)] σ (rec0 16).body (.ret r) ρ' σ') : EvF K (n + 1) "_law_tree" [a₁, a₂] σ r σ' :=
  bind2 (x₁ := "source") (x₂ := "floors") hK (rec0 16) (List.getElem_mem _) (by rfl) (fun _ _ _ _ _ => by with_unfolding_all rfl) (by decide) (by decide) (by decide) (by rfl) (by rfl) (by rfl) body
theorem e_law_tree_right {n : Nat} {σ σ' : Sto} {r : LV} {a₁ : LV} (body : ∀ L a code, ∃ ρ', EvB K n (fenv (rec0 17).scope (rec0 17).name L a code) [("row", a₁)] σ (rec0 17).body (.ret r) ρ' σ') : EvF K (n + 1) "_law_tree_right" [a₁] σ r σ' :=
  bind1 (x₁ := "row") hK (rec0 17) (List.getElem_mem _) (by rfl) (fun _ _ _ _ => by with_unfolding_all rfl) (by decide) (by rfl) (by rfl) (by rfl) body
theorem e_law_value {n : Nat} {σ σ' : Sto} {r : LV} {a₁ a₂ : LV} (body : ∀ L a code, ∃ ρ', EvB K n (fenv (rec0 18).scope (rec0 18).name L a code) [("source", a₁), ("floors", a₂)] σ (rec0 18).body (.ret r) ρ' σ') : EvF K (n + 1) "_law_value" [a₁, a₂] σ r σ' :=
  bind2 (x₁ := "source") (x₂ := "floors") hK (rec0 18) (List.getElem_mem _) (by rfl) (fun _ _ _ _ _ => by with_unfolding_all rfl) (by decide) (by decide) (by decide) (by rfl) (by rfl) (by rfl) body
theorem e_law_changed_right {n : Nat} {σ σ' : Sto} {r : LV} (body : ∀ L a code, ∃ ρ', EvB K n (fenv (rec0 19).scope (rec0 19).name L a code) [] σ (rec0 19).body (.ret r) ρ' σ') : EvF K (n + 1) "_law_changed_right" [] σ r σ' :=
  bind0 hK (rec0 19) (List.getElem_mem _) (by rfl) (fun _ _ _ => by with_unfolding_all rfl) (by rfl) (by rfl) (by rfl) body
theorem e_law_told_right {n : Nat} {σ σ' : Sto} {r : LV} (body : ∀ L a code, ∃ ρ', EvB K n (fenv (rec0 20).scope (rec0 20).name L a code) [] σ (rec0 20).body (.ret r) ρ' σ') : EvF K (n + 1) "_law_told_right" [] σ r σ' :=
  bind0 hK (rec0 20) (List.getElem_mem _) (by rfl) (fun _ _ _ => by with_unfolding_all rfl) (by rfl) (by rfl) (by rfl) body
theorem e_law {n : Nat} {σ σ' : Sto} {r : LV} {a₁ : LV} (body : ∀ L a code, ∃ ρ', EvB K n (fenv (rec0 21).scope (rec0 21).name L a code) [("script", a₁)] σ (rec0 21).body (.ret r) ρ' σ') : EvF K (n + 1) "law" [a₁] σ r σ' :=
  bind1 (x₁ := "script") hK (rec0 21) (List.getElem_mem _) (by rfl) (fun _ _ _ _ => by with_unfolding_all rfl) (by decide) (by rfl) (by rfl) (by rfl) body
end
end PMF1
section PMF2
theorem cons_of {l : List PyData} {n : Nat} (h : l.length = n + 1) : ∃ a r, l = a :: r ∧ r.length = n := by
  cases l with
  | nil => cases h
  | cons a r => exact ⟨a, r, rfl, Nat.succ.inj h⟩
theorem three_of {l : List PyData} (h : l.length = 3) : ∃ a b c, l = [a, b, c] := by
  obtain ⟨a, l1, rfl, h1⟩ := cons_of h
  obtain ⟨b, l2, rfl, h2⟩ := cons_of h1
  obtain ⟨c, l3, rfl, h3⟩ := cons_of h2
  exact ⟨a, b, c, by rw [List.eq_nil_of_length_eq_zero h3]⟩
theorem four_of {l : List PyData} (h : l.length = 4) : ∃ a b c d, l = [a, b, c, d] := by
  obtain ⟨a, l1, rfl, h1⟩ := cons_of h
  obtain ⟨b, c, d, rfl⟩ := three_of h1
  exact ⟨a, b, c, d, rfl⟩
theorem five_of {l : List PyData} (h : l.length = 5) : ∃ a b c d e, l = [a, b, c, d, e] := by
  obtain ⟨a, l1, rfl, h1⟩ := cons_of h
  obtain ⟨b, c, d, e, rfl⟩ := four_of h1
  exact ⟨a, b, c, d, e, rfl⟩
theorem isLoc_no {k : Int} {ds : List PyData} (h : ds.length ≠ 4) : isLoc k (.tuple ds) = false := by
  unfold isLoc
  split
  · rename_i e; cases e; exact absurd rfl h
  · rfl
theorem isMut_no {ds : List PyData} (h : ds.length ≠ 5) : isMut (.tuple ds) = false := by
  unfold isMut
  split
  · rename_i e; cases e; exact absurd rfl h
  · rfl
theorem len_no {ds : List PyData} {k : Nat} (h : ds.length ≠ k) : PyData.eqv (.int (ds.length : Int)) (.int (k : Int)) = false := by
  have : ¬ ((ds.length : Int) = (k : Int)) := by omega
  simp [PyData.eqv, this]
section
variable {K : Cx} (hK : K.recs = recs0)
include hK

theorem c_is_local (n : Nat) (σ : Sto) (d : PyData) (k : Int) (hd : sz d ≤ 1000000) : EvF K (n + 1) "is_local" [.dat d, .dat (.int k)] σ (.dat (.bool (isLoc k d))) σ := by
  cases d with
  | tuple ds =>
    have hlen : ds.length ≤ 1000000 := by have := szAll_len ds; rw [sz] at hd; omega
    by_cases h4 : ds.length = 4
    · obtain ⟨a, b, c, d, rfl⟩ := four_of h4
      cases h : PyData.eqv a (.str "local") with
      | true =>
        have e : isLoc k (.tuple [a, b, c, d]) = PyData.eqv d (.int k) := by show (PyData.eqv a (.str "local") && PyData.eqv d (.int k)) = _; rw [h, Bool.true_and]
        rw [e]
        refine e_is_local hK ?_; k_extra "open"; k_extra "eb"
      | false =>
        have e : isLoc k (.tuple [a, b, c, d]) = false := by show (PyData.eqv a (.str "local") && PyData.eqv d (.int k)) = _; rw [h, Bool.false_and]
        rw [e]
        refine e_is_local hK ?_; k_extra "open"; k_extra "eb"
    · rw [isLoc_no h4]
      have h : PyData.eqv (.int (ds.length : Int)) (.int 4) = false := len_no h4
      refine e_is_local hK ?_; k_extra "open"; k_extra "eb"
  | _ => refine e_is_local hK ?_; k_extra "open"; k_extra "eb"


omit hK in
theorem T_left {n : Nat} {env : Env} {ρ : Loc} {σ : Sto} {stack : List PyData} {p p2 p3 : Pos} (hg : Get ρ "left" (.mu σ.length)) : EvT K n env ρ (σ ++ [stack]) (.Compare (.Name "left" p) [.NotEq] [.List [] p2] p3) (!stack.isEmpty) (σ ++ [stack]) :=
  EvT.neMu (EvE.name hg) (EvE.list EvA.nil Dats.nil) sget_last (by simp [PyData.depth, PyData.depthAll]) (by cases stack <;> simp [PyData.eqv, PyData.eqvAll])
omit hK in
theorem one_len {d : PyData} : [d].length ≤ sizeLine := by rw [sizeLine_eq]; simp

local macro_rules | `(tactic| k_extra "evc") => `(tactic| with_reducible exact c_is_local (by assumption) _ _ _ _ (by first | assumption | omega))
theorem c_mentions (n : Nat) (σ : Sto) (d : PyData) (k : Int) (hd : sz d ≤ 1000000) : EvF K (n + 2) "mentions" [.dat d, .dat (.int k)] σ (.dat (.bool (occ (isLoc k) d))) σ := by
  refine d_mentions hK (Nat.le_refl _) fun L a code => ?_
  conv => arg 1; ext ρ'; arg 1; ext τ; arg 6; whnf
  conv => arg 1; ext ρ'; arg 1; ext τ; arg 3; arg 1; whnf
  refine EvB.scan (r := .dat (.bool true)) (EvS.assign (EvE.listMu (EvA.cons (EvE.name (by k_extra "get")) EvA.nil) (Dats.cons Dats.nil) one_len) (by k_extra "put")) (wh_scan (occ (isLoc k)) (fun x => isTupB x && isLoc k x) kidsT (fun x => sz x ≤ 1000000) (fun x _ => occ_eq _ x) (fun x _ => kidsT_lt x) (fun x hx _ y hy => ?_) (fun st hst => T_left (by k_extra "get")) ?_ ?_ (sz d) [d] (fun x hx => by rw [List.mem_singleton.mp hx]; exact hd) (by rw [szAll, szAll]; omega) hd) (fun ρ' st => EvB.ret (EvS.ret EvE.bool)) (by cases h : occ (isLoc k) d <;> simp [h])
  · have := kidsT_lt x; have := szAll_mem hy; omega
  · intro ds x hx hsz hh
    have hl : (ds ++ [x]).length ≤ 1000000 := Nat.le_trans (szAll_len _) hsz
    cases x with
    | tuple es =>
      have hh' : isLoc k (.tuple es) = true := by simpa [isTupB] using hh
      apply Exists.intro; apply Exists.intro
      k_extra "eb"
    | _ => simp [isTupB] at hh
  · intro ds x hx hsz hh
    have hl : (ds ++ [x]).length ≤ 1000000 := Nat.le_trans (szAll_len _) hsz
    refine sub_next (τ := [("here", .dat x)]) ?_
    simp only [List.cons_append, List.nil_append]
    cases x with
    | tuple es =>
      have hh' : isLoc k (.tuple es) = false := by simpa [isTupB] using hh
      have hl2 : ds.length + es.length ≤ 1000000 := by
        rw [szAll_append, szAll, szAll, sz] at hsz
        have := szAll_len ds; have := szAll_len es; omega
      simp only [kidsT]
      k_extra "eb"
    | _ => simp only [kidsT, List.append_nil]; k_extra "eb"

omit hK in
theorem isMut5 {a b c d e : PyData} : isMut (.tuple [a, b, c, d, e]) = (PyData.eqv a (.str "bind") && PyData.eqv d (.str "mut")) := rfl
theorem c_binds_mutably (n : Nat) (σ : Sto) (d : PyData) (hd : sz d ≤ 1000000) : EvF K (n + 1) "binds_mutably" [.dat d] σ (.dat (.bool (occ isMut d))) σ := by
  refine d_binds_mutably hK (Nat.le_refl _) fun L a code => ?_
  conv => arg 1; ext ρ'; arg 1; ext τ; arg 6; whnf
  conv => arg 1; ext ρ'; arg 1; ext τ; arg 3; arg 1; whnf
  refine EvB.scan (r := .dat (.bool true)) (EvS.assign (EvE.listMu (EvA.cons (EvE.name (by k_extra "get")) EvA.nil) (Dats.cons Dats.nil) one_len) (by k_extra "put")) (wh_scan (occ isMut) (fun x => isTupB x && isMut x) kidsT (fun x => sz x ≤ 1000000) (fun x _ => occ_eq _ x) (fun x _ => kidsT_lt x) (fun x hx _ y hy => ?_) (fun st hst => T_left (by k_extra "get")) ?_ ?_ (sz d) [d] (fun x hx => by rw [List.mem_singleton.mp hx]; exact hd) (by rw [szAll, szAll]; omega) hd) (fun ρ' st => EvB.ret (EvS.ret EvE.bool)) (by cases h : occ isMut d <;> simp [h])
  · have := kidsT_lt x; have := szAll_mem hy; omega
  · intro ds x hx hsz hh
    have hl : (ds ++ [x]).length ≤ 1000000 := Nat.le_trans (szAll_len _) hsz
    have hh' : isMut x = true := by simp at hh; exact hh.2
    cases x with
    | tuple es =>
      by_cases h5 : es.length = 5
      · obtain ⟨a, b, c, d, e, rfl⟩ := five_of h5
        rw [isMut5, Bool.and_eq_true] at hh'
        obtain ⟨h1, h2⟩ := hh'
        apply Exists.intro; apply Exists.intro
        k_extra "eb"
      · rw [isMut_no h5] at hh'; cases hh'
    | _ => cases hh'
  · intro ds x hx hsz hh
    have hl : (ds ++ [x]).length ≤ 1000000 := Nat.le_trans (szAll_len _) hsz
    refine sub_next (τ := [("here", .dat x)]) ?_
    simp only [List.cons_append, List.nil_append]
    cases x with
    | tuple es =>
      have hh' : isMut (.tuple es) = false := by simpa [isTupB] using hh
      have hl2 : ds.length + es.length ≤ 1000000 := by
        rw [szAll_append, szAll, szAll, sz] at hsz
        have := szAll_len ds; have := szAll_len es; omega
      simp only [kidsT]
      clear hh
      by_cases h5 : es.length = 5
      · obtain ⟨a, b, c, d, e, rfl⟩ := five_of h5
        rw [isMut5] at hh'
        cases h1 : PyData.eqv a (.str "bind") with
        | false => k_extra "eb"
        | true =>
          rw [h1, Bool.true_and] at hh'
          k_extra "eb"
      · have h : PyData.eqv (.int (es.length : Int)) (.int 5) = false := len_no h5
        k_extra "eb"
    | _ => simp only [kidsT, List.append_nil]; k_extra "eb"
end
end PMF2
section PMF3
local macro_rules | `(tactic| k_extra "evc") => `(tactic| first | with_reducible exact c_is_local (by assumption) _ _ _ _ (by first | assumption | omega) | with_reducible exact c_binds_mutably (by assumption) _ _ _ (by first | assumption | omega))
/-- what a part writes, or lends to be written -/
noncomputable def cb : PyData → PyData
  | .tuple (h :: rest) =>
    if PyData.eqv h (.str "assign") then rest.getD 2 .none
    else if PyData.eqv h (.str "borrow") then (if PyData.eqv ((kidsT (rest.getD 0 .none)).getD 2 .none) (.bool true) then rest.getD 3 .none else .none)
    else if PyData.eqv h (.str "update") then rest.getD 3 .none
    else if PyData.eqv h (.str "match") && occ isMut (rest.getD 3 .none) then rest.getD 2 .none
    else if PyData.eqv h (.str "let") && occ isMut (rest.getD 1 .none) then rest.getD 2 .none
    else .none
  | _ => .none
/-- the def answers so -/
noncomputable def CBok (t : PyData) : Prop := ∀ (K : Cx) (hK : K.recs = recs0) (n : Nat) (σ : Sto), EvF K (n + 2) "changed_by" [.dat t] σ (.dat (cb t)) σ
noncomputable def heads : List PyData := [.str "assign", .str "borrow", .str "update", .str "match", .str "let"]

theorem cb_other {h : PyData} {rest : List PyData} (h1 : PyData.eqv h (.str "assign") = false) (h2 : PyData.eqv h (.str "borrow") = false) (h3 : PyData.eqv h (.str "update") = false) (h4 : PyData.eqv h (.str "match") = false) (h5 : PyData.eqv h (.str "let") = false) :
    CBok (.tuple (h :: rest)) ∧ cb (.tuple (h :: rest)) = .none := by
  have e : cb (.tuple (h :: rest)) = .none := by simp [cb, h1, h2, h3, h4, h5]
  refine ⟨fun K hK n σ => ?_, e⟩
  rw [e]
  refine e_changed_by hK ?_
  k_extra "open"
  k_extra "eb"
theorem cb_assign {a b p v : PyData} : CBok (.tuple [.str "assign", a, b, p, v]) ∧ cb (.tuple [.str "assign", a, b, p, v]) = p := by
  have e : cb (.tuple [.str "assign", a, b, p, v]) = p := by simp [cb, PyData.eqv, kidsT, ofStr_inj]
  refine ⟨fun K hK n σ => ?_, e⟩
  rw [e]
  refine e_changed_by hK ?_
  k_extra "open"
  k_extra "eb"
theorem cb_update {a b c p v : PyData} : CBok (.tuple [.str "update", a, b, c, p, v]) ∧ cb (.tuple [.str "update", a, b, c, p, v]) = p := by
  have e : cb (.tuple [.str "update", a, b, c, p, v]) = p := by simp [cb, PyData.eqv, kidsT, ofStr_inj]
  refine ⟨fun K hK n σ => ?_, e⟩
  rw [e]
  refine e_changed_by hK ?_
  k_extra "open"
  k_extra "eb"
theorem cb_borrowT {a b c d e p : PyData} : CBok (.tuple [.str "borrow", .tuple [a, b, .bool true, c], d, e, p]) ∧ cb (.tuple [.str "borrow", .tuple [a, b, .bool true, c], d, e, p]) = p := by
  have e : cb (.tuple [.str "borrow", .tuple [a, b, .bool true, c], d, e, p]) = p := by simp [cb, PyData.eqv, kidsT, ofStr_inj]
  refine ⟨fun K hK n σ => ?_, e⟩
  rw [e]
  refine e_changed_by hK ?_
  k_extra "open"
  k_extra "eb"
theorem cb_borrowF {a b c d e p : PyData} : CBok (.tuple [.str "borrow", .tuple [a, b, .bool false, c], d, e, p]) ∧ cb (.tuple [.str "borrow", .tuple [a, b, .bool false, c], d, e, p]) = .none := by
  have e : cb (.tuple [.str "borrow", .tuple [a, b, .bool false, c], d, e, p]) = .none := by simp [cb, PyData.eqv, kidsT, ofStr_inj]
  refine ⟨fun K hK n σ => ?_, e⟩
  rw [e]
  refine e_changed_by hK ?_
  k_extra "open"
  k_extra "eb"
theorem cb_matchT {a b p v : PyData} (hs : sz v ≤ 1000000) (hv : occ isMut v = true) : CBok (.tuple [.str "match", a, b, p, v]) ∧ cb (.tuple [.str "match", a, b, p, v]) = p := by
  have e : cb (.tuple [.str "match", a, b, p, v]) = p := by simp [cb, PyData.eqv, hv, ofStr_inj]
  refine ⟨fun K hK n σ => ?_, e⟩
  rw [e]
  refine e_changed_by hK ?_
  k_extra "open"
  k_extra "eb"
theorem cb_matchF {a b p v : PyData} (hs : sz v ≤ 1000000) (hv : occ isMut v = false) : CBok (.tuple [.str "match", a, b, p, v]) ∧ cb (.tuple [.str "match", a, b, p, v]) = .none := by
  have e : cb (.tuple [.str "match", a, b, p, v]) = .none := by simp [cb, PyData.eqv, hv, ofStr_inj]
  refine ⟨fun K hK n σ => ?_, e⟩
  rw [e]
  refine e_changed_by hK ?_
  k_extra "open"
  k_extra "eb"
theorem cb_letT {a v p : PyData} (hs : sz v ≤ 1000000) (hv : occ isMut v = true) : CBok (.tuple [.str "let", a, v, p]) ∧ cb (.tuple [.str "let", a, v, p]) = p := by
  have e : cb (.tuple [.str "let", a, v, p]) = p := by simp [cb, PyData.eqv, hv, ofStr_inj]
  refine ⟨fun K hK n σ => ?_, e⟩
  rw [e]
  refine e_changed_by hK ?_
  k_extra "open"
  k_extra "eb"
theorem cb_letF {a v p : PyData} (hs : sz v ≤ 1000000) (hv : occ isMut v = false) : CBok (.tuple [.str "let", a, v, p]) ∧ cb (.tuple [.str "let", a, v, p]) = .none := by
  have e : cb (.tuple [.str "let", a, v, p]) = .none := by simp [cb, PyData.eqv, hv, ofStr_inj]
  refine ⟨fun K hK n σ => ?_, e⟩
  rw [e]
  refine e_changed_by hK ?_
  k_extra "open"
  k_extra "eb"

/-! ## The root of a place -/
noncomputable def root : PyData → PyData
  | .tuple (h :: a :: b :: p :: rest) => if PyData.eqv h (.str "deref") || PyData.eqv h (.str "field") then root p else .tuple (h :: a :: b :: p :: rest)
  | d => d
inductive PlaceOk : PyData → PyData → Nat → Prop
  | loc {a b c : PyData} (h : sz (.tuple [.str "local", a, b, c]) ≤ 1000000) : PlaceOk (.tuple [.str "local", a, b, c]) (.tuple [.str "local", a, b, c]) 0
  | deref {a b p r : PyData} {rest : List PyData} {m : Nat} (h : PlaceOk p r m) : PlaceOk (.tuple (.str "deref" :: a :: b :: p :: rest)) r (m + 1)
  | field {a b p r : PyData} {rest : List PyData} {m : Nat} (h : PlaceOk p r m) : PlaceOk (.tuple (.str "field" :: a :: b :: p :: rest)) r (m + 1)
theorem PlaceOk.root {g r : PyData} {m : Nat} (h : PlaceOk g r m) : Mine.root g = r := by
  induction h with
  | loc h => simp [Mine.root, PyData.eqv, ofStr_inj]
  | deref h ih => rw [← ih]; simp [Mine.root, PyData.eqv, ofStr_inj]
  | field h ih => rw [← ih]; simp [Mine.root, PyData.eqv, ofStr_inj]
theorem PlaceOk.shape {g r : PyData} {m : Nat} (h : PlaceOk g r m) : ∃ a b c, r = .tuple [.str "local", a, b, c] ∧ sz (.tuple [.str "local", a, b, c]) ≤ 1000000 := by
  induction h with
  | loc h => exact ⟨_, _, _, rfl, h⟩
  | deref h ih => exact ih
  | field h ih => exact ih
inductive RtOk : PyData → PyData → Nat → Prop
  | none : RtOk .none .none 0
  | place {g r : PyData} {m : Nat} (h : PlaceOk g r m) : RtOk g r m
theorem RtOk.root {g r : PyData} {m : Nat} (h : RtOk g r m) : Mine.root g = r := by
  cases h with
  | none => rfl
  | place h => exact h.root

noncomputable def bad (k : Int) (t : PyData) : Bool := isLoc k t || isLoc k (root (cb t))
noncomputable def cut (k : Int) : PyData → Bool
  | .tuple [h, _, _, x] => PyData.eqv h (.str "deref") && isLoc k x
  | _ => false
noncomputable def kidsS (k : Int) : PyData → List PyData
  | .tuple ds => if cut k (.tuple ds) then [] else ds
  | _ => []
mutual
/-- local k is more than just seen in it -/
noncomputable def ns (k : Int) : PyData → Bool
  | .tuple ds => bad k (.tuple ds) || (!cut k (.tuple ds) && nsAll k ds)
  | _ => false
noncomputable def nsAll (k : Int) : List PyData → Bool
  | [] => false
  | x :: xs => ns k x || nsAll k xs
end
theorem nsAll_any (k : Int) : ∀ ds : List PyData, nsAll k ds = ds.any (ns k)
  | [] => by rw [nsAll]; rfl
  | x :: xs => by rw [nsAll, nsAll_any k xs, List.any_cons]
theorem ns_eq (k : Int) : ∀ d : PyData, ns k d = ((isTupB d && bad k d) || (kidsS k d).any (ns k))
  | .tuple ds => by
    rw [ns, nsAll_any]
    cases h : cut k (.tuple ds) <;> simp [isTupB, kidsS, h]
  | .none | .bool _ | .int _ | .str _ | .list _ | .dict _ => by rw [ns] <;> simp [isTupB, kidsS]
theorem kidsS_lt (k : Int) : ∀ d : PyData, szAll (kidsS k d) < sz d
  | .tuple ds => by
    rw [kidsS]
    split
    · rw [szAll]; exact sz_pos _
    · exact kidsT_lt (.tuple ds)
  | .none | .bool _ | .int _ | .str _ | .list _ | .dict _ => by have h : ∀ d : PyData, kidsS k d = [] → szAll (kidsS k d) < sz d := fun d h => (by rw [h, szAll]; exact sz_pos d); exact h _ rfl

mutual
/-- every part of it is of a kind that the defs can be asked of -/
noncomputable def okD : PyData → Prop
  | .tuple ds => (ds = [] ∨ (CBok (.tuple ds) ∧ ∃ r m, RtOk (cb (.tuple ds)) r m)) ∧ okAll ds
  | _ => True
noncomputable def okAll : List PyData → Prop
  | [] => True
  | x :: xs => okD x ∧ okAll xs
end
theorem okAll_mem : ∀ {ds : List PyData} {x : PyData}, okAll ds → x ∈ ds → okD x
  | y :: ds, x, h, hx => by
    rw [okAll] at h
    rcases List.mem_cons.mp hx with rfl | hx
    · exact h.1
    · exact okAll_mem h.2 hx
theorem okD_kids {k : Int} {d x : PyData} (h : okD d) (hx : x ∈ kidsS k d) : okD x := by
  cases d with
  | tuple ds =>
    rw [okD] at h
    rw [kidsS] at hx
    split at hx
    · cases hx
    · exact okAll_mem h.2 hx
  | _ => simp [kidsS] at hx

section
variable {K : Cx} {n : Nat} {env : Env} {σ : Sto}
theorem wh_root {test : Expr} {body : List Stmt} (ρ : PyData → Loc) (hnone : EvT K n env (ρ .none) σ test false σ) (hloc : ∀ a b c, EvT K n env (ρ (.tuple [.str "local", a, b, c])) σ test false σ)
    (hd : ∀ a b p rest, EvT K n env (ρ (.tuple (.str "deref" :: a :: b :: p :: rest))) σ test true σ) (hf : ∀ a b p rest, EvT K n env (ρ (.tuple (.str "field" :: a :: b :: p :: rest))) σ test true σ)
    (hb : ∀ h a b p rest, EvB K n env (ρ (.tuple (h :: a :: b :: p :: rest))) σ body .next (ρ p) σ) {g r : PyData} {m : Nat} (h : RtOk g r m) : EvWh K n env test body m (ρ g) σ .next (ρ r) σ := by
  cases h with
  | none => exact .stop hnone
  | place h =>
    induction h with
    | loc h => exact .stop (hloc _ _ _)
    | deref h ih => exact .next (hd _ _ _ _) (hb _ _ _ _ _) ih
    | field h ih => exact .next (hf _ _ _ _) (hb _ _ _ _ _) ih
end
end PMF3
section PMF4
section
variable {K : Cx} {n : Nat} {env : Env} {σ : Sto}
theorem wh_root4 {test : Expr} {body : List Stmt} {x₁ x₂ x₃ x₄ : Str} {u₁ u₂ u₃ u₄ : LV}
    (hnone : EvT K n env [(x₁, u₁), (x₂, u₂), (x₃, u₃), (x₄, u₄), ("goal", .dat .none)] σ test false σ) (hloc : ∀ a b c, EvT K n env [(x₁, u₁), (x₂, u₂), (x₃, u₃), (x₄, u₄), ("goal", .dat (.tuple [.str "local", a, b, c]))] σ test false σ)
    (hd : ∀ a b p rest, EvT K n env [(x₁, u₁), (x₂, u₂), (x₃, u₃), (x₄, u₄), ("goal", .dat (.tuple (.str "deref" :: a :: b :: p :: rest)))] σ test true σ) (hf : ∀ a b p rest, EvT K n env [(x₁, u₁), (x₂, u₂), (x₃, u₃), (x₄, u₄), ("goal", .dat (.tuple (.str "field" :: a :: b :: p :: rest)))] σ test true σ)
    (hb : ∀ h a b p rest, EvB K n env [(x₁, u₁), (x₂, u₂), (x₃, u₃), (x₄, u₄), ("goal", .dat (.tuple (h :: a :: b :: p :: rest)))] σ body .next [(x₁, u₁), (x₂, u₂), (x₃, u₃), (x₄, u₄), ("goal", .dat p)] σ) {g r : PyData} {m : Nat} (h : RtOk g r m) :
    EvWh K n env test body m [(x₁, u₁), (x₂, u₂), (x₃, u₃), (x₄, u₄), ("goal", .dat g)] σ .next [(x₁, u₁), (x₂, u₂), (x₃, u₃), (x₄, u₄), ("goal", .dat r)] σ :=
  wh_root (fun g => [(x₁, u₁), (x₂, u₂), (x₃, u₃), (x₄, u₄), ("goal", .dat g)]) hnone hloc hd hf hb h
end
theorem CBok.use {K : Cx} {n : Nat} {σ : Sto} {t : PyData} (h : CBok t) (hK : K.recs = recs0) : EvF K (n + 2) "changed_by" [.dat t] σ (.dat (cb t)) σ := h K hK n σ
theorem RtOk.inv {g r : PyData} {m : Nat} (h : RtOk g r m) : r = .none ∨ ∃ a b c, r = .tuple [.str "local", a, b, c] ∧ sz (.tuple [.str "local", a, b, c]) ≤ 1000000 := by
  cases h with
  | none => exact .inl rfl
  | place h => exact .inr h.shape
local macro_rules | `(tactic| k_extra "evc") => `(tactic| first | with_reducible exact c_is_local (by assumption) _ _ _ _ (by first | assumption | omega) | with_reducible exact CBok.use (by assumption) (by assumption))
local macro_rules | `(tactic| k_extra "whl") => `(tactic| exact wh_root4 (by k_extra "et") (by intro a b c; k_extra "et") (by intro a b p rest; k_extra "et") (by intro a b p rest; k_extra "et") (by intro h a b p rest; k_extra "eb") (by assumption))
section
variable {K : Cx} (hK : K.recs = recs0)
include hK
omit hK in
theorem cut4 {k : Int} {h a b x : PyData} : kidsS k (.tuple [h, a, b, x]) = (if PyData.eqv h (.str "deref") && isLoc k x then [] else [h, a, b, x]) := rfl

omit hK in
theorem kidsS_no {k : Int} {ds : List PyData} (h : ds.length ≠ 4) : kidsS k (.tuple ds) = ds := by
  unfold kidsS
  dsimp only
  rw [if_neg]
  intro e
  unfold cut at e
  split at e
  · rename_i q; cases q; exact h rfl
  · cases e
local macro_rules | `(tactic| k_extra "et") => `(tactic| ((with_reducible show EvT _ _ _ _ _ (Expr.BoolOp BoolOp.And [Expr.Compare (Expr.Name (Str.ofString "goal") _) _ _ _, Expr.Call _ _ _ _] _) _ _); with_reducible exact EvT.andS (by k_extra "et") (by k_extra "et")))
theorem c_is_just_seen (n : Nat) (σ : Sto) (d : PyData) (k : Int) (hd : sz d ≤ 1000000) (hok : okD d) : EvF K (n + 3) "is_just_seen" [.dat d, .dat (.int k)] σ (.dat (.bool (!ns k d))) σ := by
  refine d_is_just_seen hK (Nat.le_refl _) fun L a code => ?_
  conv => arg 1; ext ρ'; arg 1; ext τ; arg 6; whnf
  conv => arg 1; ext ρ'; arg 1; ext τ; arg 3; arg 1; whnf
  refine EvB.scan (r := .dat (.bool false)) (EvS.assign (EvE.listMu (EvA.cons (EvE.name (by k_extra "get")) EvA.nil) (Dats.cons Dats.nil) one_len) (by k_extra "put")) (wh_scan (ns k) (fun x => isTupB x && bad k x) (kidsS k) (fun x => sz x ≤ 1000000 ∧ okD x) (fun x _ => ns_eq k x) (fun x _ => kidsS_lt k x) (fun x hx _ y hy => ⟨?_, okD_kids hx.2 hy⟩) (fun st hst => T_left (by k_extra "get")) ?_ ?_ (sz d) [d] (fun x hx => by rw [List.mem_singleton.mp hx]; exact ⟨hd, hok⟩) (by rw [szAll, szAll]; omega) hd) (fun ρ' st => EvB.ret (EvS.ret EvE.bool)) (by cases h : ns k d <;> simp [h])
  · have := kidsS_lt k x; have := szAll_mem hy; have := hx.1; omega
  · intro ds x ⟨hx, hox⟩ hsz hh
    have hl : (ds ++ [x]).length ≤ 1000000 := Nat.le_trans (szAll_len _) hsz
    rw [Bool.and_eq_true] at hh
    obtain ⟨hh0, hh⟩ := hh
    cases x with
    | tuple es =>
     cases es with
     | nil => cases hh
     | cons h rest =>
      rw [okD] at hox
      obtain ⟨hn | ⟨hcb, r, m, hr⟩, _⟩ := hox
      · cases hn
      clear hh0
      unfold bad at hh
      rw [hr.root] at hh
      have hsz' : rest.length ≤ 1000000 := by rw [sz, szAll] at hx; have := szAll_len rest; omega
      cases h1 : isLoc k (.tuple (h :: rest)) with
      | true =>
        apply Exists.intro; apply Exists.intro
        k_extra "eb"
      | false =>
        rw [h1, Bool.false_or] at hh
        rcases hr.inv with rfl | ⟨a, b, c, rfl, hs⟩
        · cases hh
        · apply Exists.intro; apply Exists.intro
          k_extra "eb"
    | _ => cases hh0
  · intro ds x ⟨hx, hox⟩ hsz hh
    have hl : (ds ++ [x]).length ≤ 1000000 := Nat.le_trans (szAll_len _) hsz
    by_cases hT : ∃ h rest, x = .tuple (h :: rest)
    · obtain ⟨h, rest, rfl⟩ := hT
      have hh : bad k (.tuple (h :: rest)) = false := by simpa [isTupB] using hh
      rw [okD] at hox
      obtain ⟨hn | ⟨hcb, r, m, hr⟩, _⟩ := hox
      · cases hn
      unfold bad at hh
      rw [hr.root, Bool.or_eq_false_iff] at hh
      obtain ⟨h1, h2⟩ := hh
      have hl2 : ds.length + (h :: rest).length ≤ 1000000 := by
        rw [szAll_append, szAll, szAll, sz] at hsz
        have := szAll_len ds; have := szAll_len (h :: rest); omega
      refine sub_next (τ := [("here", .dat (.tuple (h :: rest))), ("goal", .dat r)]) ?_
      simp only [List.cons_append, List.nil_append]
      have hrs : sz r ≤ 1000000 := by
        rcases hr.inv with rfl | ⟨a, b, c, rfl, hs⟩
        · rw [sz] <;> simp
        · exact hs
      by_cases h3 : rest.length = 3
      · obtain ⟨x1, x2, x3, rfl⟩ := three_of h3
        have hx3 : sz x3 ≤ 1000000 := by rw [sz, szAll, szAll, szAll, szAll] at hx; omega
        rw [cut4]
        cases hc1 : PyData.eqv h (.str "deref") with
        | false =>
          rw [Bool.false_and, if_neg (by decide)]
          k_extra "eb"
        | true =>
          cases hc2 : isLoc k x3 with
          | false =>
            rw [Bool.true_and, if_neg (by decide)]
            k_extra "eb"
          | true =>
            rw [Bool.true_and, if_pos rfl, List.append_nil]
            k_extra "eb"
      · have h4 : (h :: rest).length ≠ 4 := fun e => h3 (Nat.succ.inj e)
        rw [kidsS_no h4]
        have hlen : (!PyData.eqv (.int ((h :: rest).length : Int)) (.int 4)) = true := by show (!PyData.eqv _ (.int ((4 : Nat) : Int))) = true; rw [len_no h4]; rfl
        k_extra "eb"
    · refine sub_cont (τ := [("here", .dat x)]) ?_
      simp only [List.cons_append, List.nil_append]
      cases x with
      | tuple es =>
        cases es with
        | nil =>
          have e : kidsS k (.tuple []) = [] := by simp [kidsS]
          rw [e, List.append_nil]
          k_extra "eb"
        | cons h rest => exact absurd ⟨h, rest, rfl⟩ hT
      | _ => simp only [kidsS, List.append_nil]; k_extra "eb"
end
end PMF4
section PMF5
/-- what the source holds -/
noncomputable def Inv (src : List PyData) : Prop := ∃ a b : Int, src = [.int a, .int b] ∧ 0 ≤ a ∧ 0 ≤ b ∧ b < 2147483647
theorem fmod_range {a b : Int} (hb : 0 < b) : 0 ≤ a.fmod b ∧ a.fmod b < b := by
  rw [Int.fmod_eq_emod_of_nonneg _ (Int.le_of_lt hb)]
  exact ⟨Int.emod_nonneg _ (by omega), Int.emod_lt_of_pos _ hb⟩
theorem fdiv_nonneg {a b : Int} (ha : 0 ≤ a) (hb : 0 < b) : 0 ≤ a.fdiv b := by
  rw [Int.fdiv_eq_ediv_of_nonneg _ (Int.le_of_lt hb)]
  exact Int.ediv_nonneg ha (by omega)
theorem mul_ok {b : Int} (h0 : 0 ≤ b) (h1 : b < 2147483647) : IntMulOk b b := IntMulOk.of_left (intBits_le (by omega))
section
variable {K : Cx} (hK : K.recs = recs0)
include hK
theorem c_take (n : Nat) (τ : Sto) (src : List PyData) (hi : Inv src) (top : Int) (h1 : 1 ≤ top) (h2 : top ≤ 100) :
    ∃ d src', 0 ≤ d ∧ d < top ∧ Inv src' ∧ EvF K (n + 1) "_law_take" [.mu 0, .dat (.int top)] (src :: τ) (.dat (.int d)) (src' :: τ) := by
  obtain ⟨a, b, rfl, ha, hb, hb2⟩ := hi
  by_cases h : 0 < a
  · have h' : decide (0 < a) = true := decide_eq_true h
    refine ⟨a.fmod top, [.int (a.fdiv top), .int b], (fmod_range (by omega)).1, (fmod_range (by omega)).2, ⟨_, _, rfl, fdiv_nonneg ha (by omega), hb, hb2⟩, ?_⟩
    refine e_law_take hK ?_
    k_extra "open"
    k_extra "eb"
  · have h' : decide (0 < a) = false := decide_eq_false h
    have hm := @fmod_range (b * 39373 + 7) 2147483647 (by decide)
    have hok := mul_ok hm.1 hm.2
    refine ⟨((((b * 39373 + 7).fmod 2147483647 * (b * 39373 + 7).fmod 2147483647).fmod 2147483629).fdiv 32).fmod top, [.int a, .int ((b * 39373 + 7).fmod 2147483647)], (fmod_range (by omega)).1, (fmod_range (by omega)).2, ⟨_, _, rfl, ha, hm.1, hm.2⟩, ?_⟩
    refine e_law_take hK ?_
    k_extra "open"
    k_extra "eb"

omit hK in
theorem EvF.up {m : Nat} {y : Str} {args : List LV} {σ σ' : Sto} {r : LV} (h : EvF K n y args σ r σ') (hm : n ≤ m) : EvF K m y args σ r σ' := h.le hm
end
noncomputable abbrev u8 : PyData := .tuple [.str "int", .str "u8"]
noncomputable abbrev refT (m : Bool) : PyData := .tuple [.str "ref", .none, .bool m, u8]
noncomputable abbrev locT (l : Int) : PyData := .tuple [.str "local", refT true, .int 0, .int l]
section
variable {K : Cx} (hK : K.recs = recs0)
include hK
theorem c_u8 (n : Nat) (σ : Sto) : EvF K (n + 1) "_law_u8" [] σ (.dat u8) σ := by
  refine e_law_u8 hK ?_
  k_extra "open"
  k_extra "eb"
local macro_rules | `(tactic| k_extra "evc") => `(tactic| first | with_reducible assumption | with_reducible exact c_u8 (by assumption) _ _)
theorem c_reference (n : Nat) (σ : Sto) (m : Bool) : EvF K (n + 2) "_law_reference" [.dat (.bool m)] σ (.dat (refT m)) σ := by
  refine e_law_reference hK ?_
  k_extra "open"
  k_extra "eb"
local macro_rules | `(tactic| k_extra "evc") => `(tactic| first | with_reducible assumption | with_reducible exact c_u8 (by assumption) _ _ | with_reducible exact c_reference (by assumption) _ _ _)
theorem c_one (n : Nat) (τ : Sto) (src : List PyData) (hi : Inv src) (ds : List PyData) (h1 : 1 ≤ ds.length) (h2 : ds.length ≤ 100) :
    ∃ x src', x ∈ ds ∧ Inv src' ∧ EvF K (n + 2) "_law_one" [.mu 0, .dat (.list ds)] (src :: τ) (.dat x) (src' :: τ) := by
  obtain ⟨d, src', h0, hd, hi', hev⟩ := c_take hK n τ src hi (ds.length : Int) (by omega) (by omega)
  have hlt : d.toNat < ds.length := by omega
  have hx : ds[d.toNat]? = some ds[d.toNat] := List.getElem?_eq_getElem hlt
  refine ⟨ds[d.toNat], src', List.getElem_mem hlt, hi', ?_⟩
  have hb : d < 2 ^ 63 := by omega
  refine e_law_one hK ?_
  k_extra "open"
  k_extra "eb"
theorem c_local (n : Nat) (τ : Sto) (src : List PyData) (hi : Inv src) :
    ∃ l src', 0 ≤ l ∧ l < 4 ∧ Inv src' ∧ EvF K (n + 3) "_law_local" [.mu 0] (src :: τ) (.dat (.tuple [locT l, .list [.int l], .bool false, .list [.int l]])) (src' :: τ) := by
  obtain ⟨l, src', h0, hd, hi', hev⟩ := c_take hK (n + 1) τ src hi 4 (by decide) (by decide)
  refine ⟨l, src', h0, hd, hi', ?_⟩
  refine e_law_local hK ?_
  k_extra "open"
  k_extra "eb"
theorem c_behind (n : Nat) (τ : Sto) (src : List PyData) (hi : Inv src) :
    ∃ l src', 0 ≤ l ∧ l < 4 ∧ Inv src' ∧ EvF K (n + 3) "_law_behind" [.mu 0] (src :: τ) (.dat (.tuple [.tuple [.str "deref", u8, .int 0, locT l], .list [.int l], .bool false, .list []])) (src' :: τ) := by
  obtain ⟨l, src', h0, hd, hi', hev⟩ := c_take hK (n + 1) τ src hi 4 (by decide) (by decide)
  refine ⟨l, src', h0, hd, hi', ?_⟩
  refine e_law_behind hK ?_
  k_extra "open"
  k_extra "eb"
end
end PMF5
section PMF6
local macro_rules | `(tactic| k_extra "evc") => `(tactic| first | with_reducible assumption | with_reducible exact c_u8 (by assumption) _ _ | with_reducible exact c_reference (by assumption) _ _ _)
noncomputable abbrev derefT (l : Int) : PyData := .tuple [.str "deref", .tuple [.str "tuple", .tuple [u8]], .int 0, locT l]
noncomputable abbrev fieldT (p : PyData) (k : Int) : PyData := .tuple [.str "field", u8, .int 0, p, .int k]
/-- the places that are made -/
inductive PlaceMade (l : Int) : PyData → Prop
  | zero : PlaceMade l (derefT l)
  | one : PlaceMade l (fieldT (derefT l) 0)
  | two : PlaceMade l (fieldT (fieldT (derefT l) 0) 1)
section
variable {K : Cx} (hK : K.recs = recs0)
include hK
theorem c_place (n : Nat) (τ : Sto) (src : List PyData) (hi : Inv src) :
    ∃ l p src', 0 ≤ l ∧ l < 4 ∧ PlaceMade l p ∧ Inv src' ∧ EvF K (n + 3) "_law_place" [.mu 0] (src :: τ) (.dat (.tuple [p, .int l])) (src' :: τ) := by
  obtain ⟨l, src', h0, hd, hi', hev⟩ := c_take hK (n + 1) τ src hi 4 (by decide) (by decide)
  obtain ⟨d, src'', h0', hd', hi'', hev'⟩ := c_take hK (n + 1) τ src' hi' 3 (by decide) (by decide)
  have hc : d = 0 ∨ d = 1 ∨ d = 2 := by omega
  rcases hc with rfl | rfl | rfl
  · refine ⟨l, _, src'', h0, hd, .zero, hi'', ?_⟩
    refine e_law_place hK ?_
    k_extra "open"
    k_extra "eb"
  · refine ⟨l, _, src'', h0, hd, .one, hi'', ?_⟩
    refine e_law_place hK ?_
    k_extra "open"
    k_extra "eb"
  · refine ⟨l, _, src'', h0, hd, .two, hi'', ?_⟩
    refine e_law_place hK ?_
    k_extra "open"
    k_extra "eb"
end
end PMF6
section PMF7
local macro_rules | `(tactic| k_extra "evc") => `(tactic| first | with_reducible assumption | with_reducible exact c_u8 (by assumption) _ _ | with_reducible exact c_reference (by assumption) _ _ _)
noncomputable abbrev innerT (w : PyData) : PyData := .tuple [.str "bind", u8, .int 8, w, .none]
noncomputable abbrev wildT : PyData := .tuple [.str "wild", u8]
noncomputable def ways0 : List PyData := [.str "move", .str "ref", .str "copy", .str "mut"]
/-- the patterns that are made, and whether one in it binds by a mutable reference -/
inductive PatMade : PyData → Bool → Prop
  | wild : PatMade wildT false
  | inner {w : PyData} (h : w ∈ ways0) : PatMade (innerT w) (PyData.eqv w (.str "mut"))
  | outer {w w' : PyData} (h : w ∈ ways0) (h' : w' ∈ ways0) : PatMade (.tuple [.str "bind", u8, .int 9, w, innerT w']) ([w, w'].any fun y => PyData.eqv y (.str "mut"))
  | fields {w : PyData} (h : w ∈ ways0) : PatMade (.tuple [.str "fields", .tuple [.str "tuple", .tuple [u8]], .tuple [innerT w, wildT]]) (PyData.eqv w (.str "mut"))
section
variable {K : Cx} (hK : K.recs = recs0)
include hK
theorem c_pattern (n : Nat) (τ : Sto) (src : List PyData) (hi : Inv src) :
    ∃ p b src', PatMade p b ∧ Inv src' ∧ EvF K (n + 3) "_law_pattern" [.mu 0] (src :: τ) (.dat (.tuple [p, .bool b])) (src' :: τ) := by
  obtain ⟨w, src1, hw, hi1, hev1⟩ := c_one hK n (τ ++ [[]]) src hi ways0 (by decide) (by decide)
  obtain ⟨w', src2, hw', hi2, hev2⟩ := c_one hK n (τ ++ [[w]]) src1 hi1 ways0 (by decide) (by decide)
  obtain ⟨d, src3, h0, hd, hi3, hev3⟩ := c_take hK (n + 1) τ src2 hi2 4 (by decide) (by decide)
  simp only [ways0] at hev1 hev2
  have hc : d = 0 ∨ d = 1 ∨ d = 2 ∨ d = 3 := by omega
  rcases hc with rfl | rfl | rfl | rfl
  · refine ⟨_, _, src3, .wild, hi3, ?_⟩
    refine e_law_pattern hK ?_
    k_extra "open"
    k_extra "eb"
  · refine ⟨_, _, src3, .inner hw', hi3, ?_⟩
    refine e_law_pattern hK ?_
    k_extra "open"
    k_extra "eb"
  · refine ⟨_, _, src3, .outer hw hw', hi3, ?_⟩
    refine e_law_pattern hK ?_
    k_extra "open"
    k_extra "eb"
  · refine ⟨_, _, src3, .fields hw', hi3, ?_⟩
    refine e_law_pattern hK ?_
    k_extra "open"
    k_extra "eb"
end
end PMF7
section PMF8
noncomputable abbrev rowT (t : PyData) (f : List PyData) (b : Bool) (m : List PyData) : PyData := .tuple [t, .list f, .bool b, .list m]
noncomputable abbrev rowL (t : PyData) (f : List PyData) (b : Bool) (m : List PyData) : PyData := .list [t, .list f, .bool b, .list m]
section
variable {K : Cx} (hK : K.recs = recs0)
include hK
theorem c_joined1 (n : Nat) (σ : Sto) (t : PyData) (f : List PyData) (b : Bool) (m : List PyData) (hf : f.length ≤ 1000000) (hm : m.length ≤ 1000000) :
    EvF K (n + 1) "_law_joined" [.dat (.list [rowT t f b m])] σ (.dat (.tuple [.list ([] ++ f), .bool (false || b), .list ([] ++ m)])) σ := by
  refine e_law_joined hK ?_
  k_extra "open"
  with_unfolding_all (conv => arg 6; whnf)
  with_reducible exact EvB.cons (EvS.assignSw3 (by k_extra "ev") (by k_extra "put") (by k_extra "put") (by k_extra "put")) (by
    with_reducible exact EvB.cons (EvS.for (by k_extra "evi") (by
       with_reducible exact EvFor.next (by k_extra "ast") (by
          with_unfolding_all (conv => arg 6; whnf)
          with_reducible exact EvB.cons (EvS.assignSw3 (by
             with_reducible exact EvE.tuple (by
                with_reducible exact EvA.cons (by k_extra "ev") (by
                with_reducible exact EvA.cons (by with_reducible exact EvE.orS (by k_extra "ev") (by k_extra "ev")) (by
                with_reducible exact EvA.cons (by k_extra "ev") (by k_extra "evs")))) (by k_extra "dats") (by k_extra "len")) (by k_extra "put") (by k_extra "put") (by k_extra "put")) (by exact EvB.nil)) (by exact EvFor.nil))) (by k_extra "eb"))
theorem c_joinedTT (n : Nat) (σ : Sto) (t t' : PyData) (f f' : List PyData) (b b' : Bool) (m m' : List PyData) (hf : f.length ≤ 1000000) (hm : m.length ≤ 1000000) (hf' : f'.length ≤ 1000000) (hm' : m'.length ≤ 1000000) :
    EvF K (n + 1) "_law_joined" [.dat (.list [rowT t f b m, rowT t' f' b' m'])] σ (.dat (.tuple [.list ([] ++ f ++ f'), .bool (false || b || b'), .list ([] ++ m ++ m')])) σ := by
  refine e_law_joined hK ?_
  k_extra "open"
  with_unfolding_all (conv => arg 6; whnf)
  with_reducible exact EvB.cons (EvS.assignSw3 (by k_extra "ev") (by k_extra "put") (by k_extra "put") (by k_extra "put")) (by
    with_reducible exact EvB.cons (EvS.for (by k_extra "evi") (by
       with_reducible exact EvFor.next (by k_extra "ast") (by
          with_unfolding_all (conv => arg 6; whnf)
          with_reducible exact EvB.cons (EvS.assignSw3 (by
             with_reducible exact EvE.tuple (by
                with_reducible exact EvA.cons (by k_extra "ev") (by
                with_reducible exact EvA.cons (by with_reducible exact EvE.orS (by k_extra "ev") (by k_extra "ev")) (by
                with_reducible exact EvA.cons (by k_extra "ev") (by k_extra "evs")))) (by k_extra "dats") (by k_extra "len")) (by k_extra "put") (by k_extra "put") (by k_extra "put")) (by exact EvB.nil)) (by
       with_reducible exact EvFor.next (by k_extra "ast") (by
          with_unfolding_all (conv => arg 6; whnf)
          with_reducible exact EvB.cons (EvS.assignSw3 (by
             with_reducible exact EvE.tuple (by
                with_reducible exact EvA.cons (by k_extra "ev") (by
                with_reducible exact EvA.cons (by with_reducible exact EvE.orS (by k_extra "ev") (by k_extra "ev")) (by
                with_reducible exact EvA.cons (by k_extra "ev") (by k_extra "evs")))) (by k_extra "dats") (by k_extra "len")) (by k_extra "put") (by k_extra "put") (by k_extra "put")) (by exact EvB.nil)) (by exact EvFor.nil)))) (by k_extra "eb"))
theorem c_joinedTL (n : Nat) (σ : Sto) (t t' : PyData) (f f' : List PyData) (b b' : Bool) (m m' : List PyData) (hf : f.length ≤ 1000000) (hm : m.length ≤ 1000000) (hf' : f'.length ≤ 1000000) (hm' : m'.length ≤ 1000000) :
    EvF K (n + 1) "_law_joined" [.dat (.list [rowT t f b m, rowL t' f' b' m'])] σ (.dat (.tuple [.list ([] ++ f ++ f'), .bool (false || b || b'), .list ([] ++ m ++ m')])) σ := by
  refine e_law_joined hK ?_
  k_extra "open"
  with_unfolding_all (conv => arg 6; whnf)
  with_reducible exact EvB.cons (EvS.assignSw3 (by k_extra "ev") (by k_extra "put") (by k_extra "put") (by k_extra "put")) (by
    with_reducible exact EvB.cons (EvS.for (by k_extra "evi") (by
       with_reducible exact EvFor.next (by k_extra "ast") (by
          with_unfolding_all (conv => arg 6; whnf)
          with_reducible exact EvB.cons (EvS.assignSw3 (by
             with_reducible exact EvE.tuple (by
                with_reducible exact EvA.cons (by k_extra "ev") (by
                with_reducible exact EvA.cons (by with_reducible exact EvE.orS (by k_extra "ev") (by k_extra "ev")) (by
                with_reducible exact EvA.cons (by k_extra "ev") (by k_extra "evs")))) (by k_extra "dats") (by k_extra "len")) (by k_extra "put") (by k_extra "put") (by k_extra "put")) (by exact EvB.nil)) (by
       with_reducible exact EvFor.next (by k_extra "ast") (by
          with_unfolding_all (conv => arg 6; whnf)
          with_reducible exact EvB.cons (EvS.assignSw3 (by
             with_reducible exact EvE.tuple (by
                with_reducible exact EvA.cons (by k_extra "ev") (by
                with_reducible exact EvA.cons (by with_reducible exact EvE.orS (by k_extra "ev") (by k_extra "ev")) (by
                with_reducible exact EvA.cons (by k_extra "ev") (by k_extra "evs")))) (by k_extra "dats") (by k_extra "len")) (by k_extra "put") (by k_extra "put") (by k_extra "put")) (by exact EvB.nil)) (by exact EvFor.nil)))) (by k_extra "eb"))
end
end PMF8
section PML
/-! ## What the made trees answer -/
noncomputable def hasI (f : List PyData) (k : Int) : Bool := f.any fun y => PyData.eqv y (.int k)
theorem hasI_append (f g : List PyData) (k : Int) : hasI (f ++ g) k = (hasI f k || hasI g k) := by unfold hasI; rw [List.any_append]
structure Fc (d : PyData) (f : List PyData) (b : Bool) (m : List PyData) (z : Nat) : Prop where
  hf : ∀ k, occ (isLoc k) d = hasI f k
  hb : occ isMut d = b
  hm : ∀ k, ns k d = hasI m k
  ok : okD d
  hz : sz d ≤ z
structure FcL (ds : List PyData) (f : List PyData) (b : Bool) (m : List PyData) (z : Nat) : Prop where
  hf : ∀ k, occAll (isLoc k) ds = hasI f k
  hb : occAll isMut ds = b
  hm : ∀ k, nsAll k ds = hasI m k
  ok : okAll ds
  hz : szAll ds ≤ z
theorem Fc.congr {d : PyData} {f f' : List PyData} {b b' : Bool} {m m' : List PyData} {z z' : Nat} (h : Fc d f b m z) (hf : ∀ k, hasI f k = hasI f' k) (hb : b = b') (hm : ∀ k, hasI m k = hasI m' k) (hz : z ≤ z') : Fc d f' b' m' z' :=
  ⟨fun k => (h.hf k).trans (hf k), h.hb.trans hb, fun k => (h.hm k).trans (hm k), h.ok, Nat.le_trans h.hz hz⟩
theorem FcL.nil : FcL [] [] false [] 0 := ⟨fun k => by rw [occAll]; rfl, by rw [occAll], fun k => by rw [nsAll]; rfl, by rw [okAll]; trivial, by rw [szAll]; exact Nat.le_refl _⟩
theorem FcL.cons {d : PyData} {ds f f' m m' : List PyData} {b b' : Bool} {z z' : Nat} (h : Fc d f b m z) (t : FcL ds f' b' m' z') : FcL (d :: ds) (f ++ f') (b || b') (m ++ m') (z + z') :=
  ⟨fun k => by rw [occAll, h.hf, t.hf, hasI_append], by rw [occAll, h.hb, t.hb], fun k => by rw [nsAll, h.hm, t.hm, hasI_append], by rw [okAll]; exact ⟨h.ok, t.ok⟩, by rw [szAll]; have := h.hz; have := t.hz; omega⟩
theorem Fc.none : Fc .none [] false [] 1 := ⟨fun k => by rw [occ] <;> simp [hasI], by rw [occ] <;> simp, fun k => by rw [ns] <;> simp [hasI], by rw [okD] <;> simp, by rw [sz] <;> simp⟩
theorem Fc.str {x : Str} : Fc (.str x) [] false [] 1 := ⟨fun k => by rw [occ] <;> simp [hasI], by rw [occ] <;> simp, fun k => by rw [ns] <;> simp [hasI], by rw [okD] <;> simp, by rw [sz] <;> simp⟩
theorem Fc.int {x : Int} : Fc (.int x) [] false [] 1 := ⟨fun k => by rw [occ] <;> simp [hasI], by rw [occ] <;> simp, fun k => by rw [ns] <;> simp [hasI], by rw [okD] <;> simp, by rw [sz] <;> simp⟩
theorem Fc.bool {x : Bool} : Fc (.bool x) [] false [] 1 := ⟨fun k => by rw [occ] <;> simp [hasI], by rw [occ] <;> simp, fun k => by rw [ns] <;> simp [hasI], by rw [okD] <;> simp, by rw [sz] <;> simp⟩
theorem Fc.empty : Fc (.tuple []) [] false [] 1 :=
  ⟨fun k => by rw [occ, occAll]; simp [hasI, isLoc], by rw [occ, occAll]; simp [isMut], fun k => by rw [ns, nsAll]; simp [hasI, bad, isLoc, cb, root], by rw [okD, okAll]; exact ⟨.inl rfl, trivial⟩, by rw [sz, szAll]; exact Nat.le_refl _⟩

theorem Fc.node {ds f m ll rl : List PyData} {b bb : Bool} {z mm : Nat} {r : PyData} (h : FcL ds f b m z) (hl : ∀ k, isLoc k (.tuple ds) = hasI ll k) (hmu : isMut (.tuple ds) = bb) (hcut : ∀ k, cut k (.tuple ds) = false)
    (hcb : CBok (.tuple ds)) (hr : RtOk (cb (.tuple ds)) r mm) (hrl : ∀ k, isLoc k r = hasI rl k) : Fc (.tuple ds) (ll ++ f) (bb || b) (ll ++ rl ++ m) (z + 1) :=
  ⟨fun k => by rw [occ, h.hf, hl, hasI_append], by rw [occ, h.hb, hmu],
    fun k => by rw [ns, h.hm, hcut]; unfold bad; rw [hl, hr.root, hrl, hasI_append, hasI_append]; rfl,
    by rw [okD]; exact ⟨.inr ⟨hcb, _, _, hr⟩, h.ok⟩, by rw [sz]; have := h.hz; omega⟩
theorem hasI_nil (k : Int) : hasI [] k = false := rfl
theorem Fc.plain {h : PyData} {rest f m : List PyData} {b : Bool} {z : Nat} (L : FcL (h :: rest) f b m z) (hl : ∀ k, isLoc k (.tuple (h :: rest)) = false) (hmu : isMut (.tuple (h :: rest)) = false) (hcut : ∀ k, cut k (.tuple (h :: rest)) = false)
    (h1 : PyData.eqv h (.str "assign") = false) (h2 : PyData.eqv h (.str "borrow") = false) (h3 : PyData.eqv h (.str "update") = false) (h4 : PyData.eqv h (.str "match") = false) (h5 : PyData.eqv h (.str "let") = false) : Fc (.tuple (h :: rest)) f b m (z + 1) := by
  obtain ⟨c1, c2⟩ := cb_other (rest := rest) h1 h2 h3 h4 h5
  have := Fc.node (ll := []) (rl := []) (bb := false) L hl hmu hcut c1 (r := .none) (mm := 0) (by rw [c2]; exact .none) (fun k => rfl)
  simpa using this
/-- a node that writes, or lends to be written, at a place whose root is local l -/
theorem Fc.changes {h p : PyData} {rest f m : List PyData} {b : Bool} {z mm : Nat} {r : PyData} {rl : List PyData} (L : FcL (h :: rest) f b m z) (hl : ∀ k, isLoc k (.tuple (h :: rest)) = false) (hmu : isMut (.tuple (h :: rest)) = false) (hcut : ∀ k, cut k (.tuple (h :: rest)) = false)
    (hc : CBok (.tuple (h :: rest)) ∧ cb (.tuple (h :: rest)) = p) (hp : RtOk p r mm) (hrl : ∀ k, isLoc k r = hasI rl k) : Fc (.tuple (h :: rest)) f b (rl ++ m) (z + 1) := by
  have := Fc.node (ll := []) (rl := rl) (bb := false) L hl hmu hcut hc.1 (r := r) (mm := mm) (by rw [hc.2]; exact hp) hrl
  simpa using this

local macro_rules | `(tactic| k_extra "nl") => `(tactic| (intro k; simp [isLoc, PyData.eqv, ofStr_inj]))
local macro_rules | `(tactic| k_extra "nm") => `(tactic| simp [isMut, PyData.eqv, ofStr_inj])
local macro_rules | `(tactic| k_extra "nc") => `(tactic| (intro k; simp [cut, PyData.eqv, ofStr_inj]))
local macro_rules | `(tactic| k_extra "nh") => `(tactic| simp [PyData.eqv, ofStr_inj])
theorem F_u8 : Fc u8 [] false [] 3 := Fc.plain (.cons .str (.cons .str .nil)) (by k_extra "nl") (by k_extra "nm") (by k_extra "nc") (by k_extra "nh") (by k_extra "nh") (by k_extra "nh") (by k_extra "nh") (by k_extra "nh")
theorem F_ref (m : Bool) : Fc (refT m) [] false [] 7 := Fc.plain (.cons .str (.cons .none (.cons .bool (.cons F_u8 .nil)))) (by k_extra "nl") (by k_extra "nm") (by k_extra "nc") (by k_extra "nh") (by k_extra "nh") (by k_extra "nh") (by k_extra "nh") (by k_extra "nh")
theorem F_tt : Fc (.tuple [.str "tuple", .tuple []]) [] false [] 3 := Fc.plain (.cons .str (.cons .empty .nil)) (by k_extra "nl") (by k_extra "nm") (by k_extra "nc") (by k_extra "nh") (by k_extra "nh") (by k_extra "nh") (by k_extra "nh") (by k_extra "nh")
theorem F_u8s : Fc (.tuple [u8]) [] false [] 4 := Fc.plain (.cons F_u8 .nil) (by k_extra "nl") (by k_extra "nm") (by k_extra "nc") (by k_extra "nh") (by k_extra "nh") (by k_extra "nh") (by k_extra "nh") (by k_extra "nh")
theorem F_tu : Fc (.tuple [.str "tuple", .tuple [u8]]) [] false [] 6 := Fc.plain (.cons .str (.cons F_u8s .nil)) (by k_extra "nl") (by k_extra "nm") (by k_extra "nc") (by k_extra "nh") (by k_extra "nh") (by k_extra "nh") (by k_extra "nh") (by k_extra "nh")
theorem isLoc_loc (k l : Int) : isLoc k (locT l) = hasI [.int l] k := by simp [isLoc, hasI, PyData.eqv]
theorem F_loc (l : Int) : Fc (locT l) [.int l] false [.int l] 11 := by
  obtain ⟨c1, c2⟩ := cb_other (h := .str "local") (rest := [refT true, .int 0, .int l]) (by k_extra "nh") (by k_extra "nh") (by k_extra "nh") (by k_extra "nh") (by k_extra "nh")
  have := Fc.node (ds := [.str "local", refT true, .int 0, .int l]) (ll := [.int l]) (rl := []) (bb := false) (.cons .str (.cons (F_ref true) (.cons .int (.cons .int .nil)))) (fun k => isLoc_loc k l) (by k_extra "nm") (by k_extra "nc") c1 (r := .none) (mm := 0) (by rw [c2]; exact .none) (fun k => rfl)
  simpa using this
theorem F_derefOf {ty : PyData} {z : Nat} (l : Int) (ht : Fc ty [] false [] z) : Fc (.tuple [.str "deref", ty, .int 0, locT l]) [.int l] false [] (z + 14) := by
  obtain ⟨c1, c2⟩ := cb_other (h := .str "deref") (rest := [ty, .int 0, locT l]) (by k_extra "nh") (by k_extra "nh") (by k_extra "nh") (by k_extra "nh") (by k_extra "nh")
  have L : FcL [.str "deref", ty, .int 0, locT l] [.int l] false [.int l] (1 + (z + (1 + (11 + 0)))) := FcL.cons .str (.cons ht (.cons .int (.cons (F_loc l) .nil)))
  refine ⟨fun k => by rw [occ, L.hf]; simp [isLoc, PyData.eqv, ofStr_inj], by rw [occ, L.hb]; simp [isMut], fun k => ?_, by rw [okD]; exact ⟨.inr ⟨c1, .none, 0, by rw [c2]; exact .none⟩, L.ok⟩, by rw [sz]; have := L.hz; omega⟩
  have e1 : bad k (.tuple [.str "deref", ty, .int 0, locT l]) = false := by unfold bad; rw [c2]; simp [isLoc, PyData.eqv, ofStr_inj, root]
  have e2 : cut k (.tuple [.str "deref", ty, .int 0, locT l]) = hasI [.int l] k := by rw [← isLoc_loc]; simp [cut, PyData.eqv]
  rw [ns, L.hm, e1, e2]
  cases hasI [.int l] k <;> rfl
theorem F_deref (l : Int) : Fc (derefT l) [.int l] false [] 20 := F_derefOf l F_tu
theorem F_field {p : PyData} {l j : Int} {z : Nat} (h : Fc p [.int l] false [] z) : Fc (fieldT p j) [.int l] false [] (z + 7) :=
  (Fc.plain (.cons .str (.cons F_u8 (.cons .int (.cons h (.cons .int .nil))))) (by k_extra "nl") (by k_extra "nm") (by k_extra "nc") (by k_extra "nh") (by k_extra "nh") (by k_extra "nh") (by k_extra "nh") (by k_extra "nh")).congr (fun k => by simp) rfl (fun k => rfl) (by omega)
theorem F_place {p : PyData} {l : Int} (h : PlaceMade l p) : Fc p [.int l] false [] 40 ∧ ∃ mm, RtOk p (locT l) mm := by
  have hl : PlaceOk (locT l) (locT l) 0 := .loc (Nat.le_trans (F_loc l).hz (by decide))
  cases h with
  | zero => exact ⟨(F_deref l).congr (fun k => rfl) rfl (fun k => rfl) (by omega), _, .place (.deref hl)⟩
  | one => exact ⟨(F_field (F_deref l)).congr (fun k => rfl) rfl (fun k => rfl) (by omega), _, .place (.field (.deref hl))⟩
  | two => exact ⟨(F_field (F_field (F_deref l))).congr (fun k => rfl) rfl (fun k => rfl) (by omega), _, .place (.field (.field (.deref hl)))⟩
theorem F_way {w : PyData} (h : w ∈ ways0) : Fc w [] false [] 1 := by
  simp only [ways0, List.mem_cons, List.mem_nil_iff, or_false] at h
  rcases h with rfl | rfl | rfl | rfl <;> exact .str
theorem F_wild : Fc wildT [] false [] 5 := (Fc.plain (.cons .str (.cons F_u8 .nil)) (by k_extra "nl") (by k_extra "nm") (by k_extra "nc") (by k_extra "nh") (by k_extra "nh") (by k_extra "nh") (by k_extra "nh") (by k_extra "nh"))
theorem F_bind {w i : PyData} {j : Int} {b : Bool} {z : Nat} (hw : w ∈ ways0) (hi : Fc i [] b [] z) : Fc (.tuple [.str "bind", u8, .int j, w, i]) [] (PyData.eqv w (.str "mut") || b) [] (z + 7) := by
  obtain ⟨c1, c2⟩ := cb_other (h := .str "bind") (rest := [u8, .int j, w, i]) (by k_extra "nh") (by k_extra "nh") (by k_extra "nh") (by k_extra "nh") (by k_extra "nh")
  have := Fc.node (ds := [.str "bind", u8, .int j, w, i]) (ll := []) (rl := []) (bb := PyData.eqv w (.str "mut")) (.cons .str (.cons F_u8 (.cons .int (.cons (F_way hw) (.cons hi .nil))))) (by intro k; rw [hasI_nil]; simp [isLoc, PyData.eqv, ofStr_inj]) (by rw [isMut5]; simp [PyData.eqv]) (by k_extra "nc") c1 (r := .none) (mm := 0) (by rw [c2]; exact .none) (fun k => rfl)
  exact this.congr (fun k => rfl) (by simp) (fun k => rfl) (by omega)
theorem F_inner {w : PyData} (hw : w ∈ ways0) : Fc (innerT w) [] (PyData.eqv w (.str "mut")) [] 8 := (F_bind hw .none).congr (fun k => rfl) (by simp) (fun k => rfl) (by omega)
theorem F_pat {p : PyData} {b : Bool} (h : PatMade p b) : Fc p [] b [] 40 := by
  cases h with
  | wild => exact F_wild.congr (fun k => rfl) rfl (fun k => rfl) (by omega)
  | inner h => exact (F_inner h).congr (fun k => rfl) rfl (fun k => rfl) (by omega)
  | outer h h' => exact (F_bind h (F_inner h')).congr (fun k => rfl) (by simp) (fun k => rfl) (by omega)
  | fields h =>
    have h2 : Fc (.tuple [innerT _, wildT]) [] _ [] _ := Fc.plain (.cons (F_inner h) (.cons F_wild .nil)) (by k_extra "nl") (by k_extra "nm") (by k_extra "nc") (by k_extra "nh") (by k_extra "nh") (by k_extra "nh") (by k_extra "nh") (by k_extra "nh")
    exact (Fc.plain (.cons .str (.cons F_tu (.cons h2 .nil))) (by k_extra "nl") (by k_extra "nm") (by k_extra "nc") (by k_extra "nh") (by k_extra "nh") (by k_extra "nh") (by k_extra "nh") (by k_extra "nh")).congr (fun k => rfl) (by simp) (fun k => rfl) (by omega)
end PML
section PMF9
local macro_rules | `(tactic| k_extra "evc") => `(tactic| first
  | with_reducible assumption
  | with_reducible exact c_u8 (by assumption) _ _
  | with_reducible exact c_reference (by assumption) _ _ _
  | ((with_reducible show EvF _ _ _ [LV.dat (PyData.list [PyData.tuple _, PyData.list _])] _ _ _); with_reducible exact c_joinedTL (by assumption) _ _ _ _ _ _ _ _ _ _ (by first | assumption | simp) (by first | assumption | simp) (by first | assumption | simp) (by first | assumption | simp))
  | ((with_reducible show EvF _ _ _ [LV.dat (PyData.list [PyData.tuple _, PyData.tuple _])] _ _ _); with_reducible exact c_joinedTT (by assumption) _ _ _ _ _ _ _ _ _ _ (by assumption) (by assumption) (by assumption) (by assumption))
  | ((with_reducible show EvF _ _ _ [LV.dat (PyData.list [PyData.tuple _])] _ _ _); with_reducible exact c_joined1 (by assumption) _ _ _ _ _ _ (by assumption) (by assumption)))
noncomputable def RowOk (row : PyData) (Z : Nat) : Prop := ∃ t f b m, row = rowT t f b m ∧ Fc t f b m Z ∧ f.length ≤ Z ∧ m.length ≤ Z ∧ isTupB t = true
noncomputable def TreeC (K : Cx) (N : Nat) (fl : Int) (Z : Nat) : Prop :=
  ∀ (τ : Sto) (src : List PyData), Inv src → ∃ row src', RowOk row Z ∧ Inv src' ∧ EvF K N "_law_tree" [.mu 0, .dat (.int fl)] (src :: τ) (.dat row) (src' :: τ)
theorem F_const (j : Int) : Fc (.tuple [.str "const", u8, .int 0, .int j]) [] false [] 8 :=
  (Fc.plain (.cons .str (.cons F_u8 (.cons .int (.cons .int .nil)))) (by intro k; simp [isLoc, PyData.eqv, ofStr_inj]) (by simp [isMut, PyData.eqv, ofStr_inj]) (by intro k; simp [cut, PyData.eqv, ofStr_inj]) (by simp [PyData.eqv, ofStr_inj]) (by simp [PyData.eqv, ofStr_inj]) (by simp [PyData.eqv, ofStr_inj]) (by simp [PyData.eqv, ofStr_inj]) (by simp [PyData.eqv, ofStr_inj])).congr (fun k => rfl) rfl (fun k => rfl) (by omega)
section
variable {K : Cx} (hK : K.recs = recs0)
include hK
/-- ways 0, 1 and 2 -/
theorem tree_low (n : Nat) (fl : Int) (τ : Sto) (src src1 : List PyData) (hi1 : Inv src1) (d : Int) (h0 : 0 ≤ d) (h3 : d < 3)
    (hw : (0 < fl ∧ EvF K (n + 5) "_law_take" [.mu 0, .dat (.int 10)] (src :: τ) (.dat (.int d)) (src1 :: τ)) ∨ (¬ 0 < fl ∧ EvF K (n + 5) "_law_take" [.mu 0, .dat (.int 3)] (src :: τ) (.dat (.int d)) (src1 :: τ))) :
    ∃ row src', RowOk row 100 ∧ Inv src' ∧ EvF K (n + 6) "_law_tree" [.mu 0, .dat (.int fl)] (src :: τ) (.dat row) (src' :: τ) := by
  have hc : d = 0 ∨ d = 1 ∨ d = 2 := by omega
  rcases hc with rfl | rfl | rfl
  · obtain ⟨j, src2, _, _, hi2, hev2⟩ := c_take hK (n + 4) τ src1 hi1 9 (by decide) (by decide)
    refine ⟨rowT _ _ _ _, src2, ⟨_, _, _, _, rfl, (F_const j).congr (fun k => rfl) rfl (fun k => rfl) (by omega), by simp, by simp, rfl⟩, hi2, ?_⟩
    rcases hw with ⟨hp, hev⟩ | ⟨hp, hev⟩
    · have hp' : decide (0 < fl) = true := decide_eq_true hp
      refine e_law_tree hK ?_
      k_extra "open"
      k_extra "eb"
    · have hp' : decide (0 < fl) = false := decide_eq_false hp
      refine e_law_tree hK ?_
      k_extra "open"
      k_extra "eb"
  · obtain ⟨l, src2, hl0, hl4, hi2, hev2⟩ := c_behind hK (n + 2) τ src1 hi1
    refine ⟨rowT _ _ _ _, src2, ⟨_, _, _, _, rfl, (F_derefOf l F_u8).congr (fun k => rfl) rfl (fun k => rfl) (by omega), by simp, by simp, rfl⟩, hi2, ?_⟩
    rcases hw with ⟨hp, hev⟩ | ⟨hp, hev⟩
    · have hp' : decide (0 < fl) = true := decide_eq_true hp
      refine e_law_tree hK ?_
      k_extra "open"
      k_extra "eb"
    · have hp' : decide (0 < fl) = false := decide_eq_false hp
      refine e_law_tree hK ?_
      k_extra "open"
      k_extra "eb"
  · obtain ⟨j, src2, hj0, hj3, hi2, hev2⟩ := c_take hK (n + 4) τ src1 hi1 3 (by decide) (by decide)
    by_cases hj : 0 < j
    · have hj' : decide (0 < j) = true := decide_eq_true hj
      obtain ⟨l, src3, hl0, hl4, hi3, hev3⟩ := c_behind hK (n + 2) τ src2 hi2
      refine ⟨rowT _ _ _ _, src3, ⟨_, _, _, _, rfl, (F_derefOf l F_u8).congr (fun k => rfl) rfl (fun k => rfl) (by omega), by simp, by simp, rfl⟩, hi3, ?_⟩
      rcases hw with ⟨hp, hev⟩ | ⟨hp, hev⟩
      · have hp' : decide (0 < fl) = true := decide_eq_true hp
        refine e_law_tree hK ?_
        k_extra "open"
        k_extra "eb"
      · have hp' : decide (0 < fl) = false := decide_eq_false hp
        refine e_law_tree hK ?_
        k_extra "open"
        k_extra "eb"
    · have hj' : decide (0 < j) = false := decide_eq_false hj
      obtain ⟨l, src3, hl0, hl4, hi3, hev3⟩ := c_local hK (n + 2) τ src2 hi2
      refine ⟨rowT _ _ _ _, src3, ⟨_, _, _, _, rfl, (F_loc l).congr (fun k => rfl) rfl (fun k => rfl) (by omega), by simp, by simp, rfl⟩, hi3, ?_⟩
      rcases hw with ⟨hp, hev⟩ | ⟨hp, hev⟩
      · have hp' : decide (0 < fl) = true := decide_eq_true hp
        refine e_law_tree hK ?_
        k_extra "open"
        k_extra "eb"
      · have hp' : decide (0 < fl) = false := decide_eq_false hp
        refine e_law_tree hK ?_
        k_extra "open"
        k_extra "eb"
end
end PMF9
section PML2
local macro_rules | `(tactic| k_extra "nl") => `(tactic| (intro k; simp [isLoc, PyData.eqv, ofStr_inj]))
local macro_rules | `(tactic| k_extra "nm") => `(tactic| simp [isMut, PyData.eqv, ofStr_inj])
local macro_rules | `(tactic| k_extra "nc") => `(tactic| (intro k; simp [cut, PyData.eqv, ofStr_inj]))
local macro_rules | `(tactic| k_extra "nh") => `(tactic| simp [PyData.eqv, ofStr_inj])
theorem isLoc_none (k : Int) : isLoc k .none = hasI [] k := rfl
theorem hasI_swap (f g : List PyData) (k : Int) : hasI (f ++ g) k = hasI (g ++ f) k := by rw [hasI_append, hasI_append, Bool.or_comm]
section
variable {t t' p : PyData} {f f' m m' : List PyData} {b b' : Bool} {z z' : Nat} {l : Int}
theorem F_binary (h : Fc t f b m z) (h' : Fc t' f' b' m' z') : Fc (.tuple [.str "binary", u8, .int 0, .str "+", t, t']) ([] ++ f ++ f') (false || b || b') ([] ++ m ++ m') (z + z' + 7) :=
  (Fc.plain (.cons .str (.cons F_u8 (.cons .int (.cons .str (.cons h (.cons h' .nil)))))) (by k_extra "nl") (by k_extra "nm") (by k_extra "nc") (by k_extra "nh") (by k_extra "nh") (by k_extra "nh") (by k_extra "nh") (by k_extra "nh")).congr (fun k => by simp) (by simp) (fun k => by simp) (by omega)
theorem eqv_tup {x : Str} (h : isTupB t = true) : PyData.eqv t (.str x) = false := by
  cases t with
  | tuple ds => rfl
  | _ => cases h
theorem F_one (h : Fc t f b m z) (ht : isTupB t = true) : Fc (.tuple [t]) f b m (z + 1) :=
  (Fc.plain (.cons h .nil) (by k_extra "nl") (by k_extra "nm") (by k_extra "nc") (eqv_tup ht) (eqv_tup ht) (eqv_tup ht) (eqv_tup ht) (eqv_tup ht)).congr (fun k => by simp) (by simp) (fun k => by simp) (by omega)
theorem F_two (h : Fc t f b m z) (ht : isTupB t = true) (h' : Fc t' f' b' m' z') : Fc (.tuple [t, t']) (f ++ f') (b || b') (m ++ m') (z + z' + 1) :=
  (Fc.plain (.cons h (.cons h' .nil)) (by k_extra "nl") (by k_extra "nm") (by k_extra "nc") (eqv_tup ht) (eqv_tup ht) (eqv_tup ht) (eqv_tup ht) (eqv_tup ht)).congr (fun k => by simp) (by simp) (fun k => by simp) (by omega)
theorem F_tupleOf {q : PyData} (h : Fc q f b m z) : Fc (.tuple [.str "tuple", .tuple [.str "tuple", .tuple []], .int 0, q]) f b m (z + 6) :=
  (Fc.plain (.cons .str (.cons F_tt (.cons .int (.cons h .nil)))) (by k_extra "nl") (by k_extra "nm") (by k_extra "nc") (by k_extra "nh") (by k_extra "nh") (by k_extra "nh") (by k_extra "nh") (by k_extra "nh")).congr (fun k => by simp) (by simp) (fun k => by simp) (by omega)
theorem F_assign (hp : PlaceMade l p) (h : Fc t f b m z) : Fc (.tuple [.str "assign", .tuple [.str "tuple", .tuple []], .int 0, p, t]) ([] ++ f ++ [.int l]) (false || b || false) ([] ++ m ++ [] ++ [.int l]) (z + 50) := by
  obtain ⟨fp, mm, rt⟩ := F_place hp
  exact (Fc.changes (.cons .str (.cons F_tt (.cons .int (.cons fp (.cons h .nil))))) (by k_extra "nl") (by k_extra "nm") (by k_extra "nc") cb_assign rt (fun k => isLoc_loc k l)).congr
    (fun k => by simp [hasI, Bool.or_comm, Bool.or_left_comm]) (by simp) (fun k => by simp [hasI, Bool.or_comm, Bool.or_left_comm]) (by omega)
theorem F_update {x : Str} (hp : PlaceMade l p) (h : Fc t f b m z) : Fc (.tuple [.str "update", .tuple [.str "tuple", .tuple []], .int 0, .str x, p, t]) ([] ++ f ++ [.int l]) (false || b || false) ([] ++ m ++ [] ++ [.int l]) (z + 50) := by
  obtain ⟨fp, mm, rt⟩ := F_place hp
  exact (Fc.changes (.cons .str (.cons F_tt (.cons .int (.cons .str (.cons fp (.cons h .nil)))))) (by k_extra "nl") (by k_extra "nm") (by k_extra "nc") cb_update rt (fun k => isLoc_loc k l)).congr
    (fun k => by simp [hasI, Bool.or_comm, Bool.or_left_comm]) (by simp) (fun k => by simp [hasI, Bool.or_comm, Bool.or_left_comm]) (by omega)
theorem F_borrowT {x : Str} (hp : PlaceMade l p) : Fc (.tuple [.str "borrow", refT true, .int 0, .str x, p]) [.int l] false [.int l] 60 := by
  obtain ⟨fp, mm, rt⟩ := F_place hp
  exact (Fc.changes (.cons .str (.cons (F_ref true) (.cons .int (.cons .str (.cons fp .nil))))) (by k_extra "nl") (by k_extra "nm") (by k_extra "nc") cb_borrowT rt (fun k => isLoc_loc k l)).congr
    (fun k => by simp) (by simp) (fun k => by simp) (by omega)
theorem F_borrowF {x : Str} (hp : PlaceMade l p) : Fc (.tuple [.str "borrow", refT false, .int 0, .str x, p]) [.int l] false [] 60 := by
  obtain ⟨fp, mm, rt⟩ := F_place hp
  exact (Fc.changes (.cons .str (.cons (F_ref false) (.cons .int (.cons .str (.cons fp .nil))))) (by k_extra "nl") (by k_extra "nm") (by k_extra "nc") cb_borrowF .none isLoc_none).congr
    (fun k => by simp) (by simp) (fun k => by simp) (by omega)
/-- the locals that a binding at the place changes -/
noncomputable def rl (l : Int) (b : Bool) : List PyData := if b then [.int l] else []
theorem F_let {q : PyData} {c : Bool} (hq : PatMade q c) (hp : PlaceMade l p) : Fc (.tuple [.str "let", .int 0, q, p]) [.int l] c (rl l c) 90 := by
  obtain ⟨fp, mm, rt⟩ := F_place hp
  have fq := F_pat hq
  have hz : sz q ≤ 1000000 := Nat.le_trans fq.hz (by decide)
  cases c with
  | true => exact (Fc.changes (.cons .str (.cons .int (.cons fq (.cons fp .nil)))) (by k_extra "nl") (by k_extra "nm") (by k_extra "nc") (cb_letT hz fq.hb) rt (fun k => isLoc_loc k l)).congr (fun k => by simp) (by simp) (fun k => by simp [rl]) (by omega)
  | false => exact (Fc.changes (.cons .str (.cons .int (.cons fq (.cons fp .nil)))) (by k_extra "nl") (by k_extra "nm") (by k_extra "nc") (cb_letF hz fq.hb) .none isLoc_none).congr (fun k => by simp) (by simp) (fun k => by simp [rl]) (by omega)
theorem F_block {q : PyData} {c : Bool} (hq : PatMade q c) (hp : PlaceMade l p) (h : Fc t f b m z) : Fc (.tuple [.str "block", u8, .int 0, .tuple [.tuple [.str "let", .int 0, q, p]], t]) ([] ++ f ++ [.int l]) (c || b) ([] ++ m ++ [] ++ rl l c) (z + 100) :=
  (Fc.plain (.cons .str (.cons F_u8 (.cons .int (.cons (F_one (F_let hq hp) rfl) (.cons h .nil))))) (by k_extra "nl") (by k_extra "nm") (by k_extra "nc") (by k_extra "nh") (by k_extra "nh") (by k_extra "nh") (by k_extra "nh") (by k_extra "nh")).congr
    (fun k => by simp [hasI, Bool.or_comm, Bool.or_left_comm]) (by simp) (fun k => by simp [hasI, Bool.or_comm, Bool.or_left_comm]) (by omega)
theorem patTup {q : PyData} {c : Bool} (hq : PatMade q c) : isTupB q = true := by cases hq <;> rfl
theorem F_arm {q : PyData} {c : Bool} (hq : PatMade q c) (h : Fc t f b m z) : Fc (.tuple [q, .none, t]) f (c || b) m (z + 42) := by
  have ht := patTup hq
  exact (Fc.plain (.cons (F_pat hq) (.cons .none (.cons h .nil))) (by k_extra "nl") (by k_extra "nm") (by k_extra "nc") (eqv_tup ht) (eqv_tup ht) (eqv_tup ht) (eqv_tup ht) (eqv_tup ht)).congr (fun k => by simp) (by simp) (fun k => by simp) (by omega)
theorem F_match {q : PyData} {c : Bool} (hq : PatMade q c) (hp : PlaceMade l p) (h : Fc t f b m z) (hzz : z ≤ 100000) : Fc (.tuple [.str "match", u8, .int 0, p, .tuple [.tuple [q, .none, t]]]) ([] ++ f ++ [.int l]) (c || b) ([] ++ m ++ [] ++ rl l (c || b)) (z + 100) := by
  obtain ⟨fp, mm, rt⟩ := F_place hp
  have fa := F_one (F_arm hq h) rfl
  have hz : sz (.tuple [.tuple [q, .none, t]]) ≤ 1000000 := Nat.le_trans fa.hz (by omega)
  have hb := fa.hb
  cases hcb : (c || b) with
  | true =>
    rw [hcb] at hb fa
    exact (Fc.changes (.cons .str (.cons F_u8 (.cons .int (.cons fp (.cons fa .nil))))) (by k_extra "nl") (by k_extra "nm") (by k_extra "nc") (cb_matchT hz hb) rt (fun k => isLoc_loc k l)).congr
      (fun k => by simp [hasI, Bool.or_comm, Bool.or_left_comm]) (by simp) (fun k => by simp [hasI, Bool.or_comm, Bool.or_left_comm, rl]) (by omega)
  | false =>
    rw [hcb] at hb fa
    exact (Fc.changes (.cons .str (.cons F_u8 (.cons .int (.cons fp (.cons fa .nil))))) (by k_extra "nl") (by k_extra "nm") (by k_extra "nc") (cb_matchF hz hb) .none isLoc_none).congr
      (fun k => by simp [hasI, Bool.or_comm, Bool.or_left_comm]) (by simp) (fun k => by simp [hasI, Bool.or_comm, Bool.or_left_comm, rl]) (by omega)
end
end PML2
section PMF10
local macro_rules | `(tactic| k_extra "evc") => `(tactic| first
  | with_reducible assumption
  | with_reducible exact c_u8 (by assumption) _ _
  | with_reducible exact c_reference (by assumption) _ _ _
  | ((with_reducible show EvF _ _ _ [LV.dat (PyData.list [PyData.tuple _, PyData.list _])] _ _ _); with_reducible exact c_joinedTL (by assumption) _ _ _ _ _ _ _ _ _ _ (by first | assumption | simp) (by first | assumption | simp) (by first | assumption | simp) (by first | assumption | simp))
  | ((with_reducible show EvF _ _ _ [LV.dat (PyData.list [PyData.tuple _, PyData.tuple _])] _ _ _); with_reducible exact c_joinedTT (by assumption) _ _ _ _ _ _ _ _ _ _ (by assumption) (by assumption) (by assumption) (by assumption))
  | ((with_reducible show EvF _ _ _ [LV.dat (PyData.list [PyData.tuple _])] _ _ _); with_reducible exact c_joined1 (by assumption) _ _ _ _ _ _ (by assumption) (by assumption)))
section
variable {K : Cx} (hK : K.recs = recs0)
include hK
/-- what stands when the way is drawn and the first part is made -/
structure One (K : Cx) (n : Nat) (fl : Int) (Z : Nat) (τ : Sto) (src src1 src2 : List PyData) (d : Int) (t : PyData) (f : List PyData) (b : Bool) (m : List PyData) : Prop where
  hp : decide (0 < fl) = true
  hev : EvF K (n + 5) "_law_take" [.mu 0, .dat (.int 10)] (src :: τ) (.dat (.int d)) (src1 :: τ)
  hev1 : EvF K (n + 5) "_law_tree" [.mu 0, .dat (.int (fl - 1))] (src1 :: τ) (.dat (rowT t f b m)) (src2 :: τ)
  hi : Inv src2
  F : Fc t f b m Z
  lf : f.length ≤ Z
  lm : m.length ≤ Z
  ht : isTupB t = true
  hZ : Z ≤ 10000
theorem tree_3 (n : Nat) (fl : Int) (Z : Nat) (τ : Sto) (src src1 src2 : List PyData) (t : PyData) (f : List PyData) (b : Bool) (m : List PyData) (O : One K n fl Z τ src src1 src2 3 t f b m) (T : TreeC K (n + 5) (fl - 1) Z) :
    ∃ row src', RowOk row (2 * Z + 200) ∧ Inv src' ∧ EvF K (n + 6) "_law_tree" [.mu 0, .dat (.int fl)] (src :: τ) (.dat row) (src' :: τ) := by
  obtain ⟨hp, hev, hev1, hi, F, lf, lm, ht, hZ⟩ := O
  obtain ⟨row, src3, ⟨t', f', b', m', rfl, F', lf', lm', ht'⟩, hi3, hev2⟩ := T τ src2 hi
  have l1 : f.length ≤ 1000000 := by omega
  have l2 : m.length ≤ 1000000 := by omega
  have l3 : f'.length ≤ 1000000 := by omega
  have l4 : m'.length ≤ 1000000 := by omega
  refine ⟨rowT _ _ _ _, src3, ⟨_, _, _, _, rfl, (F_binary F F').congr (fun k => rfl) rfl (fun k => rfl) (by omega), by simp; omega, by simp; omega, rfl⟩, hi3, ?_⟩
  refine e_law_tree hK ?_
  k_extra "open"
  k_extra "eb"
end
end PMF10
section PMF11
local macro_rules | `(tactic| k_extra "evc") => `(tactic| first
  | with_reducible assumption
  | with_reducible exact c_u8 (by assumption) _ _
  | with_reducible exact c_reference (by assumption) _ _ _
  | ((with_reducible show EvF _ _ _ [LV.dat (PyData.list [PyData.tuple _, PyData.list _])] _ _ _); with_reducible exact c_joinedTL (by assumption) _ _ _ _ _ _ _ _ _ _ (by first | assumption | simp) (by first | assumption | simp) (by first | assumption | simp) (by first | assumption | simp))
  | ((with_reducible show EvF _ _ _ [LV.dat (PyData.list [PyData.tuple _, PyData.tuple _])] _ _ _); with_reducible exact c_joinedTT (by assumption) _ _ _ _ _ _ _ _ _ _ (by assumption) (by assumption) (by assumption) (by assumption))
  | ((with_reducible show EvF _ _ _ [LV.dat (PyData.list [PyData.tuple _])] _ _ _); with_reducible exact c_joined1 (by assumption) _ _ _ _ _ _ (by assumption) (by assumption)))
section
variable {K : Cx} (hK : K.recs = recs0)
include hK
theorem tree_4 (n : Nat) (fl : Int) (Z : Nat) (τ : Sto) (src src1 src2 : List PyData) (t : PyData) (f : List PyData) (b : Bool) (m : List PyData) (O : One K n fl Z τ src src1 src2 4 t f b m) (T : TreeC K (n + 5) (fl - 1) Z) :
    ∃ row src', RowOk row (2 * Z + 200) ∧ Inv src' ∧ EvF K (n + 6) "_law_tree" [.mu 0, .dat (.int fl)] (src :: τ) (.dat row) (src' :: τ) := by
  obtain ⟨hp, hev, hev1, hi, F, lf, lm, ht, hZ⟩ := O
  have l1 : f.length ≤ 1000000 := by omega
  have l2 : m.length ≤ 1000000 := by omega
  obtain ⟨j, src3, hj0, hj2, hi3, hev2⟩ := c_take hK (n + 4) τ src2 hi 2 (by decide) (by decide)
  have hc : j = 0 ∨ j = 1 := by omega
  rcases hc with rfl | rfl
  · refine ⟨rowT _ ([] ++ f) (false || b) ([] ++ m), src3, ⟨_, _, _, _, rfl, (F_tupleOf (F_one F ht)).congr (fun k => by simp) (by simp) (fun k => by simp) (by omega), by simp; omega, by simp; omega, rfl⟩, hi3, ?_⟩
    refine e_law_tree hK ?_
    k_extra "open"
    k_extra "eb"
  · obtain ⟨row, src4, ⟨t', f', b', m', rfl, F', lf', lm', ht'⟩, hi4, hev3⟩ := T (τ ++ [[]]) src3 hi3
    have l3 : f'.length ≤ 1000000 := by omega
    have l4 : m'.length ≤ 1000000 := by omega
    refine ⟨rowT _ ([] ++ f ++ f') (false || b || b') ([] ++ m ++ m'), src4, ⟨_, _, _, _, rfl, (F_tupleOf (F_two F ht F')).congr (fun k => by simp) (by simp) (fun k => by simp) (by omega), by simp; omega, by simp; omega, rfl⟩, hi4, ?_⟩
    refine e_law_tree hK ?_
    k_extra "open"
    k_extra "eb"
end
end PMF11
section PMF12
local macro_rules | `(tactic| k_extra "evc") => `(tactic| first
  | with_reducible assumption
  | with_reducible exact c_u8 (by assumption) _ _
  | with_reducible exact c_reference (by assumption) _ _ _
  | ((with_reducible show EvF _ _ _ [LV.dat (PyData.list [PyData.tuple _, PyData.list _])] _ _ _); with_reducible exact c_joinedTL (by assumption) _ _ _ _ _ _ _ _ _ _ (by first | assumption | simp) (by first | assumption | simp) (by first | assumption | simp) (by first | assumption | simp))
  | ((with_reducible show EvF _ _ _ [LV.dat (PyData.list [PyData.tuple _, PyData.tuple _])] _ _ _); with_reducible exact c_joinedTT (by assumption) _ _ _ _ _ _ _ _ _ _ (by assumption) (by assumption) (by assumption) (by assumption))
  | ((with_reducible show EvF _ _ _ [LV.dat (PyData.list [PyData.tuple _])] _ _ _); with_reducible exact c_joined1 (by assumption) _ _ _ _ _ _ (by assumption) (by assumption)))
section
variable {K : Cx} (hK : K.recs = recs0)
include hK
theorem tree_5 (n : Nat) (fl : Int) (Z : Nat) (τ : Sto) (src src1 src2 : List PyData) (t : PyData) (f : List PyData) (b : Bool) (m : List PyData) (O : One K n fl Z τ src src1 src2 5 t f b m):
    ∃ row src', RowOk row (2 * Z + 200) ∧ Inv src' ∧ EvF K (n + 6) "_law_tree" [.mu 0, .dat (.int fl)] (src :: τ) (.dat row) (src' :: τ) := by
  obtain ⟨hp, hev, hev1, hi, F, lf, lm, ht, hZ⟩ := O
  have l1 : f.length ≤ 1000000 := by omega
  have l2 : m.length ≤ 1000000 := by omega
  obtain ⟨l, p, src3, hl0, hl4, hpm, hi3, hev2⟩ := c_place hK (n + 2) τ src2 hi
  refine ⟨rowT _ _ _ _, src3, ⟨_, _, _, _, rfl, (F_assign hpm F).congr (fun k => rfl) rfl (fun k => rfl) (by omega), by simp; omega, by simp; omega, rfl⟩, hi3, ?_⟩
  refine e_law_tree hK ?_
  k_extra "open"
  k_extra "eb"
theorem tree_6 (n : Nat) (fl : Int) (Z : Nat) (τ : Sto) (src src1 src2 : List PyData) (t : PyData) (f : List PyData) (b : Bool) (m : List PyData) (O : One K n fl Z τ src src1 src2 6 t f b m):
    ∃ row src', RowOk row (2 * Z + 200) ∧ Inv src' ∧ EvF K (n + 6) "_law_tree" [.mu 0, .dat (.int fl)] (src :: τ) (.dat row) (src' :: τ) := by
  obtain ⟨hp, hev, hev1, hi, F, lf, lm, ht, hZ⟩ := O
  have l1 : f.length ≤ 1000000 := by omega
  have l2 : m.length ≤ 1000000 := by omega
  obtain ⟨l, p, src3, hl0, hl4, hpm, hi3, hev2⟩ := c_place hK (n + 2) τ src2 hi
  refine ⟨rowT _ _ _ _, src3, ⟨_, _, _, _, rfl, (F_update (x := "+") hpm F).congr (fun k => rfl) rfl (fun k => rfl) (by omega), by simp; omega, by simp; omega, rfl⟩, hi3, ?_⟩
  refine e_law_tree hK ?_
  k_extra "open"
  k_extra "eb"
theorem tree_7 (n : Nat) (fl : Int) (Z : Nat) (τ : Sto) (src src1 src2 : List PyData) (t : PyData) (f : List PyData) (b : Bool) (m : List PyData) (O : One K n fl Z τ src src1 src2 7 t f b m):
    ∃ row src', RowOk row (2 * Z + 200) ∧ Inv src' ∧ EvF K (n + 6) "_law_tree" [.mu 0, .dat (.int fl)] (src :: τ) (.dat row) (src' :: τ) := by
  obtain ⟨hp, hev, hev1, hi, F, lf, lm, ht, hZ⟩ := O
  have l1 : f.length ≤ 1000000 := by omega
  have l2 : m.length ≤ 1000000 := by omega
  obtain ⟨l, p, src3, hl0, hl4, hpm, hi3, hev2⟩ := c_place hK (n + 2) τ src2 hi
  obtain ⟨j, src4, hj0, hj2, hi4, hev3⟩ := c_take hK (n + 4) τ src3 hi3 2 (by decide) (by decide)
  have hc : j = 0 ∨ j = 1 := by omega
  rcases hc with rfl | rfl
  · refine ⟨rowT (.tuple [.str "borrow", refT (PyData.eqv (.int 0) (.int 0)), .int 0, .str "mut", p]) [.int l] false (List.replicate (if PyData.eqv (.int 0) (.int 0) then (1 : Int) else 0).toNat [.int l]).flatten, src4, ⟨_, _, _, _, rfl, (F_borrowT (x := "mut") hpm).congr (fun k => rfl) rfl (fun k => rfl) (by omega), by simp, by simp [PyData.eqv], rfl⟩, hi4, ?_⟩
    refine e_law_tree hK ?_
    k_extra "open"
    k_extra "eb"
  · refine ⟨rowT (.tuple [.str "borrow", refT (PyData.eqv (.int 1) (.int 0)), .int 0, .str "shared", p]) [.int l] false (List.replicate (if PyData.eqv (.int 1) (.int 0) then (1 : Int) else 0).toNat [.int l]).flatten, src4, ⟨_, _, _, _, rfl, (F_borrowF (x := "shared") hpm).congr (fun k => rfl) rfl (fun k => rfl) (by omega), by simp, by simp [PyData.eqv], rfl⟩, hi4, ?_⟩
    refine e_law_tree hK ?_
    k_extra "open"
    k_extra "eb"
end
end PMF12
section PMF13
local macro_rules | `(tactic| k_extra "evc") => `(tactic| first
  | with_reducible assumption
  | with_reducible exact c_u8 (by assumption) _ _
  | with_reducible exact c_reference (by assumption) _ _ _
  | ((with_reducible show EvF _ _ _ [LV.dat (PyData.list [PyData.tuple _, PyData.list _])] _ _ _); with_reducible exact c_joinedTL (by assumption) _ _ _ _ _ _ _ _ _ _ (by first | assumption | simp) (by first | assumption | simp) (by first | assumption | simp) (by first | assumption | simp))
  | ((with_reducible show EvF _ _ _ [LV.dat (PyData.list [PyData.tuple _, PyData.tuple _])] _ _ _); with_reducible exact c_joinedTT (by assumption) _ _ _ _ _ _ _ _ _ _ (by assumption) (by assumption) (by assumption) (by assumption))
  | ((with_reducible show EvF _ _ _ [LV.dat (PyData.list [PyData.tuple _])] _ _ _); with_reducible exact c_joined1 (by assumption) _ _ _ _ _ _ (by assumption) (by assumption)))
section
variable {K : Cx} (hK : K.recs = recs0)
include hK
theorem tree_8 (n : Nat) (fl : Int) (Z : Nat) (τ : Sto) (src src1 src2 : List PyData) (t : PyData) (f : List PyData) (b : Bool) (m : List PyData) (O : One K n fl Z τ src src1 src2 8 t f b m):
    ∃ row src', RowOk row (2 * Z + 200) ∧ Inv src' ∧ EvF K (n + 6) "_law_tree" [.mu 0, .dat (.int fl)] (src :: τ) (.dat row) (src' :: τ) := by
  obtain ⟨hp, hev, hev1, hi, F, lf, lm, ht, hZ⟩ := O
  have l1 : f.length ≤ 1000000 := by omega
  have l2 : m.length ≤ 1000000 := by omega
  obtain ⟨l, p, src3, hl0, hl4, hpm, hi3, hev2⟩ := c_place hK (n + 2) τ src2 hi
  obtain ⟨q, c, src4, hq, hi4, hev3⟩ := c_pattern hK (n + 2) τ src3 hi3
  have FF := F_block hq hpm F
  cases c with
  | true =>
    refine ⟨rowT _ ([] ++ f ++ [.int l]) _ _, src4, ⟨_, _, _, _, rfl, FF.congr (fun k => rfl) (b' := true) (by simp) (m' := [] ++ m ++ [] ++ (List.replicate (if true then (1 : Int) else 0).toNat [.int l]).flatten) (fun k => by simp [rl]) (by omega), by simp; omega, by simp; omega, rfl⟩, hi4, ?_⟩
    refine e_law_tree hK ?_
    k_extra "open"
    k_extra "eb"
  | false =>
    cases b with
    | true =>
      refine ⟨rowT _ ([] ++ f ++ [.int l]) _ _, src4, ⟨_, _, _, _, rfl, FF.congr (fun k => rfl) (b' := (false || true || false)) (by simp) (m' := [] ++ m ++ [] ++ (List.replicate (if false then (1 : Int) else 0).toNat [.int l]).flatten) (fun k => by simp [rl]) (by omega), by simp; omega, by simp; omega, rfl⟩, hi4, ?_⟩
      refine e_law_tree hK ?_
      k_extra "open"
      k_extra "eb"
    | false =>
      refine ⟨rowT _ ([] ++ f ++ [.int l]) _ _, src4, ⟨_, _, _, _, rfl, FF.congr (fun k => rfl) (b' := (false || false || false)) (by simp) (m' := [] ++ m ++ [] ++ (List.replicate (if false then (1 : Int) else 0).toNat [.int l]).flatten) (fun k => by simp [rl]) (by omega), by simp; omega, by simp; omega, rfl⟩, hi4, ?_⟩
      refine e_law_tree hK ?_
      k_extra "open"
      k_extra "eb"
end
end PMF13
section PMF14
local macro_rules | `(tactic| k_extra "evc") => `(tactic| first
  | with_reducible assumption
  | with_reducible exact c_u8 (by assumption) _ _
  | with_reducible exact c_reference (by assumption) _ _ _
  | ((with_reducible show EvF _ _ _ [LV.dat (PyData.list [PyData.tuple _, PyData.list _])] _ _ _); with_reducible exact c_joinedTL (by assumption) _ _ _ _ _ _ _ _ _ _ (by first | assumption | simp) (by first | assumption | simp) (by first | assumption | simp) (by first | assumption | simp))
  | ((with_reducible show EvF _ _ _ [LV.dat (PyData.list [PyData.tuple _, PyData.tuple _])] _ _ _); with_reducible exact c_joinedTT (by assumption) _ _ _ _ _ _ _ _ _ _ (by assumption) (by assumption) (by assumption) (by assumption))
  | ((with_reducible show EvF _ _ _ [LV.dat (PyData.list [PyData.tuple _])] _ _ _); with_reducible exact c_joined1 (by assumption) _ _ _ _ _ _ (by assumption) (by assumption)))
section
variable {K : Cx} (hK : K.recs = recs0)
include hK
theorem tree_9 (n : Nat) (fl : Int) (Z : Nat) (τ : Sto) (src src1 src2 : List PyData) (t : PyData) (f : List PyData) (b : Bool) (m : List PyData) (O : One K n fl Z τ src src1 src2 9 t f b m):
    ∃ row src', RowOk row (2 * Z + 200) ∧ Inv src' ∧ EvF K (n + 6) "_law_tree" [.mu 0, .dat (.int fl)] (src :: τ) (.dat row) (src' :: τ) := by
  obtain ⟨hp, hev, hev1, hi, F, lf, lm, ht, hZ⟩ := O
  have l1 : f.length ≤ 1000000 := by omega
  have l2 : m.length ≤ 1000000 := by omega
  obtain ⟨l, p, src3, hl0, hl4, hpm, hi3, hev2⟩ := c_place hK (n + 2) τ src2 hi
  obtain ⟨q, c, src4, hq, hi4, hev3⟩ := c_pattern hK (n + 2) τ src3 hi3
  have FF := F_match hq hpm F (by omega)
  cases c with
  | true =>
    refine ⟨rowT _ ([] ++ f ++ [.int l]) _ _, src4, ⟨_, _, _, _, rfl, FF.congr (fun k => rfl) (b' := true) (by simp) (m' := [] ++ m ++ [] ++ (List.replicate (if true then (1 : Int) else 0).toNat [.int l]).flatten) (fun k => by simp [rl]) (by omega), by simp; omega, by simp; omega, rfl⟩, hi4, ?_⟩
    refine e_law_tree hK ?_
    k_extra "open"
    k_extra "eb"
  | false =>
    cases b with
    | true =>
      refine ⟨rowT _ ([] ++ f ++ [.int l]) _ _, src4, ⟨_, _, _, _, rfl, FF.congr (fun k => rfl) (b' := (false || true || false)) (by simp) (m' := [] ++ m ++ [] ++ (List.replicate (if (false || true || false) then (1 : Int) else 0).toNat [.int l]).flatten) (fun k => by simp [rl]) (by omega), by simp; omega, by simp; omega, rfl⟩, hi4, ?_⟩
      refine e_law_tree hK ?_
      k_extra "open"
      k_extra "eb"
    | false =>
      refine ⟨rowT _ ([] ++ f ++ [.int l]) _ _, src4, ⟨_, _, _, _, rfl, FF.congr (fun k => rfl) (b' := (false || false || false)) (by simp) (m' := [] ++ m ++ [] ++ (List.replicate (if (false || false || false) then (1 : Int) else 0).toNat [.int l]).flatten) (fun k => by simp [rl]) (by omega), by simp; omega, by simp; omega, rfl⟩, hi4, ?_⟩
      refine e_law_tree hK ?_
      k_extra "open"
      k_extra "eb"
end
end PMF14
section PMF15
section
variable {K : Cx} (hK : K.recs = recs0)
include hK
omit hK in
theorem RowOk.mono {row : PyData} {Z Z' : Nat} (h : RowOk row Z) (hz : Z ≤ Z') : RowOk row Z' := by
  obtain ⟨t, f, b, m, e, F, l1, l2, ht⟩ := h
  exact ⟨t, f, b, m, e, F.congr (fun _ => rfl) rfl (fun _ => rfl) hz, Nat.le_trans l1 hz, Nat.le_trans l2 hz, ht⟩
theorem tree_base (n : Nat) : TreeC K (n + 6) 0 100 := by
  intro τ src hi
  obtain ⟨d, src1, h0, hd, hi1, hev⟩ := c_take hK (n + 4) τ src hi 3 (by decide) (by decide)
  exact tree_low hK n 0 τ src src1 hi1 d h0 hd (.inr ⟨by decide, hev⟩)
theorem tree_step (n : Nat) (fl : Int) (hp : 0 < fl) (Z : Nat) (hZ : Z ≤ 10000) (T : TreeC K (n + 5) (fl - 1) Z) : TreeC K (n + 6) fl (2 * Z + 200) := by
  intro τ src hi
  obtain ⟨d, src1, h0, hd, hi1, hev⟩ := c_take hK (n + 4) τ src hi 10 (by decide) (by decide)
  by_cases h3 : d < 3
  · obtain ⟨row, src', h1, h2, h4⟩ := tree_low hK n fl τ src src1 hi1 d h0 h3 (.inl ⟨hp, hev⟩)
    exact ⟨row, src', h1.mono (by omega), h2, h4⟩
  · obtain ⟨row, src2, ⟨t, f, b, m, rfl, F, lf, lm, ht⟩, hi2, hev1⟩ := T τ src1 hi1
    have O : One K n fl Z τ src src1 src2 d t f b m := ⟨decide_eq_true hp, hev, hev1, hi2, F, lf, lm, ht, hZ⟩
    have hc : d = 3 ∨ d = 4 ∨ d = 5 ∨ d = 6 ∨ d = 7 ∨ d = 8 ∨ d = 9 := by omega
    rcases hc with rfl | rfl | rfl | rfl | rfl | rfl | rfl
    · exact tree_3 hK n fl Z τ src src1 src2 t f b m O T
    · exact tree_4 hK n fl Z τ src src1 src2 t f b m O T
    · exact tree_5 hK n fl Z τ src src1 src2 t f b m O
    · exact tree_6 hK n fl Z τ src src1 src2 t f b m O
    · exact tree_7 hK n fl Z τ src src1 src2 t f b m O
    · exact tree_8 hK n fl Z τ src src1 src2 t f b m O
    · exact tree_9 hK n fl Z τ src src1 src2 t f b m O
theorem c_tree (n : Nat) : TreeC K (n + 9) 3 2200 := by
  have T0 : TreeC K (n + 6) 0 100 := tree_base hK n
  have T1 : TreeC K (n + 7) 1 400 := tree_step hK (n + 1) 1 (by decide) 100 (by decide) T0
  have T2 : TreeC K (n + 8) 2 1000 := tree_step hK (n + 2) 2 (by decide) 400 (by decide) T1
  exact tree_step hK (n + 3) 3 (by decide) 1000 (by decide) T2

theorem pool_of (n : Nat) (σ : Sto) (ds : List PyData) (i : Int) (h : (ds = [] ∧ i = 0) ∨ ∃ r, ds = .int i :: r) :
    EvF K (n + 1) "_law_pool" [.dat (.list ds)] σ (.mu σ.length) (σ ++ [[.int ((if -1 - i > i then -1 - i else i) * (if decide ((10 : Int) ^ (18 : Int).toNat ≤ if -1 - i > i then -1 - i else i) = true then 1 else 0)), .int ((((if -1 - i > i then -1 - i else i).fmod 2147483629 + 17) * 48271).fmod 2147483647)]]) := by
  rcases h with ⟨rfl, rfl⟩ | ⟨r, rfl⟩
  · refine e_law_pool hK ?_
    k_extra "open"
    with_unfolding_all (conv => arg 6; whnf)
    with_reducible exact EvB.cons (EvS.assign (by k_extra "ev") (by k_extra "put")) (by with_reducible exact EvB.cons (EvS.assign (by k_extra "ev") (by k_extra "put")) (by with_reducible exact EvB.ret (EvS.ret (EvE.listMu (EvA.cons 
       (by with_reducible exact EvE.bin (by k_extra "ev") (by k_extra "ev") (by k_extra "bin"))
       (EvA.cons (by with_reducible exact EvE.bin (by k_extra "ev") (by k_extra "ev") (by k_extra "bin")) EvA.nil)) (by k_extra "dats") (by k_extra "len")))))
  · refine e_law_pool hK ?_
    k_extra "open"
    with_unfolding_all (conv => arg 6; whnf)
    with_reducible exact EvB.cons (EvS.assign (by k_extra "ev") (by k_extra "put")) (by with_reducible exact EvB.cons (EvS.assign (by k_extra "ev") (by k_extra "put")) (by with_reducible exact EvB.ret (EvS.ret (EvE.listMu (by k_extra "evs") (by k_extra "dats") (by k_extra "len")))))
theorem c_pool (n : Nat) (σ : Sto) (ds : List PyData) (hall : ∀ d ∈ ds, ∃ i : Int, d = .int i) : ∃ src, Inv src ∧ EvF K (n + 1) "_law_pool" [.dat (.list ds)] σ (.mu σ.length) (σ ++ [src]) := by
  have h : ∃ i, (ds = [] ∧ i = 0) ∨ ∃ r, ds = .int i :: r := by
    cases ds with
    | nil => exact ⟨0, .inl ⟨rfl, rfl⟩⟩
    | cons d r => obtain ⟨i, rfl⟩ := hall d List.mem_cons_self; exact ⟨i, .inr ⟨r, rfl⟩⟩
  obtain ⟨i, h⟩ := h
  refine ⟨_, ?_, pool_of hK n σ ds i h⟩
  have hm := @fmod_range (((if -1 - i > i then -1 - i else i).fmod 2147483629 + 17) * 48271) 2147483647 (by decide)
  refine ⟨_, _, rfl, ?_, hm.1, hm.2⟩
  have h0 : 0 ≤ (if -1 - i > i then -1 - i else i) := by split <;> omega
  have h1 : ∀ c : Bool, (0 : Int) ≤ if c = true then 1 else 0 := by decide
  exact Int.mul_nonneg h0 (h1 _)
end
end PMF15
section PMF16
local macro_rules | `(tactic| k_extra "evc") => `(tactic| first
  | with_reducible assumption
  | with_reducible exact c_binds_mutably (by assumption) _ _ _ (by assumption)
  | with_reducible exact c_mentions (by assumption) _ _ _ _ (by assumption)
  | with_reducible exact c_is_just_seen (by assumption) _ _ _ _ (by assumption) (by assumption))
section
variable {K : Cx} (hK : K.recs = recs0)
include hK
theorem c_tree_right (n : Nat) (σ : Sto) (row : PyData) (Z : Nat) (h : RowOk row Z) (hZ : Z ≤ 10000) : EvF K (n + 4) "_law_tree_right" [.dat row] σ (.dat (.bool true)) σ := by
  obtain ⟨t, f, b, m, rfl, F, lf, lm, ht⟩ := h
  have hz : sz t ≤ 1000000 := Nat.le_trans F.hz (by omega)
  have hok := F.ok
  have hb := F.hb
  have f0 := F.hf 0
  have f1 := F.hf 1
  have f2 := F.hf 2
  have f3 := F.hf 3
  have m0 := F.hm 0
  have m1 := F.hm 1
  have m2 := F.hm 2
  have m3 := F.hm 3
  unfold hasI at f0 f1 f2 f3 m0 m1 m2 m3
  clear F ht lf lm hZ
  have e0 : ∀ x : Bool, (!PyData.eqv (.bool x) (.bool x)) = false := by intro x; simp [PyData.eqv]
  refine e_law_tree_right hK ?_
  k_extra "open"
  k_extra "eb"
end
end PMF16
section PMF17
local macro_rules | `(tactic| k_extra "evc") => `(tactic| first
  | with_reducible assumption
  | with_reducible exact c_u8 (by assumption) _ _
  | with_reducible exact c_reference (by assumption) _ _ _
  | with_reducible exact c_tree_right (by assumption) _ _ _ 200 (by assumption) (by decide))
local macro_rules | `(tactic| k_extra "nl") => `(tactic| (intro k; simp [isLoc, PyData.eqv, ofStr_inj]))
local macro_rules | `(tactic| k_extra "nm") => `(tactic| simp [isMut, PyData.eqv, ofStr_inj])
local macro_rules | `(tactic| k_extra "nc") => `(tactic| (intro k; simp [cut, PyData.eqv, ofStr_inj]))
noncomputable abbrev behT : PyData := .tuple [.str "deref", u8, .int 0, locT 1]
noncomputable abbrev sevT : PyData := .tuple [.str "const", u8, .int 0, .int 7]
theorem rt_beh : RtOk behT (locT 1) 1 := .place (.deref (.loc (Nat.le_trans (F_loc 1).hz (by decide))))
theorem r1 : RowOk (rowT behT [.int 1] false []) 200 := ⟨_, _, _, _, rfl, (F_derefOf 1 F_u8).congr (fun k => rfl) rfl (fun k => rfl) (by omega), by simp, by simp, rfl⟩
theorem r2 : RowOk (rowT (locT 1) [.int 1] false [.int 1]) 200 := ⟨_, _, _, _, rfl, (F_loc 1).congr (fun k => rfl) rfl (fun k => rfl) (by omega), by simp, by simp, rfl⟩
theorem r3 : RowOk (rowT sevT [] false []) 200 := ⟨_, _, _, _, rfl, (F_const 7).congr (fun k => rfl) rfl (fun k => rfl) (by omega), by simp, by simp, rfl⟩
theorem r4 : RowOk (rowT (.tuple [.str "assign", .tuple [.str "tuple", .tuple []], .int 0, behT, sevT]) [.int 1] false [.int 1]) 200 :=
  ⟨_, _, _, _, rfl, (Fc.changes (.cons .str (.cons F_tt (.cons .int (.cons (F_derefOf 1 F_u8) (.cons (F_const 7) .nil))))) (by k_extra "nl") (by k_extra "nm") (by k_extra "nc") cb_assign rt_beh (fun k => isLoc_loc k 1)).congr (fun k => rfl) rfl (fun k => rfl) (by omega), by simp, by simp, rfl⟩
theorem r5 : RowOk (rowT (.tuple [.str "borrow", refT false, .int 0, .str "shared", behT]) [.int 1] false []) 200 :=
  ⟨_, _, _, _, rfl, (Fc.changes (.cons .str (.cons (F_ref false) (.cons .int (.cons .str (.cons (F_derefOf 1 F_u8) .nil))))) (by k_extra "nl") (by k_extra "nm") (by k_extra "nc") cb_borrowF .none isLoc_none).congr (fun k => rfl) rfl (fun k => rfl) (by omega), by simp, by simp, rfl⟩
theorem r6 : RowOk (rowT (.tuple [.str "borrow", refT true, .int 0, .str "mut", behT]) [.int 1] false [.int 1]) 200 :=
  ⟨_, _, _, _, rfl, (Fc.changes (.cons .str (.cons (F_ref true) (.cons .int (.cons .str (.cons (F_derefOf 1 F_u8) .nil))))) (by k_extra "nl") (by k_extra "nm") (by k_extra "nc") cb_borrowT rt_beh (fun k => isLoc_loc k 1)).congr (fun k => rfl) rfl (fun k => rfl) (by omega), by simp, by simp, rfl⟩
theorem w_mut : PyData.str "mut" ∈ ways0 := by simp [ways0]
theorem F_arms : Fc (.tuple [.tuple [.tuple [.str "bind", u8, .int 9, .str "mut", .none], .none, sevT]]) [] true [] 40 := by
  have fb : Fc (.tuple [.str "bind", u8, .int 9, .str "mut", .none]) [] true [] 10 := (F_bind w_mut .none).congr (fun k => rfl) (by simp [PyData.eqv]) (fun k => rfl) (by omega)
  have fa : Fc (.tuple [.tuple [.str "bind", u8, .int 9, .str "mut", .none], .none, sevT]) [] true [] 30 := (Fc.plain (.cons fb (.cons .none (.cons (F_const 7) .nil))) (by k_extra "nl") (by k_extra "nm") (by k_extra "nc") rfl rfl rfl rfl rfl).congr (fun k => rfl) (by simp) (fun k => rfl) (by omega)
  exact (F_one fa rfl).congr (fun k => rfl) rfl (fun k => rfl) (by omega)
theorem r7 : RowOk (rowT (.tuple [.str "match", u8, .int 0, behT, .tuple [.tuple [.tuple [.str "bind", u8, .int 9, .str "mut", .none], .none, sevT]]]) [.int 1] true [.int 1]) 200 :=
  ⟨_, _, _, _, rfl, (Fc.changes (.cons .str (.cons F_u8 (.cons .int (.cons (F_derefOf 1 F_u8) (.cons F_arms .nil))))) (by k_extra "nl") (by k_extra "nm") (by k_extra "nc") (cb_matchT (Nat.le_trans F_arms.hz (by decide)) F_arms.hb) rt_beh (fun k => isLoc_loc k 1)).congr (fun k => rfl) (by simp) (fun k => rfl) (by omega), by simp, by simp, rfl⟩
section
variable {K : Cx} (hK : K.recs = recs0)
include hK
theorem c_told_right (n : Nat) (σ : Sto) : EvF K (n + 5) "_law_told_right" [] σ (.dat (.bool true)) σ := by
  have h : EvF K (n + 5) "_law_told_right" [] σ (.dat (.bool (PyData.eqv (.list []) (.list [])))) σ := by
    have r1 := r1; have r2 := r2; have r3 := r3; have r4 := r4; have r5 := r5; have r6 := r6; have r7 := r7
    refine e_law_told_right hK ?_
    k_extra "open"
    k_extra "eb"
  exact h
end
end PMF17
section PMF18
local macro_rules | `(tactic| k_extra "evc") => `(tactic| first
  | with_reducible assumption
  | with_reducible exact c_u8 (by assumption) _ _
  | with_reducible exact c_reference (by assumption) _ _ _
  | with_reducible exact CBok.use (by assumption) (by assumption))
noncomputable abbrev lc (k : Int) : PyData := .tuple [.str "local", u8, .int 0, .int k]
noncomputable abbrev bd (w : String) : PyData := .tuple [.str "bind", u8, .int 3, .str w, .none]
theorem F_bdm : Fc (bd "mut") [] true [] 10 := (F_bind w_mut .none).congr (fun k => rfl) (by simp [PyData.eqv]) (fun k => rfl) (by omega)
theorem F_bdr : Fc (bd "ref") [] false [] 10 := (F_bind (w := .str "ref") (by simp [ways0]) .none).congr (fun k => rfl) (by simp [PyData.eqv, ofStr_inj]) (fun k => rfl) (by omega)
theorem arms_occ {q : PyData} {b : Bool} (F : Fc q [] b [] 10) : occ isMut (.tuple [.tuple [q, .none, lc 2]]) = b ∧ sz (.tuple [.tuple [q, .none, lc 2]]) ≤ 1000000 := by
  constructor
  · simp [occ, occAll, F.hb, isMut]
  · have := F.hz
    simp [sz, szAll]; omega
theorem lc_refl (k : Int) : PyData.eqv (lc k) (lc k) = true := by simp [PyData.eqv, PyData.eqvAll]
section
variable {K : Cx} (hK : K.recs = recs0)
include hK
theorem c_changed_right (n : Nat) (σ : Sto) : EvF K (n + 4) "_law_changed_right" [] σ (.dat (.bool true)) σ := by
  have h : EvF K (n + 4) "_law_changed_right" [] σ (.dat (.bool (PyData.eqv (.list []) (.list [])))) σ := by
    obtain ⟨c1, e1⟩ := @cb_assign (.tuple []) (.int 0) (lc 1) (lc 2)
    obtain ⟨c2, e2⟩ := @cb_update (.tuple []) (.int 0) (.str "+") (lc 1) (lc 2)
    obtain ⟨c3, e3⟩ := @cb_letT (.int 0) (bd "mut") (lc 1) (Nat.le_trans F_bdm.hz (by decide)) F_bdm.hb
    obtain ⟨c4, e4⟩ := @cb_letF (.int 0) (bd "ref") (lc 1) (Nat.le_trans F_bdr.hz (by decide)) F_bdr.hb
    obtain ⟨c5, e5⟩ := @cb_borrowT (.str "ref") .none u8 (.int 0) (.str "mut") (lc 2)
    obtain ⟨c6, e6⟩ := @cb_borrowF (.str "ref") .none u8 (.int 0) (.str "shared") (lc 2)
    obtain ⟨c7, e7⟩ := @cb_matchT u8 (.int 0) (lc 1) (.tuple [.tuple [bd "mut", .none, lc 2]]) (arms_occ F_bdm).2 (arms_occ F_bdm).1
    obtain ⟨c8, e8⟩ := @cb_matchF u8 (.int 0) (lc 1) (.tuple [.tuple [bd "ref", .none, lc 2]]) (arms_occ F_bdr).2 (arms_occ F_bdr).1
    obtain ⟨c9, e9⟩ := cb_other (h := .str "binary") (rest := [u8, .int 0, .str "+", lc 1, lc 2]) (by simp [PyData.eqv, ofStr_inj]) (by simp [PyData.eqv, ofStr_inj]) (by simp [PyData.eqv, ofStr_inj]) (by simp [PyData.eqv, ofStr_inj]) (by simp [PyData.eqv, ofStr_inj])
    obtain ⟨c10, e10⟩ := cb_other (h := .str "deref") (rest := [u8, .int 0, lc 1]) (by simp [PyData.eqv, ofStr_inj]) (by simp [PyData.eqv, ofStr_inj]) (by simp [PyData.eqv, ofStr_inj]) (by simp [PyData.eqv, ofStr_inj]) (by simp [PyData.eqv, ofStr_inj])
    obtain ⟨c11, e11⟩ := cb_other (h := .str "local") (rest := [u8, .int 0, .int 1]) (by simp [PyData.eqv, ofStr_inj]) (by simp [PyData.eqv, ofStr_inj]) (by simp [PyData.eqv, ofStr_inj]) (by simp [PyData.eqv, ofStr_inj]) (by simp [PyData.eqv, ofStr_inj])
    refine e_law_changed_right hK ?_
    k_extra "open"
    k_extra "eb"
  exact h
end
end PMF18
section PMF19
local macro_rules | `(tactic| k_extra "evc") => `(tactic| first
  | with_reducible assumption
  | with_reducible exact c_u8 (by assumption) _ _
  | with_reducible exact c_reference (by assumption) _ _ _)
noncomputable abbrev ttT : PyData := .tuple [.str "tuple", .tuple []]
noncomputable def ValOk (v : PyData) (due : Bool) (d : Nat) : Prop := (∃ ps, v = .tuple ps) ∧ ∀ (K : Cx) (hK : K.recs = recs0) (n : Nat) (σ : Sto), EvF K (n + 1 + d) "is_kept_on" [.dat v] σ (.dat (.bool due)) σ
theorem ValOk.mono {v : PyData} {due : Bool} {d d' : Nat} (h : ValOk v due d) (hd : d ≤ d') : ValOk v due d' := ⟨h.1, fun K hK n σ => (h.2 K hK n σ).le (by omega)⟩
theorem V_borrow {a b c d : PyData} : ValOk (.tuple [.str "borrow", a, b, c, d]) true 0 := by
  refine ⟨⟨_, rfl⟩, fun K hK n σ => ?_⟩
  have h : EvF K (n + 1 + 0) "is_kept_on" [.dat (.tuple [.str "borrow", a, b, c, d])] σ (.dat (.bool (PyData.eqv (.str "borrow") (.str "borrow")))) σ := by
    refine e_is_kept_on hK ?_
    k_extra "open"
    k_extra "eb"
  have e : PyData.eqv (.str "borrow") (.str "borrow") = true := by simp [PyData.eqv]
  rw [e] at h; exact h
theorem V_other {x : String} {rest : List PyData} (h1 : x ≠ "tuple") (h2 : x ≠ "array") (h3 : x ≠ "adt") (h4 : x ≠ "block") (h5 : x ≠ "borrow") : ValOk (.tuple (.str (Str.ofString x) :: rest)) false 0 := by
  refine ⟨⟨_, rfl⟩, fun K hK n σ => ?_⟩
  have e : PyData.eqv (.str (Str.ofString x)) (.str "borrow") = false := by simp [PyData.eqv, ofStr_inj, h5]
  have e3 : PyData.eqv (.str (Str.ofString x)) (.str "adt") = false := by simp [PyData.eqv, ofStr_inj, h3]
  have e4 : PyData.eqv (.str (Str.ofString x)) (.str "block") = false := by simp [PyData.eqv, ofStr_inj, h4]
  have e1 : (([.str "tuple", .str "array"] : List PyData).any fun y => PyData.eqv y (.str (Str.ofString x))) = false := by simp [PyData.eqv, ofStr_inj, Ne.symm h1, Ne.symm h2]
  have h : EvF K (n + 1 + 0) "is_kept_on" [.dat (.tuple (.str (Str.ofString x) :: rest))] σ (.dat (.bool (PyData.eqv (.str (Str.ofString x)) (.str "borrow")))) σ := by
    refine e_is_kept_on hK ?_
    k_extra "open"
    k_extra "eb"
  rw [e] at h; exact h
section
variable {p q : PyData} {b c : Bool} {d : Nat}
theorem V_seq1 {x : PyData} {a z : PyData} (hx : x ∈ ([.str "tuple", .str "array"] : List PyData)) (hp : ValOk p b d) : ValOk (.tuple [x, a, z, .tuple [p]]) b (d + 1) := by
  refine ⟨⟨_, rfl⟩, fun K hK n σ => ?_⟩
  have k1 : EvF K (n + 1 + d) "is_kept_on" [.dat p] (σ ++ [[]]) (.dat (.bool b)) (σ ++ [[]]) := hp.2 K hK n _
  simp only [List.mem_cons, List.mem_nil_iff, or_false] at hx
  rcases hx with rfl | rfl
  · refine e_is_kept_on hK (n := n + 1 + d) ?_
    k_extra "open"
    k_extra "eb"
  · refine e_is_kept_on hK (n := n + 1 + d) ?_
    k_extra "open"
    k_extra "eb"
theorem V_seq2 {x : PyData} {a z : PyData} (hx : x ∈ ([.str "tuple", .str "array"] : List PyData)) (hp : ValOk p b d) (hq : ValOk q c d) : ValOk (.tuple [x, a, z, .tuple [p, q]]) (b || c) (d + 1) := by
  refine ⟨⟨_, rfl⟩, fun K hK n σ => ?_⟩
  have k1 : EvF K (n + 1 + d) "is_kept_on" [.dat p] (σ ++ [[]]) (.dat (.bool b)) (σ ++ [[]]) := hp.2 K hK n _
  have k2 : EvF K (n + 1 + d) "is_kept_on" [.dat q] (σ ++ [[.bool b]]) (.dat (.bool c)) (σ ++ [[.bool b]]) := hq.2 K hK n _
  simp only [List.mem_cons, List.mem_nil_iff, or_false] at hx
  rcases hx with rfl | rfl
  · refine e_is_kept_on hK (n := n + 1 + d) ?_
    k_extra "open"
    k_extra "eb"
  · refine e_is_kept_on hK (n := n + 1 + d) ?_
    k_extra "open"
    k_extra "eb"
theorem V_adt1 {a y z u : PyData} (hp : ValOk p b d) : ValOk (.tuple [.str "adt", a, y, z, .tuple [.tuple [u, p]]]) b (d + 1) := by
  refine ⟨⟨_, rfl⟩, fun K hK n σ => ?_⟩
  have k1 : EvF K (n + 1 + d) "is_kept_on" [.dat p] (σ ++ [[]]) (.dat (.bool b)) (σ ++ [[]]) := hp.2 K hK n _
  refine e_is_kept_on hK (n := n + 1 + d) ?_
  k_extra "open"
  k_extra "eb"
theorem V_adt2 {a y z u w : PyData} (hp : ValOk p b d) (hq : ValOk q c d) : ValOk (.tuple [.str "adt", a, y, z, .tuple [.tuple [u, p], .tuple [w, q]]]) (b || c) (d + 1) := by
  refine ⟨⟨_, rfl⟩, fun K hK n σ => ?_⟩
  have k1 : EvF K (n + 1 + d) "is_kept_on" [.dat p] (σ ++ [[]]) (.dat (.bool b)) (σ ++ [[]]) := hp.2 K hK n _
  have k2 : EvF K (n + 1 + d) "is_kept_on" [.dat q] (σ ++ [[.bool b]]) (.dat (.bool c)) (σ ++ [[.bool b]]) := hq.2 K hK n _
  refine e_is_kept_on hK (n := n + 1 + d) ?_
  k_extra "open"
  k_extra "eb"
theorem V_block {a y z : PyData} (hp : ValOk p b d) : ValOk (.tuple [.str "block", a, y, z, p]) b (d + 1) := by
  refine ⟨⟨_, rfl⟩, fun K hK n σ => ?_⟩
  have k1 : EvF K (n + 1 + d) "is_kept_on" [.dat p] σ (.dat (.bool b)) σ := hp.2 K hK n _
  obtain ⟨⟨ps, rfl⟩, _⟩ := hp
  refine e_is_kept_on hK (n := n + 1 + d) ?_
  k_extra "open"
  k_extra "eb"
theorem V_blockN {a y z : PyData} : ValOk (.tuple [.str "block", a, y, z, .none]) false 0 := by
  refine ⟨⟨_, rfl⟩, fun K hK n σ => ?_⟩
  refine e_is_kept_on hK ?_
  k_extra "open"
  k_extra "eb"
end
end PMF19
section PMF20
local macro_rules | `(tactic| k_extra "evc") => `(tactic| first
  | with_reducible assumption
  | with_reducible exact c_u8 (by assumption) _ _
  | with_reducible exact c_reference (by assumption) _ _ _)
noncomputable def ValC (K : Cx) (N : Nat) (fl : Int) (d : Nat) : Prop :=
  ∀ (τ : Sto) (src : List PyData), Inv src → ∃ v due src', ValOk v due d ∧ Inv src' ∧ EvF K N "_law_value" [.mu 0, .dat (.int fl)] (src :: τ) (.dat (.tuple [v, .bool due])) (src' :: τ)
theorem tr_any1 (b : Bool) : ([.bool b].any fun y => PyData.eqv y (.bool true)) = b := by cases b <;> rfl
theorem tr_any2 (b c : Bool) : ([.bool b, .bool c].any fun y => PyData.eqv y (.bool true)) = (b || c) := by cases b <;> cases c <;> rfl
noncomputable def seqs : List PyData := [.str "tuple", .str "array"]
section
variable {K : Cx} (hK : K.recs = recs0)
include hK
theorem value_low (n : Nat) (fl : Int) (τ : Sto) (src src1 : List PyData) (hi1 : Inv src1) (d : Int) (h0 : 0 ≤ d) (h3 : d < 2)
    (hw : (0 < fl ∧ EvF K (n + 5) "_law_take" [.mu 0, .dat (.int 7)] (src :: τ) (.dat (.int d)) (src1 :: τ)) ∨ (¬ 0 < fl ∧ EvF K (n + 5) "_law_take" [.mu 0, .dat (.int 2)] (src :: τ) (.dat (.int d)) (src1 :: τ))) :
    ∃ v due src', ValOk v due 0 ∧ Inv src' ∧ EvF K (n + 6) "_law_value" [.mu 0, .dat (.int fl)] (src :: τ) (.dat (.tuple [v, .bool due])) (src' :: τ) := by
  have hc : d = 0 ∨ d = 1 := by omega
  rcases hc with rfl | rfl
  · refine ⟨_, _, src1, @V_borrow (refT false) (.int 0) (.str "shared") (.tuple [.str "local", u8, .int 0, .int 1]), hi1, ?_⟩
    rcases hw with ⟨hp, hev⟩ | ⟨hp, hev⟩
    · have hp' : decide (0 < fl) = true := decide_eq_true hp
      refine e_law_value hK ?_
      k_extra "open"
      k_extra "eb"
    · have hp' : decide (0 < fl) = false := decide_eq_false hp
      refine e_law_value hK ?_
      k_extra "open"
      k_extra "eb"
  · refine ⟨_, _, src1, @V_other "local" [refT false, .int 0, .int 1] (by decide) (by decide) (by decide) (by decide) (by decide), hi1, ?_⟩
    rcases hw with ⟨hp, hev⟩ | ⟨hp, hev⟩
    · have hp' : decide (0 < fl) = true := decide_eq_true hp
      refine e_law_value hK ?_
      k_extra "open"
      k_extra "eb"
    · have hp' : decide (0 < fl) = false := decide_eq_false hp
      refine e_law_value hK ?_
      k_extra "open"
      k_extra "eb"
theorem value_base (n : Nat) : ValC K (n + 6) 0 0 := by
  intro τ src hi
  obtain ⟨d, src1, h0, hd, hi1, hev⟩ := c_take hK (n + 4) τ src hi 2 (by decide) (by decide)
  exact value_low hK n 0 τ src src1 hi1 d h0 hd (.inr ⟨by decide, hev⟩)
/-- one part -/
theorem value_1 (n : Nat) (fl : Int) (hp : 0 < fl) (D : Nat) (τ : Sto) (src src1 src2 src3 : List PyData) (hi3 : Inv src3) (d : Int) (hd2 : 2 ≤ d) (hd7 : d < 7) (v : PyData) (due : Bool) (V : ValOk v due D)
    (hev : EvF K (n + 5) "_law_take" [.mu 0, .dat (.int 7)] (src :: τ) (.dat (.int d)) (src1 :: τ)) (hev1 : EvF K (n + 5) "_law_take" [.mu 0, .dat (.int 2)] (src1 :: τ) (.dat (.int 0)) (src2 :: τ))
    (hev2 : EvF K (n + 5) "_law_value" [.mu 0, .dat (.int (fl - 1))] (src2 :: (τ ++ [[]])) (.dat (.tuple [v, .bool due])) (src3 :: (τ ++ [[]]))) :
    ∃ v due src', ValOk v due (D + 1) ∧ Inv src' ∧ EvF K (n + 6) "_law_value" [.mu 0, .dat (.int fl)] (src :: τ) (.dat (.tuple [v, .bool due])) (src' :: τ) := by
  have hp' : decide (0 < fl) = true := decide_eq_true hp
  have hc : d = 2 ∨ d = 3 ∨ d = 4 ∨ d = 5 ∨ d = 6 := by omega
  rcases hc with rfl | rfl | rfl | rfl | rfl
  · obtain ⟨x, src4, hx, hi4, hev3⟩ := c_one hK (n + 3) τ src3 hi3 seqs (by decide) (by decide)
    simp only [seqs] at hev3
    have VV := @V_seq1 v due D x ttT (.int 0) hx V
    rw [← tr_any1 due] at VV
    refine ⟨_, _, src4, VV, hi4, ?_⟩
    refine e_law_value hK ?_
    k_extra "open"
    k_extra "eb"
  · have VV := @V_adt1 v due D ttT (.int 0) (.int 0) (.int 0) V
    rw [← tr_any1 due] at VV
    refine ⟨_, _, src3, VV, hi3, ?_⟩
    refine e_law_value hK ?_
    k_extra "open"
    k_extra "eb"
  · refine ⟨_, _, src3, @V_block v due D ttT (.int 0) (.tuple [.tuple [.str "do", .int 0, v]]) V, hi3, ?_⟩
    refine e_law_value hK ?_
    k_extra "open"
    k_extra "eb"
  · refine ⟨_, _, src3, (@V_blockN ttT (.int 0) (.tuple [.tuple [.str "do", .int 0, v]])).mono (Nat.zero_le _), hi3, ?_⟩
    refine e_law_value hK ?_
    k_extra "open"
    k_extra "eb"
  · refine ⟨_, _, src3, (@V_other "box" [ttT, .int 0, v] (by decide) (by decide) (by decide) (by decide) (by decide)).mono (Nat.zero_le _), hi3, ?_⟩
    refine e_law_value hK ?_
    k_extra "open"
    k_extra "eb"
end
end PMF20
section PMF21
local macro_rules | `(tactic| k_extra "evc") => `(tactic| first
  | with_reducible assumption
  | with_reducible exact c_u8 (by assumption) _ _
  | with_reducible exact c_reference (by assumption) _ _ _)
section
variable {K : Cx} (hK : K.recs = recs0)
include hK
theorem value_2 (n : Nat) (fl : Int) (hp : 0 < fl) (D : Nat) (τ : Sto) (src src1 src2 src3 src4 : List PyData) (hi4 : Inv src4) (d : Int) (hd2 : 2 ≤ d) (hd7 : d < 7) (v w : PyData) (due duo : Bool) (V : ValOk v due D) (W : ValOk w duo D)
    (hev : EvF K (n + 5) "_law_take" [.mu 0, .dat (.int 7)] (src :: τ) (.dat (.int d)) (src1 :: τ)) (hev1 : EvF K (n + 5) "_law_take" [.mu 0, .dat (.int 2)] (src1 :: τ) (.dat (.int 1)) (src2 :: τ))
    (hev2 : EvF K (n + 5) "_law_value" [.mu 0, .dat (.int (fl - 1))] (src2 :: (τ ++ [[]])) (.dat (.tuple [v, .bool due])) (src3 :: (τ ++ [[]])))
    (hev3 : EvF K (n + 5) "_law_value" [.mu 0, .dat (.int (fl - 1))] (src3 :: (τ ++ [[.tuple [v, .bool due]]])) (.dat (.tuple [w, .bool duo])) (src4 :: (τ ++ [[.tuple [v, .bool due]]]))) :
    ∃ v due src', ValOk v due (D + 1) ∧ Inv src' ∧ EvF K (n + 6) "_law_value" [.mu 0, .dat (.int fl)] (src :: τ) (.dat (.tuple [v, .bool due])) (src' :: τ) := by
  have hp' : decide (0 < fl) = true := decide_eq_true hp
  have hc : d = 2 ∨ d = 3 ∨ d = 4 ∨ d = 5 ∨ d = 6 := by omega
  rcases hc with rfl | rfl | rfl | rfl | rfl
  · obtain ⟨x, src5, hx, hi5, hev4⟩ := c_one hK (n + 3) τ src4 hi4 seqs (by decide) (by decide)
    simp only [seqs] at hev4
    have VV := @V_seq2 v w due duo D x ttT (.int 0) hx V W
    rw [← tr_any2 due duo] at VV
    refine ⟨_, _, src5, VV, hi5, ?_⟩
    refine e_law_value hK ?_
    k_extra "open"
    k_extra "eb"
  · have VV := @V_adt2 v w due duo D ttT (.int 0) (.int 0) (.int 0) (.int 1) V W
    rw [← tr_any2 due duo] at VV
    refine ⟨_, _, src4, VV, hi4, ?_⟩
    refine e_law_value hK ?_
    k_extra "open"
    k_extra "eb"
  · refine ⟨_, _, src4, @V_block v due D ttT (.int 0) (.tuple [.tuple [.str "do", .int 0, w]]) V, hi4, ?_⟩
    refine e_law_value hK ?_
    k_extra "open"
    k_extra "eb"
  · refine ⟨_, _, src4, (@V_blockN ttT (.int 0) (.tuple [.tuple [.str "do", .int 0, v]])).mono (Nat.zero_le _), hi4, ?_⟩
    refine e_law_value hK ?_
    k_extra "open"
    k_extra "eb"
  · refine ⟨_, _, src4, (@V_other "box" [ttT, .int 0, v] (by decide) (by decide) (by decide) (by decide) (by decide)).mono (Nat.zero_le _), hi4, ?_⟩
    refine e_law_value hK ?_
    k_extra "open"
    k_extra "eb"
theorem value_step (n : Nat) (fl : Int) (hp : 0 < fl) (D : Nat) (T : ValC K (n + 5) (fl - 1) D) : ValC K (n + 6) fl (D + 1) := by
  intro τ src hi
  obtain ⟨d, src1, h0, hd, hi1, hev⟩ := c_take hK (n + 4) τ src hi 7 (by decide) (by decide)
  by_cases h3 : d < 2
  · obtain ⟨v, due, src', h1, h2, h4⟩ := value_low hK n fl τ src src1 hi1 d h0 h3 (.inl ⟨hp, hev⟩)
    exact ⟨v, due, src', h1.mono (Nat.zero_le _), h2, h4⟩
  · obtain ⟨j, src2, hj0, hj2, hi2, hev1⟩ := c_take hK (n + 4) τ src1 hi1 2 (by decide) (by decide)
    obtain ⟨v, due, src3, V, hi3, hev2⟩ := T (τ ++ [[]]) src2 hi2
    have hc : j = 0 ∨ j = 1 := by omega
    rcases hc with rfl | rfl
    · exact value_1 hK n fl hp D τ src src1 src2 src3 hi3 d (by omega) hd v due V hev hev1 hev2
    · obtain ⟨w, duo, src4, W, hi4, hev3⟩ := T (τ ++ [[.tuple [v, .bool due]]]) src3 hi3
      exact value_2 hK n fl hp D τ src src1 src2 src3 src4 hi4 d (by omega) hd v w due duo V W hev hev1 hev2 hev3
theorem c_value (n : Nat) : ValC K (n + 8) 2 2 := by
  have T0 : ValC K (n + 6) 0 0 := value_base hK n
  have T1 : ValC K (n + 7) 1 1 := value_step hK (n + 1) 1 (by decide) 0 T0
  exact value_step hK (n + 2) 2 (by decide) 1 T1
end
end PMF21
section PMF22
local macro_rules | `(tactic| k_extra "evc") => `(tactic| first
  | with_reducible assumption)
section
variable {K : Cx} (hK : K.recs = recs0)
include hK
theorem c_law (n : Nat) (ds : List PyData) (hall : ∀ d ∈ ds, ∃ i, d = .int i) : ∃ σ', EvF K (n + 11) "law" [.dat (.list ds)] [] (.dat (.bool true)) σ' := by
  obtain ⟨src0, hi0, hev0⟩ := c_pool hK (n + 9) [] ds hall
  have hev0 : EvF K (n + 10) "_law_pool" [.dat (.list ds)] [] (.mu 0) [src0] := hev0
  have ht := c_told_right hK (n + 5) []
  have hc := c_changed_right hK (n + 6) []
  obtain ⟨v1, due1, src1, V1, hi1, hv1⟩ := c_value hK (n + 2) [] src0 hi0
  obtain ⟨t1, src2, R1, hi2, ht1⟩ := c_tree hK (n + 1) [] src1 hi1
  have hr1 := c_tree_right hK (n + 6) [src2] t1 2200 R1 (by decide)
  have hk1 := V1.2 K hK (n + 7) [src2]
  obtain ⟨v2, due2, src3, V2, hi3, hv2⟩ := c_value hK (n + 2) [] src2 hi2
  obtain ⟨t2, src4, R2, hi4, ht2⟩ := c_tree hK (n + 1) [] src3 hi3
  have hr2 := c_tree_right hK (n + 6) [src4] t2 2200 R2 (by decide)
  have hk2 := V2.2 K hK (n + 7) [src4]
  obtain ⟨v3, due3, src5, V3, hi5, hv3⟩ := c_value hK (n + 2) [] src4 hi4
  obtain ⟨t3, src6, R3, hi6, ht3⟩ := c_tree hK (n + 1) [] src5 hi5
  have hr3 := c_tree_right hK (n + 6) [src6] t3 2200 R3 (by decide)
  have hk3 := V3.2 K hK (n + 7) [src6]
  clear V1 V2 V3 R1 R2 R3 hi0 hi1 hi2 hi3 hi4 hi5 hi6 hall
  have e0 : ∀ x : Bool, (!PyData.eqv (.bool x) (.bool x)) = false := by intro x; simp [PyData.eqv]
  refine ⟨[src6], ?_⟩
  refine e_law hK ?_
  k_extra "open"
  k_extra "eb"
end
end PMF22
section PMJA
open PySem PySem.Calls PyProof.Rows PySem.W
noncomputable abbrev placeNames : List Str := [.ofString "local", .ofString "deref", .ofString "field", .ofString "index"]
noncomputable abbrev freeNames : List Str := ["isinstance", "tuple", "len", "max", "int", "any", "range"]
noncomputable def placesIn (K : Frag) : Bool := match nsIn K mainGlobals "PLACES" with
  | some (some (.ref a)) => (match K.lookup a with
    | some ⟨.type t, none, .seq items _, sl⟩ => t == "tuple" && sl.isEmpty && strsMatch items.toList placeNames
    | _ => false)
  | _ => false
noncomputable def freeIn (K : Frag) : Bool := freeNames.all fun x => match nsIn K mainGlobals x with | some none => true | _ => false
theorem rep_strs {h : Heap} : ∀ {vs : List Value} {ss : List Str}, StrsAre vs ss → (∀ x ∈ ss, PyData.strOk x = true) → RepAll [] h vs (ss.map .str)
  | _, _, .nil, _ => .nil
  | _, _, .cons y t r, hk => .cons (.str y t (hk y (by simp))) (rep_strs r fun x hx => hk x (by simp [hx]))
theorem rep_ints {h : Heap} : ∀ {vs : List Value} {ns : List Int}, IntsAre vs ns → RepAll [] h vs (ns.map .int)
  | _, _, .nil => .nil
  | _, _, .cons n t r => .cons (.int n t) (rep_ints r)
theorem places_of {K : Frag} {h : Heap} {mg : Str → Option Value} (X : K.In h) (N : h.Ns mainGlobals mg) (e : placesIn K = true) :
    ∃ v, mg "PLACES" = some v ∧ Rep [] h v (.tuple [.str "local", .str "deref", .str "field", .str "index"]) := by
  unfold placesIn at e
  split at e
  · rename_i a hn
    split at e
    · rename_i t items k sl ho
      simp only [Bool.and_eq_true, beq_iff_eq] at e
      obtain ⟨⟨rfl, hs⟩, hm⟩ := e
      have hs : sl = #[] := by simpa using hs
      subst hs
      refine ⟨_, mg_of X N hn, .tuple (vs := items.toList) (by simp) ⟨k, X _ _ ho⟩ ?_⟩
      exact rep_strs (strsMatch_spec hm) (by decide +kernel)
    · cases e
  · cases e
theorem free_of {K : Frag} {h : Heap} {mg : Str → Option Value} (X : K.In h) (N : h.Ns mainGlobals mg) (e : freeIn K = true) : ∀ x ∈ freeNames, mg x = none := by
  intro x hx
  have h1 := List.all_eq_true.mp e x hx
  split at h1
  · rename_i hn; exact ns_none_of X N hn
  · cases h1
theorem law_runs {prog pv : Program} {w : World} {loose : List Str} {mean : ExcName → Option Value} {mg mb : Str → Option Value} {KF : Frag} {s : Shared} {fa l : Addr} {vs : List Value} {is : List Int} {A : Around}
    {Q E : Value → Shared → Prop} (T : Top pv loose mean mg mb s.heap) (hr : recsOf pv = recs0) (X : KF.In s.heap) (hp : placesIn KF = true) (hf : freeIn KF = true) (hmg : mg "law" = some (.ref fa))
    (hl : s.heap.IsList l vs.toArray) (hi : IntsAre vs is) (hA : Room 11 A)
    (hQ : ∀ h tk, (∀ b o, s.heap.get? b = some o → h.get? b = some o) → Q (.bool true) { s with heap := h, toks := tk }) : wpAny (model prog w) A (call (.ref fa) [.ref l]) Q E s := by
  have hfn := T.fn
  rw [hr] at hfn
  have hfr : ∀ x ∈ freeNames, mg x = none ∧ mb x = bootBuiltins x := fun x hx => by
    have h1 : ∀ x ∈ freeNames, x ≠ "__name__" := by decide +kernel
    exact ⟨free_of X T.g hf x hx, T.builtins x (h1 x hx)⟩
  let K : Cx := ⟨prog, w, s.heap, mg, mb, recs0, T.g, T.b, T.nolimit, hfn, hfr, places_of X T.g hp⟩
  have hK : K.recs = recs0 := rfl
  obtain ⟨σ', hev⟩ := c_law (K := K) hK 0 (is.map .int) (fun d hd => by
    obtain ⟨i, _, rfl⟩ := List.mem_map.mp hd; exact ⟨i, rfl⟩)
  have hsto : StoR K.g [] s.heap [] := ⟨rfl, List.nodup_nil, fun i a l h => by simp at h, fun a h => by simp at h⟩
  refine hev.2 A [] s fa [.ref l] Q E hA hmg hsto (fun _ _ e => e) (.cons (.dat (.list (by simp) hl (rep_ints hi))) .nil) fun v φ' s' st r => ?_
  obtain ⟨h, tk, rfl⟩ := st.same
  cases r with
  | dat r =>
    cases r
    exact hQ h tk fun b o hb => st.keep b o (by simp) hb
end PMJA
end Mine
open PySem PySem.W PyProof.Rows
namespace Mine
/-- the i-th statement of the text's top -/
def topSt (i : Nat) : Stmt := (PySem.Challenge.pw_xw0155_01.main.body.drop i).headD (.Pass ⟨0, 0, 0, 0⟩)
/-- the text, its top's statements each by its place -/
def prog2 : Program := { PySem.Challenge.pw_xw0155_01 with main := { PySem.Challenge.pw_xw0155_01.main with body :=
  [topSt 0, topSt 1, topSt 2, topSt 3, topSt 4, topSt 5, topSt 6, topSt 7, topSt 8, topSt 9, topSt 10, topSt 11, topSt 12, topSt 13, topSt 14, topSt 15, topSt 16, topSt 17, topSt 18, topSt 19, topSt 20, topSt 21, topSt 22, topSt 23, topSt 24] } }
def row2 : OpenLaw := { PySem.Challenge.rw_xw0155_01 with prog := prog2 }
theorem prog2_eq : prog2 = PySem.Challenge.pw_xw0155_01 := by kernel_rfl
theorem row2_eq : row2 = PySem.Challenge.rw_xw0155_01 := by kernel_rfl
theorem room_caller : Room 11 callerA := ⟨rfl, by decide +kernel, by decide +kernel⟩
end Mine
theorem PySem.Challenge.cw_xw0155_01_holds : PySem.Challenge.rw_xw0155_01.Holds := by
  refine Mine.row2_eq ▸ ?_
  w_on; o_law; z_head; (case hw => w_witness2)
  intro w s₀ s₁ mg mb G y fa o pm cd doc dV kV ho hd hcd hD hmg hg args vals as L hpre hlay hrd hwl hlo
  have KX := InK.keeps w _ _ (X.z_facts (fun _ => by kernel_rfl) y).2.1 L.keeps
  refine Ground.open G ?_
  intro T B D TE TW
  wrow_args hpre hlay hrd hwl hlo
  rename IntsAre _ _ => hI
  rename s₁.heap.IsList _ _ => hL
  refine Mine.law_runs T (by kernel_rfl) KX (by kernel_rfl) (by kernel_rfl) hmg hL hI Mine.room_caller ?_
  intro h tk hk
  refine GoodW.toG ⟨.inl ⟨.bool true, .bool true, [], rfl, raisesW_false (by wrow_none_raised), .bool true, by wrow_post, unshared_nil⟩, hk, rfl, hg⟩
