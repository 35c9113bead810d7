import PyProof.Rows.All
import Wide.All
import OpenK.AllK
import Wide.FinOn
import PySem.Challenge.RW_no0351_01
set_option Elab.async false
set_option maxRecDepth 100000
set_option linter.unusedVariables false
set_option linter.unusedSectionVars false

/-! part MP1 -/
namespace Mine
open PySem PySem.W PySem.Calls PyProof.Rows PySem.SeqAt PySem.MeetsSeq

/-- pure data -/
inductive D where
  | none
  | bool (b : Bool)
  | int (i : Int)
  | str (x : Str)
  | bytes (b : Array UInt8)
  | tup (ds : List D)

/-- what a name may hold: data, the k-th own list, a list that no one turns, anything -/
inductive V where
  | d (x : D)
  | lst (k : Nat)
  | tl (xs : List D)
  | val (v : Value)

mutual
inductive RepD (h : Heap) : Value → D → Prop
  | none : RepD h .none .none
  | bool (b : Bool) : RepD h (.bool b) (.bool b)
  | int (i : Int) (t : Tok) : RepD h (.int i t) (.int i)
  | str (x : Str) (t : Tok) : RepD h (.str x t) (.str x)
  | bytes (b : Array UInt8) (t : Tok) : RepD h (.bytes b t) (.bytes b)
  | tup {a : Addr} {vs : List Value} {ds : List D} : h.IsTuple a vs.toArray → RepDs h vs ds → RepD h (.ref a) (.tup ds)
inductive RepDs (h : Heap) : List Value → List D → Prop
  | nil : RepDs h [] []
  | cons {v : Value} {d : D} {vs : List Value} {ds : List D} : RepD h v d → RepDs h vs ds → RepDs h (v :: vs) (d :: ds)
end

/-- every tuple stays as it is -/
noncomputable def TupIn (h h' : Heap) : Prop := ∀ b o, h.get? b = some o → o.cls = .type "tuple" → (∃ items n, o.data = .seq items n) → h'.get? b = some o
theorem TupIn.of_stays {h h' : Heap} (k : ∀ b o, h.get? b = some o → h'.get? b = some o) : TupIn h h' := fun b o e _ _ => k b o e
theorem isTuple_mono {h h' : Heap} (k : TupIn h h') {a : Addr} {items : Array Value} (x : h.IsTuple a items) : h'.IsTuple a items :=
  let ⟨o, ho, hc, n, hd⟩ := x; ⟨o, k a o ho hc ⟨_, _, hd⟩, hc, n, hd⟩
theorem RepD.mono {h h' : Heap} (k : TupIn h h') {v : Value} {d : D} (r : RepD h v d) : RepD h' v d :=
  RepD.rec (motive_1 := fun v d _ => RepD h' v d) (motive_2 := fun vs ds _ => RepDs h' vs ds) .none .bool .int .str .bytes (fun a _ b => .tup (isTuple_mono k a) b) .nil (fun _ _ a b => .cons a b) r
theorem RepDs.mono {h h' : Heap} (k : TupIn h h') {vs : List Value} {ds : List D} (r : RepDs h vs ds) : RepDs h' vs ds :=
  RepDs.rec (motive_1 := fun v d _ => RepD h' v d) (motive_2 := fun vs ds _ => RepDs h' vs ds) .none .bool .int .str .bytes (fun a _ b => .tup (isTuple_mono k a) b) .nil (fun _ _ a b => .cons a b) r
section
variable {h : Heap} {v : Value} {d : D} {vs ws : List Value} {ds es : List D}
theorem RepDs.length (r : RepDs h vs ds) : vs.length = ds.length := by
  induction vs generalizing ds with
  | nil => cases r; rfl
  | cons v vs ih => cases r with | cons _ r => rw [List.length_cons, List.length_cons, ih r]
theorem RepDs.append (r : RepDs h vs ds) (q : RepDs h ws es) : RepDs h (vs ++ ws) (ds ++ es) := by
  induction vs generalizing ds with
  | nil => cases r; exact q
  | cons v vs ih => cases r with | cons a r => exact .cons a (ih r)
theorem RepDs.get (r : RepDs h vs ds) {k : Nat} (e : ds[k]? = some d) : ∃ v, vs[k]? = some v ∧ RepD h v d := by
  induction vs generalizing ds k with
  | nil => cases r; simp at e
  | cons v vs ih =>
    cases r with
    | cons a r =>
      cases k with
      | zero => simp at e; subst e; exact ⟨v, rfl, a⟩
      | succ k => exact ih r (by simpa using e)
theorem RepDs.getL (r : RepDs h vs ds) {k : Nat} (e : vs[k]? = some v) : ∃ d, ds[k]? = some d ∧ RepD h v d := by
  induction vs generalizing ds k with
  | nil => simp at e
  | cons u vs ih =>
    cases r with
    | cons a r =>
      cases k with
      | zero => simp at e; subst e; exact ⟨_, rfl, a⟩
      | succ k => exact ih r (by simpa using e)
theorem RepDs.drop (r : RepDs h vs ds) (k : Nat) : RepDs h (vs.drop k) (ds.drop k) := by
  induction vs generalizing ds k with
  | nil => cases r; simp; exact .nil
  | cons v vs ih =>
    cases r with
    | cons a r =>
      cases k with
      | zero => exact .cons a r
      | succ k => exact ih r k
theorem RepDs.take (r : RepDs h vs ds) (k : Nat) : RepDs h (vs.take k) (ds.take k) := by
  induction vs generalizing ds k with
  | nil => cases r; simp; exact .nil
  | cons v vs ih =>
    cases r with
    | cons a r =>
      cases k with
      | zero => exact .nil
      | succ k => exact .cons a (ih r k)
theorem RepDs.reverse (r : RepDs h vs ds) : RepDs h vs.reverse ds.reverse := by
  induction vs generalizing ds with
  | nil => cases r; exact .nil
  | cons v vs ih =>
    cases r with
    | cons a r => rw [List.reverse_cons, List.reverse_cons]; exact (ih r).append (.cons a .nil)
end

inductive Rep (h : Heap) (ex φ : List Addr) : Value → V → Prop
  | d {v : Value} {x : D} : RepD h v x → Rep h ex φ v (.d x)
  | lst {k : Nat} {a : Addr} : φ[k]? = some a → Rep h ex φ (.ref a) (.lst k)
  | tl {a : Addr} {vs : List Value} {n : Nat} {xs : List D} : IsL h a vs.toArray n → RepDs h vs xs → a ∉ ex → a ∉ φ → Rep h ex φ (.ref a) (.tl xs)
  | val (v : Value) : Rep h ex φ v (.val v)
theorem Rep.data {h : Heap} {ex φ : List Addr} {u : Value} {x : D} (r : Rep h ex φ u (.d x)) : RepD h u x := by cases r; assumption
theorem RepD.ofInt {h : Heap} {u : Value} {i : Int} (r : RepD h u (.int i)) : ∃ t, u = .int i t := by cases r; exact ⟨_, rfl⟩
theorem RepD.ofBool {h : Heap} {u : Value} {b : Bool} (r : RepD h u (.bool b)) : u = .bool b := by cases r; rfl
theorem RepD.ofNone {h : Heap} {u : Value} (r : RepD h u .none) : u = .none := by cases r; rfl
theorem RepD.ofStr {h : Heap} {u : Value} {x : Str} (r : RepD h u (.str x)) : ∃ t, u = .str x t := by cases r; exact ⟨_, rfl⟩
theorem RepD.ofTup {h : Heap} {u : Value} {ds : List D} (r : RepD h u (.tup ds)) : ∃ a vs, u = .ref a ∧ h.IsTuple a (List.toArray vs) ∧ RepDs h vs ds := by cases r with | tup a b => exact ⟨_, _, rfl, a, b⟩
theorem Rep.ofLst {h : Heap} {ex φ : List Addr} {u : Value} {k : Nat} (r : Rep h ex φ u (.lst k)) : ∃ a, u = .ref a ∧ φ[k]? = some a := by cases r with | lst e => exact ⟨_, rfl, e⟩
theorem Rep.ofTl {h : Heap} {ex φ : List Addr} {u : Value} {xs : List D} (r : Rep h ex φ u (.tl xs)) : ∃ a vs n, u = .ref a ∧ IsL h a (List.toArray vs) n ∧ RepDs h vs xs ∧ a ∉ ex ∧ a ∉ φ := by cases r with | tl a b c d => exact ⟨_, _, _, rfl, a, b, c, d⟩
inductive Reps (h : Heap) (ex φ : List Addr) : List Value → List V → Prop
  | nil : Reps h ex φ [] []
  | cons {v : Value} {d : V} {vs : List Value} {ds : List V} : Rep h ex φ v d → Reps h ex φ vs ds → Reps h ex φ (v :: vs) (d :: ds)

/-- what stays: tuples, and all but the listed -/
noncomputable def Keep (ex φ : List Addr) (h h' : Heap) : Prop := ∀ b o, h.get? b = some o → ((o.cls = .type "tuple" ∧ ∃ items n, o.data = .seq items n) ∨ (b ∉ ex ∧ b ∉ φ)) → h'.get? b = some o
structure Nx (ex φ φ' : List Addr) (h h' : Heap) : Prop where
  keep : Keep ex φ h h'
  pre : φ <+: φ'
  fresh : ∀ b ∈ φ', b ∈ φ ∨ h.get? b = none
  live : ∀ b, h'.get? b = none → h.get? b = none
theorem Nx.tup {ex φ φ' : List Addr} {h h' : Heap} (n : Nx ex φ φ' h h') : TupIn h h' := fun b o e c i => n.keep b o e (.inl ⟨c, i⟩)
theorem Nx.refl {ex φ : List Addr} {h : Heap} : Nx ex φ φ h h := ⟨fun _ _ e _ => e, List.prefix_refl _, fun _ m => .inl m, fun _ e => e⟩
theorem Nx.of_stays {ex φ : List Addr} {h h' : Heap} (k : ∀ b o, h.get? b = some o → h'.get? b = some o) : Nx ex φ φ h h' :=
  ⟨fun b o e _ => k b o e, List.prefix_refl _, fun _ m => .inl m, fun b e => by
    cases q : h.get? b with
    | none => rfl
    | some o => rw [k b o q] at e; cases e⟩
theorem Nx.trans {ex φ φ' φ'' : List Addr} {h h' h'' : Heap} (x : Nx ex φ φ' h h') (y : Nx ex φ' φ'' h' h'') : Nx ex φ φ'' h h'' where
  keep := fun b o e c => y.keep b o (x.keep b o e c) (c.imp id fun q => ⟨q.1, fun m => (x.fresh b m).elim q.2 fun z => by rw [e] at z; cases z⟩)
  pre := x.pre.trans y.pre
  fresh := fun b m => (y.fresh b m).elim (x.fresh b) fun z => .inr (x.live b z)
  live := fun b e => x.live b (y.live b e)

theorem Rep.mono {ex φ φ' : List Addr} {h h' : Heap} (n : Nx ex φ φ' h h') {v : Value} {d : V} (r : Rep h ex φ v d) : Rep h' ex φ' v d := by
  cases r with
  | d r => exact .d (r.mono n.tup)
  | lst e => exact .lst (by
      obtain ⟨t, rfl⟩ := n.pre
      rw [List.getElem?_append_left (List.getElem?_eq_some_iff.mp e).1]; exact e)
  | @tl a vs k xs hl hr h1 h2 =>
    exact .tl (n.keep _ _ hl (.inr ⟨h1, h2⟩)) (hr.mono n.tup) h1 fun m => (n.fresh a m).elim h2 fun z => by
      have : h.get? a = some _ := hl
      rw [this] at z; cases z
  | val v => exact .val v
theorem Reps.mono {ex φ φ' : List Addr} {h h' : Heap} (n : Nx ex φ φ' h h') {vs : List Value} {ds : List V} (r : Reps h ex φ vs ds) : Reps h' ex φ' vs ds := by
  induction r with
  | nil => exact .nil
  | cons a _ ih => exact .cons (a.mono n) ih
theorem Reps.length {ex φ : List Addr} {h : Heap} {vs : List Value} {ds : List V} (r : Reps h ex φ vs ds) : vs.length = ds.length := by
  induction r with
  | nil => rfl
  | cons _ _ ih => rw [List.length_cons, List.length_cons, ih]
theorem Reps.get {ex φ : List Addr} {h : Heap} {vs : List Value} {ds : List V} (r : Reps h ex φ vs ds) {k : Nat} {d : V} (e : ds[k]? = some d) : ∃ v, vs[k]? = some v ∧ Rep h ex φ v d := by
  induction r generalizing k with
  | nil => simp at e
  | cons a _ ih =>
    cases k with
    | zero => simp at e; subst e; exact ⟨_, rfl, a⟩
    | succ k => exact ih (by simpa using e)
theorem Reps.snoc {ex φ : List Addr} {h : Heap} {vs : List Value} {ds : List V} (r : Reps h ex φ vs ds) {v : Value} {d : V} (a : Rep h ex φ v d) : Reps h ex φ (vs ++ [v]) (ds ++ [d]) := by
  induction r with
  | nil => exact .cons a .nil
  | cons b _ ih => exact .cons b ih
theorem Reps.append {ex φ : List Addr} {h : Heap} {vs ws : List Value} {ds es : List V} (r : Reps h ex φ vs ds) (q : Reps h ex φ ws es) : Reps h ex φ (vs ++ ws) (ds ++ es) := by
  induction r with
  | nil => exact q
  | cons b _ ih => exact .cons b ih
theorem Reps.take {ex φ : List Addr} {h : Heap} {vs : List Value} {ds : List V} (r : Reps h ex φ vs ds) (k : Nat) : Reps h ex φ (vs.take k) (ds.take k) := by
  induction r generalizing k with
  | nil => simp; exact .nil
  | cons b _ ih =>
    cases k with
    | zero => exact .nil
    | succ k => exact .cons b (ih k)
theorem Reps.set {ex φ : List Addr} {h : Heap} {vs : List Value} {ds : List V} (r : Reps h ex φ vs ds) (k : Nat) {v : Value} {d : V} (a : Rep h ex φ v d) : Reps h ex φ (vs.set k v) (ds.set k d) := by
  induction r generalizing k with
  | nil => exact .nil
  | cons b r ih =>
    cases k with
    | zero => exact .cons a r
    | succ k => exact .cons b (ih k)
/-- a list of data alone -/
theorem Reps.of_ds {ex φ : List Addr} {h : Heap} {vs : List Value} {ds : List D} (r : RepDs h vs ds) : Reps h ex φ vs (ds.map V.d) := by
  induction ds generalizing vs with
  | nil => cases r; exact .nil
  | cons d ds ih => cases r with | cons a r => exact .cons (.d a) (ih r)
theorem Reps.to_ds {ex φ : List Addr} {h : Heap} {vs : List Value} : ∀ {ds : List D}, Reps h ex φ vs (ds.map V.d) → RepDs h vs ds
  | [], r => by cases r; exact .nil
  | d :: ds, r => by
    cases r with
    | cons a r => cases a with | d a => exact .cons a (Reps.to_ds r)

/-- where a name's value lies -/
inductive VarAt (h : Heap) (env : Env) (m : Str → Option Value) (x : Str) (u : Value) : Prop
  | loc : env.kindOf x = some .local → m x = some u → VarAt h env m x u
  | cell {c : Addr} : env.kindOf x = some .cell → env.cells.lookup x = some c → h.IsCell c (some u) → VarAt h env m x u
  | free {c : Addr} : env.kindOf x = some .free → (x == ("__classdict__" : Str)) = false → env.cells.lookup x = some c → h.IsCell c (some u) → VarAt h env m x u

noncomputable abbrev Vars := List (Str × V)
noncomputable abbrev Lists := List (List V)
noncomputable def Bound (h : Heap) (env : Env) (ex φ : List Addr) (ρ : Vars) (m : Str → Option Value) : Prop := ∀ x v, ρ.lookup x = some v → ∃ u, VarAt h env m x u ∧ Rep h ex φ u v
structure EnvOk (env : Env) : Prop where
  kind : env.scope.kind = .function
  glob : env.globals = mainGlobals
  blt : env.builtins = builtinsNs
/-- a code object, by its class -/
noncomputable def CodeCl (h : Heap) (c : Addr) (q : Str) : Prop := ∃ o vs t, h.get? c = some o ∧ o.cls = .type "code" ∧ o.data = .fields vs ∧ vs[1]? = some (.str q t)
/-- the frame's table of inner code: empty, or with the one lambda's -/
noncomputable def TabOk (h : Heap) (q : Str) (ps : Array Value) : Prop := ps = #[] ∨ ∃ c, ps = #[rawInt 156, rawInt 27, .ref c] ∧ CodeCl h c q
noncomputable def Tab (base : Heap) (env : Env) (ex : List Addr) (h : Heap) : Prop := ∃ c P ps, env.code = .ref c ∧ CodeHd base c P ∧ P ∈ ex ∧ h.get? P = some (tabObj ps) ∧ TabOk h (env.qual ++ "<lambda>") ps
theorem Tab.mono {base : Heap} {env : Env} {ex : List Addr} {h h' : Heap} (t : Tab base env ex h) (k : ∀ b o vs, h.get? b = some o → o.data = .fields vs → (o.cls = .type "code" ∨ b ∈ ex) → h'.get? b = some o) : Tab base env ex h' := by
  obtain ⟨c, P, ps, e, hc, hP, hg, ht⟩ := t
  refine ⟨c, P, ps, e, hc, hP, k _ _ _ hg rfl (.inr hP), ?_⟩
  rcases ht with ht | ⟨c', e', o, vs, t, ho, hcl, hd, hv⟩
  · exact .inl ht
  · exact .inr ⟨c', e', o, vs, t, k _ _ _ ho hd (.inl hcl), hcl, hd, hv⟩
structure St (base : Heap) (env : Env) (ex φ : List Addr) (ρ : Vars) (μ : Lists) (s : Shared) : Prop where
  ok : EnvOk env
  hL : env.locals ∈ ex
  ns : ∃ m, s.heap.Ns env.locals m ∧ Bound s.heap env ex φ ρ m
  stays : base.StaysIn s.heap
  offx : ∀ b ∈ ex, base.get? b = none
  offl : ∀ b ∈ φ, base.get? b = none
  live : ∀ b ∈ ex, ∃ o, s.heap.get? b = some o ∧ ∀ items n, o.data ≠ .seq items n
  len : φ.length = μ.length
  nodup : φ.Nodup
  lists : ∀ (k : Nat) (a : Addr) (ds : List V), φ[k]? = some a → μ[k]? = some ds → ∃ us n, IsL s.heap a (List.toArray us) n ∧ Reps s.heap ex φ us ds
  cellx : env.func ≠ none → ∀ x c, env.kindOf x = some .cell → env.cells.lookup x = some c → c ∈ ex ∧ ∃ q, s.heap.IsCell c q
  tabx : env.func ≠ none → env.kindOf "truths" = some .cell → Tab base env ex s.heap

structure AOk (A : Around) (B : Nat) : Prop where
  hh : A.handled = none
  dep : A.depth + B ≤ 900
  un : A.units + 16 * B ≤ 9000
theorem AOk.le {A : Around} {B B' : Nat} (h : AOk A B) (l : B' ≤ B) : AOk A B' := ⟨h.hh, by have := h.dep; lia, by have := h.un; lia⟩

noncomputable def Sim (s s' : Shared) : Prop := ∃ h tk, s' = { s with heap := h, toks := tk }
theorem Sim.refl (s : Shared) : Sim s s := ⟨_, _, rfl⟩
theorem Sim.trans {s s' s'' : Shared} (x : Sim s s') (y : Sim s' s'') : Sim s s'' := by
  obtain ⟨h, t, rfl⟩ := x
  obtain ⟨h', t', rfl⟩ := y
  exact ⟨h', t', rfl⟩

/-- what stands after a step -/
inductive Post {α β : Type} (base : Heap) (env : Env) (ex φ : List Addr) (s : Shared) (P : Heap → List Addr → List Addr → α → β → Prop) (Q : β → Vars → Lists → Prop) (a : α) (s' : Shared) : Prop
  | mk (b : β) (ρ' : Vars) (μ' : Lists) (φ' : List Addr) : St base env ex φ' ρ' μ' s' → Nx ex φ φ' s.heap s'.heap → Sim s s' → P s'.heap ex φ' a b → Q b ρ' μ' → Post base env ex φ s P Q a s'
section
variable (prog : Program) (w : World)
noncomputable def T (base : Heap) (env : Env) (B : Nat) {α β : Type} (t : Sem α) (P : Heap → List Addr → List Addr → α → β → Prop) (ρ : Vars) (μ : Lists) (Q : β → Vars → Lists → Prop) : Prop :=
  ∀ (A : Around) (s : Shared) (ex φ : List Addr), AOk A B → St base env ex φ ρ μ s → wpAny (model prog w) A t (Post base env ex φ s P Q) (fun _ _ => False) s
end
section
variable {prog : Program} {w : World} {base : Heap} {env : Env} {B : Nat} {α β γ : Type} {t : Sem α} {P : Heap → List Addr → List Addr → α → β → Prop} {ρ : Vars} {μ : Lists} {Q Q' : β → Vars → Lists → Prop}
theorem T.use {A : Around} {s : Shared} {ex φ : List Addr} {R : α → Shared → Prop} (h : T prog w base env B t P ρ μ Q) (hA : AOk A B) (S : St base env ex φ ρ μ s)
    (k : ∀ a s' b ρ' μ' φ', St base env ex φ' ρ' μ' s' → Nx ex φ φ' s.heap s'.heap → Sim s s' → P s'.heap ex φ' a b → Q b ρ' μ' → R a s') : wpAny (model prog w) A t R (fun _ _ => False) s :=
  wpAny_mono (h A s ex φ hA S) (fun a s' ⟨b, ρ', μ', φ', S', N, M, p, q⟩ => k a s' b ρ' μ' φ' S' N M p q) fun _ _ x => x
theorem T.mono (h : T prog w base env B t P ρ μ Q) (k : ∀ b ρ' μ', Q b ρ' μ' → Q' b ρ' μ') : T prog w base env B t P ρ μ Q' :=
  fun A s ex φ hA S => h.use hA S fun a s' b ρ' μ' φ' S' N M p q => ⟨b, ρ', μ', φ', S', N, M, p, k _ _ _ q⟩
end

section
variable {base : Heap} {env : Env} {ex φ : List Addr} {ρ : Vars} {μ : Lists} {s : Shared} {h' : Heap} {tk : Nat} {m : Str → Option Value}
theorem VarAt.stays {h : Heap} (k : ∀ b o, h.get? b = some o → h'.get? b = some o) {x : Str} {u : Value} (v : VarAt h env m x u) : VarAt h' env m x u := by
  cases v with
  | loc a b => exact .loc a b
  | cell a b c => obtain ⟨o, ho, hd⟩ := c; exact .cell a b ⟨o, k _ _ ho, hd⟩
  | free a d b c => obtain ⟨o, ho, hd⟩ := c; exact .free a d b ⟨o, k _ _ ho, hd⟩
theorem St.grow (S : St base env ex φ ρ μ s) (k : ∀ b o, s.heap.get? b = some o → h'.get? b = some o) : St base env ex φ ρ μ { s with heap := h', toks := tk } where
  ok := S.ok
  hL := S.hL
  ns := let ⟨m, hn, hb⟩ := S.ns; ⟨m, hn.keeps k, fun x v e => let ⟨u, a, r⟩ := hb x v e; ⟨u, a.stays k, r.mono (.of_stays k)⟩⟩
  stays := fun b o e => k b o (S.stays b o e)
  offx := S.offx
  offl := S.offl
  live := fun b hb => let ⟨o, ho, hd⟩ := S.live b hb; ⟨o, k b o ho, hd⟩
  len := S.len
  nodup := S.nodup
  lists := fun i a ds e f => let ⟨us, n, hl, hr⟩ := S.lists i a ds e f; ⟨us, n, k _ _ hl, hr.mono (.of_stays k)⟩
  cellx := fun hf x c a b => let ⟨m, q, hc⟩ := S.cellx hf x c a b; ⟨m, q, hc.keeps k⟩
  tabx := fun hf ht => (S.tabx hf ht).mono fun b o vs e _ _ => k b o e
theorem St.tok (S : St base env ex φ ρ μ s) : St base env ex φ ρ μ { s with toks := tk } := S.grow fun _ _ e => e

/-- a change at one address that bears no tuple and no own list, and is not in the base -/
theorem Keep.of_but {a : Addr} {h : Heap} (k : Heap.SameBut a h h') (ha : a ∈ ex ∨ a ∈ φ) (hs : ∀ o, h.get? a = some o → ¬ (o.cls = .type "tuple" ∧ ∃ items n, o.data = .seq items n)) : Keep ex φ h h' := fun b o e c => by
  by_cases q : b = a
  · subst q
    exact (c.elim (hs o e) fun z => ha.elim z.1 z.2).elim
  · exact (k.2 b q).trans e
theorem Nx.of_but {a : Addr} {h : Heap} (k : Heap.SameBut a h h') (ha : a ∈ ex ∨ a ∈ φ) (hs : ∀ o, h.get? a = some o → ¬ (o.cls = .type "tuple" ∧ ∃ items n, o.data = .seq items n)) (hl : h'.get? a ≠ none) : Nx ex φ φ h h' where
  keep := Keep.of_but k ha hs
  pre := List.prefix_refl _
  fresh := fun _ m => .inl m
  live := fun b e => by
    by_cases q : b = a
    · subst q; exact absurd e hl
    · rw [← k.2 b q]; exact e
theorem ns_not_seq {h : Heap} {L : Addr} (hn : h.Ns L m) : ∃ o, h.get? L = some o ∧ ∀ items n, o.data ≠ .seq items n := by
  obtain ⟨o, es, ep, ho, hd, _⟩ := hn
  exact ⟨o, ho, fun items n q => by rw [hd] at q; cases q⟩
theorem ns_not_tuple {h : Heap} {L : Addr} (hn : h.Ns L m) : ∀ o, h.get? L = some o → ¬ (o.cls = .type "tuple" ∧ ∃ items n, o.data = .seq items n) := fun o e c => by
  obtain ⟨o', ho, hd⟩ := ns_not_seq hn
  rw [ho] at e; cases e
  obtain ⟨items, n, q⟩ := c.2
  exact hd _ _ q
theorem ns_not_flds {h : Heap} {L : Addr} (hn : h.Ns L m) : ∀ o, h.get? L = some o → ∀ vs, o.data ≠ .fields vs := fun o e vs q => by
  obtain ⟨o', es, ep, ho, hd, _⟩ := hn
  rw [e] at ho; cases ho
  rw [hd] at q; cases q
theorem isL_ne_ns {h : Heap} {L a : Addr} {items : Array Value} {n : Nat} (hl : IsL h a items n) (hn : h.Ns L m) : a ≠ L := fun q => by
  obtain ⟨o, ho, hd⟩ := ns_not_seq hn
  subst q
  have : h.get? a = some _ := hl
  rw [this] at ho; cases ho
  exact hd _ _ rfl
theorem isL_ne_cell {h : Heap} {c a : Addr} {items : Array Value} {n : Nat} {u : Option Value} (hl : IsL h a items n) (hc : h.IsCell c u) : a ≠ c := fun q => by
  obtain ⟨o, ho, hd⟩ := hc
  subst q
  have : h.get? a = some _ := hl
  rw [this] at ho; cases ho
  cases hd
theorem ns_ne_cell {h : Heap} {c L : Addr} {u : Option Value} (hn : h.Ns L m) (hc : h.IsCell c u) : c ≠ L := fun q => by
  obtain ⟨o, ho, hd⟩ := hc
  obtain ⟨o', es, ep, ho', hd', _⟩ := hn
  subst q
  rw [ho] at ho'; cases ho'
  rw [hd] at hd'; cases hd'

/-- a local name is stored -/
theorem St.store (S : St base env ex φ ρ μ s) (hn₀ : s.heap.Ns env.locals m) (hb : Bound s.heap env ex φ ρ m) {x : Str} {u : Value} {v : V} (hk : env.kindOf x = some .local) (hr : Rep s.heap ex φ u v)
    (hn : h'.Ns env.locals fun y => if y = x then some u else m y) (hs : Heap.SameBut env.locals s.heap h') :
    St base env ex φ ((x, v) :: ρ) μ { s with heap := h', toks := tk } ∧ Nx ex φ φ s.heap h' := by
  have N : Nx ex φ φ s.heap h' := Nx.of_but hs (.inl S.hL) (ns_not_tuple hn₀) (by obtain ⟨o, ho, _⟩ := ns_not_seq hn; rw [ho]; exact fun q => by cases q)
  refine ⟨⟨S.ok, S.hL, ⟨_, hn, fun y v' e => ?_⟩, fun b o e => ?_, S.offx, S.offl, fun b hb' => ?_, S.len, S.nodup, fun k a ds e f => ?_, fun hf x c a b => let ⟨m, q, hc⟩ := S.cellx hf x c a b; ⟨m, q, hc.sameBut hs (ns_ne_cell hn₀ hc)⟩, fun hf ht => (S.tabx hf ht).mono fun b o vs e d _ => (hs.2 b (fun q => (ns_not_flds hn₀ o (q ▸ e) vs d).elim)).trans e⟩, N⟩
  · rw [List.lookup_cons] at e
    by_cases q : y = x
    · subst q
      rw [beq_self_eq_true] at e
      cases e
      exact ⟨u, .loc hk (if_pos rfl), hr.mono N⟩
    · rw [beq_eq_false_iff_ne.mpr q] at e
      obtain ⟨u', a, r⟩ := hb y v' e
      refine ⟨u', ?_, r.mono N⟩
      cases a with
      | loc a b => exact .loc a ((if_neg q).trans b)
      | cell a b c => exact .cell a b (let ⟨o, ho, hd⟩ := c; ⟨o, (hs.2 _ (ns_ne_cell hn₀ c)).trans ho, hd⟩)
      | free a d b c => exact .free a d b (let ⟨o, ho, hd⟩ := c; ⟨o, (hs.2 _ (ns_ne_cell hn₀ c)).trans ho, hd⟩)
  · have : b ≠ env.locals := fun q => by rw [q, S.offx _ S.hL] at e; cases e
    exact (hs.2 b this).trans (S.stays b o e)
  · by_cases q : b = env.locals
    · subst q; exact ns_not_seq hn
    · obtain ⟨o, ho, hd⟩ := S.live b hb'
      exact ⟨o, (hs.2 b q).trans ho, hd⟩
  · obtain ⟨us, n, hl, hrs⟩ := S.lists k a ds e f
    exact ⟨us, n, (hs.2 a (isL_ne_ns hl hn₀)).trans hl, hrs.mono N⟩

/-- an own list is turned -/
theorem St.turn (S : St base env ex φ ρ μ s) {k : Nat} {a : Addr} (ha : φ[k]? = some a) {us : List Value} {n : Nat} {ds : List V} (hl : IsL s.heap a us.toArray n) {us' : List Value} {n' : Nat} (hl' : IsL h' a us'.toArray n')
    (hs : Heap.SameBut a s.heap h') (hr : Reps s.heap ex φ us' ds) : St base env ex φ ρ (μ.set k ds) { s with heap := h', toks := tk } ∧ Nx ex φ φ s.heap h' := by
  have hm : a ∈ φ := List.mem_of_getElem? ha
  have N : Nx ex φ φ s.heap h' := Nx.of_but hs (.inr hm) (fun o e c => by
      have : s.heap.get? a = some _ := hl
      rw [this] at e; cases e; exact absurd (show Value.type "list" = Value.type "tuple" from c.1) (by decide)) (by have : h'.get? a = some _ := hl'; rw [this]; exact fun q => by cases q)
  obtain ⟨m, hn₀, hb⟩ := S.ns
  have naL := isL_ne_ns hl hn₀
  refine ⟨⟨S.ok, S.hL, ⟨m, hn₀.sameBut hs (Ne.symm naL), fun y v' e => ?_⟩, fun b o e => ?_, S.offx, S.offl, fun b hb' => ?_, by rw [List.length_set]; exact S.len, S.nodup, fun j b ds' e f => ?_, fun hf x c a b => let ⟨m, q, hc⟩ := S.cellx hf x c a b; ⟨m, q, hc.sameBut hs (Ne.symm (isL_ne_cell hl hc))⟩, fun hf ht => (S.tabx hf ht).mono fun b o vs e d _ => (hs.2 b (fun q => by
      subst q
      have hl2 : s.heap.get? b = some _ := hl
      rw [hl2] at e; cases e; cases d)).trans e⟩, N⟩
  · obtain ⟨u', a', r⟩ := hb y v' e
    refine ⟨u', ?_, r.mono N⟩
    cases a' with
    | loc a b => exact .loc a b
    | cell a b c => exact .cell a b (let ⟨o, ho, hd⟩ := c; ⟨o, (hs.2 _ (Ne.symm (isL_ne_cell hl c))).trans ho, hd⟩)
    | free a d b c => exact .free a d b (let ⟨o, ho, hd⟩ := c; ⟨o, (hs.2 _ (Ne.symm (isL_ne_cell hl c))).trans ho, hd⟩)
  · have : b ≠ a := fun q => by rw [q, S.offl _ hm] at e; cases e
    exact (hs.2 b this).trans (S.stays b o e)
  · obtain ⟨o, ho, hd⟩ := S.live b hb'
    have : b ≠ a := fun q => by
      subst q
      have : s.heap.get? b = some _ := hl
      rw [this] at ho; cases ho
      exact hd _ _ rfl
    exact ⟨o, (hs.2 b this).trans ho, hd⟩
  · by_cases q : j = k
    · subst q
      rw [ha] at e; cases e
      rw [List.getElem?_set_self (by
        rw [← S.len]; exact (List.getElem?_eq_some_iff.mp ha).1)] at f
      cases f
      exact ⟨us', n', hl', hr.mono N⟩
    · rw [List.getElem?_set_ne (Ne.symm q)] at f
      obtain ⟨vs, n₂, hl₂, hr₂⟩ := S.lists j b ds' e f
      have : b ≠ a := fun z => by
        subst z
        exact q ((List.getElem?_inj (List.getElem?_eq_some_iff.mp e).1 S.nodup).mp (e.trans ha.symm))
      exact ⟨vs, n₂, (hs.2 b this).trans hl₂, hr₂.mono N⟩

/-- a new own list -/
theorem St.fresh (S : St base env ex φ ρ μ s) {us : List Value} {ds : List V} (hr : Reps s.heap ex φ us ds) :
    St base env ex (φ ++ [s.heap.objs.size]) ρ (μ ++ [ds]) { s with heap := s.heap.push { cls := .type "list", data := .seq us.toArray }, toks := tk } ∧
      Nx ex φ (φ ++ [s.heap.objs.size]) s.heap (s.heap.push { cls := .type "list", data := .seq us.toArray }) := by
  have k : ∀ b o, s.heap.get? b = some o → (s.heap.push { cls := .type "list", data := .seq us.toArray }).get? b = some o := fun b o e => Heap.get?_push_of_some _ e
  have hnew : s.heap.get? s.heap.objs.size = none := Heap.get?_none_of_le (Nat.le_refl _)
  have N : Nx ex φ (φ ++ [s.heap.objs.size]) s.heap (s.heap.push { cls := .type "list", data := .seq us.toArray }) :=
    ⟨fun b o e _ => k b o e, List.prefix_append _ _, fun b m => (List.mem_append.mp m).imp id fun z => by rw [List.mem_singleton.mp z]; exact hnew, (Nx.of_stays (ex := ex) (φ := φ) k).live⟩
  obtain ⟨m, hn₀, hb⟩ := S.ns
  refine ⟨⟨S.ok, S.hL, ⟨m, hn₀.keeps k, fun x v e => let ⟨u, a, r⟩ := hb x v e; ⟨u, a.stays k, r.mono N⟩⟩, fun b o e => k b o (S.stays b o e), S.offx, fun b hb' => ?_,
    fun b hb' => let ⟨o, ho, hd⟩ := S.live b hb'; ⟨o, k b o ho, hd⟩, by simp [S.len], ?_, fun j a ds' e f => ?_, fun hf x c a b => let ⟨m, q, hc⟩ := S.cellx hf x c a b; ⟨m, q, hc.keeps k⟩, fun hf ht => (S.tabx hf ht).mono fun b o vs e _ _ => k b o e⟩, N⟩
  · rcases List.mem_append.mp hb' with hb' | hb'
    · exact S.offl b hb'
    · rw [List.mem_singleton.mp hb']
      cases q : base.get? s.heap.objs.size with
      | none => rfl
      | some o => have := S.stays _ _ q; rw [hnew] at this; cases this
  · refine List.nodup_append.mpr ⟨S.nodup, by simp, fun a ha b hb' q => ?_⟩
    rw [List.mem_singleton.mp hb'] at q
    obtain ⟨i, hi⟩ := List.mem_iff_getElem?.mp ha
    obtain ⟨ds', hd'⟩ : ∃ ds', μ[i]? = some ds' := by
      have := (List.getElem?_eq_some_iff.mp hi).1
      exact ⟨_, List.getElem?_eq_getElem (by rw [← S.len]; exact this)⟩
    obtain ⟨us', n', hl, _⟩ := S.lists i a ds' hi hd'
    have : s.heap.get? a = some _ := hl
    rw [q, hnew] at this; cases this
  · by_cases q : j < φ.length
    · rw [List.getElem?_append_left q] at e
      rw [List.getElem?_append_left (by rw [← S.len]; exact q)] at f
      obtain ⟨us', n', hl, hr'⟩ := S.lists j a ds' e f
      exact ⟨us', n', k _ _ hl, hr'.mono N⟩
    · rw [List.getElem?_append_right (by lia)] at e
      rw [List.getElem?_append_right (by rw [← S.len]; lia)] at f
      have hj : j - φ.length = 0 := by
        have := (List.getElem?_eq_some_iff.mp e).1
        simp at this; lia
      have hj' : j - μ.length = 0 := by rw [← S.len]; exact hj
      rw [hj] at e; rw [hj'] at f
      cases e; cases f
      exact ⟨us, 0, Heap.get?_push_size _ rfl, hr.mono N⟩
end
end Mine

/-! part MP2 -/
namespace Mine
open PySem PySem.W PySem.Calls PyProof.Rows PySem.SeqAt PySem.MeetsSeq
open AutoSeq1 (wpAny_loadPart')

/-! equality of data, as python's == tells it -/
mutual
noncomputable def eqD : D → D → Bool
  | .none, .none => true
  | .bool a, .bool b => a == b
  | .int a, .int b => a == b
  | .str a, .str b => a == b
  | .bytes a, .bytes b => a.toList == b.toList
  | .tup xs, .tup ys => eqDs xs ys
  | _, _ => false
noncomputable def eqDs : List D → List D → Bool
  | [], [] => true
  | x :: xs, y :: ys => eqD x y && eqDs xs ys
  | _, _ => false
end
mutual
/-- == asks only of items of one kind -/
noncomputable def okD : D → D → Bool
  | .none, .none => true
  | .bool _, .bool _ => true
  | .int _, .int _ => true
  | .str _, .str _ => true
  | .bytes _, .bytes _ => true
  | .tup xs, .tup ys => okDs xs ys
  | _, _ => false
noncomputable def okDs : List D → List D → Bool
  | x :: xs, y :: ys => okD x y && (!eqD x y || okDs xs ys)
  | _, _ => true
end
mutual
noncomputable def depD : D → Nat
  | .tup xs => depDs xs + 1
  | _ => 0
noncomputable def depDs : List D → Nat
  | [] => 0
  | x :: xs => max (depD x) (depDs xs)
end
theorem eqD_tup (xs ys : List D) : eqD (.tup xs) (.tup ys) = eqDs xs ys := rfl
theorem eqD_int (a b : Int) : eqD (.int a) (.int b) = (a == b) := rfl
theorem eqD_str (a b : Str) : eqD (.str a) (.str b) = (a == b) := rfl
theorem eqD_bytes (a b : Array UInt8) : eqD (.bytes a) (.bytes b) = (a.toList == b.toList) := rfl
theorem eqDs_cons (x y : D) (xs ys : List D) : eqDs (x :: xs) (y :: ys) = (eqD x y && eqDs xs ys) := rfl
theorem eqDs_nil : eqDs [] [] = true := rfl
theorem dep_str (a : Str) : depD (.str a) = 0 := rfl
theorem dep_nil : depDs [] = 0 := rfl
theorem okD_tup (xs ys : List D) : okD (.tup xs) (.tup ys) = okDs xs ys := rfl
theorem okD_str (a b : Str) : okD (.str a) (.str b) = true := rfl
theorem okDs_cons (x y : D) (xs ys : List D) : okDs (x :: xs) (y :: ys) = (okD x y && (!eqD x y || okDs xs ys)) := rfl
theorem depD_tup (xs : List D) : depD (.tup xs) = depDs xs + 1 := rfl
theorem depDs_cons (x : D) (xs : List D) : depDs (x :: xs) = max (depD x) (depDs xs) := rfl
mutual
theorem eqD_refl : ∀ d : D, eqD d d = true
  | .none => rfl
  | .bool b => beq_self_eq_true b
  | .int b => beq_self_eq_true b
  | .str b => beq_self_eq_true b
  | .bytes b => beq_self_eq_true b.toList
  | .tup xs => eqDs_refl xs
theorem eqDs_refl : ∀ d : List D, eqDs d d = true
  | [] => rfl
  | x :: xs => by rw [eqDs_cons, eqD_refl x, eqDs_refl xs]; rfl
end
theorem ff {P : Prop} (h : false = true) : P := nomatch h
mutual
theorem eqD_eq : ∀ {d e : D}, eqD d e = true → d = e
  | .none, e, h => by cases e <;> first | rfl | exact ff h
  | .bool _, e, h => by cases e <;> first | exact congrArg _ (eq_of_beq h) | exact ff h
  | .int _, e, h => by cases e <;> first | exact congrArg _ (eq_of_beq h) | exact ff h
  | .str _, e, h => by cases e <;> first | exact congrArg _ (eq_of_beq h) | exact ff h
  | .bytes _, e, h => by cases e <;> first | exact congrArg _ (Array.ext' (eq_of_beq h)) | exact ff h
  | .tup xs, e, h => by cases e <;> first | exact congrArg _ (eqDs_eq h) | exact ff h
theorem eqDs_eq : ∀ {d e : List D}, eqDs d e = true → d = e
  | [], e, h => by cases e <;> first | rfl | exact ff h
  | x :: xs, e, h => by
    cases e with
    | nil => exact ff h
    | cons y ys =>
      rw [eqDs_cons, Bool.and_eq_true] at h
      rw [eqD_eq h.1, eqDs_eq h.2]
end
theorem eqDs_len {xs ys : List D} (h : eqDs xs ys = true) : xs.length = ys.length := by rw [eqDs_eq h]
theorem RepD.unique {h : Heap} {v : Value} {x : D} (r : RepD h v x) : ∀ {y : D}, RepD h v y → x = y :=
  RepD.rec (motive_1 := fun v x _ => ∀ {y : D}, RepD h v y → x = y) (motive_2 := fun vs xs _ => ∀ {ys : List D}, RepDs h vs ys → xs = ys)
    (fun r => by cases r; rfl) (fun _ _ r => by cases r; rfl) (fun _ _ _ r => by cases r; rfl) (fun _ _ _ r => by cases r; rfl) (fun _ _ _ r => by cases r; rfl)
    (fun ⟨o, ho, hc, n, hd⟩ _ ih _ r => by
      cases r with
      | tup ht r =>
        obtain ⟨o', ho', hc', n', hd'⟩ := ht
        rw [ho] at ho'; cases ho'
        rw [hd] at hd'
        injection hd' with e _
        have e' := congrArg Array.toList e
        simp only at e'
        subst e'
        rw [ih r])
    (fun r => by cases r; rfl) (fun _ _ i j _ r => by cases r with | cons b r => rw [i b, j r]) r

/-! tuples and lists met item by item, asked only as far as the items before are equal -/
theorem tup_eq_upto (l b : Addr) (items items2 : Array Value) (n n2 : Nat) (dd dd2 : Option Addr) (sl sl2 : Array (Option Value)) (e : Nat → Bool) :
    Meets (Builtin.«tuple.__eq__» ⟨[.ref l, .ref b], []⟩)
      (fun A R s => s.heap.get? l = some { cls := .type "tuple", dict := dd, data := .seq items n, slots := sl } ∧ s.heap.get? b = some { cls := .type "tuple", dict := dd2, data := .seq items2 n2, slots := sl2 } ∧
        (∀ j (h1 : j < items.size) (h2 : j < items2.size), (∀ i, i < j → e i = true) → EqAt A.in1 s items[j] items2[j] (e j)) ∧
        R (.ok (.ret (.bool ((List.range (min items.size items2.size)).all e && items.size == items2.size)))) s) :=
  .of_wp fun prog w A R s h => by
    obtain ⟨hp, g, d, tk, os⟩ := s; obtain ⟨hl, hb, he, h⟩ := h
    have f2 := AutoSeq1.sub_tuple_tuple
    have hZ : (items.toList.zip items2.toList).length = min items.size items2.size := by simp
    wp_walk using wpAny_loadPart' hl, wpAny_loadPart' hb, wpAny_forIn_list _ (fun rest b s' => b.1 = none ∧ s' = ⟨hp, g, d, tk, os⟩ ∧ ∃ i, rest = (items.toList.zip items2.toList).drop i ∧ (∀ k, k < i → e k = true) ∧
      R (.ok (.ret (.bool (((List.range (min items.size items2.size)).drop i).all e && items.size == items2.size)))) ⟨hp, g, d, tk, os⟩) _
    case turn =>
      rintro ⟨y, x⟩ rest b s' ⟨hb', rfl, i, hz, hup, hR⟩
      have hlt : i < (items.toList.zip items2.toList).length := by
        rcases Nat.lt_or_ge i (items.toList.zip items2.toList).length with h' | h'
        · exact h'
        · rw [List.drop_of_length_le h'] at hz; cases hz
      have hm : i < min items.size items2.size := hZ ▸ hlt
      have h1 : i < items.size := Nat.lt_of_lt_of_le hm (Nat.min_le_left _ _)
      have h2 : i < items2.size := Nat.lt_of_lt_of_le hm (Nat.min_le_right _ _)
      rw [List.drop_eq_getElem_cons hlt] at hz
      injection hz with hyx hrest
      have hy : y = items[i] := by have := congrArg Prod.fst hyx; simpa using this
      have hx : x = items2[i] := by have := congrArg Prod.snd hyx; simpa using this
      subst hy hx
      have hd : (List.range (min items.size items2.size)).drop i = i :: (List.range (min items.size items2.size)).drop (i + 1) := by simp [List.drop_eq_getElem_cons, hm]
      rw [hd, List.all_cons] at hR
      refine wpAny_bind (he i h1 h2 hup prog w _ _ ?_)
      cases hy : e i with
      | true =>
        rw [hy] at hR
        wp_walk
        refine ⟨rfl, rfl, i + 1, hrest, fun k hk => ?_, by simpa using hR⟩
        rcases Nat.lt_or_eq_of_le (Nat.le_of_lt_succ hk) with q | q
        · exact hup k q
        · rw [q]; exact hy
      | false =>
        rw [hy] at hR
        wp_walk
        exact ⟨_, rfl, by simpa using hR⟩
    case fin =>
      rintro ⟨b1, b2⟩ s' ⟨hb', rfl, i, hz, hup, hR⟩
      simp only at hb'
      subst hb'
      have hge : min items.size items2.size ≤ i := by
        rcases Nat.lt_or_ge i (items.toList.zip items2.toList).length with h' | h'
        · rw [List.drop_eq_getElem_cons h'] at hz; cases hz
        · exact hZ ▸ h'
      rw [List.drop_of_length_le (by simpa using hge)] at hR
      wp_walk
      exact ⟨_, rfl, by simpa [Builtin.Tuple.tupleCompareSizes] using hR⟩
    case h =>
      exact ⟨rfl, rfl, 0, rfl, fun k hk => absurd hk (Nat.not_lt_zero _), by simpa using h⟩

theorem tup_ne_upto (l b : Addr) (items items2 : Array Value) (n n2 : Nat) (dd dd2 : Option Addr) (sl sl2 : Array (Option Value)) (e : Nat → Bool) :
    Meets (Builtin.«tuple.__ne__» ⟨[.ref l, .ref b], []⟩)
      (fun A R s => s.heap.get? l = some { cls := .type "tuple", dict := dd, data := .seq items n, slots := sl } ∧ s.heap.get? b = some { cls := .type "tuple", dict := dd2, data := .seq items2 n2, slots := sl2 } ∧
        (∀ j (h1 : j < items.size) (h2 : j < items2.size), (∀ i, i < j → e i = true) → EqAt A.in1 s items[j] items2[j] (e j)) ∧
        R (.ok (.ret (.bool (!((List.range (min items.size items2.size)).all e && items.size == items2.size))))) s) :=
  .of_wp fun prog w A R s h => by
    obtain ⟨hp, g, d, tk, os⟩ := s; obtain ⟨hl, hb, he, h⟩ := h
    have f2 := AutoSeq1.sub_tuple_tuple
    have hZ : (items.toList.zip items2.toList).length = min items.size items2.size := by simp
    wp_walk using wpAny_loadPart' hl, wpAny_loadPart' hb, wpAny_forIn_list _ (fun rest b s' => b.1 = none ∧ s' = ⟨hp, g, d, tk, os⟩ ∧ ∃ i, rest = (items.toList.zip items2.toList).drop i ∧ (∀ k, k < i → e k = true) ∧
      R (.ok (.ret (.bool (!(((List.range (min items.size items2.size)).drop i).all e && items.size == items2.size))))) ⟨hp, g, d, tk, os⟩) _
    case turn =>
      rintro ⟨y, x⟩ rest b s' ⟨hb', rfl, i, hz, hup, hR⟩
      have hlt : i < (items.toList.zip items2.toList).length := by
        rcases Nat.lt_or_ge i (items.toList.zip items2.toList).length with h' | h'
        · exact h'
        · rw [List.drop_of_length_le h'] at hz; cases hz
      have hm : i < min items.size items2.size := hZ ▸ hlt
      have h1 : i < items.size := Nat.lt_of_lt_of_le hm (Nat.min_le_left _ _)
      have h2 : i < items2.size := Nat.lt_of_lt_of_le hm (Nat.min_le_right _ _)
      rw [List.drop_eq_getElem_cons hlt] at hz
      injection hz with hyx hrest
      have hy : y = items[i] := by have := congrArg Prod.fst hyx; simpa using this
      have hx : x = items2[i] := by have := congrArg Prod.snd hyx; simpa using this
      subst hy hx
      have hd : (List.range (min items.size items2.size)).drop i = i :: (List.range (min items.size items2.size)).drop (i + 1) := by simp [List.drop_eq_getElem_cons, hm]
      rw [hd, List.all_cons] at hR
      refine wpAny_bind (he i h1 h2 hup prog w _ _ ?_)
      cases hy : e i with
      | true =>
        rw [hy] at hR
        wp_walk
        refine ⟨rfl, rfl, i + 1, hrest, fun k hk => ?_, by simpa using hR⟩
        rcases Nat.lt_or_eq_of_le (Nat.le_of_lt_succ hk) with q | q
        · exact hup k q
        · rw [q]; exact hy
      | false =>
        rw [hy] at hR
        wp_walk
        exact ⟨_, rfl, by simpa using hR⟩
    case fin =>
      rintro ⟨b1, b2⟩ s' ⟨hb', rfl, i, hz, hup, hR⟩
      simp only at hb'
      subst hb'
      have hge : min items.size items2.size ≤ i := by
        rcases Nat.lt_or_ge i (items.toList.zip items2.toList).length with h' | h'
        · rw [List.drop_eq_getElem_cons h'] at hz; cases hz
        · exact hZ ▸ h'
      rw [List.drop_of_length_le (by simpa using hge)] at hR
      wp_walk
      exact ⟨_, rfl, by simpa [Builtin.Tuple.tupleCompareSizes, bne] using hR⟩
    case h =>
      exact ⟨rfl, rfl, 0, rfl, fun k hk => absurd hk (Nat.not_lt_zero _), by simpa using h⟩

section
variable {A : Around} {s : Shared}
theorem rc_tuples {l b : Addr} {items items2 : Array Value} {e : Nat → Bool} (hl : s.heap.IsTuple l items) (hb : s.heap.IsTuple b items2) (hu : A.units < cLine)
    (he : ∀ j (h1 : j < items.size) (h2 : j < items2.size), (∀ i, i < j → e i = true) → EqAt A.in1 s items[j] items2[j] (e j)) : RcAt A s (.ref l) (.ref b) ((List.range (min items.size items2.size)).all e && items.size == items2.size) := fun prog w E Q h => by
  obtain ⟨⟨cls, dd, data, sl⟩, ho, hc, n, hd⟩ := id hl
  obtain ⟨⟨cls2, dd2, data2, sl2⟩, ho2, hc2, n2, hd2⟩ := id hb
  simp only at hc hd hc2 hd2
  subst hc hd hc2 hd2
  exact richCompare_meets_room (op := .Eq) ⟨_, ho, rfl⟩ ⟨_, ho2, rfl⟩ F.slot_tuple_eq F.entry_tuple_eq (F.args_tuple_eq_2 _ _) (tup_eq_upto l b items items2 n n2 dd dd2 sl sl2 e)
    ⟨ho, ho2, he, show Value.bool ((List.range (min items.size items2.size)).all e && items.size == items2.size) ≠ Value.notImplemented ∧ Q (.bool ((List.range (min items.size items2.size)).all e && items.size == items2.size)) s from ⟨(fun x => nomatch x), h⟩⟩ hu
theorem rcne_tuples {l b : Addr} {items items2 : Array Value} {e : Nat → Bool} (hl : s.heap.IsTuple l items) (hb : s.heap.IsTuple b items2) (hu : A.units < cLine)
    (he : ∀ j (h1 : j < items.size) (h2 : j < items2.size), (∀ i, i < j → e i = true) → EqAt A.in1 s items[j] items2[j] (e j)) : RcNeAt A s (.ref l) (.ref b) (!((List.range (min items.size items2.size)).all e && items.size == items2.size)) := fun prog w E Q h => by
  obtain ⟨⟨cls, dd, data, sl⟩, ho, hc, n, hd⟩ := id hl
  obtain ⟨⟨cls2, dd2, data2, sl2⟩, ho2, hc2, n2, hd2⟩ := id hb
  simp only at hc hd hc2 hd2
  subst hc hd hc2 hd2
  exact richCompare_meets_room (op := .NotEq) ⟨_, ho, rfl⟩ ⟨_, ho2, rfl⟩ F.slot_tuple_ne F.entry_tuple_ne (F.args_tuple_ne_2 _ _) (tup_ne_upto l b items items2 n n2 dd dd2 sl sl2 e)
    ⟨ho, ho2, he, show Value.bool (!((List.range (min items.size items2.size)).all e && items.size == items2.size)) ≠ Value.notImplemented ∧ Q (.bool (!((List.range (min items.size items2.size)).all e && items.size == items2.size))) s from ⟨(fun x => nomatch x), h⟩⟩ hu
theorem rc_bytes (a : Array UInt8) (t : Tok) (b : Array UInt8) (u : Tok) : RcAt A s (.bytes a t) (.bytes b u) (a.toList == b.toList) := fun prog w E Q h => eq_bytes h
theorem eq_bytes_at (a : Array UInt8) (t : Tok) (b : Array UInt8) (u : Tok) : EqAt A s (.bytes a t) (.bytes b u) (a.toList == b.toList) := fun prog w E Q h => by
  unfold eqBool
  refine wpAny_holding ?_
  refine wpAny_ite_split (fun hab => ?_) (fun _ => ?_)
  · have e : a = b := by have := eq_of_beq hab; injection this
    subst e
    exact wpAny_bind (wpAny_rule (wpAny_pure (by simpa using h)))
  · exact wpAny_bind (rc_bytes a t b u prog w E _ (wpAny_truthy_bool h))
theorem eq_none_at : EqAt A s .none .none true := EqAt.same _
end

noncomputable abbrev itemEq (xs ys : List D) (j : Nat) : Bool := match xs[j]?, ys[j]? with | some x, some y => eqD x y | _, _ => false
theorem eqDs_items : ∀ xs ys : List D, ((List.range (min xs.length ys.length)).all (itemEq xs ys) && xs.length == ys.length) = eqDs xs ys
  | [], [] => rfl
  | [], _ :: _ => rfl
  | _ :: _, [] => rfl
  | x :: xs, y :: ys => by
    have ih := eqDs_items xs ys
    have e1 : min (x :: xs).length (y :: ys).length = min xs.length ys.length + 1 := by simp only [List.length_cons]; lia
    have e2 : ((x :: xs).length == (y :: ys).length) = (xs.length == ys.length) := by simp
    have e3 : (List.range (min xs.length ys.length + 1)).all (itemEq (x :: xs) (y :: ys)) = (eqD x y && (List.range (min xs.length ys.length)).all (itemEq xs ys)) := by
      rw [List.range_succ_eq_map, List.all_cons, List.all_map]
      first | rfl | simp [itemEq, Function.comp_def]
    rw [e1, e2, e3, eqDs_cons, ← ih, Bool.and_assoc]

/-- two values that == may be asked of -/
inductive Alike (h : Heap) : Value → Value → D → D → Prop
  | none : Alike h .none .none .none .none
  | bool (i j : Bool) : Alike h (.bool i) (.bool j) (.bool i) (.bool j)
  | int (i : Int) (t : Tok) (j : Int) (u : Tok) : Alike h (.int i t) (.int j u) (.int i) (.int j)
  | str (i : Str) (t : Tok) (j : Str) (u : Tok) : Alike h (.str i t) (.str j u) (.str i) (.str j)
  | bytes (i : Array UInt8) (t : Tok) (j : Array UInt8) (u : Tok) : Alike h (.bytes i t) (.bytes j u) (.bytes i) (.bytes j)
  | tup {l l' : Addr} {vs ws : List Value} {xs ys : List D} : h.IsTuple l vs.toArray → RepDs h vs xs → h.IsTuple l' ws.toArray → RepDs h ws ys → okDs xs ys = true → Alike h (.ref l) (.ref l') (.tup xs) (.tup ys)
theorem alike {h : Heap} {a b : Value} {x y : D} (ra : RepD h a x) (rb : RepD h b y) (ok : okD x y = true) : Alike h a b x y := by
  cases ra <;> cases rb <;> first | exact .none | exact .bool _ _ | exact .int _ _ _ _ | exact .str _ _ _ _ | exact .bytes _ _ _ _ | exact .tup ‹_› ‹_› ‹_› ‹_› ok | exact ff ok
mutual
theorem eq_rep : ∀ (x y : D) (A : Around) (s : Shared) (a b : Value), RepD s.heap a x → RepD s.heap b y → okD x y = true → A.units + depD x < cLine → EqAt A s a b (eqD x y)
  | .none, y, A, s, _, _, ra, rb, ok, _ => by cases alike ra rb ok; exact eq_none_at
  | .bool x, y, A, s, _, _, ra, rb, ok, _ => by cases alike ra rb ok; exact EqAt.bool_bool _ _
  | .int x, y, A, s, _, _, ra, rb, ok, _ => by cases alike ra rb ok; exact EqAt.int_int _ _ _ _
  | .str x, y, A, s, _, _, ra, rb, ok, _ => by cases alike ra rb ok; exact EqAt.str_str _ _ _ _
  | .bytes x, y, A, s, _, _, ra, rb, ok, _ => by cases alike ra rb ok; exact eq_bytes_at _ _ _ _
  | .tup xs, y, A, s, _, _, ra, rb, ok, hu => by
    cases alike ra rb ok with
    | @tup l l' vs ws _ ys hl hr hl' hr' ok =>
      rw [depD_tup] at hu
      by_cases q : l = l'
      · subst q
        have e : D.tup xs = D.tup ys := RepD.unique (.tup hl hr) (.tup hl' hr')
        rw [e, eqD_refl]
        exact EqAt.same _
      · rw [eqD_tup, ← eqDs_items xs ys, ← hr.length, ← hr'.length]
        have := rc_tuples (A := A) (e := itemEq xs ys) hl hl' (by lia) (fun j h1 h2 hup => by
          have := eq_reps xs ys A.in1 s vs ws hr hr' ok (by show A.units + 1 + depDs xs < cLine; lia) j (by simpa using h1) (by simpa using h2) hup
          simpa using this)
        simp only [List.size_toArray] at this
        exact EqAt.of_refs q this
theorem eq_reps : ∀ (xs ys : List D) (A : Around) (s : Shared) (vs ws : List Value), RepDs s.heap vs xs → RepDs s.heap ws ys → okDs xs ys = true → A.units + depDs xs < cLine →
    ∀ j (h1 : j < vs.length) (h2 : j < ws.length), (∀ i, i < j → itemEq xs ys i = true) → EqAt A s vs[j] ws[j] (itemEq xs ys j)
  | [], _, _, _, _, _, ra, _, _, _, j, h1, _, _ => by cases ra; exact absurd h1 (Nat.not_lt_zero _)
  | _ :: _, [], _, _, _, _, _, rb, _, _, j, _, h2, _ => by cases rb; exact absurd h2 (Nat.not_lt_zero _)
  | x :: xs, y :: ys, A, s, _, _, ra, rb, ok, hu, j, h1, h2, hup => by
    cases ra with
    | cons r rs =>
      cases rb with
      | cons r' rs' =>
        rw [okDs_cons, Bool.and_eq_true] at ok
        rw [depDs_cons] at hu
        cases j with
        | zero => exact eq_rep x y A s _ _ r r' ok.1 (by lia)
        | succ j =>
          have h0 : eqD x y = true := hup 0 (Nat.succ_pos _)
          have ok2 : okDs xs ys = true := by
            have := ok.2
            rw [h0] at this
            simpa using this
          exact eq_reps xs ys A s _ _ rs rs' ok2 (by lia) j (Nat.lt_of_succ_lt_succ h1) (Nat.lt_of_succ_lt_succ h2) fun i hi => hup (i + 1) (Nat.succ_lt_succ hi)
end
theorem depDs_mem : ∀ {xs : List D} {x : D}, x ∈ xs → depD x ≤ depDs xs
  | y :: ys, x, h => by
    rw [depDs_cons]
    cases h with
    | head => exact Nat.le_max_left _ _
    | tail _ h => exact Nat.le_trans (depDs_mem h) (Nat.le_max_right _ _)
theorem depDs_le {xs : List D} {n : Nat} (h : ∀ x ∈ xs, depD x ≤ n) : depDs xs ≤ n := by
  induction xs with
  | nil => exact Nat.zero_le _
  | cons x xs ih => rw [depDs_cons]; exact Nat.max_le.mpr ⟨h x (.head _), ih fun y hy => h y (.tail _ hy)⟩

section
variable {prog : Program} {w : World} {A : Around} {s : Shared} {E : Value → Shared → Prop} {a b : Value} {x y : D} {Q : Value → Shared → Prop}
/-- `==` -/
theorem cmp_eq (ra : RepD s.heap a x) (rb : RepD s.heap b y) (ok : okD x y = true) (hu : A.units + depD x < cLine) (h : Q (.bool (eqD x y)) s) : wpAny (model prog w) A (compareOp .Eq a b) Q E s := by
  show wpAny (model prog w) A (richCompare .Eq a b) Q E s
  cases alike ra rb ok with
  | none => exact RcAt.none_none prog w E Q h
  | bool => exact RcAt.bool_bool _ _ prog w E Q h
  | int => exact RcAt.int_int _ _ _ _ prog w E Q h
  | str => exact RcAt.str_str _ _ _ _ prog w E Q h
  | bytes => exact rc_bytes _ _ _ _ prog w E Q h
  | @tup l l' vs ws xs ys hl hr hl' hr' ok =>
    rw [depD_tup] at hu
    have := rc_tuples (A := A) (e := itemEq xs ys) hl hl' (by lia) (fun j h1 h2 hup => by
      have := eq_reps xs ys A.in1 s vs ws hr hr' ok (by show A.units + 1 + depDs xs < cLine; lia) j (by simpa using h1) (by simpa using h2) hup
      simpa using this)
    simp only [List.size_toArray] at this
    rw [hr.length, hr'.length, eqDs_items] at this
    exact this prog w E Q h
/-- `!=` -/
theorem cmp_ne (ra : RepD s.heap a x) (rb : RepD s.heap b y) (ok : okD x y = true) (hu : A.units + depD x < cLine) (h : Q (.bool (!eqD x y)) s) : wpAny (model prog w) A (compareOp .NotEq a b) Q E s := by
  cases alike ra rb ok with
  | none => exact (RcNeAt.none_none (A := A) (s := s)) prog w E Q h
  | bool => exact (RcNeAt.bool_bool (A := A) (s := s) _ _) prog w E Q h
  | int => exact (RcNeAt.int_int (A := A) (s := s) _ _ _ _) prog w E Q h
  | str => exact (RcNeAt.str_str (A := A) (s := s) _ _ _ _) prog w E Q h
  | bytes => exact ne_bytes h
  | @tup l l' vs ws xs ys hl hr hl' hr' ok =>
    rw [depD_tup] at hu
    have := rcne_tuples (A := A) (e := itemEq xs ys) hl hl' (by lia) (fun j h1 h2 hup => by
      have := eq_reps xs ys A.in1 s vs ws hr hr' ok (by show A.units + 1 + depDs xs < cLine; lia) j (by simpa using h1) (by simpa using h2) hup
      simpa using this)
    simp only [List.size_toArray] at this
    rw [hr.length, hr'.length, eqDs_items] at this
    exact this prog w E Q h

theorem all_items_len {xs ys : List D} (h : xs.length = ys.length) : (List.range xs.length).all (itemEq xs ys) = eqDs xs ys := by
  have := eqDs_items xs ys
  rw [← h, Nat.min_self] at this
  simpa using this
theorem eqDs_other {xs ys : List D} (h : xs.length ≠ ys.length) : eqDs xs ys = false := by
  cases q : eqDs xs ys with
  | false => rfl
  | true => exact absurd (eqDs_len q) h
/-- two lists of data, any two items of which may be asked -/
theorem cmp_list {l b : Addr} {vs ws : List Value} {xs ys : List D} (hl : s.heap.IsList l vs.toArray) (hb : s.heap.IsList b ws.toArray) (hr : RepDs s.heap vs xs) (hr' : RepDs s.heap ws ys)
    (ok : ∀ x ∈ xs, ∀ y ∈ ys, okD x y = true) (hu : A.units + 1 + depDs xs < cLine) :
    RcAt A s (.ref l) (.ref b) (eqDs xs ys) ∧ RcNeAt A s (.ref l) (.ref b) (!eqDs xs ys) := by
  have he : ∀ j (h1 : j < vs.toArray.size) (h2 : j < ws.toArray.size), EqAt A.in1 s vs.toArray[j] ws.toArray[j] (itemEq xs ys j) := fun j h1 h2 => by
    have h1' : j < vs.length := by simpa using h1
    have h2' : j < ws.length := by simpa using h2
    obtain ⟨x, ex, rx⟩ := hr.getL (List.getElem?_eq_getElem h1')
    obtain ⟨y, ey, ry⟩ := hr'.getL (List.getElem?_eq_getElem h2')
    have hm := List.mem_of_getElem? ex
    have := eq_rep x y A.in1 s _ _ rx ry (ok x hm y (List.mem_of_getElem? ey)) (by
      have := depDs_mem hm
      show A.units + 1 + depD x < cLine
      lia)
    simpa [itemEq, ex, ey] using this
  by_cases q : xs.length = ys.length
  · have hsz : vs.toArray.size = ws.toArray.size := by simp [hr.length, hr'.length, q]
    have e : (List.range vs.toArray.size).all (itemEq xs ys) = eqDs xs ys := by
      rw [← all_items_len q, List.size_toArray, hr.length]
    exact ⟨e ▸ RcAt.lists hl hb hsz (by lia) he, e ▸ RcNeAt.lists hl hb hsz (by lia) he⟩
  · rw [eqDs_other q]
    have hsz : (vs.toArray.size != ws.toArray.size) = true := by simp [hr.length, hr'.length, q]
    exact ⟨RcAt.lists_lengths hl hb hsz (by lia), RcNeAt.lists_lengths hl hb hsz (by lia)⟩

open Classical in
noncomputable def isEq (h : Heap) (y : D) (v : Value) : Bool := decide (∃ x, RepD h v x ∧ eqD x y = true)
open Classical in
theorem isEq_of {h : Heap} {v : Value} (r : RepD h v x) : isEq h y v = eqD x y := by
  unfold isEq
  cases q : eqD x y with
  | true => exact decide_eq_true ⟨x, r, q⟩
  | false => exact decide_eq_false fun ⟨x', r', q'⟩ => by rw [r'.unique r, q] at q'; cases q'
theorem any_isEq {h : Heap} {vs : List Value} {xs : List D} (r : RepDs h vs xs) : vs.any (isEq h y) = xs.any fun x => eqD x y := by
  induction vs generalizing xs with
  | nil => cases r; rfl
  | cons v vs ih => cases r with | cons a r => rw [List.any_cons, List.any_cons, isEq_of a, ih r]
theorem in_at {vs : List Value} {xs : List D} (hr : RepDs s.heap vs xs) (ra : RepD s.heap a y) (ok : ∀ x ∈ xs, okD x y = true) (hu : A.units + 1 + depDs xs < cLine) :
    ∀ v, v ∈ vs.toArray → EqAt A.in1 s v a (isEq s.heap y v) := fun v hv => by
  obtain ⟨i, hi⟩ := List.mem_iff_getElem?.mp (by simpa using hv : v ∈ vs)
  obtain ⟨x, ex, rx⟩ := hr.getL hi
  rw [isEq_of rx]
  have hm := List.mem_of_getElem? ex
  exact eq_rep x y A.in1 s _ _ rx ra (ok x hm) (by
    have := depDs_mem hm
    show A.units + 1 + depD x < cLine
    lia)
theorem cmp_in_list {l : Addr} {vs : List Value} {xs : List D} (hl : s.heap.IsList l vs.toArray) (hr : RepDs s.heap vs xs) (ra : RepD s.heap a y) (ok : ∀ x ∈ xs, okD x y = true) (hu : A.units + 1 + depDs xs < cLine)
    (h : Q (.bool (xs.any fun x => eqD x y)) s) : wpAny (model prog w) A (compareOp .In a (.ref l)) Q E s :=
  in_listAt _ hl (in_at hr ra ok hu) (by rw [← Array.any_toList, List.toList_toArray, any_isEq hr]; exact h)
theorem cmp_notin_list {l : Addr} {vs : List Value} {xs : List D} (hl : s.heap.IsList l vs.toArray) (hr : RepDs s.heap vs xs) (ra : RepD s.heap a y) (ok : ∀ x ∈ xs, okD x y = true) (hu : A.units + 1 + depDs xs < cLine)
    (h : Q (.bool (!xs.any fun x => eqD x y)) s) : wpAny (model prog w) A (compareOp .NotIn a (.ref l)) Q E s :=
  notIn_listAt _ hl (in_at hr ra ok hu) (by rw [← Array.any_toList, List.toList_toArray, any_isEq hr]; exact h)
theorem cmp_in_tuple {l : Addr} {vs : List Value} {xs : List D} (hl : s.heap.IsTuple l vs.toArray) (hr : RepDs s.heap vs xs) (ra : RepD s.heap a y) (ok : ∀ x ∈ xs, okD x y = true) (hu : A.units + 1 + depDs xs < cLine)
    (h : Q (.bool (xs.any fun x => eqD x y)) s) : wpAny (model prog w) A (compareOp .In a (.ref l)) Q E s :=
  in_tupleAt _ hl (in_at hr ra ok hu) (by rw [← Array.any_toList, List.toList_toArray, any_isEq hr]; exact h)
theorem cmp_notin_tuple {l : Addr} {vs : List Value} {xs : List D} (hl : s.heap.IsTuple l vs.toArray) (hr : RepDs s.heap vs xs) (ra : RepD s.heap a y) (ok : ∀ x ∈ xs, okD x y = true) (hu : A.units + 1 + depDs xs < cLine)
    (h : Q (.bool (!xs.any fun x => eqD x y)) s) : wpAny (model prog w) A (compareOp .NotIn a (.ref l)) Q E s :=
  notIn_tupleAt _ hl (in_at hr ra ok hu) (by rw [← Array.any_toList, List.toList_toArray, any_isEq hr]; exact h)
end
end Mine

/-! part MP3 -/
namespace Mine
open PySem PySem.W PySem.Calls PyProof.Rows PySem.SeqAt PySem.MeetsSeq

noncomputable def RB (_ : Heap) (_ _ : List Addr) (a b : Bool) : Prop := a = b
inductive Fl where
  | next
  | brk
  | cont
  | ret (v : V)
inductive RF (h : Heap) (ex φ : List Addr) : Flow → Fl → Prop
  | next : RF h ex φ .next .next
  | brk : RF h ex φ .brk .brk
  | cont : RF h ex φ .cont .cont
  | ret {u : Value} {v : V} : Rep h ex φ u v → RF h ex φ (.ret u) (.ret v)

theorem szLine : 1000000 ≤ sizeLine := by rw [sizeLine_eq]; lia
theorem AOk.cl {A : Around} {B : Nat} (h : AOk A B) {n : Nat} (l : n ≤ 800) : A.units + n < cLine := by
  have := h.un
  rw [PyProof.Rows.cLine_is]; lia

section
variable {prog : Program} {w : World} {base : Heap} {env : Env} {B : Nat} {ρ : Vars} {μ : Lists}
noncomputable abbrev W (prog : Program) (w : World) (base : Heap) (env : Env) (B : Nat) (e : Expr) (ρ : Vars) (μ : Lists) (Q : V → Vars → Lists → Prop) : Prop := T prog w base env B (eval e env) Rep ρ μ Q
noncomputable abbrev WB (prog : Program) (w : World) (base : Heap) (env : Env) (B : Nat) (e : Expr) (ρ : Vars) (μ : Lists) (Q : Bool → Vars → Lists → Prop) : Prop := T prog w base env B (isTrue e env (eval e env)) RB ρ μ Q
noncomputable abbrev WL (prog : Program) (w : World) (base : Heap) (env : Env) (B : Nat) (pos : Pos) (es : List Expr) (ρ : Vars) (μ : Lists) (Q : List V → Vars → Lists → Prop) : Prop := T prog w base env B (spliced (backTo pos (starEach es env))) Reps ρ μ Q
noncomputable abbrev X1 (prog : Program) (w : World) (base : Heap) (env : Env) (B : Nat) (st : Stmt) (ρ : Vars) (μ : Lists) (Q : Fl → Vars → Lists → Prop) : Prop := T prog w base env B (exec st env) RF ρ μ Q
noncomputable abbrev X (prog : Program) (w : World) (base : Heap) (env : Env) (B : Nat) (sts : List Stmt) (ρ : Vars) (μ : Lists) (Q : Fl → Vars → Lists → Prop) : Prop := T prog w base env B (execs sts env) RF ρ μ Q

variable {Q : V → Vars → Lists → Prop}

theorem W_Name {x : Str} {pos : Pos} {v : V} (e : ρ.lookup x = some v) (h : Q v ρ μ) (hd : (x == ("__debug__" : Str)) = false := by rfl) : W prog w base env B (.Name x pos) ρ μ Q := by
  intro A s ex φ hA S
  obtain ⟨m, hn, hb⟩ := S.ns
  obtain ⟨u, a, r⟩ := hb x v e
  have fin : Post base env ex φ s Rep Q u s := ⟨v, ρ, μ, φ, S, .refl, .refl _, r, h⟩
  cases a with
  | loc hk hv => exact wpAny_Name (wpAny_loadName_local S.ok.kind hk hn hv fin) hd
  | cell hk hc hv => exact wpAny_Name (wpAny_loadName_cell S.ok.kind hk hc hv fin) hd
  | free hk hx hc hv => exact wpAny_Name (wpAny_loadName_free S.ok.kind hk hc hv fin hx) hd

theorem own_name {A : Around} {s : Shared} {ex φ : List Addr} {x : Str} {pos : Pos} {k : Nat} {R : Value → Shared → Prop} {E : Value → Shared → Prop} (S : St base env ex φ ρ μ s) (e : ρ.lookup x = some (.lst k)) (hd : (x == ("__debug__" : Str)) = false) (h : ∀ a, φ[k]? = some a → R (.ref a) s) : wpAny (model prog w) A (eval (.Name x pos) env) R E s := by
  obtain ⟨m, hn, hb⟩ := S.ns
  obtain ⟨u, a, r⟩ := hb x _ e
  obtain ⟨l, rfl, ha⟩ := r.ofLst
  cases a with
  | loc hk hv => exact wpAny_Name (wpAny_loadName_local S.ok.kind hk hn hv (h l ha)) hd
  | cell hk hc hv => exact wpAny_Name (wpAny_loadName_cell S.ok.kind hk hc hv (h l ha)) hd
  | free hk hx hc hv => exact wpAny_Name (wpAny_loadName_free S.ok.kind hk hc hv (h l ha) hx) hd
theorem W_int {i : Int} {k : Nat} {pos : Pos} (h : Q (.d (.int i)) ρ μ) : W prog w base env B (.Constant (.int i) k pos) ρ μ Q := fun A s ex φ hA S =>
  wpAny_Constant_int ⟨_, ρ, μ, φ, S.tok, .refl, ⟨_, _, rfl⟩, .d (.int _ _), h⟩
theorem W_str {x : Str} {k : Nat} {pos : Pos} (h : Q (.d (.str x)) ρ μ) : W prog w base env B (.Constant (.str x) k pos) ρ μ Q := fun A s ex φ hA S =>
  Calls.Constant_str ⟨_, ρ, μ, φ, S.tok, .refl, ⟨_, _, rfl⟩, .d (.str _ _), h⟩
theorem W_bool {c : Bool} {k : Nat} {pos : Pos} (h : Q (.d (.bool c)) ρ μ) : W prog w base env B (.Constant (.bool c) k pos) ρ μ Q := fun A s ex φ hA S =>
  Constant_bool ⟨_, ρ, μ, φ, S, .refl, .refl _, .d (.bool _), h⟩
theorem W_none {k : Nat} {pos : Pos} (h : Q (.d .none) ρ μ) : W prog w base env B (.Constant .none k pos) ρ μ Q := fun A s ex φ hA S =>
  Constant_none ⟨_, ρ, μ, φ, S, .refl, .refl _, .d .none, h⟩

theorem WL_nil {pos : Pos} {Q : List V → Vars → Lists → Prop} (h : Q [] ρ μ) : WL prog w base env B pos [] ρ μ Q := fun A s ex φ hA S =>
  spliced_none ⟨_, ρ, μ, φ, S, .refl, .refl _, .nil, h⟩
theorem WL_cons {pos : Pos} {e : Expr} {es : List Expr} {Q : List V → Vars → Lists → Prop} (h : W prog w base env B e ρ μ fun v ρ' μ' => WL prog w base env B pos es ρ' μ' fun vs => Q (v :: vs))
    (he : starEach (e :: es) env = (false, eval e env) :: starEach es env := by rfl) : WL prog w base env B pos (e :: es) ρ μ Q := fun A s ex φ hA S =>
  spliced_more (h.use hA S fun v s₁ b ρ₁ μ₁ φ₁ S₁ N₁ M₁ r₁ h₁ => h₁.use hA S₁ fun vs s₂ bs ρ₂ μ₂ φ₂ S₂ N₂ M₂ r₂ h₂ =>
    ⟨_, ρ₂, μ₂, φ₂, S₂, N₁.trans N₂, M₁.trans M₂, .cons (r₁.mono N₂) r₂, h₂⟩) he

noncomputable def allD : List V → Option (List D)
  | [] => some []
  | .d x :: r => (allD r).map (x :: ·)
  | _ :: _ => none
theorem allD_eq : ∀ {vs : List V} {ds : List D}, allD vs = some ds → vs = ds.map V.d
  | [], _, h => by cases h; rfl
  | .d x :: r, _, h => by
    rw [allD, Option.map_eq_some_iff] at h
    obtain ⟨ds, e, rfl⟩ := h
    rw [allD_eq e]; rfl
  | .lst _ :: _, _, h => by cases h
  | .tl _ :: _, _, h => by cases h
  | .val _ :: _, _, h => by cases h
theorem allD_map : ∀ ds : List D, allD (ds.map V.d) = some ds
  | [] => rfl
  | d :: ds => by rw [List.map_cons, allD, allD_map ds]; rfl

theorem W_Tuple {es : List Expr} {k : Nat} {pos : Pos} (h : WL prog w base env B pos es ρ μ fun vs ρ' μ' => ∃ ds, allD vs = some ds ∧ ds.length ≤ 1000000 ∧ Q (.d (.tup ds)) ρ' μ') : W prog w base env B (.Tuple es k pos) ρ μ Q := fun A s ex φ hA S =>
  wpAny_Tuple_spliced (h.use hA S fun us s₁ vs ρ₁ μ₁ φ₁ S₁ N₁ M₁ r₁ ⟨ds, e, hl, q⟩ => by
    rw [allD_eq e] at r₁
    have rd := r₁.to_ds
    have k : ∀ b o, s₁.heap.get? b = some o → (s₁.heap.push { cls := .type "tuple", data := .seq us.toArray }).get? b = some o := fun b o e => Heap.get?_push_of_some _ e
    refine ⟨Nat.le_trans (by rw [rd.length]; exact hl) szLine, _, ρ₁, μ₁, φ₁, S₁.grow (tk := s₁.toks) k, N₁.trans (.of_stays k), M₁.trans ⟨_, _, rfl⟩, .d (.tup ⟨_, Heap.get?_push_size _ rfl, rfl, _, rfl⟩ (rd.mono (.of_stays k))), q⟩)

/-- a list display that no one will turn -/
theorem W_List {es : List Expr} {pos : Pos} (h : WL prog w base env B pos es ρ μ fun vs ρ' μ' => ∃ ds, allD vs = some ds ∧ ds.length ≤ 1000000 ∧ Q (.tl ds) ρ' μ') : W prog w base env B (.List es pos) ρ μ Q := fun A s ex φ hA S =>
  wpAny_List_spliced (h.use hA S fun us s₁ vs ρ₁ μ₁ φ₁ S₁ N₁ M₁ r₁ ⟨ds, e, hl, q⟩ => by
    rw [allD_eq e] at r₁
    have rd := r₁.to_ds
    have k : ∀ b o, s₁.heap.get? b = some o → (s₁.heap.push { cls := .type "list", data := .seq us.toArray }).get? b = some o := fun b o e => Heap.get?_push_of_some _ e
    have hnew : s₁.heap.get? s₁.heap.objs.size = none := Heap.get?_none_of_le (Nat.le_refl _)
    refine ⟨Nat.le_trans (by rw [rd.length]; exact hl) szLine, _, ρ₁, μ₁, φ₁, S₁.grow (tk := s₁.toks) k, N₁.trans (.of_stays k), M₁.trans ⟨_, _, rfl⟩, ?_, q⟩
    refine .tl (n := 0) (Heap.get?_push_size _ rfl) (rd.mono (.of_stays k)) (fun m => ?_) fun m => ?_
    · obtain ⟨o, ho, _⟩ := S₁.live _ m
      rw [hnew] at ho; cases ho
    · obtain ⟨i, hi⟩ := List.mem_iff_getElem?.mp m
      have hlt := (List.getElem?_eq_some_iff.mp hi).1
      obtain ⟨us', n', hl', _⟩ := S₁.lists i _ _ hi (List.getElem?_eq_getElem (by rw [← S₁.len]; exact hlt))
      have : s₁.heap.get? s₁.heap.objs.size = some _ := hl'
      rw [hnew] at this; cases this)
/-- a list display that is the frame's own -/
theorem W_ListM {es : List Expr} {pos : Pos} (h : WL prog w base env B pos es ρ μ fun vs ρ' μ' => vs.length ≤ 1000000 ∧ Q (.lst μ'.length) ρ' (μ' ++ [vs])) : W prog w base env B (.List es pos) ρ μ Q := fun A s ex φ hA S =>
  wpAny_List_spliced (h.use hA S fun us s₁ vs ρ₁ μ₁ φ₁ S₁ N₁ M₁ r₁ ⟨hl, q⟩ => by
    obtain ⟨S₂, N₂⟩ := S₁.fresh (tk := s₁.toks) r₁
    refine ⟨Nat.le_trans (by rw [r₁.length]; exact hl) szLine, _, ρ₁, _, _, S₂, N₁.trans N₂, M₁.trans ⟨_, _, rfl⟩, .lst ?_, q⟩
    rw [← S₁.len, List.getElem?_append_right (Nat.le_refl _), Nat.sub_self]; rfl)

/-! tests -/
variable {QB : Bool → Vars → Lists → Prop}
noncomputable abbrev IfW (prog : Program) (w : World) (base : Heap) (env : Env) (B : Nat) (b o : Expr) (Q : V → Vars → Lists → Prop) (c : Bool) (ρ' : Vars) (μ' : Lists) : Prop := if c then W prog w base env B b ρ' μ' Q else W prog w base env B o ρ' μ' Q
noncomputable abbrev AndQ (prog : Program) (w : World) (base : Heap) (env : Env) (B : Nat) (es : List Expr) (pos : Pos) (QB : Bool → Vars → Lists → Prop) (c : Bool) (ρ' : Vars) (μ' : Lists) : Prop := if c then WB prog w base env B (.BoolOp .And es pos) ρ' μ' QB else QB false ρ' μ'
noncomputable abbrev OrQ (prog : Program) (w : World) (base : Heap) (env : Env) (B : Nat) (es : List Expr) (pos : Pos) (QB : Bool → Vars → Lists → Prop) (c : Bool) (ρ' : Vars) (μ' : Lists) : Prop := if c then QB true ρ' μ' else WB prog w base env B (.BoolOp .Or es pos) ρ' μ' QB
theorem W_IfExp {t b o : Expr} {pos : Pos} (h : WB prog w base env B t ρ μ (IfW prog w base env B b o Q)) : W prog w base env B (.IfExp t b o pos) ρ μ Q := fun A s ex φ hA S =>
  IfExp_ (h.use hA S fun c s₁ c' ρ₁ μ₁ φ₁ S₁ N₁ M₁ r₁ h₁ => by
    cases r₁
    cases c <;> exact T.use h₁ hA S₁ fun v s₂ b ρ₂ μ₂ φ₂ S₂ N₂ M₂ r₂ q => ⟨b, ρ₂, μ₂, φ₂, S₂, N₁.trans N₂, M₁.trans M₂, r₂, q⟩)
theorem WB_not {e : Expr} {pos : Pos} (h : WB prog w base env B e ρ μ fun c => QB !c) : WB prog w base env B (.UnaryOp .Not e pos) ρ μ QB := fun A s ex φ hA S =>
  isTrue_not (h.use hA S fun c s₁ c' ρ₁ μ₁ φ₁ S₁ N₁ M₁ r₁ q => ⟨!c', ρ₁, μ₁, φ₁, S₁, N₁, M₁, congrArg not r₁, q⟩)
theorem WB_and_nil {pos : Pos} (h : QB true ρ μ) : WB prog w base env B (.BoolOp .And [] pos) ρ μ QB := fun A s ex φ hA S =>
  isTrue_and_nil ⟨true, ρ, μ, φ, S, .refl, .refl _, rfl, h⟩
theorem WB_or_nil {pos : Pos} (h : QB false ρ μ) : WB prog w base env B (.BoolOp .Or [] pos) ρ μ QB := fun A s ex φ hA S =>
  isTrue_or_nil ⟨false, ρ, μ, φ, S, .refl, .refl _, rfl, h⟩
theorem WB_and {e : Expr} {es : List Expr} {pos : Pos} (h : WB prog w base env B e ρ μ (AndQ prog w base env B es pos QB)) : WB prog w base env B (.BoolOp .And (e :: es) pos) ρ μ QB := fun A s ex φ hA S =>
  isTrue_and (h.use hA S fun c s₁ c' ρ₁ μ₁ φ₁ S₁ N₁ M₁ r₁ h₁ => by
    cases r₁
    cases c with
    | true => exact T.use h₁ hA S₁ fun v s₂ b ρ₂ μ₂ φ₂ S₂ N₂ M₂ r₂ q => ⟨b, ρ₂, μ₂, φ₂, S₂, N₁.trans N₂, M₁.trans M₂, r₂, q⟩
    | false => exact ⟨false, ρ₁, μ₁, φ₁, S₁, N₁, M₁, rfl, h₁⟩)
theorem WB_or {e : Expr} {es : List Expr} {pos : Pos} (h : WB prog w base env B e ρ μ (OrQ prog w base env B es pos QB)) : WB prog w base env B (.BoolOp .Or (e :: es) pos) ρ μ QB := fun A s ex φ hA S =>
  isTrue_or (h.use hA S fun c s₁ c' ρ₁ μ₁ φ₁ S₁ N₁ M₁ r₁ h₁ => by
    cases r₁
    cases c with
    | false => exact T.use h₁ hA S₁ fun v s₂ b ρ₂ μ₂ φ₂ S₂ N₂ M₂ r₂ q => ⟨b, ρ₂, μ₂, φ₂, S₂, N₁.trans N₂, M₁.trans M₂, r₂, q⟩
    | true => exact ⟨true, ρ₁, μ₁, φ₁, S₁, N₁, M₁, rfl, h₁⟩)
/-- a plain expression that gives a bool -/
theorem WB_plain {e : Expr} (h : W prog w base env B e ρ μ fun v ρ' μ' => ∃ c, v = .d (.bool c) ∧ QB c ρ' μ') (he : isTrue e env (eval e env) = (do let v ← eval e env; standAt e.pos; holding [v] (truthy v)) := by rfl) :
    WB prog w base env B e ρ μ QB := fun A s ex φ hA S =>
  isTrue_plain (h.use hA S fun u s₁ v ρ₁ μ₁ φ₁ S₁ N₁ M₁ r₁ ⟨c, e, q⟩ => by
    subst e
    obtain rfl := r₁.data.ofBool
    exact wpAny_truthy_bool ⟨c, ρ₁, μ₁, φ₁, S₁, N₁, M₁, rfl, q⟩) he

theorem W_not {e : Expr} {pos : Pos} (h : W prog w base env B e ρ μ fun v ρ' μ' => ∃ c, v = .d (.bool c) ∧ Q (.d (.bool !c)) ρ' μ') : W prog w base env B (.UnaryOp .Not e pos) ρ μ Q := fun A s ex φ hA S =>
  UnaryOp_ (h.use hA S fun u s₁ v ρ₁ μ₁ φ₁ S₁ N₁ M₁ r₁ ⟨c, e, q⟩ => by
    subst e
    obtain rfl := r₁.data.ofBool
    exact not_of (wpAny_truthy_bool ⟨_, ρ₁, μ₁, φ₁, S₁, N₁, M₁, .d (.bool _), q⟩))
/-- `a and b`, `a or b` of bools -/
theorem W_bop_one {op : BoolOp} {e : Expr} {pos : Pos} (h : W prog w base env B e ρ μ Q) : W prog w base env B (.BoolOp op [e] pos) ρ μ Q := fun A s ex φ hA S => BoolOp_one (h A s ex φ hA S)
theorem W_and {e e' : Expr} {es : List Expr} {pos : Pos} (h : W prog w base env B e ρ μ fun v ρ' μ' => ∃ c, v = .d (.bool c) ∧ if c then W prog w base env B (.BoolOp .And (e' :: es) pos) ρ' μ' Q else Q (.d (.bool false)) ρ' μ') :
    W prog w base env B (.BoolOp .And (e :: e' :: es) pos) ρ μ Q := fun A s ex φ hA S =>
  BoolOp_and (h.use hA S fun u s₁ v ρ₁ μ₁ φ₁ S₁ N₁ M₁ r₁ ⟨c, e, q⟩ => by
    subst e
    obtain rfl := r₁.data.ofBool
    refine wpAny_truthy_bool ?_
    cases c with
    | true => exact T.use q hA S₁ fun v s₂ b ρ₂ μ₂ φ₂ S₂ N₂ M₂ r₂ q => ⟨b, ρ₂, μ₂, φ₂, S₂, N₁.trans N₂, M₁.trans M₂, r₂, q⟩
    | false => exact ⟨_, ρ₁, μ₁, φ₁, S₁, N₁, M₁, .d (.bool _), q⟩)
theorem W_or {e e' : Expr} {es : List Expr} {pos : Pos} (h : W prog w base env B e ρ μ fun v ρ' μ' => ∃ c, v = .d (.bool c) ∧ if c then Q (.d (.bool true)) ρ' μ' else W prog w base env B (.BoolOp .Or (e' :: es) pos) ρ' μ' Q) :
    W prog w base env B (.BoolOp .Or (e :: e' :: es) pos) ρ μ Q := fun A s ex φ hA S =>
  BoolOp_or (h.use hA S fun u s₁ v ρ₁ μ₁ φ₁ S₁ N₁ M₁ r₁ ⟨c, e, q⟩ => by
    subst e
    obtain rfl := r₁.data.ofBool
    refine wpAny_truthy_bool ?_
    cases c with
    | false => exact T.use q hA S₁ fun v s₂ b ρ₂ μ₂ φ₂ S₂ N₂ M₂ r₂ q => ⟨b, ρ₂, μ₂, φ₂, S₂, N₁.trans N₂, M₁.trans M₂, r₂, q⟩
    | true => exact ⟨_, ρ₁, μ₁, φ₁, S₁, N₁, M₁, .d (.bool _), q⟩)

/-! what a name's value bears when it is a list of data -/
noncomputable def listV (v : V) (μ : Lists) : Option (List D) := match v with
  | .tl xs => some xs
  | .lst k => (match μ[k]? with | some vs => allD vs | none => none)
  | _ => none
theorem listV_at {ex φ : List Addr} {s : Shared} (S : St base env ex φ ρ μ s) {v : V} {u : Value} {xs : List D} (e : listV v μ = some xs) (r : Rep s.heap ex φ u v) :
    ∃ a us n, u = .ref a ∧ IsL s.heap a (List.toArray us) n ∧ RepDs s.heap us xs := by
  cases v with
  | tl ys => cases e; cases r with | tl hl hr _ _ => exact ⟨_, _, _, rfl, hl, hr⟩
  | lst k =>
    simp only [listV] at e
    split at e
    · rename_i vs hv
      rw [allD_eq e] at hv
      cases r with
      | lst ha =>
        obtain ⟨us, n, hl, hr⟩ := S.lists k _ _ ha hv
        exact ⟨_, us, n, rfl, hl, hr.to_ds⟩
    · cases e
  | d _ => cases e
  | val _ => cases e

/-! items -/
noncomputable def itemV (μ : Lists) (n : Nat) : V → Option V
  | .d (.tup ds) => (ds[n]?).map V.d
  | .tl ds => (ds[n]?).map V.d
  | .lst j => (μ[j]?).bind fun vs => vs[n]?
  | _ => none
noncomputable def subI (μ : Lists) (o : V) (k : Int) : Option V := if 0 ≤ k ∧ k < 1000000 then itemV μ k.toNat o else none
noncomputable def subV (o i : V) (μ : Lists) : Option V := match i with
  | .d (.int k) => subI μ o k
  | _ => none
theorem none_no {α : Type} {c : α} {P : Prop} (e : none = some c) : P := nomatch e
theorem ite_some {α : Type} {p : Prop} [Decidable p] {a c : α} (e : (if p then some a else none) = some c) : p ∧ a = c := by
  by_cases k : p
  · rw [if_pos k] at e; cases e; exact ⟨k, rfl⟩
  · rw [if_neg k] at e; cases e
theorem subV_int {o i r : V} {μ : Lists} (e : subV o i μ = some r) : ∃ k, i = .d (.int k) ∧ (0 ≤ k ∧ k < 1000000) ∧ itemV μ k.toNat o = some r := by
  cases i with
  | d i =>
    cases i with
    | int k =>
      have e : (if 0 ≤ k ∧ k < 1000000 then itemV μ k.toNat o else none) = some r := e
      by_cases c : 0 ≤ k ∧ k < 1000000
      · rw [if_pos c] at e; exact ⟨k, rfl, c, e⟩
      · rw [if_neg c] at e; cases e
    | _ => exact none_no e
  | _ => exact none_no e
theorem sub_tl {ds : List D} {n : Nat} {d : D} {μ : Lists} (e : ds[n]? = some d) (h : n < 1000000) : subV (.tl ds) (.d (.int n)) μ = some (.d d) := by
  have c : (0 : Int) ≤ n ∧ (n : Int) < 1000000 := ⟨Int.natCast_nonneg n, by lia⟩
  have e' : itemV μ (n : Int).toNat (.tl ds) = some (.d d) := congrArg (Option.map V.d) e
  show subI μ (.tl ds) n = _
  unfold subI
  rw [if_pos c, e']
theorem W_Sub {e i : Expr} {pos : Pos} (h : W prog w base env B e ρ μ fun v₁ ρ₁ μ₁ => W prog w base env B i ρ₁ μ₁ fun v₂ ρ₂ μ₂ => ∃ r, subV v₁ v₂ μ₂ = some r ∧ Q r ρ₂ μ₂)
    (hs : ∀ o j, subscripted i false o j = operate [o, j] (getItem o j) := by intro _ _; rfl) : W prog w base env B (.Subscript e i pos) ρ μ Q := fun A s ex φ hA S =>
  Subscript_ (h.use hA S fun u₁ s₁ v₁ ρ₁ μ₁ φ₁ S₁ N₁ M₁ r₁ h₁ => h₁.use hA S₁ fun u₂ s₂ v₂ ρ₂ μ₂ φ₂ S₂ N₂ M₂ r₂ ⟨r, e, q⟩ => by
    have r₁' := r₁.mono N₂
    have fin : ∀ {u : Value}, Rep s₂.heap ex φ₂ u r → Post base env ex φ s Rep Q u s₂ := fun ru =>
      ⟨r, ρ₂, μ₂, φ₂, S₂, N₁.trans N₂, M₁.trans M₂, ru, q⟩
    clear h h₁ q r₁
    obtain ⟨k, rfl, c, e⟩ := subV_int e
    obtain ⟨t, rfl⟩ := r₂.data.ofInt
    have c2 := (Int.toNat_of_nonneg c.1)
    cases v₁ with
    | d x =>
      cases x with
      | tup ds =>
        obtain ⟨d, hd, rfl⟩ := Option.map_eq_some_iff.mp (show (ds[k.toNat]?).map V.d = some r from e)
        obtain ⟨a, us, rfl, ht, hr⟩ := r₁'.data.ofTup
        obtain ⟨u, hu, ru⟩ := hr.get hd
        have hlt := (List.getElem?_eq_some_iff.mp hu).1
        exact item_tupleT (l := us) ht (by lia) (by lia) (seqIndex_of c.1 (by lia)) hu (fin (.d ru)) (hs _ _)
      | _ => exact none_no e
    | tl ds =>
      obtain ⟨d, hd, rfl⟩ := Option.map_eq_some_iff.mp (show (ds[k.toNat]?).map V.d = some r from e)
      obtain ⟨a, us, n, rfl, hl, hr, _, _⟩ := r₁'.ofTl
      obtain ⟨u, hu, ru⟩ := hr.get hd
      exact tail_any hl.isList.typeIs slot_list_getitem.lookup (wpAny_getItem_list hl.isList c.1 (by lia) (by simpa using hu) (fin (.d ru))) (hs _ _)
    | lst j =>
      obtain ⟨vs, hv, e⟩ := Option.bind_eq_some_iff.mp (show ((μ₂[j]?).bind fun vs => vs[k.toNat]?) = some r from e)
      obtain ⟨a, rfl, ha⟩ := r₁'.ofLst
      obtain ⟨us, n, hl, hr⟩ := S₂.lists j _ _ ha hv
      obtain ⟨u, hu, ru⟩ := hr.get e
      exact tail_any hl.isList.typeIs slot_list_getitem.lookup (wpAny_getItem_list hl.isList c.1 (by lia) (by simpa using hu) (fin ru)) (hs _ _)
    | _ => exact none_no e)

/-! comparing -/
noncomputable def cmpLL (op : CmpOp) : Option (List D) → Option (List D) → Option Bool
  | some xs, some ys => (match op with
    | .Eq => if (xs.all fun x => ys.all fun y => okD x y) = true ∧ depDs xs ≤ 700 then some (eqDs xs ys) else none
    | .NotEq => if (xs.all fun x => ys.all fun y => okD x y) = true ∧ depDs xs ≤ 700 then some (!eqDs xs ys) else none
    | _ => none)
  | _, _ => none
noncomputable def cmpDL (op : CmpOp) (x : D) : Option (List D) → Option Bool
  | some xs => (match op with
    | .In => if (xs.all fun z => okD z x) = true ∧ depDs xs ≤ 700 then some (xs.any fun z => eqD z x) else none
    | .NotIn => if (xs.all fun z => okD z x) = true ∧ depDs xs ≤ 700 then some (!xs.any fun z => eqD z x) else none
    | _ => none)
  | none => none
noncomputable def D.toInt : D → Option Int
  | .int a => some a
  | _ => Option.none
noncomputable def D.items : D → Option (List D)
  | .tup xs => some xs
  | _ => Option.none
noncomputable def D.isNone : D → Option Bool
  | .none => some true
  | .tup _ => some false
  | _ => Option.none
noncomputable def cmpD (op : CmpOp) (x y : D) : Option Bool := match op with
  | .Eq => if okD x y = true ∧ depD x ≤ 700 then some (eqD x y) else none
  | .NotEq => if okD x y = true ∧ depD x ≤ 700 then some (!eqD x y) else none
  | .Lt => x.toInt.bind fun a => y.toInt.bind fun b => some (decide (a < b))
  | .Gt => x.toInt.bind fun a => y.toInt.bind fun b => some (decide (b < a))
  | .In => cmpDL .In x y.items
  | .NotIn => cmpDL .NotIn x y.items
  | .Is => (match y with | .none => x.isNone | _ => none)
  | _ => none
theorem D.toInt_some {d : D} {i : Int} (e : d.toInt = some i) : d = .int i := by
  cases d with
  | int a => exact congrArg _ (Option.some.inj e)
  | _ => exact none_no e
theorem D.items_some {d : D} {xs : List D} (e : d.items = some xs) : d = .tup xs := by
  cases d with
  | tup a => exact congrArg _ (Option.some.inj e)
  | _ => exact none_no e
theorem cmpDL_in {A : Around} {s : Shared} {op : CmpOp} {x y : D} {c : Bool} {a b : Value} {R : Value → Shared → Prop} {E : Value → Shared → Prop} (hA : AOk A B) (e : cmpDL op x y.items = some c) (ra : RepD s.heap a x) (rb : RepD s.heap b y) (h : R (.bool c) s) :
    wpAny (model prog w) A (compareOp op a b) R E s := by
  cases q : y.items with
  | none => rw [q] at e; exact none_no e
  | some xs =>
    rw [q] at e
    cases D.items_some q
    obtain ⟨l, us, rfl, ht, hr⟩ := rb.ofTup
    cases op with
    | In =>
      obtain ⟨k, rfl⟩ := ite_some e
      exact cmp_in_tuple ht hr ra (List.all_eq_true.mp k.1) (by have := hA.cl (n := 1 + depDs xs) (by lia); lia) h
    | NotIn =>
      obtain ⟨k, rfl⟩ := ite_some e
      exact cmp_notin_tuple ht hr ra (List.all_eq_true.mp k.1) (by have := hA.cl (n := 1 + depDs xs) (by lia); lia) h
    | _ => exact none_no e
theorem cmpD_at {A : Around} {s : Shared} {op : CmpOp} {x y : D} {c : Bool} {a b : Value} {R : Value → Shared → Prop} {E : Value → Shared → Prop} (hA : AOk A B) (e : cmpD op x y = some c) (ra : RepD s.heap a x) (rb : RepD s.heap b y) (h : R (.bool c) s) :
    wpAny (model prog w) A (compareOp op a b) R E s := by
  have hi : ∀ {g : Int → Int → Bool}, (x.toInt.bind fun a => y.toInt.bind fun b => some (g a b)) = some c → ∃ i t j u, a = .int i t ∧ b = .int j u ∧ g i j = c := fun {g} e => by
    obtain ⟨i, hi, e⟩ := Option.bind_eq_some_iff.mp e
    obtain ⟨j, hj, e⟩ := Option.bind_eq_some_iff.mp e
    cases D.toInt_some hi
    cases D.toInt_some hj
    obtain ⟨t, rfl⟩ := ra.ofInt
    obtain ⟨u, rfl⟩ := rb.ofInt
    exact ⟨i, t, j, u, rfl, rfl, Option.some.inj e⟩
  cases op with
  | Eq =>
    obtain ⟨k, rfl⟩ := ite_some e
    exact cmp_eq ra rb k.1 (hA.cl (by lia)) h
  | NotEq =>
    obtain ⟨k, rfl⟩ := ite_some e
    exact cmp_ne ra rb k.1 (hA.cl (by lia)) h
  | Lt => obtain ⟨i, t, j, u, rfl, rfl, rfl⟩ := hi (g := fun a b => decide (a < b)) e; exact PyProof.Rows.lt_int h
  | Gt => obtain ⟨i, t, j, u, rfl, rfl, rfl⟩ := hi (g := fun a b => decide (b < a)) e; exact PyProof.Rows.gt_int h
  | In => exact cmpDL_in hA e ra rb h
  | NotIn => exact cmpDL_in hA e ra rb h
  | Is =>
    cases y with
    | none =>
      cases rb.ofNone
      cases x with
      | none => cases ra.ofNone; cases Option.some.inj e; exact is_none_none h
      | tup xs => obtain ⟨l, us, rfl, _, _⟩ := ra.ofTup; cases Option.some.inj e; exact is_ref_none h
      | _ => exact none_no e
    | _ => exact none_no e
  | _ => exact none_no e
noncomputable def cmpV (op : CmpOp) (x y : V) (μ : Lists) : Option Bool := match x, y with
  | .d x, .d y => cmpD op x y
  | .d x, y => cmpDL op x (listV y μ)
  | x, y => cmpLL op (listV x μ) (listV y μ)
theorem cmpLL_at {A : Around} {s : Shared} {ex φ : List Addr} {op : CmpOp} {x y : V} {c : Bool} {a b : Value} {R : Value → Shared → Prop} {E : Value → Shared → Prop} (hA : AOk A B) (S : St base env ex φ ρ μ s) (e : cmpLL op (listV x μ) (listV y μ) = some c) (ra : Rep s.heap ex φ a x) (rb : Rep s.heap ex φ b y) (h : R (.bool c) s) :
    wpAny (model prog w) A (compareOp op a b) R E s := by
  cases hx : listV x μ with
  | none => rw [hx] at e; cases e
  | some xs =>
    cases hy : listV y μ with
    | none => rw [hx, hy] at e; cases e
    | some ys =>
      rw [hx, hy] at e
      obtain ⟨la, us, n, rfl, hl, hr⟩ := listV_at S hx ra
      obtain ⟨lb, ws, n', rfl, hl', hr'⟩ := listV_at S hy rb
      cases op with
      | Eq =>
        obtain ⟨k, rfl⟩ := ite_some e
        exact (cmp_list hl.isList hl'.isList hr hr' (fun x hx y hy => List.all_eq_true.mp (List.all_eq_true.mp k.1 x hx) y hy) (by have := hA.cl (n := 1 + depDs xs) (by lia); lia)).1 prog w E R h
      | NotEq =>
        obtain ⟨k, rfl⟩ := ite_some e
        exact (cmp_list hl.isList hl'.isList hr hr' (fun x hx y hy => List.all_eq_true.mp (List.all_eq_true.mp k.1 x hx) y hy) (by have := hA.cl (n := 1 + depDs xs) (by lia); lia)).2 prog w E R h
      | _ => exact none_no e
theorem cmpDL_at {A : Around} {s : Shared} {ex φ : List Addr} {op : CmpOp} {x : D} {y : V} {c : Bool} {a b : Value} {R : Value → Shared → Prop} {E : Value → Shared → Prop} (hA : AOk A B) (S : St base env ex φ ρ μ s) (e : cmpDL op x (listV y μ) = some c) (ra : RepD s.heap a x) (rb : Rep s.heap ex φ b y) (h : R (.bool c) s) :
    wpAny (model prog w) A (compareOp op a b) R E s := by
  cases hy : listV y μ with
  | none => rw [hy] at e; cases e
  | some xs =>
    rw [hy] at e
    obtain ⟨lb, ws, n', rfl, hl, hr⟩ := listV_at S hy rb
    cases op with
    | In =>
      obtain ⟨k, rfl⟩ := ite_some e
      exact cmp_in_list hl.isList hr ra (List.all_eq_true.mp k.1) (by have := hA.cl (n := 1 + depDs xs) (by lia); lia) h
    | NotIn =>
      obtain ⟨k, rfl⟩ := ite_some e
      exact cmp_notin_list hl.isList hr ra (List.all_eq_true.mp k.1) (by have := hA.cl (n := 1 + depDs xs) (by lia); lia) h
    | _ => exact none_no e
theorem cmpV_at {A : Around} {s : Shared} {ex φ : List Addr} {op : CmpOp} {x y : V} {c : Bool} {a b : Value} {R : Value → Shared → Prop} {E : Value → Shared → Prop} (hA : AOk A B) (S : St base env ex φ ρ μ s) (e : cmpV op x y μ = some c) (ra : Rep s.heap ex φ a x) (rb : Rep s.heap ex φ b y) (h : R (.bool c) s) :
    wpAny (model prog w) A (compareOp op a b) R E s := by
  have kL : ∀ x y : V, (∀ z, x ≠ .d z) → cmpV op x y μ = cmpLL op (listV x μ) (listV y μ) := fun x y n => by cases x <;> first | rfl | exact absurd rfl (n _)
  have kD : ∀ (x : D) (y : V), (∀ z, y ≠ .d z) → cmpV op (.d x) y μ = cmpDL op x (listV y μ) := fun x y n => by cases y <;> first | rfl | exact absurd rfl (n _)
  by_cases hx : ∃ z, x = .d z
  · obtain ⟨x, rfl⟩ := hx
    cases ra with
    | d ra =>
      by_cases hy : ∃ z, y = .d z
      · obtain ⟨y, rfl⟩ := hy
        cases rb with | d rb => exact cmpD_at hA e ra rb h
      · rw [kD x y fun z q => hy ⟨z, q⟩] at e
        exact cmpDL_at hA S e ra rb h
  · rw [kL x y fun z q => hx ⟨z, q⟩] at e
    exact cmpLL_at hA S e ra rb h
theorem W_Cmp {l r : Expr} {op : CmpOp} {pos : Pos} (h : W prog w base env B l ρ μ fun v₁ ρ₁ μ₁ => W prog w base env B r ρ₁ μ₁ fun v₂ ρ₂ μ₂ => ∃ c, cmpV op v₁ v₂ μ₂ = some c ∧ Q (.d (.bool c)) ρ₂ μ₂)
    (hm : behindInMarks op r = false := by rfl) : W prog w base env B (.Compare l [op] [r] pos) ρ μ Q := fun A s ex φ hA S =>
  wpAny_Compare1 (h.use hA S fun u₁ s₁ v₁ ρ₁ μ₁ φ₁ S₁ N₁ M₁ r₁ h₁ => h₁.use hA S₁ fun u₂ s₂ v₂ ρ₂ μ₂ φ₂ S₂ N₂ M₂ r₂ ⟨c, e, q⟩ =>
    cmpV_at hA S₂ e (r₁.mono N₂) r₂ ⟨_, ρ₂, μ₂, φ₂, S₂, N₁.trans N₂, M₁.trans M₂, .d (.bool _), q⟩) hm
theorem WB_Cmp {l r : Expr} {op : CmpOp} {pos : Pos} (h : W prog w base env B l ρ μ fun v₁ ρ₁ μ₁ => W prog w base env B r ρ₁ μ₁ fun v₂ ρ₂ μ₂ => ∃ c, cmpV op v₁ v₂ μ₂ = some c ∧ QB c ρ₂ μ₂)
    (hm : behindInMarks op r = false := by rfl) : WB prog w base env B (.Compare l [op] [r] pos) ρ μ QB := fun A s ex φ hA S =>
  wpAny_isTrue_Compare1 (h.use hA S fun u₁ s₁ v₁ ρ₁ μ₁ φ₁ S₁ N₁ M₁ r₁ h₁ => h₁.use hA S₁ fun u₂ s₂ v₂ ρ₂ μ₂ φ₂ S₂ N₂ M₂ r₂ ⟨c, e, q⟩ =>
    cmpV_at hA S₂ e (r₁.mono N₂) r₂ (wpAny_truthy_bool ⟨_, ρ₂, μ₂, φ₂, S₂, N₁.trans N₂, M₁.trans M₂, rfl, q⟩)) hm

/-! statements -/
variable {QF : Fl → Vars → Lists → Prop}
theorem X_nil (h : QF .next ρ μ) : X prog w base env B [] ρ μ QF := fun A s ex φ hA S => wpAny_execs_nil ⟨.next, ρ, μ, φ, S, .refl, .refl _, .next, h⟩
noncomputable abbrev SeqQ (prog : Program) (w : World) (base : Heap) (env : Env) (B : Nat) (sts : List Stmt) (QF : Fl → Vars → Lists → Prop) (f : Fl) (ρ' : Vars) (μ' : Lists) : Prop := match f with | .next => X prog w base env B sts ρ' μ' QF | f => QF f ρ' μ'
noncomputable abbrev IfQ (prog : Program) (w : World) (base : Heap) (env : Env) (B : Nat) (b o : List Stmt) (QF : Fl → Vars → Lists → Prop) (c : Bool) (ρ' : Vars) (μ' : Lists) : Prop := if c then X prog w base env B b ρ' μ' QF else X prog w base env B o ρ' μ' QF
theorem X_cons {st : Stmt} {sts : List Stmt} (h : X1 prog w base env B st ρ μ (SeqQ prog w base env B sts QF)) : X prog w base env B (st :: sts) ρ μ QF := fun A s ex φ hA S =>
  wpAny_execs_cons (h.use hA S fun f s₁ f' ρ₁ μ₁ φ₁ S₁ N₁ M₁ r₁ h₁ => by
    cases r₁ with
    | next => exact T.use h₁ hA S₁ fun v s₂ b ρ₂ μ₂ φ₂ S₂ N₂ M₂ r₂ q => ⟨b, ρ₂, μ₂, φ₂, S₂, N₁.trans N₂, M₁.trans M₂, r₂, q⟩
    | brk => exact ⟨_, ρ₁, μ₁, φ₁, S₁, N₁, M₁, .brk, h₁⟩
    | cont => exact ⟨_, ρ₁, μ₁, φ₁, S₁, N₁, M₁, .cont, h₁⟩
    | ret r => exact ⟨_, ρ₁, μ₁, φ₁, S₁, N₁, M₁, .ret r, h₁⟩)
theorem X_ret {e : Expr} {pos : Pos} (h : W prog w base env B e ρ μ fun v ρ' μ' => QF (.ret v) ρ' μ') : X1 prog w base env B (.Return (some e) pos) ρ μ QF := fun A s ex φ hA S =>
  wpAny_Return_some (h.use hA S fun u s₁ v ρ₁ μ₁ φ₁ S₁ N₁ M₁ r₁ q => ⟨_, ρ₁, μ₁, φ₁, S₁, N₁, M₁, .ret r₁, q⟩)
theorem X_if {t : Expr} {b o : List Stmt} {pos : Pos} (h : WB prog w base env B t ρ μ (IfQ prog w base env B b o QF)) : X1 prog w base env B (.If t b o pos) ρ μ QF := fun A s ex φ hA S =>
  wpAny_If (h.use hA S fun c s₁ c' ρ₁ μ₁ φ₁ S₁ N₁ M₁ r₁ h₁ => by
    cases r₁
    cases c <;> exact T.use h₁ hA S₁ fun v s₂ b ρ₂ μ₂ φ₂ S₂ N₂ M₂ r₂ q => ⟨b, ρ₂, μ₂, φ₂, S₂, N₁.trans N₂, M₁.trans M₂, r₂, q⟩)
theorem store_local {x : Str} {u : Value} {v : V} {A : Around} {s : Shared} {ex φ : List Addr} {R : Unit → Shared → Prop} {E : Value → Shared → Prop} (S : St base env ex φ ρ μ s) (hk : env.kindOf x = some .local) (r : Rep s.heap ex φ u v)
    (h : ∀ s', St base env ex φ ((x, v) :: ρ) μ s' → Nx ex φ φ s.heap s'.heap → Sim s s' → R () s') : wpAny (model prog w) A (storeName env x u) R E s := by
  obtain ⟨m, hn, hb⟩ := S.ns
  refine wpAny_storeName_local hk hn (fun h' hn' hs => ?_) (by rw [S.ok.kind]; rfl)
  obtain ⟨S', N'⟩ := S.store (tk := s.toks + 1) hn hb hk r hn' hs
  exact h _ S' N' ⟨_, _, rfl⟩
theorem X_set {x : Str} {e : Expr} {pos pos' : Pos} (h : W prog w base env B e ρ μ fun v ρ' μ' => QF .next ((x, v) :: ρ') μ') (hk : env.kindOf x = some .local := by rfl)
    (hs : swapsWith e (some (.Name x pos')) pos.line env = pure false := by rfl) : X1 prog w base env B (.Assign [.Name x pos'] e pos) ρ μ QF := fun A s ex φ hA S =>
  wpAny_Assign_Name (h.use hA S fun u s₁ v ρ₁ μ₁ φ₁ S₁ N₁ M₁ r₁ q => store_local S₁ hk r₁ fun s₂ S₂ N₂ M₂ => ⟨_, _, μ₁, φ₁, S₂, N₁.trans N₂, M₁.trans M₂, .next, q⟩) hs
/-- forget and reorder names -/
theorem T_sub {α β : Type} {t : Sem α} {P : Heap → List Addr → List Addr → α → β → Prop} {Q : β → Vars → Lists → Prop} {ρ' : Vars} (h : T prog w base env B t P ρ' μ Q) (k : ∀ x v, ρ'.lookup x = some v → ρ.lookup x = some v) : T prog w base env B t P ρ μ Q := fun A s ex φ hA S =>
  h A s ex φ hA { S with ns := let ⟨m, hn, hb⟩ := S.ns; ⟨m, hn, fun x v e => hb x v (k x v e)⟩ }
theorem sub_of : ∀ {ρ' ρ : Vars}, (∀ p ∈ ρ', ρ.lookup p.1 = some p.2) → ∀ x v, ρ'.lookup x = some v → ρ.lookup x = some v
  | [], _, _, x, v, e => by cases e
  | (y, u) :: r, ρ, h, x, v, e => by
    rw [List.lookup_cons] at e
    split at e
    · rename_i q; rw [beq_iff_eq.mp q]; cases e; exact h (y, u) (.head _)
    · exact sub_of (fun p hp => h p (.tail _ hp)) x v e
end
end Mine

/-! part MP4 -/
namespace Mine
open PySem PySem.W PySem.Calls PyProof.Rows PySem.SeqAt PySem.MeetsSeq

section
variable {prog : Program} {w : World} {base : Heap} {env : Env} {B : Nat} {ρ : Vars} {μ : Lists} {Q : V → Vars → Lists → Prop} {QB : Bool → Vars → Lists → Prop} {QF : Fl → Vars → Lists → Prop}

theorem St.off {ex φ : List Addr} {s : Shared} (S : St base env ex φ ρ μ s) {a : Addr} (h : s.heap.get? a = none) : a ∉ ex ∧ a ∉ φ := by
  refine ⟨fun m => ?_, fun m => ?_⟩
  · obtain ⟨o, ho, _⟩ := S.live _ m
    rw [h] at ho; cases ho
  · obtain ⟨i, hi⟩ := List.mem_iff_getElem?.mp m
    have hlt := (List.getElem?_eq_some_iff.mp hi).1
    obtain ⟨us', n', hl', _⟩ := S.lists i _ _ hi (List.getElem?_eq_getElem (by rw [← S.len]; exact hlt))
    have : s.heap.get? a = some _ := hl'
    rw [h] at this; cases this

/-! slices of lists -/
theorem pick_rev (items : Array Value) : slicePick items none none (some (-1)) = items.toList.reverse.toArray := by
  unfold slicePick
  have hb : sliceBounds none none (some (-1)) items.size = ((items.size : Int) - 1, -1, -1) := by simp [sliceBounds]
  rw [hb]
  congr 1
  have hr : sliceRange ((items.size : Int) - 1) (-1) (-1) = (List.range items.size).map fun i => items.size - 1 - i := by
    unfold sliceRange
    have h1 : ¬ ((-1 : Int) > 0) := by lia
    simp only [h1, if_false]
    have h2 : (if (items.size : Int) - 1 > -1 then ((items.size : Int) - 1 - -1 - -1 - 1) / - -1 else 0).toNat = items.size := by
      split
      · rw [show (- -1 : Int) = 1 by rfl, Int.ediv_one]; lia
      · lia
    rw [h2]
    refine List.map_congr_left fun i hi => ?_
    have := List.mem_range.mp hi
    lia
  rw [hr]
  show ((List.range items.size).map fun i => items.size - 1 - i).filterMap (items[·]?) = items.toList.reverse
  rw [List.filterMap_map]
  obtain ⟨l⟩ := items
  simp only [Function.comp_def, List.getElem?_toArray, List.size_toArray]
  have key : ∀ k, k ≤ l.length → (List.range k).filterMap (fun i => l[l.length - 1 - i]?) = l.reverse.take k := by
    intro k
    induction k with
    | zero => intro _; rfl
    | succ k ih =>
      intro hk
      rw [List.range_succ, List.filterMap_append, ih (by lia), List.take_add_one]
      congr 1
      have : l.reverse[k]? = l[l.length - 1 - k]? := List.getElem?_reverse (by lia)
      rw [this]
      have h3 : l.length - 1 - k < l.length := by lia
      simp [h3]
  rw [key _ (Nat.le_refl _), List.take_of_length_le (by simp)]

/-- the walk of a slice's own end -/
theorem slice_end {A : Around} {s : Shared} {ex φ : List Addr} {l sl : Addr} {vl vu vs : Value} {lo hi st : Option Int} {R : Value → Shared → Prop} {E : Value → Shared → Prop} {us : List Value} {n : Nat} {xs ys : List D}
    (S : St base env ex φ ρ μ s) (hl : IsL s.heap l (List.toArray us) n) (hr : RepDs s.heap us xs) (hlen : xs.length ≤ 1000000) (pl : IsPart vl lo) (pu : IsPart vu hi) (ps : IsPart vs st) (h0 : st ≠ some 0)
    (hy : ∀ h : Heap, RepDs h us xs → RepDs h (slicePick us.toArray lo hi st).toList ys)
    (hs : s.heap.IsSliceOf sl vl vu vs)
    (h : ∀ s', St base env ex φ ρ μ s' → Nx ex φ φ s.heap s'.heap → Sim s s' → (∀ b o, s.heap.get? b = some o → s'.heap.get? b = some o) → ∀ a us' , s.heap.get? a = none → IsL s'.heap a (List.toArray us') 0 → RepDs s'.heap us' ys → R (.ref a) s') :
    wpAny (model prog w) A (getItem (.ref l) (.ref sl)) R E s := by
  refine wpAny_getItem_list_slice hl.isList hs pl pu ps h0 ?_ (Nat.le_trans (by simp [hr.length]; exact hlen) szLine)
  have k : ∀ b o, s.heap.get? b = some o → (s.heap.push { cls := .type "list", data := .seq (slicePick us.toArray lo hi st) }).get? b = some o := fun b o e => Heap.get?_push_of_some _ e
  refine h _ (S.grow (tk := s.toks) k) (.of_stays k) ⟨_, _, rfl⟩ k _ (slicePick us.toArray lo hi st).toList (Heap.get?_none_of_le (Nat.le_refl _)) ?_ ((hy _ hr).mono (.of_stays k))
  have : ((slicePick us.toArray lo hi st).toList).toArray = slicePick us.toArray lo hi st := by simp
  show IsL _ _ ((slicePick us.toArray lo hi st).toList).toArray 0
  rw [this]
  exact Heap.get?_push_size _ rfl

theorem from_items {h : Heap} {us : List Value} {xs : List D} (r : RepDs h us xs) (k : Nat) : RepDs h (slicePick us.toArray (some (k : Int)) none none).toList (xs.drop k) := by
  rw [slicePick_from']; simpa using r.drop k
theorem upto_items {h : Heap} {us : List Value} {xs : List D} (r : RepDs h us xs) (k : Nat) : RepDs h (slicePick us.toArray none (some (k : Int)) none).toList (xs.take k) := by
  rw [slicePick_upto']; simpa using r.take k
theorem rev_items {h : Heap} {us : List Value} {xs : List D} (r : RepDs h us xs) : RepDs h (slicePick us.toArray none none (some (-1))).toList xs.reverse := by
  rw [pick_rev]; simpa using r.reverse

/-- `xs[k:]` -/
theorem W_from {e lo : Expr} {p pos : Pos} (h : W prog w base env B e ρ μ fun v₁ ρ₁ μ₁ => W prog w base env B lo ρ₁ μ₁ fun v₂ ρ₂ μ₂ => ∃ xs k, listV v₁ μ₂ = some xs ∧ v₂ = .d (.int k) ∧ 0 ≤ k ∧ xs.length ≤ 1000000 ∧ Q (.tl (xs.drop k.toNat)) ρ₂ μ₂)
    (ht : ∀ o r, letTemporaryGo e o r = pure () := by intro _ _; rfl) : W prog w base env B (.Subscript e (.Slice (some lo) none none p) pos) ρ μ Q := fun A s ex φ hA S =>
  wpAny_Subscript_Slice (T := "list") list_getitem_lookup (h.use hA S fun u₁ s₁ v₁ ρ₁ μ₁ φ₁ S₁ N₁ M₁ r₁ h₁ => wpAny_Slice (h₁.use hA S₁ fun u₂ s₂ v₂ ρ₂ μ₂ φ₂ S₂ N₂ M₂ r₂ ⟨xs, k, e, hv, h0, hlen, q⟩ => by
    subst hv
    obtain ⟨t, rfl⟩ := r₂.data.ofInt
    · skip
      · skip
        obtain ⟨l, us, n, rfl, hl, hr⟩ := listV_at S₂ e (r₁.mono N₂)
        refine wpAny_pure (a := Value.none) (wpAny_pure (a := Value.none) ?_)
        have kk : ∀ b o, s₂.heap.get? b = some o → (s₂.heap.push { cls := .type "slice", data := .fields #[.int k t, .none, .none] }).get? b = some o := fun b o e => Heap.get?_push_of_some _ e
        refine ⟨(hl.isList.push _).typeIs, ?_⟩
        refine slice_end (S₂.grow (tk := s₂.toks) kk) (kk _ _ hl) (hr.mono (.of_stays kk)) hlen (.int _ _) .none .none (by simp) (fun h r => by
          have := from_items r k.toNat
          rw [Int.toNat_of_nonneg h0] at this; exact this) (Heap.IsSliceOf.new ..) fun s₃ S₃ N₃ M₃ k₃ a us' hnew hl' hr' => ?_
        obtain ⟨f1, f2⟩ := (S₂.grow (tk := s₂.toks) kk).off hnew
        exact ⟨_, ρ₂, μ₂, φ₂, S₃, (N₁.trans N₂).trans ((Nx.of_stays kk).trans N₃), (M₁.trans M₂).trans (Sim.trans ⟨_, _, rfl⟩ M₃), .tl hl' hr' f1 f2, q⟩)) ht
/-- `xs[:k]` -/
theorem W_upto {e hi : Expr} {p pos : Pos} (h : W prog w base env B e ρ μ fun v₁ ρ₁ μ₁ => W prog w base env B hi ρ₁ μ₁ fun v₂ ρ₂ μ₂ => ∃ xs k, listV v₁ μ₂ = some xs ∧ v₂ = .d (.int k) ∧ 0 ≤ k ∧ xs.length ≤ 1000000 ∧ Q (.tl (xs.take k.toNat)) ρ₂ μ₂)
    (ht : ∀ o r, letTemporaryGo e o r = pure () := by intro _ _; rfl) : W prog w base env B (.Subscript e (.Slice none (some hi) none p) pos) ρ μ Q := fun A s ex φ hA S =>
  wpAny_Subscript_Slice (T := "list") list_getitem_lookup (h.use hA S fun u₁ s₁ v₁ ρ₁ μ₁ φ₁ S₁ N₁ M₁ r₁ h₁ => wpAny_Slice (wpAny_pure (a := Value.none) (h₁.use hA S₁ fun u₂ s₂ v₂ ρ₂ μ₂ φ₂ S₂ N₂ M₂ r₂ ⟨xs, k, e, hv, h0, hlen, q⟩ => by
    subst hv
    obtain ⟨t, rfl⟩ := r₂.data.ofInt
    · skip
      · skip
        obtain ⟨l, us, n, rfl, hl, hr⟩ := listV_at S₂ e (r₁.mono N₂)
        refine wpAny_pure (a := Value.none) ?_
        have kk : ∀ b o, s₂.heap.get? b = some o → (s₂.heap.push { cls := .type "slice", data := .fields #[.none, .int k t, .none] }).get? b = some o := fun b o e => Heap.get?_push_of_some _ e
        refine ⟨(hl.isList.push _).typeIs, ?_⟩
        refine slice_end (S₂.grow (tk := s₂.toks) kk) (kk _ _ hl) (hr.mono (.of_stays kk)) hlen .none (.int _ _) .none (by simp) (fun h r => by
          have := upto_items r k.toNat
          rw [Int.toNat_of_nonneg h0] at this; exact this) (Heap.IsSliceOf.new ..) fun s₃ S₃ N₃ M₃ k₃ a us' hnew hl' hr' => ?_
        obtain ⟨f1, f2⟩ := (S₂.grow (tk := s₂.toks) kk).off hnew
        exact ⟨_, ρ₂, μ₂, φ₂, S₃, (N₁.trans N₂).trans ((Nx.of_stays kk).trans N₃), (M₁.trans M₂).trans (Sim.trans ⟨_, _, rfl⟩ M₃), .tl hl' hr' f1 f2, q⟩))) ht

/-- a list of data put down as the frame's own -/
theorem St.adopt {ex φ : List Addr} {s s' : Shared} (S : St base env ex φ ρ μ s) (k : ∀ b o, s.heap.get? b = some o → s'.heap.get? b = some o) {a : Addr} {us : List Value} {n : Nat} {ds : List D}
    (hnew : s.heap.get? a = none) (hl : IsL s'.heap a (List.toArray us) n) (hr : RepDs s'.heap us ds) : St base env ex (φ ++ [a]) ρ (μ ++ [ds.map V.d]) s' ∧ Nx ex φ (φ ++ [a]) s.heap s'.heap := by
  obtain ⟨f1, f2⟩ := S.off hnew
  have N0 : Nx ex φ (φ ++ [a]) s.heap s'.heap :=
    ⟨fun b o e _ => k b o e, List.prefix_append _ _, fun b m => (List.mem_append.mp m).imp id fun z => by rw [List.mem_singleton.mp z]; exact hnew, (Nx.of_stays (ex := ex) (φ := φ) k).live⟩
  obtain ⟨m, hn₀, hb⟩ := S.ns
  refine ⟨⟨S.ok, S.hL, ⟨m, hn₀.keeps k, fun x v e => let ⟨u, q, r⟩ := hb x v e; ⟨u, q.stays k, r.mono N0⟩⟩, fun b o e => k b o (S.stays b o e), S.offx, fun b hb' => ?_,
    fun b hb' => let ⟨o, ho, hd⟩ := S.live b hb'; ⟨o, k b o ho, hd⟩, by simp [S.len], ?_, fun j b ds' e f => ?_, fun hf x c a b => let ⟨m, q, hc⟩ := S.cellx hf x c a b; ⟨m, q, hc.keeps k⟩, fun hf ht => (S.tabx hf ht).mono fun b o vs e _ _ => k b o e⟩, N0⟩
  · rcases List.mem_append.mp hb' with hb' | hb'
    · exact S.offl b hb'
    · rw [List.mem_singleton.mp hb']
      cases q : base.get? a with
      | none => rfl
      | some o => have := S.stays _ _ q; rw [hnew] at this; cases this
  · exact List.nodup_append.mpr ⟨S.nodup, by simp, fun x hx y hy q => by rw [List.mem_singleton.mp hy] at q; rw [q] at hx; exact f2 hx⟩
  · by_cases q : j < φ.length
    · rw [List.getElem?_append_left q] at e
      rw [List.getElem?_append_left (by rw [← S.len]; exact q)] at f
      obtain ⟨us', n', hl', hr'⟩ := S.lists j b ds' e f
      exact ⟨us', n', k _ _ hl', hr'.mono N0⟩
    · rw [List.getElem?_append_right (by lia)] at e
      rw [List.getElem?_append_right (by rw [← S.len]; lia)] at f
      have hj : j - φ.length = 0 := by
        have := (List.getElem?_eq_some_iff.mp e).1
        simp at this; lia
      have hj' : j - μ.length = 0 := by rw [← S.len]; exact hj
      rw [hj] at e; rw [hj'] at f
      cases e; cases f
      exact ⟨us, n, hl, Reps.of_ds hr⟩
theorem St.adopt_at {ex φ : List Addr} {s : Shared} (S : St base env ex φ ρ μ s) (a : Addr) : (φ ++ [a])[μ.length]? = some a := by
  rw [← S.len, List.getElem?_append_right (Nat.le_refl _), Nat.sub_self]; rfl

/-- `xs[::-1]`, the frame's own -/
theorem W_rev {e : Expr} {k : Nat} {p p' p'' pos : Pos} (h : W prog w base env B e ρ μ fun v₁ ρ₁ μ₁ => ∃ xs, listV v₁ μ₁ = some xs ∧ xs.length ≤ 1000000 ∧ Q (.lst μ₁.length) ρ₁ (μ₁ ++ [xs.reverse.map V.d]))
    (ht : ∀ o r, letTemporaryGo e o r = pure () := by intro _ _; rfl) : W prog w base env B (.Subscript e (.Slice none none (some (.UnaryOp .USub (.Constant (.int 1) k p) p')) p'') pos) ρ μ Q := fun A s ex φ hA S =>
  wpAny_Subscript_Slice_step (T := "list") list_getitem_lookup (h.use hA S fun u₁ s₁ v₁ ρ₁ μ₁ φ₁ S₁ N₁ M₁ r₁ ⟨xs, e, hlen, q⟩ => wpAny_Slice (wpAny_pure (a := Value.none) (wpAny_pure (a := Value.none) (by
    show wpAny (model prog w) A (eval _ env) _ _ _
    refine UnaryOp_ (wpAny_Constant_int (neg_int ?_))
    obtain ⟨l, us, n, rfl, hl, hr⟩ := listV_at S₁ e r₁
    have kk : ∀ b o, s₁.heap.get? b = some o → (s₁.heap.push { cls := .type "slice", data := .fields #[.none, .none, .int (-1) (s₁.toks + 1)] }).get? b = some o := fun b o e => Heap.get?_push_of_some _ e
    refine ⟨(hl.isList.push _).typeIs, ?_⟩
    refine slice_end (S₁.grow (tk := s₁.toks + 1 + 1) kk) (kk _ _ hl) (hr.mono (.of_stays kk)) hlen .none .none (.int _ _) (by simp) (fun h r => rev_items r) (Heap.IsSliceOf.new ..) fun s₃ S₃ N₃ M₃ k₃ a us' hnew hl' hr' => ?_
    obtain ⟨S₄, N₄⟩ := (S₁.grow (tk := s₁.toks + 1 + 1) kk).adopt k₃ hnew hl' hr'
    exact ⟨_, ρ₁, _, _, S₄, N₁.trans ((Nx.of_stays kk).trans N₄), M₁.trans (Sim.trans ⟨_, _, rfl⟩ M₃), .lst (S₁.adopt_at a), q⟩)))) ht

/-! two lists, one behind the other -/
theorem cat_end {A : Around} {s : Shared} {ex φ : List Addr} {l b : Addr} {R : Value → Shared → Prop} {E : Value → Shared → Prop} {us us2 : List Value} {n n2 : Nat} {xs ys : List D}
    (S : St base env ex φ ρ μ s) (hl : IsL s.heap l (List.toArray us) n) (hr : RepDs s.heap us xs) (hl2 : IsL s.heap b (List.toArray us2) n2) (hr2 : RepDs s.heap us2 ys) (hlen : xs.length + ys.length ≤ 1000000)
    (h : ∀ s', St base env ex φ ρ μ s' → Nx ex φ φ s.heap s'.heap → Sim s s' → (∀ b o, s.heap.get? b = some o → s'.heap.get? b = some o) → ∀ a us', s.heap.get? a = none → IsL s'.heap a (List.toArray us') 0 → RepDs s'.heap us' (xs ++ ys) → R (.ref a) s') :
    wpAny (model prog w) A (binaryOp .Add (.ref l) (.ref b)) R E s := by
  have k : ∀ b o, s.heap.get? b = some o → (s.heap.push { cls := .type "list", data := .seq (us.toArray ++ us2.toArray) }).get? b = some o := fun b o e => Heap.get?_push_of_some _ e
  refine P.add_list hl hl2 ?_ (Nat.le_trans (by simp [hr.length, hr2.length]; exact hlen) szLine)
  refine h _ (S.grow (tk := s.toks) k) (.of_stays k) ⟨_, _, rfl⟩ k _ (us ++ us2) (Heap.get?_none_of_le (Nat.le_refl _)) ?_ ((hr.append hr2).mono (.of_stays k))
  show IsL _ _ (us ++ us2).toArray 0
  rw [show (us ++ us2).toArray = us.toArray ++ us2.toArray by simp]
  exact Heap.get?_push_size _ rfl
theorem W_cat {l r : Expr} {pos : Pos} (h : W prog w base env B l ρ μ fun v₁ ρ₁ μ₁ => W prog w base env B r ρ₁ μ₁ fun v₂ ρ₂ μ₂ => ∃ xs ys, listV v₁ μ₂ = some xs ∧ listV v₂ μ₂ = some ys ∧ xs.length + ys.length ≤ 1000000 ∧ Q (.tl (xs ++ ys)) ρ₂ μ₂) :
    W prog w base env B (.BinOp l .Add r pos) ρ μ Q := fun A s ex φ hA S =>
  wpAny_BinOp (h.use hA S fun u₁ s₁ v₁ ρ₁ μ₁ φ₁ S₁ N₁ M₁ r₁ h₁ => h₁.use hA S₁ fun u₂ s₂ v₂ ρ₂ μ₂ φ₂ S₂ N₂ M₂ r₂ ⟨xs, ys, e1, e2, hlen, q⟩ => by
    obtain ⟨a, us, n, rfl, hl, hr⟩ := listV_at S₂ e1 (r₁.mono N₂)
    obtain ⟨b, us2, n2, rfl, hl2, hr2⟩ := listV_at S₂ e2 r₂
    refine cat_end S₂ hl hr hl2 hr2 hlen fun s₃ S₃ N₃ M₃ k₃ a us' hnew hl' hr' => ?_
    obtain ⟨f1, f2⟩ := S₂.off hnew
    exact ⟨_, ρ₂, μ₂, φ₂, S₃, (N₁.trans N₂).trans N₃, (M₁.trans M₂).trans M₃, .tl hl' hr' f1 f2, q⟩)
theorem W_catM {l r : Expr} {pos : Pos} (h : W prog w base env B l ρ μ fun v₁ ρ₁ μ₁ => W prog w base env B r ρ₁ μ₁ fun v₂ ρ₂ μ₂ => ∃ xs ys, listV v₁ μ₂ = some xs ∧ listV v₂ μ₂ = some ys ∧ xs.length + ys.length ≤ 1000000 ∧ Q (.lst μ₂.length) ρ₂ (μ₂ ++ [(xs ++ ys).map V.d])) :
    W prog w base env B (.BinOp l .Add r pos) ρ μ Q := fun A s ex φ hA S =>
  wpAny_BinOp (h.use hA S fun u₁ s₁ v₁ ρ₁ μ₁ φ₁ S₁ N₁ M₁ r₁ h₁ => h₁.use hA S₁ fun u₂ s₂ v₂ ρ₂ μ₂ φ₂ S₂ N₂ M₂ r₂ ⟨xs, ys, e1, e2, hlen, q⟩ => by
    obtain ⟨a, us, n, rfl, hl, hr⟩ := listV_at S₂ e1 (r₁.mono N₂)
    obtain ⟨b, us2, n2, rfl, hl2, hr2⟩ := listV_at S₂ e2 r₂
    refine cat_end S₂ hl hr hl2 hr2 hlen fun s₃ S₃ N₃ M₃ k₃ a us' hnew hl' hr' => ?_
    obtain ⟨S₄, N₄⟩ := S₂.adopt k₃ hnew hl' hr'
    exact ⟨_, ρ₂, _, _, S₄, (N₁.trans N₂).trans N₄, (M₁.trans M₂).trans M₃, .lst (S₂.adopt_at a), q⟩)

/-! ints -/
noncomputable def binI (op : Operator) (a b : Int) : Option Int := match op with
  | .Add => some (a + b)
  | .Sub => some (a - b)
  | .Mult => if a.natAbs < 2 ^ 64 ∨ b.natAbs < 2 ^ 64 then some (a * b) else none
  | .Mod => if b ≠ 0 then some (a.fmod b) else none
  | .FloorDiv => if b ≠ 0 ∧ b.natAbs < 1073741824 then some (a.fdiv b) else none
  | .Pow => if 0 ≤ b ∧ b ≤ 1000000 ∧ a.natAbs < 2 ^ 64 then some (a ^ b.toNat) else none
  | _ => none
theorem binI_mod {a b : Int} (h : b ≠ 0) : binI .Mod a b = some (a.fmod b) := if_pos h
theorem binI_mul {a b : Int} (h : a.natAbs < 2 ^ 64 ∨ b.natAbs < 2 ^ 64) : binI .Mult a b = some (a * b) := if_pos h
theorem binI_div {a b : Int} (h : b ≠ 0 ∧ b.natAbs < 1073741824) : binI .FloorDiv a b = some (a.fdiv b) := if_pos h
theorem binI_pow {a b : Int} (h : 0 ≤ b ∧ b ≤ 1000000 ∧ a.natAbs < 2 ^ 64) : binI .Pow a b = some (a ^ b.toNat) := if_pos h
theorem W_Bin {l r : Expr} {op : Operator} {pos : Pos} (h : W prog w base env B l ρ μ fun v₁ ρ₁ μ₁ => W prog w base env B r ρ₁ μ₁ fun v₂ ρ₂ μ₂ => ∃ a b c, v₁ = .d (.int a) ∧ v₂ = .d (.int b) ∧ binI op a b = some c ∧ Q (.d (.int c)) ρ₂ μ₂) :
    W prog w base env B (.BinOp l op r pos) ρ μ Q := fun A s ex φ hA S =>
  wpAny_BinOp (h.use hA S fun u₁ s₁ v₁ ρ₁ μ₁ φ₁ S₁ N₁ M₁ r₁ h₁ => h₁.use hA S₁ fun u₂ s₂ v₂ ρ₂ μ₂ φ₂ S₂ N₂ M₂ r₂ ⟨a, b, c, e1, e2, e, q⟩ => by
    subst e1 e2
    obtain ⟨t, rfl⟩ := r₁.data.ofInt
    obtain ⟨u, rfl⟩ := r₂.data.ofInt
    have fin : Post base env ex φ s Rep Q (.int c s₂.toks) { s₂ with toks := s₂.toks + 1 } :=
      ⟨_, ρ₂, μ₂, φ₂, S₂.tok, N₁.trans N₂, (M₁.trans M₂).trans ⟨_, _, rfl⟩, .d (.int _ _), q⟩
    clear h h₁ q
    cases op with
    | Add => cases Option.some.inj e; exact PyProof.Rows.add_int fin
    | Sub => cases Option.some.inj e; exact PyProof.Rows.sub_int fin
    | Mult =>
      obtain ⟨k, rfl⟩ := ite_some e
      exact PyProof.Rows.mul_int fin (k.elim (fun k => .of_left (intBits_le k)) fun k => .of_right (intBits_le k))
    | Mod => obtain ⟨k, rfl⟩ := ite_some e; exact PyProof.Rows.mod_int' k fin
    | FloorDiv => obtain ⟨k, rfl⟩ := ite_some e; exact PyProof.Rows.floordiv_int k.1 fin (.inl (PyProof.noPylong_small k.2))
    | Pow => obtain ⟨k, rfl⟩ := ite_some e; exact pow_int_small k.1 k.2.1 k.2.2 fin
    | _ => exact none_no e)

/-! methods of lists -/
theorem list_self {s : Shared} {l : Addr} {us : List Value} {n : Nat} (hl : IsL s.heap l us.toArray n) : s.TypeIs (.ref l) "list" ∧ (∀ a, Value.ref l = .ref a → ∃ ob, s.heap.get? a = some ob ∧ ob.dict = none) :=
  ⟨⟨_, hl, rfl⟩, fun a e => by cases e; exact ⟨_, hl, rfl⟩⟩
theorem W_append {x : Str} {e : Expr} {np apos pos : Pos} {k : Nat} (hx : ρ.lookup x = some (.lst k)) (h : W prog w base env B e ρ μ fun v ρ' μ' => ∃ vs, μ'[k]? = some vs ∧ vs.length ≤ 1000000 ∧ Q (.d .none) ρ' (μ'.set k (vs ++ [v])))
    (hk : k < μ.length) (hline : (apos.endLine == pos.line) = true := by rfl) (he : starEach [e] env = [(false, eval e env)] := by rfl) (hd : (x == ("__debug__" : Str)) = false := by rfl)
    (hb : attributeBase (.Name x np) "append" env (eval (.Name x np) env) = eval (.Name x np) env := by rfl) :
    W prog w base env B (.Call (.Attribute (.Name x np) "append" apos) [e] [] pos) ρ μ Q := fun A s ex φ hA S => by
  refine wpAny_Call_method hb (by rw [he]; rfl) hline PySem.F.plainAttrs_list PySem.F.slot_list_append PySem.F.type_list_append ?_
  refine own_name S hx hd fun a ha => ?_
  · skip
    obtain ⟨us, n, hl, hr⟩ := S.lists k a _ ha (List.getElem?_eq_getElem hk)
    obtain ⟨t1, t2⟩ := list_self hl
    refine ⟨t1, t2, ?_⟩
    rw [he]
    refine P.append_list (h.use hA S fun u₂ s₂ v₂ ρ₂ μ₂ φ₂ S₂ N₂ M₂ r₂ ⟨vs, hv, hlen, q⟩ => ?_)
    have ha' : φ₂[k]? = some a := by
      obtain ⟨t, rfl⟩ := N₂.pre
      rw [List.getElem?_append_left (List.getElem?_eq_some_iff.mp ha).1]; exact ha
    obtain ⟨us, n, hl, hr⟩ := S₂.lists k a _ ha' hv
    refine ⟨us.toArray, n, Nat.le_trans (by simp [hr.length]; exact hlen) szLine, hl, ?_⟩
    have hl' := hl.update fun xs => xs.push u₂
    rw [show us.toArray.push u₂ = (us ++ [u₂]).toArray by simp] at hl'
    obtain ⟨S₃, N₃⟩ := S₂.turn (tk := s₂.toks) ha' hl hl' (Heap.SameBut.update ..) (hr.snoc r₂)
    exact ⟨_, ρ₂, _, φ₂, S₃, N₂.trans N₃, M₂.trans ⟨_, _, rfl⟩, .d .none, q⟩
theorem W_pop {x : Str} {np apos pos : Pos} {k : Nat} {vs : List V} {v : V} (hx : ρ.lookup x = some (.lst k)) (hv : μ[k]? = some (vs ++ [v])) (hlen : vs.length ≤ 900000) (h : Q v ρ (μ.set k vs))
    (hline : (apos.endLine == pos.line) = true := by rfl) (hd : (x == ("__debug__" : Str)) = false := by rfl)
    (hb : attributeBase (.Name x np) "pop" env (eval (.Name x np) env) = eval (.Name x np) env := by rfl) :
    W prog w base env B (.Call (.Attribute (.Name x np) "pop" apos) [] [] pos) ρ μ Q := fun A s ex φ hA S => by
  refine wpAny_Call_method hb rfl hline PySem.F.plainAttrs_list PySem.F.slot_list_pop PySem.F.type_list_pop ?_
  refine own_name S hx hd fun a ha => ?_
  · skip
    obtain ⟨us, n, hl, hr⟩ := S.lists k a _ ha hv
    obtain ⟨t1, t2⟩ := list_self hl
    refine ⟨t1, t2, ?_⟩
    have hlen' : us.length = vs.length + 1 := by rw [hr.length]; simp
    obtain ⟨u, hu, ru⟩ := hr.get (k := vs.length) (d := v) (by simp)
    have hl' := hl.update fun xs => xs.eraseIdxIfInBounds (us.toArray.size - 1)
    rw [show us.toArray.eraseIdxIfInBounds (us.toArray.size - 1) = (us.take vs.length).toArray by
      apply Array.toList_inj.mp
      rw [Array.toList_eraseIdxIfInBounds]
      simp [hlen', List.eraseIdx_eq_take_drop_succ]] at hl'
    have hrt := hr.take vs.length
    rw [List.take_left] at hrt
    obtain ⟨S₃, N₃⟩ := S.turn (tk := s.toks) ha hl hl' (Heap.SameBut.update ..) hrt
    exact P.pop_list hl (y := u) (by simpa [hlen'] using hu) ⟨_, ρ, _, φ, S₃, N₃, ⟨_, _, rfl⟩, ru.mono N₃, h⟩ (Nat.le_trans (by simp [hlen']; lia) szLine)
theorem W_extend {x : Str} {es : List Expr} {np apos pos lpos : Pos} {k : Nat} (hx : ρ.lookup x = some (.lst k)) (h : WL prog w base env B lpos es ρ μ fun vs ρ' μ' => ∃ us, μ'[k]? = some us ∧ us.length + vs.length ≤ 1000000 ∧ Q (.d .none) ρ' (μ'.set k (us ++ vs)))
    (hk : k < μ.length) (hline : (apos.endLine == pos.line) = true := by rfl) (hd : (x == ("__debug__" : Str)) = false := by rfl)
    (hb : attributeBase (.Name x np) "extend" env (eval (.Name x np) env) = eval (.Name x np) env := by rfl) :
    W prog w base env B (.Call (.Attribute (.Name x np) "extend" apos) [.List es lpos] [] pos) ρ μ Q := fun A s ex φ hA S => by
  refine wpAny_Call_method hb rfl hline PySem.F.plainAttrs_list PySem.F.slot_list_extend PySem.F.type_list_extend ?_
  refine own_name S hx hd fun a ha => ?_
  · skip
    obtain ⟨us, n, hl, hr⟩ := S.lists k a _ ha (List.getElem?_eq_getElem hk)
    obtain ⟨t1, t2⟩ := list_self hl
    refine ⟨t1, t2, ?_⟩
    show wpAny (model prog w) A (callWith pos (.builtin "list.extend") [.ref a] [(false, eval (.List es lpos) env)] []) _ _ _
    refine P.extend_list (wpAny_List_spliced (h.use hA S fun ws s₂ vs ρ₂ μ₂ φ₂ S₂ N₂ M₂ r₂ ⟨us₀, hv, hlen, q⟩ => ?_))
    have ha' : φ₂[k]? = some a := by
      obtain ⟨t, rfl⟩ := N₂.pre
      rw [List.getElem?_append_left (List.getElem?_eq_some_iff.mp ha).1]; exact ha
    have kk : ∀ b o, s₂.heap.get? b = some o → (s₂.heap.push { cls := .type "list", data := .seq ws.toArray }).get? b = some o := fun b o e => Heap.get?_push_of_some _ e
    have S₃ := S₂.grow (tk := s₂.toks) kk
    have N₃ : Nx ex φ₂ φ₂ s₂.heap (s₂.heap.push { cls := .type "list", data := .seq ws.toArray }) := .of_stays kk
    obtain ⟨us, n, hl, hr⟩ := S₃.lists k a _ ha' hv
    have e1 : us.length = us₀.length := hr.length
    have e2 : ws.length = vs.length := r₂.length
    have hz := szLine
    refine ⟨by lia, _, us.toArray, ws.toArray, n, 0, ?_, ?_, ?_, rfl, hl, Heap.get?_push_size _ rfl, ?_⟩
    · simp only [List.size_toArray]; lia
    · simp only [List.size_toArray]; lia
    · have : Builtin.List.listTooLong (us.toArray.size + ws.toArray.size) = false := by
        unfold Builtin.List.listTooLong
        simp only [List.size_toArray]
        first | (apply decide_eq_false; lia) | simp; lia
      rw [this]; simp
    have hl' := hl.update fun xs => xs ++ ws.toArray
    rw [show us.toArray ++ ws.toArray = (us ++ ws).toArray by simp] at hl'
    obtain ⟨S₄, N₄⟩ := S₃.turn (tk := s₂.toks) ha' hl hl' (Heap.SameBut.update ..) (hr.append (r₂.mono N₃))
    exact ⟨_, ρ₂, _, φ₂, S₄, (N₂.trans N₃).trans N₄, M₂.trans ⟨_, _, rfl⟩, .d .none, q⟩
theorem X_expr {e : Expr} {pos : Pos} (h : W prog w base env B e ρ μ fun v ρ' μ' => v = .d .none ∧ QF .next ρ' μ') (hi : interactive env = false := by rfl) (hs : swapsWith e none pos.line env = pure false := by rfl) : X1 prog w base env B (.Expr e pos) ρ μ QF := fun A s ex φ hA S =>
  wpAny_Expr (h.use hA S fun u s₁ v ρ₁ μ₁ φ₁ S₁ N₁ M₁ r₁ ⟨e, q⟩ => by
    subst e
    obtain rfl := r₁.data.ofNone
    exact ⟨_, ρ₁, μ₁, φ₁, S₁, N₁, M₁, .next, q⟩) hi hs
end
end Mine

/-! part MP5 -/
namespace Mine
open PySem PySem.W PySem.Calls PyProof.Rows PySem.SeqAt PySem.MeetsSeq

/-! contracts of pure defs -/
inductive PV where
  | d (x : D)
  | l (xs : List D)
  | v (u : Value)
inductive RepP (h : Heap) : Value → PV → Prop
  | d {u : Value} {x : D} : RepD h u x → RepP h u (.d x)
  | l {a : Addr} {us : List Value} {n : Nat} {xs : List D} : IsL h a us.toArray n → RepDs h us xs → RepP h (.ref a) (.l xs)
  | v (u : Value) : RepP h u (.v u)
inductive RepPs (h : Heap) : List Value → List PV → Prop
  | nil : RepPs h [] []
  | cons {u : Value} {p : PV} {us : List Value} {ps : List PV} : RepP h u p → RepPs h us ps → RepPs h (u :: us) (p :: ps)
/-- what comes back: data, or a list made in the call -/
inductive RetP (h h' : Heap) : Value → PV → Prop
  | d {u : Value} {x : D} : RepD h' u x → RetP h h' u (.d x)
  | l {a : Addr} {us : List Value} {n : Nat} {xs : List D} : h.get? a = none → IsL h' a us.toArray n → RepDs h' us xs → RetP h h' (.ref a) (.l xs)
structure Cx (base : Heap) (mg mb : Str → Option Value) : Prop where
  g : base.Ns mainGlobals mg
  b : base.Ns builtinsNs mb
  blt : ∀ x : Str, x ≠ "__name__" → mb x = bootBuiltins x
  lim : base.NoLimit

/-- the def at f, called with ps, hands back r; B frames of room are enough -/
noncomputable def Fn (prog : Program) (w : World) (base : Heap) (f : Addr) (B : Nat) (ps : List PV) (r : PV) : Prop :=
  ∀ (A : Around) (s : Shared) (us : List Value), AOk A B → base.StaysIn s.heap → RepPs s.heap us ps →
    wpAny (model prog w) A (call (.ref f) us) (fun u s' => (∀ b o, s.heap.get? b = some o → s'.heap.get? b = some o) ∧ Sim s s' ∧ RetP s.heap s'.heap u r) (fun _ _ => False) s
theorem Fn.le {prog : Program} {w : World} {base : Heap} {f : Addr} {B B' : Nat} {ps : List PV} {r : PV} (h : Fn prog w base f B ps r) (l : B ≤ B') : Fn prog w base f B' ps r := fun A s us hA => h A s us (hA.le l)

noncomputable def inV : PV → V
  | .d x => .d x
  | .l xs => .tl xs
  | .v u => .val u
noncomputable def outV (v : V) (μ : Lists) : Option PV := match v with
  | .d x => some (.d x)
  | .lst k => (match μ[k]? with | some vs => (allD vs).map .l | none => none)
  | _ => none
noncomputable def argV (v : V) (μ : Lists) : Option PV := match v with
  | .d x => some (.d x)
  | .val u => some (.v u)
  | v => (listV v μ).map .l
noncomputable def argVs (vs : List V) (μ : Lists) : Option (List PV) := match vs with
  | [] => some []
  | v :: r => (argV v μ).bind fun p => (argVs r μ).bind fun ps => some (p :: ps)
/-- what a call hands on: data, or a list that no one turns -/
noncomputable def backV : PV → V := inV

section
variable {prog : Program} {w : World} {base : Heap} {env : Env} {B : Nat} {ρ : Vars} {μ : Lists} {Q : V → Vars → Lists → Prop} {QB : Bool → Vars → Lists → Prop} {QF : Fl → Vars → Lists → Prop} {mg mb : Str → Option Value}

theorem argV_at {ex φ : List Addr} {s : Shared} (S : St base env ex φ ρ μ s) {v : V} {u : Value} {p : PV} (e : argV v μ = some p) (r : Rep s.heap ex φ u v) : RepP s.heap u p := by
  cases v with
  | d x => cases e; cases r with | d r => exact .d r
  | val u => cases e; cases r; exact .v _
  | tl xs =>
    obtain ⟨xs, h, rfl⟩ := Option.map_eq_some_iff.mp (show (listV (.tl xs) μ).map PV.l = some p from e)
    obtain ⟨a, us, n, rfl, hl, hr⟩ := listV_at S h r
    exact .l hl hr
  | lst k =>
    obtain ⟨xs, h, rfl⟩ := Option.map_eq_some_iff.mp (show (listV (.lst k) μ).map PV.l = some p from e)
    obtain ⟨a, us, n, rfl, hl, hr⟩ := listV_at S h r
    exact .l hl hr
theorem argVs_at {ex φ : List Addr} {s : Shared} (S : St base env ex φ ρ μ s) : ∀ {vs : List V} {us : List Value} {ps : List PV}, argVs vs μ = some ps → Reps s.heap ex φ us vs → RepPs s.heap us ps
  | [], _, _, e, r => by cases e; cases r; exact .nil
  | v :: vs, _, _, e, r => by
    obtain ⟨p, h1, e⟩ := Option.bind_eq_some_iff.mp (show ((argV v μ).bind fun p => (argVs vs μ).bind fun ps => some (p :: ps)) = some _ from e)
    obtain ⟨ps, h2, e⟩ := Option.bind_eq_some_iff.mp e
    cases e
    cases r with | cons r rs => exact .cons (argV_at S h1 r) (argVs_at S h2 rs)

theorem global_name {A : Around} {s : Shared} {ex φ : List Addr} {f : Str} {p : Pos} {u : Value} {R : Value → Shared → Prop} {E : Value → Shared → Prop} (S : St base env ex φ ρ μ s) (C : Cx base mg mb) (hf : mg f = some u) (hk : env.kindOf f = some .globalImplicit) (hd : (f == ("__debug__" : Str)) = false)
    (h : R u s) : wpAny (model prog w) A (eval (.Name f p) env) R E s :=
  Name_function_global S.ok.kind hk (loadGlobal_global (by rw [S.ok.glob]; exact C.g.keeps S.stays) hf h) hd
theorem builtin_name {A : Around} {s : Shared} {ex φ : List Addr} {f : Str} {p : Pos} {u : Value} {R : Value → Shared → Prop} {E : Value → Shared → Prop} (S : St base env ex φ ρ μ s) (C : Cx base mg mb) (hf : mg f = none) (hb : bootBuiltins f = some u) (hn : f ≠ "__name__") (hk : env.kindOf f = some .globalImplicit) (hd : (f == ("__debug__" : Str)) = false)
    (h : R u s) : wpAny (model prog w) A (eval (.Name f p) env) R E s :=
  Name_function_global S.ok.kind hk (loadGlobal_builtin (by rw [S.ok.glob]; exact C.g.keeps S.stays) hf (by rw [S.ok.blt]; exact C.b.keeps S.stays) ((C.blt f hn).trans hb) h) hd
theorem args_any {pos : Pos} {e : Expr} {es : List Expr} {f : Value} {A : Around} {s : Shared} {E : Value → Shared → Prop} {R : Args → Shared → Prop} (he : starEach (e :: es) env = (false, eval e env) :: starEach es env)
    (h : wpAny (model prog w) A (spliced (backTo pos (starEach (e :: es) env))) (fun vs s' => R ⟨vs, []⟩ s') E s) : wpAny (model prog w) A (evalArgs f true (backTo pos (starEach (e :: es) env)) []) R E s := by
  rw [he] at h ⊢
  exact Calls.evalArgs_plain h

/-- a global name's value -/
theorem W_global (C : Cx base mg mb) {f : Str} {p : Pos} {u : Value} (hf : mg f = some u) (h : Q (.val u) ρ μ) (hk : env.kindOf f = some .globalImplicit := by rfl) (hd : (f == ("__debug__" : Str)) = false := by rfl) : W prog w base env B (.Name f p) ρ μ Q := fun A s ex φ hA S =>
  global_name S C hf hk hd ⟨_, ρ, μ, φ, S, .refl, .refl _, .val _, h⟩

theorem fn_back {ex φ : List Addr} {s s' : Shared} (S : St base env ex φ ρ μ s) {u : Value} {r : PV} (k : ∀ b o, s.heap.get? b = some o → s'.heap.get? b = some o) (x : RetP s.heap s'.heap u r) : Rep s'.heap ex φ u (backV r) := by
  cases x with
  | d r => exact .d r
  | l hn hl hr => exact .tl hl hr (S.off hn).1 (S.off hn).2
theorem St.sim {ex φ : List Addr} {s s' : Shared} (S : St base env ex φ ρ μ s) (M : Sim s s') (k : ∀ b o, s.heap.get? b = some o → s'.heap.get? b = some o) : St base env ex φ ρ μ s' := by
  obtain ⟨h, t, rfl⟩ := M
  exact S.grow k
/-- a call of a def -/
theorem W_call (C : Cx base mg mb) {f : Str} {fa : Addr} {p pos : Pos} {e : Expr} {es : List Expr} {fo : Obj} {fd : FuncData} (hf : mg f = some (.ref fa)) (ho : base.get? fa = some fo) (hfd : fo.data = .func fd)
    (h : WL prog w base env B pos (e :: es) ρ μ fun vs ρ' μ' => ∃ ps r, argVs vs μ' = some ps ∧ Fn prog w base fa B ps r ∧ Q (backV r) ρ' μ')
    (hk : env.kindOf f = some .globalImplicit := by rfl) (hd : (f == ("__debug__" : Str)) = false := by rfl)
    (he : starEach (e :: es) env = (false, eval e env) :: starEach es env := by rfl) : W prog w base env B (.Call (.Name f p) (e :: es) [] pos) ρ μ Q := fun A s ex φ hA S => by
  refine Call_Name rfl (global_name S C hf hk hd (callWith_function (o := fo) (fd := fd) (args_any he ?_)))
  refine h.use hA S fun us s₁ vs ρ₁ μ₁ φ₁ S₁ N₁ M₁ r₁ ⟨ps, r, e1, hF, q⟩ => ⟨⟨S₁.stays _ _ ho, hfd⟩, ?_⟩
  refine wpAny_mono (hF A s₁ us hA S₁.stays (argVs_at S₁ e1 r₁)) (fun u s₂ ⟨k, M, rr⟩ => ?_) fun _ _ x => x
  exact ⟨_, ρ₁, μ₁, φ₁, S₁.sim M k, N₁.trans (.of_stays k), M₁.trans M, fn_back S₁ k rr, q⟩
theorem W_call0 (C : Cx base mg mb) {f : Str} {fa : Addr} {p pos : Pos} {fo : Obj} {fd : FuncData} {r : PV} (hf : mg f = some (.ref fa)) (ho : base.get? fa = some fo) (hfd : fo.data = .func fd)
    (hF : Fn prog w base fa B [] r) (q : Q (backV r) ρ μ)
    (hk : env.kindOf f = some .globalImplicit := by rfl) (hd : (f == ("__debug__" : Str)) = false := by rfl) : W prog w base env B (.Call (.Name f p) [] [] pos) ρ μ Q := fun A s ex φ hA S => by
  refine Call_Name rfl (global_name S C hf hk hd (callWith_function (o := fo) (fd := fd) (PySem.evalArgs_none ⟨⟨S.stays _ _ ho, hfd⟩, ?_⟩)))
  refine wpAny_mono (hF A s [] hA S.stays .nil) (fun u s₂ ⟨k, M, rr⟩ => ?_) fun _ _ x => x
  exact ⟨_, ρ, μ, φ, S.sim M k, .of_stays k, M, fn_back S k rr, q⟩

theorem lookup_zip_rev : ∀ (names : List Str) (us : List Value) (ps : List PV) {h : Heap} {ex φ : List Addr}, names.Nodup → (∀ u p, RepP h u p → ∀ a, u = .ref a → (∃ us n, IsL h a (List.toArray us) n) → a ∉ ex ∧ a ∉ φ) → RepPs h us ps → names.length = us.length →
    ∀ x v, (names.zip (ps.map inV)).lookup x = some v → ∃ u, (names.zip us).lookup x = some u ∧ Rep h ex φ u v
  | [], _, _, _, _, _, _, _, _, _, x, v, e => by cases e
  | y :: names, [], _, _, _, _, _, _, _, hl, x, v, e => by simp at hl
  | y :: names, u :: us, ps, h, ex, φ, hnd, hoff, r, hl, x, v, e => by
    cases r with
    | @cons _ p _ ps ru rs =>
      rw [List.map_cons, List.zip_cons_cons, List.lookup_cons] at e
      rw [List.zip_cons_cons, List.lookup_cons]
      cases q : x == y with
      | true =>
        rw [q] at e
        cases e
        refine ⟨u, rfl, ?_⟩
        cases ru with
        | d r => exact .d r
        | l hl' hr => exact .tl hl' hr (hoff _ _ (.l hl' hr) _ rfl ⟨_, _, hl'⟩).1 (hoff _ _ (.l hl' hr) _ rfl ⟨_, _, hl'⟩).2
        | v u => exact .val u
      | false =>
        rw [q] at e
        exact lookup_zip_rev names us ps (List.nodup_cons.mp hnd).2 hoff rs (by simpa using hl) x v e

theorem RepPs.length {h : Heap} {us : List Value} {ps : List PV} (r : RepPs h us ps) : us.length = ps.length := by
  induction r with
  | nil => rfl
  | cons _ _ ih => rw [List.length_cons, List.length_cons, ih]
theorem RepP.mono {h h' : Heap} (k : ∀ b o, h.get? b = some o → h'.get? b = some o) {u : Value} {p : PV} (r : RepP h u p) : RepP h' u p := by
  cases r with
  | d r => exact .d (r.mono (.of_stays k))
  | l hl hr => exact .l (k _ _ hl) (hr.mono (.of_stays k))
  | v u => exact .v u
theorem RepPs.mono {h h' : Heap} (k : ∀ b o, h.get? b = some o → h'.get? b = some o) {us : List Value} {ps : List PV} (r : RepPs h us ps) : RepPs h' us ps := by
  induction r with
  | nil => exact .nil
  | cons a _ ih => exact .cons (a.mono k) ih

theorem lookup_reverse_nodup : ∀ (l : List (Str × Value)), (l.map (·.1)).Nodup → ∀ x, l.reverse.lookup x = l.lookup x
  | [], _, _ => rfl
  | (y, u) :: r, hnd, x => by
    have hnd' := List.nodup_cons.mp (show (y :: r.map (·.1)).Nodup from hnd)
    rw [List.reverse_cons, List.lookup_append, lookup_reverse_nodup r hnd'.2 x, List.lookup_cons]
    by_cases q : x = y
    · subst q
      have : r.lookup x = none := by
        cases z : r.lookup x with
        | none => rfl
        | some v =>
          exfalso
          have : ∀ (l : List (Str × Value)), l.lookup x = some v → x ∈ l.map (·.1) := by
            intro l
            induction l with
            | nil => intro h; cases h
            | cons p l ih =>
              obtain ⟨a, b⟩ := p
              intro h
              rw [List.lookup_cons] at h
              cases q : x == a with
              | true => rw [beq_iff_eq.mp q]; exact .head _
              | false => rw [q] at h; exact .tail _ (ih h)
          exact hnd'.1 (this r z)
      rw [this]; simp
    · rw [beq_eq_false_iff_ne.mpr q]
      cases hr : r.lookup x <;> simp [List.lookup, beq_eq_false_iff_ne.mpr q, hr]

theorem mem_of_lookup {β : Type} {x : Str} {k : β} : ∀ {l : List (Str × β)}, l.lookup x = some k → (x, k) ∈ l
  | [], e => by cases e
  | (y, v) :: l, e => by
    rw [List.lookup_cons] at e
    cases q : x == y with
    | true => rw [q] at e; cases e; rw [beq_iff_eq.mp q]; exact .head _
    | false => rw [q] at e; exact .tail _ (mem_of_lookup e)
/-- a def's contract, from its body -/
theorem Fn_of (C : Cx base mg mb) {f : Addr} {fo : Obj} {fd : FuncData} {body : List Stmt} {names : List Str} {ps : List PV} {r : PV} (ho : base.get? f = some fo) (hfd : fo.data = .func fd) (hcd : base.CodeRec fd.code fd.qualname) (hbody : fd.body = .stmts body)
    (hg : fd.globals = mainGlobals) (hb : fd.builtins = builtinsNs) (hbind : ∀ us : List Value, us.length = names.length → bindArgs fd ⟨us, []⟩ = pure (names.zip us)) (hnd : names.Nodup) (hloc : ∀ x ∈ names, fd.scope.names.lookup x = some .local)
    (hcell : ∀ x ∈ fd.scope.names, x.2 ≠ .cell) (hn : names.length = ps.length)
    (h : ∀ L, X prog w base (callEnv fd L f) B body (names.zip (ps.map inV)) [] fun fl _ μ' => ∃ v, fl = .ret v ∧ outV v μ' = some r)
    (hco : fd.scope.isCoroutine = false := by rfl) (hgen : fd.scope.isGenerator = false := by rfl) (hk : fd.scope.kind = .function := by rfl) : Fn prog w base f (B + 1) ps r := by
  intro A s us hA hst hr
  have hlen : names.length = us.length := by rw [hr.length, hn]
  refine wpAny_call ?_
  refine codeAny_call_def (fd := fd) (body := body) (binds := names.zip us) (by have := hA.dep; show A.depth < 1000; lia) (hst _ _ ho) hfd (C.lim.keeps hst) (hcd.keeps hst) hbody (.of_eq (hbind us hlen.symm)) hcell (fun x hx => ?_) (fun h₀ hns hk₀ => ?_) hco hgen hk
  · exact hloc x.1 (List.of_mem_zip hx).1
  · have hA' : AOk (A.deeper (callEnv fd s.heap.objs.size f)) B := ⟨hA.hh, by have := hA.dep; show A.depth + 1 + B ≤ 900; lia, by have := hA.un; show A.units + 3 + 16 * B ≤ 9000; lia⟩
    have hnew : s.heap.get? s.heap.objs.size = none := Heap.get?_none_of_le (Nat.le_refl _)
    have hLk : ∀ x : Str × Value, x ∈ names.zip us → (callEnv fd s.heap.objs.size f).kindOf x.1 = some .local := fun x hx => hloc x.1 (List.of_mem_zip hx).1
    have hz : (names.zip us).map (·.1) = names := by
      rw [List.map_fst_zip]
      lia
    have S₀ : St base (callEnv fd s.heap.objs.size f) [s.heap.objs.size] [] (names.zip (ps.map inV)) [] { s with heap := h₀, toks := s.toks + (names.zip us).length } := by
      refine ⟨⟨hk, hg, hb⟩, .head _, ⟨_, hns, fun x v e => ?_⟩, fun b o e => hk₀ b o (hst b o e), fun b hb' => ?_, (fun b hb' => nomatch hb'), fun b hb' => ?_, rfl, .nil, (fun k a ds e _ => by simp at e), fun _ x c e _ => ?_, fun _ q => ?_⟩
      · have off : ∀ (a : Addr) (ws : List Value) (n : Nat), IsL h₀ a ws.toArray n → a ∉ [s.heap.objs.size] := fun a ws n hl m => by
          obtain ⟨o, es, ep, ho', hd', _⟩ := id hns
          rw [List.mem_singleton.mp m] at hl
          have hl2 : h₀.get? s.heap.objs.size = some _ := hl
          rw [hl2] at ho'
          cases ho'
          cases hd'
        obtain ⟨u, hu, ru⟩ := lookup_zip_rev names us ps (h := h₀) (ex := [s.heap.objs.size]) (φ := []) hnd (fun u p _ a e ⟨ws, n, hl⟩ => ⟨off a ws n hl, fun m => nomatch m⟩) (hr.mono hk₀) hlen x v e
        · refine ⟨u, .loc ?_ ?_, ru⟩
          · have hm : x ∈ names := by
              have : ∀ (l : List (Str × Value)), l.lookup x = some u → ∃ p ∈ l, p.1 = x := by
                intro l
                induction l with
                | nil => intro h; cases h
                | cons p l ih =>
                  obtain ⟨a, b⟩ := p
                  intro h
                  rw [List.lookup_cons] at h
                  cases q : x == a with
                  | true => exact ⟨_, .head _, (beq_iff_eq.mp q).symm⟩
                  | false => rw [q] at h; obtain ⟨p, hp, e⟩ := ih h; exact ⟨p, .tail _ hp, e⟩
              obtain ⟨p, hp, rfl⟩ := this _ hu
              exact (List.of_mem_zip hp).1
            exact hloc x hm
          · show (names.zip us).reverse.lookup x = some u
            rw [lookup_reverse_nodup _ (by rw [hz]; exact hnd)]; exact hu
      · rw [List.mem_singleton.mp hb']
        cases q : base.get? s.heap.objs.size with
        | none => rfl
        | some o => have := hst _ _ q; rw [hnew] at this; cases this
      · rw [List.mem_singleton.mp hb']
        exact ns_not_seq hns
      · exact (hcell (x, .cell) (mem_of_lookup e) rfl).elim
      · exact (hcell (_, .cell) (mem_of_lookup q) rfl).elim
    refine wpAny_mono (T.use (h s.heap.objs.size) hA' S₀ (R := fun fl s' => ∃ u, fl = .ret u ∧ (∀ b o, s.heap.get? b = some o → s'.heap.get? b = some o) ∧ Sim s s' ∧ RetP s.heap s'.heap u r) fun fl s' f ρ' μ' φ' S' N M rf ⟨v, e, eo⟩ => ?_) (fun fl s' ⟨u, e, q⟩ => by subst e; exact q) fun _ _ x => x.elim
    subst e
    cases rf with
    | @ret u _ ru =>
      refine ⟨u, rfl, fun b o e => N.keep b o (hk₀ b o e) (.inr ⟨fun m => ?_, fun m => nomatch m⟩), Sim.trans ⟨_, _, rfl⟩ M, ?_⟩
      · rw [List.mem_singleton.mp m, hnew] at e; cases e
      · cases v with
        | d x => cases eo; cases ru with | d ru => exact .d ru
        | lst k =>
          simp only [outV] at eo
          split at eo
          · rename_i vs hv
            obtain ⟨xs, hx, rfl⟩ := Option.map_eq_some_iff.mp eo
            cases ru with
            | @lst _ a ha =>
              obtain ⟨ws, n, hl, hrs⟩ := S'.lists k a _ ha hv
              rw [allD_eq hx] at hrs
              refine .l ?_ hl hrs.to_ds
              rcases N.fresh a (List.mem_of_getElem? ha) with m | m
              · exact nomatch m
              · cases q : s.heap.get? a with
                | none => rfl
                | some o => rw [hk₀ _ _ q] at m; cases m
          · cases eo
        | tl xs => cases eo
        | val u => cases eo

/-! loops -/
inductive LPost (base : Heap) (env : Env) (ex φ : List Addr) (hs : Heap) (s : Shared) (QF : Fl → Vars → Lists → Prop) (r : Result) (s' : Shared) : Prop
  | mk (fl : Flow) (f : Fl) (ρ' : Vars) (μ' : Lists) (φ' : List Addr) : r = .ok fl → St base env ex φ' ρ' μ' s' → Nx ex φ φ' hs s'.heap → Sim s s' → RF s'.heap ex φ' fl f → QF f ρ' μ' → LPost base env ex φ hs s QF r s'
noncomputable def LT (prog : Program) (w : World) (base : Heap) (env : Env) (B : Nat) (c : Code) (ρ : Vars) (μ : Lists) (QF : Fl → Vars → Lists → Prop) : Prop :=
  ∀ (A : Around) (s : Shared) (ex φ : List Addr), AOk A B → St base env ex φ ρ μ s →
    codeAny (model prog w) A c (LPost base env ex φ s.heap s QF) s
theorem X_while {t : Expr} {b : List Stmt} {pos : Pos} (h : LT prog w base env B (.whileLoop t b [] env) ρ μ QF) : X1 prog w base env B (.While t b [] pos) ρ μ QF := fun A s ex φ hA S =>
  wpAny_While (codeAny_mono (h A s ex φ hA S) fun r s' ⟨fl, f, ρ', μ', φ', e, a1, a2, a3, a4, a5⟩ => by subst e; exact ⟨f, ρ', μ', φ', a1, a2, a3, a4, a5⟩)
theorem LT_sub {c : Code} {ρ' : Vars} (h : LT prog w base env B c ρ' μ QF) (k : ∀ x v, ρ'.lookup x = some v → ρ.lookup x = some v) : LT prog w base env B c ρ μ QF := fun A s ex φ hA S =>
  h A s ex φ hA { S with ns := let ⟨m, hn, hb⟩ := S.ns; ⟨m, hn, fun x v e => hb x v (k x v e)⟩ }
theorem LT_while {t : Expr} {b : List Stmt} (h : WB prog w base env B t ρ μ fun c ρ' μ' => if c then X prog w base env B b ρ' μ' (fun f ρ'' μ'' => match f with
      | .next | .cont => LT prog w base env B (.whileLoop t b [] env) ρ'' μ'' QF
      | .brk => QF .next ρ'' μ''
      | .ret v => QF (.ret v) ρ'' μ'') else QF .next ρ' μ') : LT prog w base env B (.whileLoop t b [] env) ρ μ QF := fun A s ex φ hA S => by
  refine codeAny_of_tree ?_
  show wpAny _ A ((whileTurn t b [] env).onRaise (fun x => do noteFrame x env; theTreesLotGoes x)) _ _ s
  refine wpAny_noted ?_
  simp only [whileTurn]
  refine wpAny_bind (wpAny_mono (h A s ex φ hA S) (fun c s₁ ⟨c', ρ₁, μ₁, φ₁, S₁, N₁, M₁, r₁, h₁⟩ => ?_) fun _ _ x => x.elim)
  cases r₁
  cases c with
  | false =>
    simp only [Bool.false_eq_true, if_false] at h₁ ⊢
    exact wpAny_bind (wpAny_execs_nil (wpAny_pure ⟨_, _, ρ₁, μ₁, φ₁, rfl, S₁, N₁, M₁, .next, h₁⟩))
  | true =>
    simp only [if_true] at h₁ ⊢
    refine wpAny_bind (wpAny_mono (h₁ A s₁ ex φ₁ hA S₁) (fun f s₂ ⟨f', ρ₂, μ₂, φ₂, S₂, N₂, M₂, r₂, h₂⟩ => ?_) fun _ _ x => x.elim)
    have go : LT prog w base env B (.whileLoop t b [] env) ρ₂ μ₂ QF → codeAny (model prog w) A (.whileLoop t b [] env) (LPost base env ex φ s.heap s QF) s₂ := fun h₂ =>
      codeAny_mono (h₂ A s₂ ex φ₂ hA S₂) fun r s' ⟨fl, f, ρ', μ', φ', e, S', N', M', q1, q2⟩ => ⟨fl, f, ρ', μ', φ', e, S', (N₁.trans N₂).trans N', (M₁.trans M₂).trans M', q1, q2⟩
    cases r₂ with
    | next => exact wpAny_pure ⟨rfl, go h₂⟩
    | cont => exact wpAny_pure ⟨rfl, go h₂⟩
    | brk => exact wpAny_pure ⟨_, _, ρ₂, μ₂, φ₂, rfl, S₂, N₁.trans N₂, M₁.trans M₂, .next, h₂⟩
    | ret r => exact wpAny_pure ⟨_, _, ρ₂, μ₂, φ₂, rfl, S₂, N₁.trans N₂, M₁.trans M₂, .ret r, h₂⟩
end
end Mine

/-! part MP6 -/
namespace Mine
open PySem PySem.W PySem.Calls PyProof.Rows PySem.SeqAt PySem.MeetsSeq

noncomputable abbrev IsTupO (o : Obj) : Prop := o.cls = .type "tuple" ∧ ∃ items n, o.data = .seq items n
noncomputable def Flds (h : Heap) (a : Addr) : Prop := ∃ o vs, h.get? a = some o ∧ o.data = .fields vs ∧ o.cls ≠ .type "code"

section
variable {prog : Program} {w : World} {base : Heap} {env : Env} {B : Nat} {ρ : Vars} {μ : Lists} {Q : V → Vars → Lists → Prop} {QB : Bool → Vars → Lists → Prop} {QF : Fl → Vars → Lists → Prop} {mg mb : Str → Option Value}

/-- iterators turn, nothing else does -/
theorem St.its {ex φ : List Addr} {s : Shared} {its : List Addr} {h' : Heap} {tk : Nat} (S : St base env ex φ ρ μ s) (hk : ∀ b o, b ∉ its → s.heap.get? b = some o → h'.get? b = some o) (hf : ∀ a ∈ its, Flds s.heap a) (hb : ∀ a ∈ its, base.get? a = none) (hx : ∀ a ∈ its, a ∉ ex) :
    St base env ex φ ρ μ { s with heap := h', toks := tk } := by
  have off : ∀ a o, s.heap.get? a = some o → (∀ vs, o.data ≠ .fields vs) → h'.get? a = some o := fun a o e n => hk a o (fun m => by
    obtain ⟨o', vs, ho, hd, _⟩ := hf a m
    rw [e] at ho; cases ho
    exact n _ hd) e
  have tup : TupIn s.heap h' := fun b o e c ⟨items, n, hd⟩ => off b o e fun vs q => by rw [hd] at q; cases q
  have rep : ∀ {u : Value} {v : V}, Rep s.heap ex φ u v → Rep h' ex φ u v := fun r => by
    cases r with
    | d r => exact .d (r.mono tup)
    | lst e => exact .lst e
    | tl hl hr a b => exact .tl (off _ _ hl fun vs q => by cases q) (hr.mono tup) a b
    | val => exact .val _
  have reps : ∀ {us : List Value} {vs : List V}, Reps s.heap ex φ us vs → Reps h' ex φ us vs := fun r => by
    induction r with
    | nil => exact .nil
    | cons a _ ih => exact .cons (rep a) ih
  obtain ⟨m, hn, hbd⟩ := S.ns
  refine ⟨S.ok, S.hL, ⟨m, ?_, fun x v e => ?_⟩, fun b o e => hk b o (fun m => by rw [hb b m] at e; cases e) (S.stays b o e), S.offx, S.offl, fun b hb' => ?_, S.len, S.nodup, fun k a ds e f => ?_, fun hf x c a b => let ⟨m, q, hc⟩ := S.cellx hf x c a b; ⟨m, q, let ⟨o, ho, hd⟩ := hc; ⟨o, off _ _ ho fun vs q => by (rw [hd] at q; cases q), hd⟩⟩, fun hf' ht => (S.tabx hf' ht).mono fun b o vs e d c => hk b o (fun m => by
    obtain ⟨o', vs', ho, hd', hc'⟩ := hf b m
    rw [e] at ho; cases ho
    exact c.elim hc' (hx b m)) e⟩
  · obtain ⟨o, es, ep, ho, hd, r⟩ := hn
    exact ⟨o, es, ep, off _ _ ho fun vs q => by (rw [hd] at q; cases q), hd, r⟩
  · obtain ⟨u, a, r⟩ := hbd x v e
    refine ⟨u, ?_, rep r⟩
    cases a with
    | loc a b => exact .loc a b
    | cell a b c => obtain ⟨o, ho, hd⟩ := c; exact .cell a b ⟨o, off _ _ ho fun vs q => by (rw [hd] at q; cases q), hd⟩
    | free a d b c => obtain ⟨o, ho, hd⟩ := c; exact .free a d b ⟨o, off _ _ ho fun vs q => by (rw [hd] at q; cases q), hd⟩
  · obtain ⟨o, ho, hd⟩ := S.live b hb'
    exact ⟨o, hk b o (fun m => hx b m hb') ho, hd⟩
  · obtain ⟨us, n, hl, hr⟩ := S.lists k a ds e f
    exact ⟨us, n, off _ _ hl (fun vs q => by cases q), reps hr⟩

/-- the turns of a for: each begins by its own names -/
noncomputable def ForX (prog : Program) (w : World) (base : Heap) (env : Env) (B : Nat) (body : List Stmt) (QF : Fl → Vars → Lists → Prop) : List Vars → Vars → Lists → Prop
  | [], ρ, μ => QF .next ρ μ
  | b :: bs, ρ, μ => X prog w base env B body (b ++ ρ) μ fun f ρ' μ' => match f with
      | .next => ForX prog w base env B body QF bs ρ' μ'
      | .cont => ForX prog w base env B body QF bs ρ' μ'
      | .brk => QF .next ρ' μ'
      | .ret v => QF (.ret v) ρ' μ'

theorem for_gen {target : Expr} {body : List Stmt} {it : Addr} {its src ex φ₀ : List Addr} {inv : Nat → Heap → Prop} {bs : List Vars} {hs : Heap}
    (fresh : ∀ a ∈ its, hs.get? a = none) (based : ∀ a ∈ its, base.get? a = none) (offx : ∀ a ∈ its, a ∉ ex) (offs : ∀ a ∈ src, a ∉ ex ∧ a ∉ φ₀ ∧ hs.get? a ≠ none)
    (stable : ∀ j h h', inv j h → TupIn h h' → (∀ a o, (a ∈ its ∨ a ∈ src) → h.get? a = some o → h'.get? a = some o) → inv j h')
    (itlive : ∀ j h, inv j h → ∀ a ∈ its, Flds h a)
    (next : ∀ A s φ ρ μ j b, AOk A B → St base env ex φ ρ μ s → inv j s.heap → bs[j]? = some b → ∀ R : Shared → Prop,
      (∀ s', St base env ex φ (b ++ ρ) μ s' → inv (j + 1) s'.heap → Sim s s' → (∀ b o, s.heap.get? b = some o → b ∉ its → (b ∉ ex ∨ IsTupO o) → s'.heap.get? b = some o) → R s') →
      wpAny (model prog w) A (pyNext (.ref it)) (fun r s₁ => match r with
        | none => False
        | some u => wpAny (model prog w) A (letOwnedTupleGo target (.ref it) u) (fun _ s₁' => wpAny (model prog w) A (assign target env u) (fun _ s₂ => R s₂) (fun _ _ => False) s₁') (fun _ _ => False) s₁) (fun _ _ => False) s)
    (fin : ∀ A s φ ρ μ, AOk A B → St base env ex φ ρ μ s → inv bs.length s.heap → ∀ R : Shared → Prop,
      (∀ s', St base env ex φ ρ μ s' → Sim s s' → (∀ b o, s.heap.get? b = some o → b ∉ its → s'.heap.get? b = some o) → R s') →
      wpAny (model prog w) A (pyNext (.ref it)) (fun r s₁ => r = none ∧ R s₁) (fun _ _ => False) s) :
    ∀ k j, bs.length - j = k → j ≤ bs.length → ∀ A s φ ρ μ, AOk A B → St base env ex φ ρ μ s → inv j s.heap → Nx ex φ₀ φ hs s.heap → ForX prog w base env B body QF (bs.drop j) ρ μ →
      codeAny (model prog w) A (.forLoop target (.ref it) body [] env) (LPost base env ex φ₀ hs s QF) s := by
  have glue : ∀ {φ : List Addr} {ρ : Vars} {μ : Lists} {s s' : Shared}, St base env ex φ ρ μ s' → Nx ex φ₀ φ hs s.heap → (∀ b o, s.heap.get? b = some o → b ∉ its → (b ∉ ex ∨ IsTupO o) → s'.heap.get? b = some o) → Nx ex φ₀ φ hs s'.heap := by
    intro φ ρ μ s s' S' N k
    have nit : ∀ b o, hs.get? b = some o → b ∉ its := fun b o e m => by rw [fresh b m] at e; cases e
    refine ⟨fun b o e c => k b o (N.keep b o e c) (nit b o e) (c.elim (fun t => .inr t) fun t => .inl t.1), N.pre, N.fresh, fun b e => ?_⟩
    cases q : hs.get? b with
    | none => rfl
    | some o =>
      exfalso
      by_cases hx : b ∈ ex
      · obtain ⟨o', ho, _⟩ := S'.live b hx
        rw [e] at ho; cases ho
      · by_cases hp : b ∈ φ
        · exact (S'.off e).2 hp
        · have := k b o (N.keep b o q (.inr ⟨hx, fun m => hp (N.pre.subset m)⟩)) (nit b o q) (.inl hx)
          rw [e] at this; cases this
  intro k
  induction k with
  | zero =>
    intro j hj hle A s φ ρ μ hA S I N hX
    have ej : j = bs.length := by omega
    subst ej
    rw [List.drop_length] at hX
    refine codeAny_of_tree ?_
    show wpAny _ A ((forTurn target (.ref it) body [] env).onRaise (fun x => do noteFrame x env; theTreesLotGoes x)) _ _ s
    refine wpAny_noted ?_
    simp only [forTurn]
    refine wpAny_bind (wpAny_standAt (wpAny_bind (wpAny_onRaise (wpAny_mono (fin A s φ ρ μ hA S I (fun s' => St base env ex φ ρ μ s' ∧ Sim s s' ∧ Nx ex φ₀ φ hs s'.heap) fun s' S' M' k' => ⟨S', M', glue S' N fun b o e n _ => k' b o e n⟩) (fun r s₁ ⟨e, S', M', N'⟩ => ?_) fun _ _ x => x.elim))))
    subst e
    exact wpAny_pure ⟨rfl, codeAny_block (wpAny_execs_nil ⟨_, _, ρ, μ, φ, rfl, S', N', M', .next, hX⟩)⟩
  | succ k ih =>
    intro j hj hle A s φ ρ μ hA S I N hX
    have hlt : j < bs.length := by omega
    rw [List.drop_eq_getElem_cons hlt] at hX
    refine codeAny_of_tree ?_
    show wpAny _ A ((forTurn target (.ref it) body [] env).onRaise (fun x => do noteFrame x env; theTreesLotGoes x)) _ _ s
    refine wpAny_noted ?_
    simp only [forTurn]
    refine wpAny_bind (wpAny_standAt (wpAny_bind (wpAny_onRaise (wpAny_mono (next A s φ ρ μ j bs[j] hA S I (List.getElem?_eq_getElem hlt) (fun s' => St base env ex φ (bs[j] ++ ρ) μ s' ∧ inv (j + 1) s'.heap ∧ Sim s s' ∧ Nx ex φ₀ φ hs s'.heap) fun s' S' I' M' k' => ⟨S', I', M', glue S' N k'⟩) (fun r s₁ hr => ?_) fun _ _ x => x.elim))))
    cases r with
    | none => exact hr.elim
    | some u =>
      refine wpAny_bind (wpAny_mono hr (fun _ s₁' hr' => ?_) fun _ _ x => x.elim)
      refine wpAny_bind (wpAny_mono hr' (fun _ s₂ ⟨S₂, I₂, M₂, N₂⟩ => ?_) fun _ _ x => x.elim)
      refine wpAny_bind (wpAny_mono (hX A s₂ ex φ hA S₂) (fun f s₃ ⟨f', ρ₃, μ₃, φ₃, S₃, N₃, M₃, r₃, h₃⟩ => ?_) fun _ _ x => x.elim)
      have N' := N₂.trans N₃
      have go : ForX prog w base env B body QF (bs.drop (j + 1)) ρ₃ μ₃ → codeAny (model prog w) A (.forLoop target (.ref it) body [] env) (LPost base env ex φ₀ hs s QF) s₃ := fun h₃ => by
        refine codeAny_mono (ih (j + 1) (by omega) hlt A s₃ φ₃ ρ₃ μ₃ hA S₃ (stable _ _ _ I₂ N₃.tup fun a o ha e => ?_) N' h₃) fun r s' ⟨fl, f, ρ', μ', φ', e, S', Nn, M', q1, q2⟩ => ⟨fl, f, ρ', μ', φ', e, S', Nn, (M₂.trans M₃).trans M', q1, q2⟩
        rcases ha with ha | ha
        · refine N₃.keep a o e (.inr ⟨offx a ha, fun m => ?_⟩)
          obtain ⟨o', vs, ho, hd, _⟩ := itlive _ _ I₂ a ha
          obtain ⟨i, hi⟩ := List.mem_iff_getElem?.mp m
          have hlt' := (List.getElem?_eq_some_iff.mp hi).1
          obtain ⟨us', n', hl', _⟩ := S₂.lists i _ _ hi (List.getElem?_eq_getElem (by rw [← S₂.len]; exact hlt'))
          have hl2 : s₂.heap.get? a = some _ := hl'
          rw [hl2] at ho; cases ho; cases hd
        · obtain ⟨h1, h2, h3⟩ := offs a ha
          exact N₃.keep a o e (.inr ⟨h1, fun m => (N₂.fresh a m).elim h2 h3⟩)
      cases r₃ with
      | next => exact wpAny_pure ⟨rfl, go h₃⟩
      | cont => exact wpAny_pure ⟨rfl, go h₃⟩
      | brk => exact wpAny_pure ⟨_, _, ρ₃, μ₃, φ₃, rfl, S₃, N', M₂.trans M₃, .next, h₃⟩
      | ret r => exact wpAny_pure ⟨_, _, ρ₃, μ₃, φ₃, rfl, S₃, N', M₂.trans M₃, .ret r, h₃⟩

theorem assign_name {A : Around} {s : Shared} {ex φ : List Addr} {x : Str} {px : Pos} {u : Value} {v : V} {R : Unit → Shared → Prop} {E : Value → Shared → Prop} (S : St base env ex φ ρ μ s) (hk : env.kindOf x = some .local) (r : Rep s.heap ex φ u v)
    (h : ∀ s', St base env ex φ ((x, v) :: ρ) μ s' → Nx ex φ φ s.heap s'.heap → (∀ b o, b ≠ env.locals → s.heap.get? b = some o → s'.heap.get? b = some o) → Sim s s' → R () s') : wpAny (model prog w) A (assign (.Name x px) env u) R E s := by
  obtain ⟨m, hn, hb⟩ := S.ns
  refine PySem.wpAny_assign_Name (wpAny_storeName_local hk hn (fun h' hn' hs => ?_) (by rw [S.ok.kind]; rfl))
  obtain ⟨S', N'⟩ := S.store (tk := s.toks + 1) hn hb hk r hn' hs
  exact h _ S' N' (fun b o nb e => (hs.2 b nb).trans e) ⟨_, _, rfl⟩

end
end Mine

/-! part MP7 -/
namespace Mine
open PySem PySem.W PySem.Calls PyProof.Rows PySem.SeqAt PySem.MeetsSeq

section
variable {prog : Program} {w : World} {base : Heap} {env : Env} {B : Nat} {ρ : Vars} {μ : Lists} {Q : V → Vars → Lists → Prop} {QB : Bool → Vars → Lists → Prop} {QF : Fl → Vars → Lists → Prop} {mg mb : Str → Option Value}

/-- `x, y = (e1, e2)` -/
theorem X_set2 {x y : Str} {px py tp pos p2 : Pos} {k k2 : Nat} {e1 e2 : Expr} (h : W prog w base env B e1 ρ μ fun v₁ ρ₁ μ₁ => W prog w base env B e2 ρ₁ μ₁ fun v₂ ρ₂ μ₂ => QF .next ((x, v₁) :: (y, v₂) :: ρ₂) μ₂)
    (hx : env.kindOf x = some .local := by rfl) (hy : env.kindOf y = some .local := by rfl)
    (hs : swapsWithSole [.Tuple [.Name x px, .Name y py] k tp] (.Tuple [e1, e2] k2 p2) pos.line env = pure false := by rfl)
    (hw : swappedStores [.Tuple [.Name x px, .Name y py] k tp] (.Tuple [e1, e2] k2 p2) env = pure (some [x, y]) := by rfl)
    (he1 : starEach [e1, e2] env = (false, eval e1 env) :: starEach [e2] env := by rfl) (he2 : starEach [e2] env = (false, eval e2 env) :: starEach [] env := by rfl) :
    X1 prog w base env B (.Assign [.Tuple [.Name x px, .Name y py] k tp] (.Tuple [e1, e2] k2 p2) pos) ρ μ QF := fun A s ex φ hA S => by
  have hWL : WL prog w base env B p2 [e1, e2] ρ μ fun vs ρ' μ' => ∃ v₁ v₂, vs = [v₁, v₂] ∧ QF .next ((x, v₁) :: (y, v₂) :: ρ') μ' :=
    WL_cons (h.mono fun v₁ ρ₁ μ₁ h₁ => WL_cons (h₁.mono fun v₂ ρ₂ μ₂ h₂ => WL_nil ⟨_, _, rfl, h₂⟩) he2) he1
  refine Assign_Tuple_swapped ?_ hs hw
  refine wpAny_Tuple_spliced (hWL.use hA S fun us s₁ vs ρ₁ μ₁ φ₁ S₁ N₁ M₁ r₁ ⟨v₁, v₂, e, q⟩ => ?_)
  subst e
  cases r₁ with
  | @cons u₁ _ us _ r₁ rs =>
    cases rs with
    | @cons u₂ _ us _ r₂ rs =>
      cases rs
      refine ⟨by simp only [List.length_cons, List.length_nil]; have := szLine; lia, ?_⟩
      have k₁ : ∀ b o, s₁.heap.get? b = some o → (s₁.heap.push { cls := .type "tuple", data := .seq [u₁, u₂].toArray }).get? b = some o := fun b o e => Heap.get?_push_of_some _ e
      have ht : (s₁.heap.push { cls := .type "tuple", data := .seq [u₁, u₂].toArray }).IsTuple s₁.heap.objs.size [u₁, u₂].toArray := ⟨_, Heap.get?_push_size _ rfl, rfl, _, rfl⟩
      refine wpAny_unpackItems_tuple (items := [u₁, u₂].toArray) hA.hh ht fun h₂ hx₂ => ?_
      have k₂ : ∀ b o, s₁.heap.get? b = some o → h₂.get? b = some o := fun b o e => hx₂ b o (Nat.ne_of_lt (by
        have := Heap.lt_size e
        show b < (s₁.heap.push _).objs.size
        rw [Heap.size_push]; exact Nat.lt_succ_of_lt this)) (k₁ b o e)
      have S₂ : St base env ex φ₁ ρ₁ μ₁ { s₁ with heap := h₂, toks := s₁.toks } := S₁.grow k₂
      have N₂ : Nx ex φ₁ φ₁ s₁.heap h₂ := .of_stays k₂
      show wpAny (model prog w) A (assignInOrder [fun v => bindName env y v, fun v => bindName env x v] [u₂, u₁]) _ _ _
      show wpAny (model prog w) A (do holding [u₁] (bindName env y u₂); do holding [] (bindName env x u₁); pure ()) _ _ _
      refine wpAny_bind (wpAny_holding (wpAny_bindName (store_local S₂ hy (r₂.mono N₂) fun s₃ S₃ N₃ M₃ => ?_)))
      refine wpAny_bind (wpAny_holding (wpAny_bindName (store_local S₃ hx ((r₁.mono N₂).mono N₃) fun s₄ S₄ N₄ M₄ => wpAny_pure ?_)))
      exact ⟨_, _, μ₁, φ₁, S₄, ((N₁.trans N₂).trans N₃).trans N₄, ((M₁.trans ⟨_, _, rfl⟩).trans M₃).trans M₄, .next, q⟩

/-- `len(xs)` of a list of data -/
theorem W_len (C : Cx base mg mb) {p pos : Pos} {e : Expr} (h : W prog w base env B e ρ μ fun v ρ' μ' => ∃ xs, listV v μ' = some xs ∧ xs.length ≤ 1000000 ∧ Q (.d (.int xs.length)) ρ' μ')
    (hf : mg "len" = none) (hk : env.kindOf "len" = some .globalImplicit := by rfl) (he : starEach [e] env = [(false, eval e env)] := by rfl) : W prog w base env B (.Call (.Name "len" p) [e] [] pos) ρ μ Q := fun A s ex φ hA S => by
  refine Call_Name (trees := backTo pos (starEach [e] env)) rfl (builtin_name S C hf (u := .builtin "len") boot_len (by decide) hk (by rfl) (Calls.callWith_builtin (by rw [he]; rfl) ?_))
  rw [he]
  refine Calls.evalArgs_plain (Calls.spliced_cons (h.use hA S fun u s₁ v ρ₁ μ₁ φ₁ S₁ N₁ M₁ r₁ ⟨xs, e, hl, q⟩ => Calls.spliced_nil ?_))
  obtain ⟨a, us, n, rfl, hls, hr⟩ := listV_at S₁ e r₁
  show wpAny (model prog w) A (call (.builtin "len") [.ref a]) _ _ _
  refine call_len_list hls.isList (by simp [hr.length]; lia) ⟨_, ρ₁, μ₁, φ₁, S₁.tok, N₁, M₁.trans ⟨_, _, rfl⟩, ?_, q⟩
  have : ((List.toArray us).size : Int) = xs.length := by simp [hr.length]
  rw [this]
  exact .d (.int _ _)

theorem ite_t {c : Bool} {P R : Prop} (e : c = true) (h : P) : if c then P else R := by rw [if_pos e]; exact h
theorem ite_f {c : Bool} {P R : Prop} (e : c = false) (h : R) : if c then P else R := by rw [if_neg (by rw [e]; exact Bool.false_ne_true)]; exact h
/-- a loop whose state is told by a datum -/
theorem LT_ind {ι : Type} {c : Code} (ρf : ι → Vars) (μf : ι → Lists) (m : ι → Nat) (P : ι → Prop) (i : ι) (hi : P i) (hρ : ∀ p ∈ ρf i, ρ.lookup p.1 = some p.2) (hμ : μ = μf i)
    (turn : ∀ i, P i → (∀ j ρ' μ', P j → m j < m i → (∀ p ∈ ρf j, ρ'.lookup p.1 = some p.2) → μ' = μf j → LT prog w base env B c ρ' μ' QF) → LT prog w base env B c (ρf i) (μf i) QF) : LT prog w base env B c ρ μ QF := by
  have all : ∀ n i, P i → m i < n → LT prog w base env B c (ρf i) (μf i) QF := by
    intro n
    induction n with
    | zero => intro i _ h; exact absurd h (Nat.not_lt_zero _)
    | succ n ih =>
      intro i hi hm
      refine turn i hi fun j ρ' μ' hj hl hs e => ?_
      subst e
      exact LT_sub (ih j hj (by lia)) (sub_of hs)
  subst hμ
  exact LT_sub (all _ i hi (Nat.lt_succ_self _)) (sub_of hρ)
end

/-! the program's defs -/
structure Defs (base : Heap) (mg : Str → Option Value) (prog : Program) (f : Nat → Addr) : Prop where
  has : ∀ i name params body ds ret tps scope ts bind pos, prog.main.body[i]? = some (.FunctionDef name params body ds ret tps scope ts bind pos) →
    ∃ fo doc pm an cd ct, mg name = some (.ref (f i)) ∧ base.get? (f i) = some fo ∧ fo.data = .func (fnOf name name params body scope .none .none doc pm an cd ct) ∧ base.CodeRec cd name
section
variable {prog : Program} {w : World} {base : Heap} {B : Nat} {mg mb : Str → Option Value} {f : Nat → Addr}
/-- a def's contract, from the program -/
theorem Fn_def (C : Cx base mg mb) (Df : Defs base mg prog f) {i : Nat} {name : Str} {params : Arguments} {body : List Stmt} {ds : List Expr} {ret : Option Expr} {tps : List TypeParam} {scope : Scope} {ts : Option Scope} {bind : Str} {pos : Pos} {names : List Str} {ps : List PV} {r : PV}
    (hst : prog.main.body[i]? = some (.FunctionDef name params body ds ret tps scope ts bind pos))
    (hbind : ∀ doc pm an cd ct (us : List Value), us.length = names.length → bindArgs (fnOf name name params body scope .none .none doc pm an cd ct) ⟨us, []⟩ = pure (names.zip us))
    (h : ∀ doc pm an cd ct L, X prog w base (callEnv (fnOf name name params body scope .none .none doc pm an cd ct) L (f i)) B body (names.zip (ps.map inV)) [] fun fl _ μ' => ∃ v, fl = .ret v ∧ outV v μ' = some r)
    (hn : names.length = ps.length := by rfl) (hnd : names.Nodup := by decide) (hloc : ∀ x ∈ names, scope.names.lookup x = some .local := by decide) (hcell : ∀ x ∈ scope.names, x.2 ≠ .cell := by decide)
    (hco : scope.isCoroutine = false := by rfl) (hgen : scope.isGenerator = false := by rfl) (hk : scope.kind = .function := by rfl) : Fn prog w base (f i) (B + 1) ps r := by
  obtain ⟨fo, doc, pm, an, cd, ct, _, ho, hfd, hcd⟩ := Df.has _ _ _ _ _ _ _ _ _ _ _ hst
  exact Fn_of C ho hfd hcd rfl rfl rfl (hbind doc pm an cd ct) hnd hloc hcell hn (h doc pm an cd ct) hco hgen hk
/-- a call of the program's def -/
theorem W_calld {env : Env} {ρ : Vars} {μ : Lists} {Q : V → Vars → Lists → Prop} (C : Cx base mg mb) (Df : Defs base mg prog f) (i : Nat) {name : Str} {params : Arguments} {body : List Stmt} {ds : List Expr} {ret : Option Expr} {tps : List TypeParam} {scope : Scope} {ts : Option Scope} {bind : Str} {dpos : Pos}
    {p pos : Pos} {e : Expr} {es : List Expr}
    (h : WL prog w base env B pos (e :: es) ρ μ fun vs ρ' μ' => ∃ ps r, argVs vs μ' = some ps ∧ Fn prog w base (f i) B ps r ∧ Q (backV r) ρ' μ')
    (hst : prog.main.body[i]? = some (.FunctionDef name params body ds ret tps scope ts bind dpos) := by rfl)
    (hk : env.kindOf name = some .globalImplicit := by rfl) (hd : (name == ("__debug__" : Str)) = false := by rfl)
    (he : starEach (e :: es) env = (false, eval e env) :: starEach es env := by rfl) : W prog w base env B (.Call (.Name name p) (e :: es) [] pos) ρ μ Q := by
  obtain ⟨fo, doc, pm, an, cd, ct, hm, ho, hfd, hcd⟩ := Df.has _ _ _ _ _ _ _ _ _ _ _ hst
  exact W_call C hm ho hfd h hk hd he
theorem W_calld0 {env : Env} {ρ : Vars} {μ : Lists} {Q : V → Vars → Lists → Prop} (C : Cx base mg mb) (Df : Defs base mg prog f) (i : Nat) {name : Str} {params : Arguments} {body : List Stmt} {ds : List Expr} {ret : Option Expr} {tps : List TypeParam} {scope : Scope} {ts : Option Scope} {bind : Str} {dpos : Pos}
    {p pos : Pos} {r : PV} (hF : Fn prog w base (f i) B [] r) (q : Q (backV r) ρ μ)
    (hst : prog.main.body[i]? = some (.FunctionDef name params body ds ret tps scope ts bind dpos) := by rfl)
    (hk : env.kindOf name = some .globalImplicit := by rfl) (hd : (name == ("__debug__" : Str)) = false := by rfl) : W prog w base env B (.Call (.Name name p) [] [] pos) ρ μ Q := by
  obtain ⟨fo, doc, pm, an, cd, ct, hm, ho, hfd, hcd⟩ := Df.has _ _ _ _ _ _ _ _ _ _ _ hst
  exact W_call0 C hm ho hfd hF q hk hd
end
end Mine

/-! part MP8 -/
namespace Mine
open PySem PySem.W PySem.Calls PyProof.Rows PySem.SeqAt PySem.MeetsSeq

section
variable {prog : Program} {w : World} {base : Heap} {env : Env} {B : Nat} {ρ : Vars} {μ : Lists} {Q : V → Vars → Lists → Prop} {QB : Bool → Vars → Lists → Prop} {QF : Fl → Vars → Lists → Prop} {mg mb : Str → Option Value}

/-- a change at a foreign address that bears neither a sequence nor a cell -/
theorem St.but {ex φ : List Addr} {s : Shared} {a : Addr} {h' : Heap} {tk : Nat} (S : St base env ex φ ρ μ s) (hs : Heap.SameBut a s.heap h') (hx : a ∉ ex) (hb : base.get? a = none)
    (hd : ∀ o, s.heap.get? a = some o → (∀ items n, o.data ≠ .seq items n) ∧ (∀ u, ¬ s.heap.IsCell a u) ∧ ∀ vs, o.data ≠ .fields vs) : St base env ex φ ρ μ { s with heap := h', toks := tk } := by
  have off : ∀ b o, s.heap.get? b = some o → ((∃ items n, o.data = .seq items n) ∨ (∃ u, s.heap.IsCell b u)) → h'.get? b = some o := fun b o e c => by
    by_cases q : b = a
    · subst q
      obtain ⟨h1, h2, _⟩ := hd o e
      exact c.elim (fun ⟨i, n, q⟩ => (h1 i n q).elim) fun ⟨u, q⟩ => (h2 u q).elim
    · exact (hs.2 b q).trans e
  have tup : TupIn s.heap h' := fun b o e c i => off b o e (.inl i)
  have rep : ∀ {u : Value} {v : V}, Rep s.heap ex φ u v → Rep h' ex φ u v := fun r => by
    cases r with
    | d r => exact .d (r.mono tup)
    | lst e => exact .lst e
    | tl hl hr a b => exact .tl (off _ _ hl (.inl ⟨_, _, rfl⟩)) (hr.mono tup) a b
    | val => exact .val _
  have reps : ∀ {us : List Value} {vs : List V}, Reps s.heap ex φ us vs → Reps h' ex φ us vs := fun r => by
    induction r with
    | nil => exact .nil
    | cons a _ ih => exact .cons (rep a) ih
  obtain ⟨m, hn, hbd⟩ := S.ns
  have hL : env.locals ≠ a := fun q => hx (q ▸ S.hL)
  refine ⟨S.ok, S.hL, ⟨m, hn.sameBut hs hL, fun x v e => ?_⟩, fun b o e => (hs.2 b (fun m => by rw [m, hb] at e; cases e)).trans (S.stays b o e), S.offx, S.offl, fun b hb' => ?_, S.len, S.nodup, fun k a ds e f => ?_, fun hf x c a b => let ⟨m, q, hc⟩ := S.cellx hf x c a b; ⟨m, q, let ⟨o, ho, hdd⟩ := id hc; ⟨o, off _ _ ho (.inr ⟨_, hc⟩), hdd⟩⟩, fun hf' ht => (S.tabx hf' ht).mono fun b o vs e d c => (hs.2 b (fun q => (hd o (q ▸ e)).2.2 vs d)).trans e⟩
  · obtain ⟨u, a', r⟩ := hbd x v e
    refine ⟨u, ?_, rep r⟩
    cases a' with
    | loc a b => exact .loc a b
    | cell a b c => obtain ⟨o, ho, hdd⟩ := id c; exact .cell a b ⟨o, off _ _ ho (.inr ⟨_, c⟩), hdd⟩
    | free a d b c => obtain ⟨o, ho, hdd⟩ := id c; exact .free a d b ⟨o, off _ _ ho (.inr ⟨_, c⟩), hdd⟩
  · obtain ⟨o, ho, hdd⟩ := S.live b hb'
    exact ⟨o, (hs.2 b (fun m => hx (m ▸ hb'))).trans ho, hdd⟩
  · obtain ⟨us, n, hl, hr⟩ := S.lists k a ds e f
    exact ⟨us, n, off _ _ hl (.inl ⟨_, _, rfl⟩), reps hr⟩

/-- a cell of the frame is stored -/
theorem St.storec {ex φ : List Addr} {s : Shared} {h' : Heap} {tk : Nat} (S : St base env ex φ ρ μ s) {x : Str} {c : Addr} {u : Value} {v : V} (hf : env.func ≠ none) (hk : env.kindOf x = some .cell) (hc : env.cells.lookup x = some c)
    (hne : ∀ y c', env.cells.lookup y = some c' → y ≠ x → c' ≠ c) (hr : Rep s.heap ex φ u v) (hn : h'.IsCell c (some u)) (hs : Heap.SameBut c s.heap h') :
    St base env ex φ ((x, v) :: ρ) μ { s with heap := h', toks := tk } ∧ Nx ex φ φ s.heap h' := by
  obtain ⟨hcx, q₀, h0⟩ := S.cellx hf x c hk hc
  have nseq : ∀ o, s.heap.get? c = some o → ∀ items n, o.data ≠ .seq items n := fun o e items n q => by
    obtain ⟨o', ho, hd⟩ := id h0
    rw [e] at ho; cases ho; rw [q] at hd; cases hd
  have N : Nx ex φ φ s.heap h' := Nx.of_but hs (.inl hcx) (fun o e ⟨_, i, n, q⟩ => nseq o e i n q) (by obtain ⟨o, ho, _⟩ := hn; rw [ho]; exact fun q => by cases q)
  obtain ⟨m, hns, hb⟩ := S.ns
  have cL : c ≠ env.locals := ns_ne_cell hns h0
  refine ⟨⟨S.ok, S.hL, ⟨m, hns.sameBut hs (Ne.symm cL), fun y v' e => ?_⟩, fun b o e => ?_, S.offx, S.offl, fun b hb' => ?_, S.len, S.nodup, fun k a ds e f => ?_, fun hf y c' a b => by
    obtain ⟨m, q, hc'⟩ := S.cellx hf y c' a b
    by_cases z : c' = c
    · exact ⟨m, _, z ▸ hn⟩
    · exact ⟨m, q, hc'.sameBut hs z⟩, fun hf' ht => (S.tabx hf' ht).mono fun b o vs e d cc => (hs.2 b (fun q => by
    subst q
    obtain ⟨o', ho, hdd⟩ := h0
    rw [e] at ho; cases ho; rw [d] at hdd; cases hdd)).trans e⟩, N⟩
  · rw [List.lookup_cons] at e
    by_cases q : y = x
    · subst q
      rw [beq_self_eq_true] at e
      cases e
      exact ⟨u, .cell hk hc hn, hr.mono N⟩
    · rw [beq_eq_false_iff_ne.mpr q] at e
      obtain ⟨u', a, r⟩ := hb y v' e
      refine ⟨u', ?_, r.mono N⟩
      cases a with
      | loc a b => exact .loc a b
      | cell a b c' => exact .cell a b (let ⟨o, ho, hd⟩ := c'; ⟨o, (hs.2 _ (hne _ _ b q)).trans ho, hd⟩)
      | free a d b c' => exact .free a d b (let ⟨o, ho, hd⟩ := c'; ⟨o, (hs.2 _ (hne _ _ b q)).trans ho, hd⟩)
  · have : b ≠ c := fun q => by rw [q, S.offx _ hcx] at e; cases e
    exact (hs.2 b this).trans (S.stays b o e)
  · by_cases q : b = c
    · subst q
      obtain ⟨o, ho, hd⟩ := hn
      exact ⟨o, ho, fun i n q => by rw [q] at hd; cases hd⟩
    · obtain ⟨o, ho, hd⟩ := S.live b hb'
      exact ⟨o, (hs.2 b q).trans ho, hd⟩
  · obtain ⟨us, n, hl, hrs⟩ := S.lists k a ds e f
    exact ⟨us, n, (hs.2 a (isL_ne_cell hl h0)).trans hl, hrs.mono N⟩

/-! targets -/
inductive TgtK : Bool → Expr → Prop
  | name (x : Str) (p : Pos) : TgtK false (.Name x p)
  | pair (es : List Expr) (k : Nat) (p : Pos) : TgtK true (.Tuple es k p)
/-- what a target binds -/
inductive Tgt (env : Env) : Expr → D → Vars → Prop
  | name {x : Str} {p : Pos} {d : D} : env.kindOf x = some .local → Tgt env (.Name x p) d [(x, .d d)]
  | pair {x y : Str} {p q r : Pos} {k : Nat} {a b : D} : env.kindOf x = some .local → env.kindOf y = some .local → Tgt env (.Tuple [.Name x p, .Name y q] k r) (.tup [a, b]) [(y, .d b), (x, .d a)]
  | cell {x : Str} {p : Pos} {d : D} {c : Addr} : env.func ≠ none → env.kindOf x = some .cell → env.cells.lookup x = some c → (∀ y c', env.cells.lookup y = some c' → y ≠ x → c' ≠ c) → Tgt env (.Name x p) d [(x, .d d)]
theorem pair_items {h : Heap} {us : List Value} {a b : D} (r : RepDs h us [a, b]) : ∃ u v, us = [u, v] ∧ RepD h u a ∧ RepD h v b := by
  cases r with | cons r1 r => cases r with | cons r2 r => cases r; exact ⟨_, _, rfl, r1, r2⟩

theorem assign_tgt {A : Around} {s : Shared} {ex φ : List Addr} {t : Expr} {d : D} {b : Vars} {u : Value} {R : Unit → Shared → Prop} {E : Value → Shared → Prop} (hh : A.handled = none) (S : St base env ex φ ρ μ s) (g : Tgt env t d b) (r : RepD s.heap u d)
    (h : ∀ s', St base env ex φ (b ++ ρ) μ s' → Sim s s' → TupIn s.heap s'.heap → (∀ b o, s.heap.get? b = some o → b ∉ ex → s'.heap.get? b = some o) → R () s') : wpAny (model prog w) A (assign t env u) R E s := by
  cases g with
  | name hk =>
    exact assign_name S hk (.d r) fun s' S' N k M => h s' S' M N.tup fun b o e hx => k b o (fun q => hx (q ▸ S.hL)) e
  | cell hf hk hc hne =>
    obtain ⟨hcx, q₀, h0⟩ := S.cellx hf _ _ hk hc
    refine PySem.wpAny_assign_Name (wpAny_storeName_cell S.ok.kind hk hc h0 fun h' hn hs => ?_)
    obtain ⟨S', N'⟩ := S.storec (tk := s.toks) hf hk hc hne (.d r) hn hs
    exact h _ S' ⟨_, _, rfl⟩ N'.tup fun b o e hx => (hs.2 b (fun q => hx (q ▸ hcx))).trans e
  | @pair x y p q r' k a c hx hy =>
    cases r with
    | @tup ta us _ ht hr =>
      obtain ⟨u₁, u₂, rfl, r₁, r₂⟩ := pair_items hr
      refine wpAny_assign_Tuple hh ht rfl rfl fun h₂ hx₂ => ?_
      have k₂ : ∀ b o, s.heap.get? b = some o → h₂.get? b = some o := fun b o e => hx₂ b o (Nat.ne_of_lt (Heap.lt_size e)) e
      have S₂ : St base env ex φ ρ μ { s with heap := h₂, toks := s.toks } := S.grow k₂
      show wpAny (model prog w) A (do holding [u₂] (assign (.Name x p) env u₁); do holding [] (assign (.Name y q) env u₂); pure ()) _ _ _
      refine wpAny_bind (wpAny_holding (assign_name S₂ hx (.d (r₁.mono (.of_stays k₂))) fun s₃ S₃ N₃ k₃ M₃ => ?_))
      refine wpAny_bind (wpAny_holding (assign_name S₃ hy (.d ((r₂.mono (.of_stays k₂)).mono N₃.tup)) fun s₄ S₄ N₄ k₄ M₄ => wpAny_pure ?_))
      refine h s₄ S₄ ((Sim.trans ⟨_, _, rfl⟩ M₃).trans M₄) ?_ fun b o e hx => ?_
      · exact fun b o e c i => N₄.tup b o (N₃.tup b o (k₂ b o e) c i) c i
      · have hL : b ≠ env.locals := fun q => hx (q ▸ S.hL)
        exact k₄ b o hL (k₃ b o hL (k₂ b o e))

/-! iterables -/
structure Src (prog : Program) (w : World) (it : Addr) (its src : List Addr) (inv : Nat → Heap → Prop) (ds : List D) (pr : Bool) : Prop where
  mem : it ∈ its
  stable : ∀ j h h', inv j h → TupIn h h' → (∀ a o, (a ∈ its ∨ a ∈ src) → h.get? a = some o → h'.get? a = some o) → inv j h'
  flds : ∀ j h, inv j h → ∀ a ∈ its, Flds h a
  next : ∀ (A : Around) (s : Shared) (j : Nat) (d : D) (t : Expr), A.handled = none → TgtK pr t → inv j s.heap → ds[j]? = some d → ∀ R : Value → Shared → Prop,
    (∀ u h' tk, RepD h' u d → inv (j + 1) h' → (∀ b o, b ∉ its → s.heap.get? b = some o → h'.get? b = some o) → R u { s with heap := h', toks := tk }) →
    wpAny (model prog w) A (pyNext (.ref it)) (fun r s₁ => match r with
      | none => False
      | some u => wpAny (model prog w) A (letOwnedTupleGo t (.ref it) u) (fun _ s₂ => R u s₂) (fun _ _ => False) s₁) (fun _ _ => False) s
  fin : ∀ (A : Around) (s : Shared), A.handled = none → inv ds.length s.heap → ∀ R : Shared → Prop,
    (∀ h' tk, (∀ b o, b ∉ its → s.heap.get? b = some o → h'.get? b = some o) → R { s with heap := h', toks := tk }) →
    wpAny (model prog w) A (pyNext (.ref it)) (fun r s₁ => r = none ∧ R s₁) (fun _ _ => False) s
  again : ∀ (A : Around) (s : Shared) (j : Nat) (R : Value → Shared → Prop) (E : Value → Shared → Prop), inv j s.heap → R (.ref it) s → wpAny (model prog w) A (pyIter (.ref it)) R E s
inductive IPost (prog : Program) (w : World) (base : Heap) (env : Env) (ex φ : List Addr) (s : Shared) (pr : Bool) (Q : List D → Vars → Lists → Prop) (i : Value) (s₂ : Shared) : Prop
  | mk (it : Addr) (its src : List Addr) (inv : Nat → Heap → Prop) (ds : List D) (hs : Heap) (ρ' : Vars) (μ' : Lists) (φ' : List Addr) : i = .ref it → Src prog w it its src inv ds pr → inv 0 s₂.heap → St base env ex φ' ρ' μ' s₂ →
      Nx ex φ φ' s.heap hs → (∀ b o, hs.get? b = some o → s₂.heap.get? b = some o) → Sim s s₂ → (∀ a ∈ its, hs.get? a = none ∧ a ∉ ex ∧ a ∉ φ' ∧ base.get? a = none) → (∀ a ∈ src, a ∉ ex ∧ a ∉ φ' ∧ hs.get? a ≠ none) → Q ds ρ' μ' → IPost prog w base env ex φ s pr Q i s₂
noncomputable def IT (prog : Program) (w : World) (base : Heap) (env : Env) (B : Nat) (iter : Expr) (pr : Bool) (ρ : Vars) (μ : Lists) (Q : List D → Vars → Lists → Prop) : Prop :=
  ∀ (A : Around) (s : Shared) (ex φ : List Addr), AOk A B → St base env ex φ ρ μ s →
    wpAny (model prog w) A (eval iter env) (fun u s₁ => wpAny (model prog w) A (pyIter u) (IPost prog w base env ex φ s pr Q) (fun _ _ => False) s₁) (fun _ _ => False) s

theorem X_for {t iter : Expr} {pr : Bool} {body : List Stmt} {pos : Pos} (hk : TgtK pr t) (h : IT prog w base env B iter pr ρ μ fun ds ρ' μ' => ∃ bs : List Vars, bs.length = ds.length ∧ (∀ (j : Nat) d b, ds[j]? = some d → bs[j]? = some b → Tgt env t d b) ∧ ForX prog w base env B body QF bs ρ' μ')
    (hs : ∀ x, foldedSetIterable iter env x = pure x := by intro _; rfl) : X1 prog w base env B (.For t iter body [] pos) ρ μ QF := fun A s ex φ hA S => by
  refine wpAny_For (wpAny_mono (h A s ex φ hA S) (fun u s₁ hu => wpAny_mono hu (fun i s₂ ⟨it, its, src, inv, ds, hs, ρ₁, μ₁, φ₁, e, hS, I, S₂, N₂, K₂, M₂, hits, hsrc, hq⟩ => ?_) fun _ _ x => x.elim) fun _ _ x => x.elim) hs
  subst e
  obtain ⟨bs, hbl, hb, hX⟩ := hq
  have nb : ∀ a ∈ its, base.get? a = none := fun a ha => (hits a ha).2.2.2
  have main := for_gen (prog := prog) (w := w) (B := B) (QF := QF) (target := t) (body := body) (it := it) (its := its) (src := src) (ex := ex) (φ₀ := φ₁) (env := env) (base := base) (inv := inv) (bs := bs) (hs := hs)
    (fun a ha => (hits a ha).1) nb (fun a ha => (hits a ha).2.1) hsrc hS.stable hS.flds
    (fun A s φ ρ μ j b hA S I hj R k => by
      obtain ⟨d, hd⟩ : ∃ d, ds[j]? = some d := ⟨_, List.getElem?_eq_getElem (by have := (List.getElem?_eq_some_iff.mp hj).1; lia)⟩
      refine wpAny_mono (hS.next A s j d t hA.hh hk I hd (fun u s₂ => wpAny (model prog w) A (assign t env u) (fun _ s₂ => R s₂) (fun _ _ => False) s₂) fun u h' tk ru I' kk => ?_) (fun r s₁ q => ?_) fun _ _ x => x
      · have nIt := hS.flds _ _ I
        have S₃ : St base env ex φ ρ μ { s with heap := h', toks := tk } := S.its (its := its) (fun b o nb e => kk b o nb e) nIt nb (fun a ha => (hits a ha).2.1)
        refine assign_tgt hA.hh S₃ (hb j d b hd hj) ru fun s₄ S₄ M₄ T₄ k₄ => k s₄ S₄ ?_ (Sim.trans ⟨_, _, rfl⟩ M₄) ?_
        · refine hS.stable _ _ _ I' T₄ fun a o ha e => k₄ a o e ?_
          rcases ha with ha | ha
          · exact (hits a ha).2.1
          · exact (hsrc a ha).1
        · intro b o e nb' c
          rcases c with c | c
          · exact k₄ b o (kk b o nb' e) c
          · exact T₄ b o (kk b o nb' e) c.1 c.2
      · exact q)
    (fun A s φ ρ μ hA S I R k => by
      rw [hbl] at I
      refine hS.fin A s hA.hh I R fun h' tk kk => ?_
      exact k _ (S.its (its := its) kk (hS.flds _ _ I) nb (fun a ha => (hits a ha).2.1)) ⟨_, _, rfl⟩ fun b o e nb' => kk b o nb' e)
  have fin := main _ 0 rfl (Nat.zero_le _) A s₂ φ₁ ρ₁ μ₁ hA S₂ I (.of_stays K₂) hX
  exact codeAny_mono fin fun r s' ⟨fl, f, ρ', μ', φ', e, S', N', M', rf, q⟩ => by
    subst e
    exact ⟨f, ρ', μ', φ', S', N₂.trans N', M₂.trans M', rf, q⟩

theorem src_list {l it : Addr} {us : List Value} {n : Nat} {xs : List D} (hne : l ≠ it) : Src prog w it [it] [l] (fun j h => h.IsListIter it l j ∧ IsL h l us.toArray n ∧ RepDs h us xs) xs false where
  mem := .head _
  stable := fun j h h' ⟨i1, i2, i3⟩ kt k => ⟨i1.at fun o e => k _ o (.inl (.head _)) e, k _ _ (.inr (.head _)) i2, i3.mono kt⟩
  flds := fun j h ⟨i1, i2, i3⟩ a ha => by
    rw [List.mem_singleton.mp ha]
    obtain ⟨o, ho, hcc, hd⟩ := i1
    exact ⟨o, _, ho, hd, by rw [hcc]; decide⟩
  next := fun A s j d t hh hk ⟨i1, i2, i3⟩ hd R k => by
    cases hk
    obtain ⟨u, hu, ru⟩ := i3.get hd
    refine wpAny_pyNext_list_item i1 i2.isList (by simpa using hu) fun h₂ i1' hsb => wpAny_pure ?_
    have kt : TupIn s.heap h₂ := fun b o e c ⟨items, m, hd⟩ => (hsb.2 b (fun q => by
      obtain ⟨o', ho, _, hd'⟩ := i1
      subst q
      rw [e] at ho; cases ho; rw [hd] at hd'; cases hd')).trans e
    exact k u h₂ s.toks (ru.mono kt) ⟨i1', (hsb.2 l hne).trans i2, i3.mono kt⟩ fun b o nb e => (hsb.2 b (fun q => nb (by rw [q]; exact .head _))).trans e
  fin := fun A s hh ⟨i1, i2, i3⟩ R k => by
    refine wpAny_pyNext_list_end hh i1 i2.isList (by simp [i3.length]) fun h₂ hsb => ⟨rfl, ?_⟩
    exact k h₂ s.toks fun b o nb e => hsb b o (fun q => nb (by rw [q]; exact .head _)) e
  again := fun A s j R E ⟨i1, _, _⟩ h => wpAny_pyIter_listiter i1 h
theorem src_tuple {l it : Addr} {us : List Value} {xs : List D} (hne : l ≠ it) : Src prog w it [it] [] (fun j h => h.IsTupleIter it l j ∧ h.IsTuple l us.toArray ∧ RepDs h us xs) xs false where
  mem := .head _
  stable := fun j h h' ⟨i1, i2, i3⟩ kt k => ⟨by obtain ⟨o, ho, q⟩ := i1; exact ⟨o, k _ o (.inl (.head _)) ho, q⟩, isTuple_mono kt i2, i3.mono kt⟩
  flds := fun j h ⟨i1, i2, i3⟩ a ha => by
    rw [List.mem_singleton.mp ha]
    obtain ⟨o, ho, hcc, hd⟩ := i1
    exact ⟨o, _, ho, hd, by rw [hcc]; decide⟩
  next := fun A s j d t hh hk ⟨i1, i2, i3⟩ hd R k => by
    cases hk
    obtain ⟨u, hu, ru⟩ := i3.get hd
    refine wpAny_pyNext_tuple_item i1 i2 (by simpa using hu) fun h₂ i1' hsb => wpAny_pure ?_
    have kt : TupIn s.heap h₂ := fun b o e c ⟨items, m, hd⟩ => (hsb.2 b (fun q => by
      obtain ⟨o', ho, _, hd'⟩ := i1
      subst q
      rw [e] at ho; cases ho; rw [hd] at hd'; cases hd')).trans e
    exact k u h₂ s.toks (ru.mono kt) ⟨i1', isTuple_mono kt i2, i3.mono kt⟩ fun b o nb e => (hsb.2 b (fun q => nb (by rw [q]; exact .head _))).trans e
  fin := fun A s hh ⟨i1, i2, i3⟩ R k => by
    refine wpAny_pyNext_tuple_end hh i1 i2 (by simp [i3.length]) fun h₂ hsb => ⟨rfl, ?_⟩
    exact k h₂ s.toks fun b o nb e => hsb b o (fun q => nb (by rw [q]; exact .head _)) e
  again := fun A s j R E ⟨i1, _, _⟩ h => wpAny_pyIter_tupleiter i1 h
end
end Mine

/-! part MP9 -/
namespace Mine
open PySem PySem.W PySem.Calls PyProof.Rows PySem.SeqAt PySem.MeetsSeq

section
variable {prog : Program} {w : World} {base : Heap} {env : Env} {B : Nat} {ρ : Vars} {μ : Lists} {Q : V → Vars → Lists → Prop} {QB : Bool → Vars → Lists → Prop} {QF : Fl → Vars → Lists → Prop} {mg mb : Str → Option Value} {QI : List D → Vars → Lists → Prop}

theorem St.base_none {ex φ : List Addr} {s : Shared} (S : St base env ex φ ρ μ s) {a : Addr} (h : s.heap.get? a = none) : base.get? a = none := by
  cases q : base.get? a with
  | none => rfl
  | some o => have := S.stays _ _ q; rw [h] at this; cases this

noncomputable def nums (n : Nat) : List D := (List.range n).map fun i : Nat => D.int (i : Int)
noncomputable def enumD (xs : List D) : List D := (xs.zipIdx).map fun p => D.tup [.int (p.2 : Int), p.1]
theorem enumD_get {xs : List D} {j : Nat} {x : D} (h : xs[j]? = some x) : (enumD xs)[j]? = some (.tup [.int (j : Int), x]) := by
  simp [enumD, h]
theorem enumD_len (xs : List D) : (enumD xs).length = xs.length := by simp [enumD]

theorem src_range {it : Addr} (n : Nat) : Src prog w it [it] [] (fun j h => IsRangeIter h it (j : Int) ((n : Int) - j) 1) (nums n) false where
  mem := .head _
  stable := fun j h h' i1 kt k => k _ _ (.inl (.head _)) i1
  flds := fun j h i1 a ha => by
    rw [List.mem_singleton.mp ha]
    exact ⟨_, _, i1, rfl, show Value.type "range_iterator" ≠ Value.type "code" by decide⟩
  next := fun A s j d t hh hk i1 hd R k => by
    cases hk
    have hlt : j < n := by have := (List.getElem?_eq_some_iff.mp hd).1; simpa [nums] using this
    have hd' : d = .int (j : Int) := by simp [nums, hlt] at hd; exact hd.symm
    subst hd'
    refine wpAny_pyNext_range_item i1 (by lia) fun h₂ i1' hsb => wpAny_pure ?_
    refine k _ h₂ _ (.int _ _) ?_ fun b o nb e => (hsb.2 b (fun q => nb (by rw [q]; exact .head _))).trans e
    have e1 : ((j : Int) + 1) = ((j + 1 : Nat) : Int) := by lia
    have e2 : ((n : Int) - j - 1) = (n : Int) - ((j + 1 : Nat) : Int) := by lia
    rw [e2, e1] at i1'
    exact i1'
  fin := fun A s hh i1 R k => by
    refine wpAny_pyNext_range_end hh i1 (by simp [nums]) fun h₂ hsb => ⟨rfl, ?_⟩
    exact k h₂ s.toks fun b o nb e => hsb b o (fun q => nb (by rw [q]; exact .head _)) e
  again := fun A s j R E i1 h => wpAny_pyIter_rangeiter i1 h

theorem src_enum {l it e : Addr} {us : List Value} {n : Nat} {xs : List D} (hle : l ≠ e) (hli : l ≠ it) (hei : e ≠ it) : Src prog w e [e, it] [l]
    (fun j h => (∃ old, IsEnum h e it (j : Int) old) ∧ h.IsListIter it l j ∧ IsL h l us.toArray n ∧ RepDs h us xs) (enumD xs) true where
  mem := .head _
  stable := fun j h h' ⟨⟨old, i0⟩, i1, i2, i3⟩ kt k => ⟨⟨old, k _ _ (.inl (.head _)) i0⟩, i1.at fun o e => k _ o (.inl (.tail _ (.head _))) e, k _ _ (.inr (.head _)) i2, i3.mono kt⟩
  flds := fun j h ⟨⟨old, i0⟩, i1, i2, i3⟩ a ha => by
    rcases List.mem_cons.mp ha with rfl | ha
    · exact ⟨_, _, i0, rfl, show Value.type "enumerate" ≠ Value.type "code" by decide⟩
    · rw [List.mem_singleton.mp ha]
      obtain ⟨o, ho, hcc, hd⟩ := i1
      exact ⟨o, _, ho, hd, by rw [hcc]; decide⟩
  next := fun A s j d t hh hk ⟨⟨old, i0⟩, i1, i2, i3⟩ hd R k => by
    cases hk
    have hlt : j < xs.length := by have := (List.getElem?_eq_some_iff.mp hd).1; rwa [enumD_len] at this
    rw [enumD_get (List.getElem?_eq_getElem hlt)] at hd
    cases hd
    obtain ⟨u, hu, ru⟩ := i3.get (List.getElem?_eq_getElem hlt)
    refine wpAny_pyNext_enum_item i0 i1 i2.isList (by simpa using hu) hei fun h₁ heo hit₁ ht₁ hz₁ hk₁ => ?_
    refine wpAny_letOwnedTupleGo_enum heo fun h₂ he₂ hs₂ => ?_
    replace hs₂ : Heap.SameBut e h₁ h₂ := hs₂
    have heH : e < s.heap.objs.size := Heap.lt_size i0
    have ht₂ : h₂.get? s.heap.objs.size = some { cls := .type "tuple", data := .seq #[.int j s.toks, u] } := (hs₂.2 _ (Nat.ne_of_gt heH)).trans ht₁
    have kk : ∀ b o, b ∉ [e, it] → s.heap.get? b = some o → h₂.get? b = some o := fun b o nb x => (hs₂.2 b (fun q => nb (by rw [q]; exact .head _))).trans (hk₁ b o (fun q => nb (by rw [q]; exact .head _)) (fun q => nb (by rw [q]; exact .tail _ (.head _))) x)
    have kt : TupIn s.heap h₂ := fun b o x c ⟨items, m, hd⟩ => kk b o (fun q => by
      rcases List.mem_cons.mp q with q | q
      · subst q
        have i0' : s.heap.get? b = some _ := i0
        rw [x] at i0'; cases i0'; cases hd
      · rw [List.mem_singleton.mp q] at x
        obtain ⟨o', ho, _, hd'⟩ := i1
        rw [x] at ho; cases ho; rw [hd] at hd'; cases hd') x
    refine k _ h₂ _ (.tup (vs := [.int j s.toks, u]) ⟨_, ht₂, rfl, _, rfl⟩ (.cons (.int _ _) (.cons (ru.mono kt) .nil))) ⟨⟨u, ?_⟩, ?_, ?_, i3.mono kt⟩ kk
    · have e1 : ((j : Int) + 1) = ((j + 1 : Nat) : Int) := by lia
      rw [e1] at he₂
      exact he₂
    · exact hit₁.at fun o x => (hs₂.2 _ (Ne.symm hei)).trans x
    · exact kk _ _ (fun q => by
        rcases List.mem_cons.mp q with q | q
        · exact hle q
        · exact hli (List.mem_singleton.mp q)) i2
  fin := fun A s hh ⟨⟨old, i0⟩, i1, i2, i3⟩ R k => by
    rw [enumD_len] at i0 i1
    refine wpAny_pyNext_enum_end hh i0 i1 i2.isList (by simp [i3.length]) fun h₂ hsb => ⟨rfl, ?_⟩
    exact k h₂ s.toks fun b o nb e => hsb b o (fun q => nb (by rw [q]; exact .tail _ (.head _))) e
  again := fun A s j R E ⟨⟨old, i0⟩, _, _⟩ h => wpAny_pyIter_enum i0 h

theorem IT_list {iter : Expr} (h : W prog w base env B iter ρ μ fun v ρ' μ' => ∃ xs, v = .tl xs ∧ QI xs ρ' μ') : IT prog w base env B iter false ρ μ QI := fun A s ex φ hA S =>
  h.use hA S fun u s₁ v ρ₁ μ₁ φ₁ S₁ N₁ M₁ r₁ ⟨xs, e, q⟩ => by
    subst e
    · obtain ⟨l, us, n, rfl, hl, hr, h1, h2⟩ := r₁.ofTl
      have k0 : ∀ b o, s₁.heap.get? b = some o → (s₁.heap.push { cls := .type "list_iterator", data := .fields #[.ref l, .int 0 0] }).get? b = some o := fun b o e => Heap.get?_push_of_some _ e
      have hnew : s₁.heap.get? s₁.heap.objs.size = none := Heap.get?_none_of_le (Nat.le_refl _)
      have hne : l ≠ s₁.heap.objs.size := Nat.ne_of_lt (Heap.lt_size hl)
      refine wpAny_pyIter_list hl.isList ⟨_, [s₁.heap.objs.size], [l], _, xs, s₁.heap, ρ₁, μ₁, φ₁, rfl, src_list (us := us) (n := n) hne, ⟨⟨_, Heap.get?_push_size _ rfl, rfl, rfl⟩, k0 _ _ hl, hr.mono (.of_stays k0)⟩, S₁.grow (tk := s₁.toks) k0, N₁, k0, M₁.trans ⟨_, _, rfl⟩, fun a ha => ?_, fun a ha => ?_, q⟩
      · rw [List.mem_singleton.mp ha]
        exact ⟨hnew, (S₁.off hnew).1, (S₁.off hnew).2, S₁.base_none hnew⟩
      · rw [List.mem_singleton.mp ha]
        exact ⟨h1, h2, fun q => by (have hl2 : s₁.heap.get? l = some _ := hl); rw [hl2] at q; cases q⟩
theorem IT_tuple {iter : Expr} (h : W prog w base env B iter ρ μ fun v ρ' μ' => ∃ xs, v = .d (.tup xs) ∧ QI xs ρ' μ') : IT prog w base env B iter false ρ μ QI := fun A s ex φ hA S =>
  h.use hA S fun u s₁ v ρ₁ μ₁ φ₁ S₁ N₁ M₁ r₁ ⟨xs, e, q⟩ => by
    subst e
    · skip
      · skip
        obtain ⟨l, us, rfl, ht, hr⟩ := r₁.data.ofTup
        have k0 : ∀ b o, s₁.heap.get? b = some o → (s₁.heap.push { cls := .type "tuple_iterator", data := .fields #[.ref l, .int 0 0] }).get? b = some o := fun b o e => Heap.get?_push_of_some _ e
        have hnew : s₁.heap.get? s₁.heap.objs.size = none := Heap.get?_none_of_le (Nat.le_refl _)
        have hne : l ≠ s₁.heap.objs.size := by obtain ⟨o, ho, _⟩ := ht; exact Nat.ne_of_lt (Heap.lt_size ho)
        refine wpAny_pyIter_tuple ht ⟨_, [s₁.heap.objs.size], [], _, xs, s₁.heap, ρ₁, μ₁, φ₁, rfl, src_tuple (us := us) hne, ⟨⟨_, Heap.get?_push_size _ rfl, rfl, rfl⟩, isTuple_mono (.of_stays k0) ht, hr.mono (.of_stays k0)⟩, S₁.grow (tk := s₁.toks) k0, N₁, k0, M₁.trans ⟨_, _, rfl⟩, fun a ha => ?_, (fun a ha => nomatch ha), q⟩
        rw [List.mem_singleton.mp ha]
        exact ⟨hnew, (S₁.off hnew).1, (S₁.off hnew).2, S₁.base_none hnew⟩
theorem IT_range (C : Cx base mg mb) {p pos : Pos} {e : Expr} (hf : mg "range" = none) (h : W prog w base env B e ρ μ fun v ρ' μ' => ∃ n : Nat, v = .d (.int n) ∧ n ≤ 1000000 ∧ QI (nums n) ρ' μ')
    (hk : env.kindOf "range" = some .globalImplicit := by rfl) (he : starEach [e] env = [(false, eval e env)] := by rfl) : IT prog w base env B (.Call (.Name "range" p) [e] [] pos) false ρ μ QI := fun A s ex φ hA S => by
  refine Call_Name (trees := backTo pos (starEach [e] env)) rfl (builtin_name S C hf (u := .type "range") PyProof.Rows.boot_range (by decide) hk (by rfl) ?_)
  refine PyProof.Rows.callWith_type1 (rest := []) (he := he) ?_
  rw [he]
  refine Calls.spliced_cons (h.use hA S fun u s₁ v ρ₁ μ₁ φ₁ S₁ N₁ M₁ r₁ ⟨n, e, hn, q⟩ => Calls.spliced_nil ?_)
  subst e
  obtain ⟨t, rfl⟩ := r₁.data.ofInt
  · skip
    · skip
      refine call_range_1 ?_
      have k0 : ∀ b o, s₁.heap.get? b = some o → (s₁.heap.push { cls := .type "range", data := .fields #[.int 0 s₁.toks, .int n t, .int 1 (s₁.toks + 1)] }).get? b = some o := fun b o e => Heap.get?_push_of_some _ e
      have hsz : (s₁.heap.push { cls := .type "range", data := .fields #[.int 0 s₁.toks, .int n t, .int 1 (s₁.toks + 1)] }).objs.size = s₁.heap.objs.size + 1 := Heap.size_push ..
      have hr := IsRange.new s₁.heap 0 n 1 s₁.toks t (s₁.toks + 1)
      refine wpAny_pyIter_range hr (small_one (by lia) (by lia) (by lia) (by lia)) ?_
      have hnew : s₁.heap.get? (s₁.heap.objs.size + 1) = none := Heap.get?_none_of_le (Nat.le_succ _)
      rw [rangeSize_one]
      have e1 : (if (0 : Int) < (n : Int) then (n : Int) - 0 else 0) = (n : Int) - ((0 : Nat) : Int) := by split <;> lia
      rw [e1]
      refine ⟨_, [s₁.heap.objs.size + 1], [], (fun j h => IsRangeIter h (s₁.heap.objs.size + 1) (j : Int) ((n : Int) - j) 1), nums n, s₁.heap, ρ₁, μ₁, φ₁, rfl, ?_, ?_, S₁.grow (tk := s₁.toks + 1 + 1) (fun b o e => Heap.get?_push_of_some _ (k0 b o e)), N₁, (fun b o e => Heap.get?_push_of_some _ (k0 b o e)), M₁.trans ⟨_, _, rfl⟩, fun a ha => ?_, (fun a ha => nomatch ha), q⟩
      · rw [hsz]; exact src_range n
      · show Heap.get? _ _ = _
        rw [← hsz]
        exact Heap.get?_push_size _ rfl
      · rw [List.mem_singleton.mp ha]
        exact ⟨hnew, (S₁.off hnew).1, (S₁.off hnew).2, S₁.base_none hnew⟩
theorem IT_enum (C : Cx base mg mb) {p pos : Pos} {e : Expr} (hf : mg "enumerate" = none) (h : W prog w base env B e ρ μ fun v ρ' μ' => ∃ xs, v = .tl xs ∧ QI (enumD xs) ρ' μ')
    (hk : env.kindOf "enumerate" = some .globalImplicit := by rfl) (he : starEach [e] env = [(false, eval e env)] := by rfl) : IT prog w base env B (.Call (.Name "enumerate" p) [e] [] pos) true ρ μ QI := fun A s ex φ hA S => by
  refine Call_Name (trees := backTo pos (starEach [e] env)) rfl (builtin_name S C hf (u := .type "enumerate") PyProof.Rows.boot_enumerate (by decide) hk (by rfl) ?_)
  refine PyProof.Rows.callWith_type1 (rest := []) (he := he) ?_
  rw [he]
  refine Calls.spliced_cons (h.use hA S fun u s₁ v ρ₁ μ₁ φ₁ S₁ N₁ M₁ r₁ ⟨xs, e, q⟩ => Calls.spliced_nil ?_)
  subst e
  obtain ⟨l, us, n, rfl, hl, hr, h1, h2⟩ := r₁.ofTl
  · refine call_enumerate_1 hl fun h' he hi hz k0 => ?_
    refine wpAny_pyIter_enum he ?_
    have hl1 : l < s₁.heap.objs.size := Heap.lt_size hl
    have n0 : s₁.heap.get? s₁.heap.objs.size = none := Heap.get?_none_of_le (Nat.le_refl _)
    have n1 : s₁.heap.get? (s₁.heap.objs.size + 1) = none := Heap.get?_none_of_le (Nat.le_succ _)
    refine ⟨_, [s₁.heap.objs.size + 1, s₁.heap.objs.size], [l], _, enumD xs, s₁.heap, ρ₁, μ₁, φ₁, rfl, src_enum (us := us) (n := n) (Nat.ne_of_lt (Nat.lt_succ_of_lt hl1)) (Nat.ne_of_lt hl1) (Nat.succ_ne_self _), ⟨⟨_, he⟩, hi, k0 _ _ hl, hr.mono (.of_stays k0)⟩, S₁.grow (tk := s₁.toks) k0, N₁, k0, M₁.trans ⟨_, _, rfl⟩, fun a ha => ?_, fun a ha => ?_, q⟩
    · rcases List.mem_cons.mp ha with rfl | ha
      · exact ⟨n1, (S₁.off n1).1, (S₁.off n1).2, S₁.base_none n1⟩
      · rw [List.mem_singleton.mp ha]
        exact ⟨n0, (S₁.off n0).1, (S₁.off n0).2, S₁.base_none n0⟩
    · rw [List.mem_singleton.mp ha]
      exact ⟨h1, h2, fun q => by (have hl2 : s₁.heap.get? l = some _ := hl); rw [hl2] at q; cases q⟩
/-- `for x in xs:`, a list that no one turns -/
theorem X_for_list {x : Str} {iter : Expr} {body : List Stmt} {px pos : Pos} (h : W prog w base env B iter ρ μ fun v ρ' μ' => ∃ xs, v = .tl xs ∧ ForX prog w base env B body QF (xs.map fun d => [(x, V.d d)]) ρ' μ')
    (hk : env.kindOf x = some .local := by rfl) (hs : ∀ x, foldedSetIterable iter env x = pure x := by intro _; rfl) : X1 prog w base env B (.For (.Name x px) iter body [] pos) ρ μ QF :=
  X_for (.name _ _) (IT_list (h.mono fun v ρ' μ' ⟨xs, e, hX⟩ => ⟨xs, e, _, List.length_map _, fun j d b hd hb => by
    rw [List.getElem?_map, hd] at hb
    cases hb
    exact .name hk, hX⟩)) hs
end
end Mine

/-! part MP10 -/
namespace Mine
open PySem PySem.W PySem.Calls PyProof.Rows PySem.SeqAt PySem.MeetsSeq

section
variable {prog : Program} {w : World} {base : Heap} {env : Env} {B : Nat} {ρ : Vars} {μ : Lists} {Q : V → Vars → Lists → Prop} {QB : Bool → Vars → Lists → Prop} {QF : Fl → Vars → Lists → Prop} {mg mb : Str → Option Value} {QI : List D → Vars → Lists → Prop}

/-- a comprehension's tests -/
noncomputable abbrev WT (prog : Program) (w : World) (base : Heap) (env : Env) (B : Nat) (ifs : List Expr) (ρ : Vars) (μ : Lists) (Q : Bool → Vars → Lists → Prop) : Prop :=
  T prog w base env B (forIn ifs true fun c r => if r = true then do let ok ← isTrue c env (eval c env); pure (ForInStep.yield ok) else pure (ForInStep.yield r)) RB ρ μ Q
theorem WT_nil (h : QB true ρ μ) : WT prog w base env B [] ρ μ QB := fun A s ex φ hA S => wpAny_tests_nil ⟨true, ρ, μ, φ, S, .refl, .refl _, rfl, h⟩
theorem WT_one {c : Expr} (h : WB prog w base env B c ρ μ QB) : WT prog w base env B [c] ρ μ QB := fun A s ex φ hA S => wpAny_tests_one (h A s ex φ hA S)

theorem comp_tests {A : Around} {R : Result → Shared → Prop} {s : Shared} {elt target iter : Expr} {ifs : List Expr} {scope : Scope} {pos : Pos} {it acc : Value} {env : Env} (I : Nat → Shared → Prop)
    (turn : ∀ n s, I n s → wpAny (model prog w) A (pyNext it) (fun r s₁ => match r with
      | none => R (.ok .next) s₁
      | some v => wpAny (model prog w) A (letOwnedTupleGo target it v) (fun _ s₁' => wpAny (model prog w) A (assign target env v) (fun _ s₂ =>
          wpAny (model prog w) A (forIn ifs true fun c r => if r = true then do let ok ← isTrue c env (eval c env); pure (ForInStep.yield ok) else pure (ForInStep.yield r)) (fun ok s₃ =>
            if ok = true then wpAny (model prog w) A (eval elt env) (fun x s₄ =>
              wpAny (model prog w) A (call (.builtin "list.append") [acc, x]) (fun _ s₅ => ∃ m, m < n ∧ I m s₅) (fun _ _ => False) s₄) (fun _ _ => False) s₃
            else ∃ m, m < n ∧ I m s₃) (fun _ _ => False) s₂) (fun _ _ => False) s₁') (fun _ _ => False) s₁) (fun _ _ => False) s)
    (n : Nat) (h : I n s) :
    codeAny (model prog w) A (.compLoop (.ListComp elt [⟨target, iter, ifs, 0⟩] scope pos) 0 it acc env) R s := by
  refine codeAny_loop rfl I (fun n s hI => ?_) n h
  show wpAny _ A ((compTurn (.ListComp elt [⟨target, iter, ifs, 0⟩] scope pos) 0 it acc env).onRaise (fun x => do noteFrame x env; theTreesLotGoes x)) _ _ s
  refine wpAny_noted ?_
  rw [compTurn_list]
  refine wpAny_bind (wpAny_standAt (wpAny_bind (wpAny_mono (turn n s hI) (fun r s₁ h₁ => ?_) fun _ _ h' => h'.elim)))
  cases r with
  | none => exact wpAny_pure h₁
  | some v =>
    refine wpAny_bind (wpAny_mono h₁ (fun _ s₁' h₁' => ?_) fun _ _ h' => h'.elim)
    refine wpAny_bind (wpAny_mono h₁' (fun _ s₂ h₂ => wpAny_bind (wpAny_mono h₂ (fun ok s₃ h₃ => ?_) fun _ _ h' => h'.elim)) fun _ _ h' => h'.elim)
    cases ok with
    | false => exact wpAny_pure ⟨rfl, h₃⟩
    | true =>
      exact wpAny_bind (wpAny_bind (wpAny_mono h₃ (fun x s₄ h₄ => wpAny_bind (wpAny_mono h₄ (fun _ s₅ h₅ => wpAny_pure (wpAny_pure ⟨rfl, h₅⟩)) fun _ _ h' => h'.elim)) fun _ _ h' => h'.elim))

/-- what a comprehension captures: data in cells -/
noncomputable def Cap (cenv : Env) (h : Heap) (ρc : Vars) : Prop := ∀ x v, ρc.lookup x = some v → ∃ u d c, v = .d d ∧ RepD h u d ∧ cenv.kindOf x = some .cell ∧ cenv.cells.lookup x = some c ∧ h.IsCell c (some u)
theorem Cap.mono {cenv : Env} {h h' : Heap} {ρc : Vars} (k : Cap cenv h ρc) (kt : TupIn h h') (kc : ∀ c u, h.IsCell c u → h'.IsCell c u) : Cap cenv h' ρc := fun x v e =>
  let ⟨u, d, c, e, r, k1, k2, k3⟩ := k x v e
  ⟨u, d, c, e, r.mono kt, k1, k2, kc _ _ k3⟩
theorem Cap.st {cenv : Env} {s : Shared} {ρc : Vars} {m : Str → Option Value} (k : Cap cenv s.heap ρc) (ok : EnvOk cenv) (hn : s.heap.Ns cenv.locals m) (hb : base.StaysIn s.heap) (hC : base.get? cenv.locals = none) (hf : cenv.func = none) : St base cenv [cenv.locals] [] ρc [] s :=
  ⟨ok, .head _, ⟨m, hn, fun x v e => let ⟨u, d, c, e, r, k1, k2, k3⟩ := k x v e; ⟨u, .cell k1 k2 k3, e ▸ .d r⟩⟩, hb, fun b hb' => by rw [List.mem_singleton.mp hb']; exact hC, (fun _ h => nomatch h),
    fun b hb' => by rw [List.mem_singleton.mp hb']; exact ns_not_seq hn, rfl, .nil, (fun k a ds e _ => by simp at e), fun h => absurd hf h, fun h => absurd hf h⟩

inductive CInv (base : Heap) (cenv : Env) (acc : Addr) (its : List Addr) (inv : Nat → Heap → Prop) (ds : List D) (g : D → Option D) (ρc : Vars) (s : Shared) (k : Nat) (s' : Shared) : Prop
  | mk (j : Nat) (h' : Heap) (tk : Tok) (m' : Str → Option Value) (us : List Value) (n' : Nat) : s' = { s with heap := h', toks := tk } → k = ds.length + 1 - j → j ≤ ds.length → inv j h' → h'.Ns cenv.locals m' → Cap cenv h' ρc → base.StaysIn h' → IsL h' acc (List.toArray us) n' → RepDs h' us ((ds.take j).filterMap g) →
    (∀ b o, b ≠ cenv.locals → b ≠ acc → b ∉ its → s.heap.get? b = some o → h'.get? b = some o) → CInv base cenv acc its inv ds g ρc s k s'
theorem comp_loop {cenv : Env} {t elt iter : Expr} {ifs : List Expr} {scope : Scope} {pos : Pos} {it : Addr} {its src : List Addr} {inv : Nat → Heap → Prop} {ds : List D} {pr : Bool} {acc : Addr} {ρc : Vars} {g : D → Option D} {A : Around} {s : Shared} {R : Result → Shared → Prop} {m : Str → Option Value} {n₀ : Nat}
    (hS : Src prog w it its src inv ds pr) (hk : TgtK pr t) (hA : AOk A B) (ok : EnvOk cenv) (hf : cenv.func = none) (hC : base.get? cenv.locals = none) (hD : base.get? acc = none)
    (hT : ∀ d ∈ ds, ∃ b, Tgt cenv t d b ∧ WT prog w base cenv B ifs (b ++ ρc) [] fun c ρ' μ' => if c then W prog w base cenv B elt ρ' μ' (fun v _ _ => ∃ y, v = .d y ∧ g d = some y) else g d = none)
    (hlen : ds.length ≤ 1000000) (I : inv 0 s.heap) (hn : s.heap.Ns cenv.locals m) (hcap : Cap cenv s.heap ρc) (hb : base.StaysIn s.heap) (hl : IsL s.heap acc #[] n₀)
    (d1 : acc ≠ cenv.locals) (d2 : ∀ a ∈ its, a ≠ acc ∧ a ≠ cenv.locals ∧ base.get? a = none) (d3 : ∀ a ∈ src, a ≠ acc ∧ a ≠ cenv.locals)
    (hR : ∀ h' tk m' us n', h'.Ns cenv.locals m' → IsL h' acc (List.toArray us) n' → RepDs h' us (ds.filterMap g) → (∀ b o, b ≠ cenv.locals → b ≠ acc → b ∉ its → s.heap.get? b = some o → h'.get? b = some o) → R (.ok .next) { s with heap := h', toks := tk }) :
    codeAny (model prog w) A (.compLoop (.ListComp elt [⟨t, iter, ifs, 0⟩] scope pos) 0 (.ref it) (.ref acc) cenv) R s := by
  refine comp_tests (CInv base cenv acc its inv ds g ρc s) ?_ (ds.length + 1) ⟨0, s.heap, s.toks, m, [], n₀, rfl, rfl, Nat.zero_le _, I, hn, hcap, hb, hl, .nil, fun _ _ _ _ _ e => e⟩
  rintro k s' ⟨j, h, tk, m', us, n', rfl, rfl, hj, I', hn', hcap', hb', hl', hr', kk⟩
  by_cases hlt : j < ds.length
  · obtain ⟨b, hg, hT'⟩ := hT ds[j] (List.getElem_mem hlt)
    have S₀ : St base cenv [cenv.locals] [] ρc [] { s with heap := h, toks := tk } := hcap'.st ok hn' hb' hC hf
    have nIt := hS.flds _ _ I'
    refine wpAny_mono (hS.next A { s with heap := h, toks := tk } j ds[j] t hA.hh hk I' (List.getElem?_eq_getElem hlt) (fun u s₁ => wpAny (model prog w) A (assign t cenv u) (fun _ s₂ =>
          wpAny (model prog w) A (forIn ifs true fun c r => if r = true then do let ok ← isTrue c cenv (eval c cenv); pure (ForInStep.yield ok) else pure (ForInStep.yield r)) (fun ok s₃ =>
            if ok = true then wpAny (model prog w) A (eval elt cenv) (fun x s₄ =>
              wpAny (model prog w) A (call (.builtin "list.append") [.ref acc, x]) (fun _ s₅ => ∃ k', k' < ds.length + 1 - j ∧ CInv base cenv acc its inv ds g ρc s k' s₅) (fun _ _ => False) s₄) (fun _ _ => False) s₃
            else ∃ k', k' < ds.length + 1 - j ∧ CInv base cenv acc its inv ds g ρc s k' s₃) (fun _ _ => False) s₂) (fun _ _ => False) s₁) fun u h₁ tk₁ ru I₁ k₁ => ?_) (fun r s₁ q => ?_) fun _ _ x => x
    rotate_left
    · cases r with
      | none => exact q.elim
      | some v => exact q
    have offit : ∀ a o, h.get? a = some o → (∀ vs, o.data ≠ .fields vs) → h₁.get? a = some o := fun a o e n => k₁ a o (fun m => by
      obtain ⟨o', vs, ho, hd, _⟩ := nIt a m
      rw [e] at ho; cases ho
      exact n _ hd) e
    have S₁ : St base cenv [cenv.locals] [] ρc [] { s with heap := h₁, toks := tk₁ } := S₀.its (its := its) (fun b o nb e => k₁ b o nb e) nIt (fun a ha => (d2 a ha).2.2) (fun a ha q => (d2 a ha).2.1 (List.mem_singleton.mp q))
    have hl₁ : IsL h₁ acc (List.toArray us) n' := offit _ _ hl' fun vs q => by cases q
    have t₁ : TupIn h h₁ := fun b o e c ⟨items, n, hd⟩ => offit b o e fun vs q => by rw [hd] at q; cases q
    have hcap₁ : Cap cenv h₁ ρc := hcap'.mono t₁ fun c u ⟨o, ho, hd⟩ => ⟨o, offit _ _ ho fun vs q => by (rw [hd] at q; cases q), hd⟩
    refine assign_tgt hA.hh S₁ hg ru fun s₂ S₂ M₂ t₂ k₂ => ?_
    obtain ⟨h₂, tk₂, rfl⟩ := M₂
    have cellk : ∀ c u, h₁.IsCell c u → h₂.IsCell c u := fun c u ⟨o, ho, hd⟩ => ⟨o, k₂ c o ho (fun q => by
      rw [List.mem_singleton.mp q] at ho
      obtain ⟨m, hn, _⟩ := S₁.ns
      obtain ⟨o', es, ep, ho', hd', _⟩ := hn
      rw [ho] at ho'; cases ho'; rw [hd] at hd'; cases hd'), hd⟩
    refine hT'.use hA S₂ fun c s₃ c' ρ₃ μ₃ φ₃ S₃ N₃ M₃ e₃ q₃ => ?_
    obtain ⟨h₃, tk₃, rfl⟩ := M₃
    cases e₃
    have notC : ∀ a, a ≠ cenv.locals → a ∉ [cenv.locals] := fun a n q => n (List.mem_singleton.mp q)
    have stay : ∀ (h₄ : Heap) (φ' : List Addr), Nx [cenv.locals] [] φ' h₂ h₄ → ∀ a o, a ≠ cenv.locals → a ∉ its → h.get? a = some o → h₄.get? a = some o := fun h₄ φ' N a o n1 n2 e =>
      N.keep a o (k₂ a o (k₁ a o n2 e) (notC a n1)) (.inr ⟨notC a n1, fun m => nomatch m⟩)
    have stay₁ : ∀ (h₄ : Heap) (φ' : List Addr), Nx [cenv.locals] [] φ' h₂ h₄ → ∀ a o, a ≠ cenv.locals → h₁.get? a = some o → h₄.get? a = some o := fun h₄ φ' N a o n1 e =>
      N.keep a o (k₂ a o e (notC a n1)) (.inr ⟨notC a n1, fun m => nomatch m⟩)
    have up : ∀ (h₄ : Heap) (φ' : List Addr) (ρ₄ : Vars) (μ₄ : Lists) (tk₄ : Nat), Nx [cenv.locals] [] φ' h₂ h₄ → St base cenv [cenv.locals] φ' ρ₄ μ₄ { s with heap := h₄, toks := tk₄ } →
        inv (j + 1) h₄ ∧ (∃ m, h₄.Ns cenv.locals m) ∧ Cap cenv h₄ ρc ∧ base.StaysIn h₄ ∧ IsL h₄ acc (List.toArray us) n' ∧ RepDs h₄ us ((ds.take j).filterMap g) ∧
        (∀ b o, b ≠ cenv.locals → b ≠ acc → b ∉ its → s.heap.get? b = some o → h₄.get? b = some o) := fun h₄ φ' ρ₄ μ₄ tk₄ N S => by
      have tt : TupIn h h₄ := fun b o e c i => N.tup b o (t₂ b o (t₁ b o e c i) c i) c i
      refine ⟨hS.stable _ _ _ I₁ (fun b o e c i => N.tup b o (t₂ b o e c i) c i) fun a o ha e => stay₁ h₄ φ' N a o ?_ e, let ⟨m, q, _⟩ := S.ns; ⟨m, q⟩, hcap₁.mono (fun b o e c i => N.tup b o (t₂ b o e c i) c i) ?_, S.stays, stay₁ h₄ φ' N _ _ d1 hl₁, hr'.mono tt,
        fun b o n1 n2 n3 e => stay h₄ φ' N b o n1 n3 (kk b o n1 n2 n3 e)⟩
      · rcases ha with ha | ha
        · exact (d2 a ha).2.1
        · exact (d3 a ha).2
      · intro c u hc
        obtain ⟨o, ho, hd⟩ := hc
        refine ⟨o, stay₁ h₄ φ' N c o (fun q => ?_) ho, hd⟩
        subst q
        obtain ⟨m, hn, _⟩ := S₁.ns
        obtain ⟨o', es, ep, ho', hd', _⟩ := hn
        rw [ho] at ho'; cases ho'; rw [hd] at hd'; cases hd'
    have tk1 : ds.take (j + 1) = ds.take j ++ [ds[j]] := by rw [List.take_add_one, List.getElem?_eq_getElem hlt]; rfl
    cases c with
    | false =>
      have q₃ : g ds[j] = none := q₃
      obtain ⟨u1, ⟨m₃, u2⟩, u3, u4, u5, u6, u7⟩ := up h₃ φ₃ ρ₃ μ₃ tk₃ N₃ S₃
      refine ⟨ds.length + 1 - (j + 1), by lia, j + 1, h₃, tk₃, m₃, us, n', rfl, rfl, hlt, u1, u2, u3, u4, u5, ?_, u7⟩
      rw [tk1, List.filterMap_append]
      simpa [q₃] using u6
    | true =>
      have q₃ : W prog w base cenv B elt ρ₃ μ₃ (fun v _ _ => ∃ y, v = .d y ∧ g ds[j] = some y) := q₃
      refine q₃.use hA S₃ fun x s₄ v ρ₄ μ₄ φ₄ S₄ N₄ M₄ r₄ ⟨y, e, hy⟩ => ?_
      obtain ⟨h₄, tk₄, rfl⟩ := M₄
      subst e
      obtain ⟨u1, ⟨m₄, u2⟩, u3, u4, u5, u6, u7⟩ := up h₄ φ₄ ρ₄ μ₄ tk₄ (N₃.trans N₄) S₄
      have hus : us.length ≤ 1000000 := by
        rw [u6.length]
        refine Nat.le_trans (List.length_filterMap_le ..) ?_
        rw [List.length_take]; lia
      cases r₄ with
      | d r₄ =>
        refine wpAny_list_append_plain (items := us.toArray) ⟨n', u5⟩ (fun h₅ hp₅ hs₅ => ?_) (hsz := Nat.le_trans (by simpa using hus) szLine)
        replace hs₅ : Heap.SameBut acc h₄ h₅ := hs₅
        obtain ⟨n₅, hp₅⟩ := hp₅
        have nac : ∀ b o, h₄.get? b = some o → (∀ items n, o.data ≠ .seq items n) → h₅.get? b = some o := fun b o e nd => (hs₅.2 b (fun q => by
          subst q
          have u5' : h₄.get? b = some _ := u5
          rw [e] at u5'; cases u5'; exact nd _ _ rfl)).trans e
        have t₅ : TupIn h₄ h₅ := fun b o e c i => (hs₅.2 b (fun q => by
          subst q
          have u5' : h₄.get? b = some _ := u5
          rw [e] at u5'; cases u5'; exact absurd (show Value.type "list" = Value.type "tuple" from c) (by decide))).trans e
        refine ⟨ds.length + 1 - (j + 1), by lia, j + 1, h₅, _, m₄, us ++ [x], n₅, rfl, rfl, hlt, ?_, u2.sameBut hs₅ (Ne.symm d1), u3.mono t₅ ?_, ?_, ?_, ?_, ?_⟩
        · refine hS.stable _ _ _ u1 t₅ fun a o ha e => (hs₅.2 a ?_).trans e
          rcases ha with ha | ha
          · exact (d2 a ha).1
          · exact (d3 a ha).1
        · exact fun c u ⟨o, ho, hd⟩ => ⟨o, nac _ _ ho fun i n q => by (rw [hd] at q; cases q), hd⟩
        · exact fun b o e => (hs₅.2 b (fun q => by rw [q, hD] at e; cases e)).trans (u4 b o e)
        · rw [show us.toArray.push x = (us ++ [x]).toArray by simp] at hp₅
          exact hp₅
        · rw [tk1, List.filterMap_append]
          simp only [List.filterMap_cons, List.filterMap_nil, hy]
          exact (u6.mono t₅).append (.cons (r₄.mono t₅) .nil)
        · exact fun b o n1 n2 n3 e => (hs₅.2 b n2).trans (u7 b o n1 n2 n3 e)
  · have ej : j = ds.length := by lia
    subst ej
    rw [List.take_length] at hr'
    refine wpAny_mono (hS.fin A { s with heap := h, toks := tk } hA.hh I' (fun s₁ => R (.ok .next) s₁) fun h₁ tk₁ k₁ => ?_) (fun r s₁ ⟨e, q⟩ => by subst e; exact q) fun _ _ x => x
    have nIt := hS.flds _ _ I'
    have offit : ∀ a o, h.get? a = some o → (∀ vs, o.data ≠ .fields vs) → h₁.get? a = some o := fun a o e n => k₁ a o (fun m => by
      obtain ⟨o', vs, ho, hd, _⟩ := nIt a m
      rw [e] at ho; cases ho
      exact n _ hd) e
    refine hR h₁ tk₁ m' us n' ?_ (offit _ _ hl' fun vs q => by cases q) (hr'.mono fun b o e c ⟨items, n, hd⟩ => offit b o e fun vs q => by rw [hd] at q; cases q) fun b o n1 n2 n3 e => k₁ b o n3 (kk b o n1 n2 n3 e)
    obtain ⟨o, es, ep, ho, hd, r⟩ := hn'
    exact ⟨o, es, ep, offit _ _ ho fun vs q => by (rw [hd] at q; cases q), hd, r⟩

/-- what a comprehension may capture -/
noncomputable def CapOf (env : Env) (scope : Scope) (cl : List (Str × Addr)) (ρ ρc : Vars) : Prop := ∀ x v, ρc.lookup x = some v → ρ.lookup x = some v ∧ (∃ d, v = .d d) ∧ env.kindOf x = some .cell ∧ (∀ L, (compEnvC scope cl L env).kindOf x = some .cell) ∧ cl.lookup x = env.cells.lookup x
theorem CapOf.nil {scope : Scope} {cl : List (Str × Addr)} : CapOf env scope cl ρ [] := fun x v e => by cases e
theorem CapOf.one {scope : Scope} {cl : List (Str × Addr)} {x : Str} {d : D} (e : ρ.lookup x = some (.d d)) (h1 : env.kindOf x = some .cell) (h2 : ∀ L, (compEnvC scope cl L env).kindOf x = some .cell) (h3 : cl.lookup x = env.cells.lookup x) : CapOf env scope cl ρ [(x, .d d)] := fun y v e' => by
  rw [List.lookup_cons] at e'
  cases q : y == x with
  | true => rw [q] at e'; cases e'; rw [beq_iff_eq.mp q]; exact ⟨e, ⟨_, rfl⟩, h1, h2, h3⟩
  | false => rw [q] at e'; cases e'

/-- the items that a comprehension makes -/
noncomputable def CompQ (prog : Program) (w : World) (base : Heap) (env : Env) (B : Nat) (t elt : Expr) (ifs : List Expr) (scope : Scope) (cl : List (Str × Addr)) (QI : List D → Vars → Lists → Prop) (ds : List D) (ρ : Vars) (μ : Lists) : Prop :=
  ds.length ≤ 1000000 ∧ ∃ (g : D → Option D) (ρc : Vars), CapOf env scope cl ρ ρc ∧
    (∀ L, ∀ d ∈ ds, ∃ b, Tgt (compEnvC scope cl L env) t d b ∧ WT prog w base (compEnvC scope cl L env) B ifs (b ++ ρc) [] fun c ρ' μ' => if c then W prog w base (compEnvC scope cl L env) B elt ρ' μ' (fun v _ _ => ∃ y, v = .d y ∧ g d = some y) else g d = none) ∧
    QI (ds.filterMap g) ρ μ

theorem comp_all {A : Around} {s : Shared} {ex φ : List Addr} {t elt iter : Expr} {ifs : List Expr} {scope : Scope} {pos : Pos} {cl : List (Str × Addr)} {pr : Bool} {p : Pos} {use : Option (Value → Sem Unit)} {R : Value → Shared → Prop}
    (hk : TgtK pr t) (hclos : closureFor scope env = pure cl) (hcell : ∀ y ∈ scope.names, y.2 ≠ .cell) (hkind : scope.kind = .function) (hnames : ∀ y ∈ scope.names, y.2 = .local → scope.names.lookup y.1 = some .local)
    (hA : AOk A B) (S : St base env ex φ ρ μ s) (h : IT prog w base env B iter pr ρ μ (CompQ prog w base env B t elt ifs scope cl QI))
    (hs : ∀ x, foldedSetIterable iter env x = pure x)
    (fin : ∀ D C s' ρ' μ' φ' m xs, St base env ex φ' ρ' μ' s' → Nx ex φ φ' s.heap s'.heap → Sim s s' → Rep s'.heap ex φ' (.ref D) (.tl xs) → QI xs ρ' μ' → C ∉ ex → base.get? C = none → s.heap.get? C = none → s'.heap.Ns C m → compPost (model prog w) A (fun _ _ => False) use R (.ref D) C (.ok .next) s') :
    wpAny (model prog w) A (comprehension (.ListComp elt [⟨t, iter, ifs, 0⟩] scope pos) scope env p (newList []) false (eval iter env) use) R (fun _ _ => False) s := by
  refine wpAny_comprehension_free (cl := cl) rfl hs hclos hkind hnames (wpAny_mono (h A s ex φ hA S) (fun u s₁ hu => wpAny_mono hu (fun i s₂ ⟨it, its, src, inv, ds, hh, ρ₁, μ₁, φ₁, e, hS, I, S₂, N₂, K₂, M₂, hits, hsrc, hq⟩ => ?_) fun _ _ x => x.elim) fun _ _ x => x.elim)
  subst e
  obtain ⟨hlen, g, ρc, hcap, hT, q⟩ := hq
  refine wpAny_newObj_type (wpAny_newFunctionEnv hcell (by intro y hy; simp at hy) (fun h₁ hns₁ hsb₁ => ?_) hkind)
  dsimp only at hns₁ hsb₁ ⊢
  generalize hH2 : s₂.heap.push { cls := .type "list", dict := none, data := .seq ([] : List Value).toArray } = H2 at hns₁ hsb₁ ⊢
  have hC : H2.objs.size = s₂.heap.objs.size + 1 := by rw [← hH2, Heap.size_push]
  have hDC : s₂.heap.objs.size ≠ H2.objs.size := by rw [hC]; exact Nat.ne_of_lt (Nat.lt_succ_self _)
  have below : ∀ b, b < s₂.heap.objs.size → b ≠ H2.objs.size ∧ b ≠ s₂.heap.objs.size := fun b hb => ⟨by rw [hC]; exact Nat.ne_of_lt (Nat.lt_succ_of_lt hb), Nat.ne_of_lt hb⟩
  have old : ∀ b o, s₂.heap.get? b = some o → h₁.get? b = some o := fun b o e => hsb₁.extBut b o (below b (Heap.lt_size e)).1 (Heap.get?_push_of_some _ (hH2 ▸ Heap.get?_push_of_some _ e))
  have fresh : ∀ a, s₂.heap.objs.size ≤ a → s₂.heap.get? a = none := fun a ha => by
    cases e : s₂.heap.get? a with
    | none => rfl
    | some o' => exact absurd (Heap.lt_size e) (Nat.not_lt.mpr ha)
  have fD := fresh _ (Nat.le_refl _)
  have fC : s₂.heap.get? H2.objs.size = none := fresh _ (by rw [hC]; exact Nat.le_succ _)
  have hacc : IsL h₁ s₂.heap.objs.size #[] 0 := hsb₁.extBut _ _ hDC (Heap.get?_push_of_some _ (hH2 ▸ Heap.get?_push_size _ rfl))
  have I₁ : inv 0 h₁ := hS.stable _ _ _ I (.of_stays old) fun a o _ e => old a o e
  have nIt := hS.flds _ _ I
  have lts : ∀ a ∈ its, a < s₂.heap.objs.size := fun a ha => let ⟨o, vs, ho, _, _⟩ := nIt a ha; Heap.lt_size ho
  have ltsrc : ∀ a ∈ src, a < s₂.heap.objs.size := fun a ha => by
    cases z : hh.get? a with
    | none => exact ((hsrc a ha).2.2 z).elim
    | some o => exact Heap.lt_size (K₂ _ _ z)
  have hcap₁ : Cap (compEnvC scope cl H2.objs.size env) h₁ ρc := fun x v e => by
    obtain ⟨e1, ⟨d, rfl⟩, k1, k2, k3⟩ := hcap x v e
    obtain ⟨m, hn, hbd⟩ := S₂.ns
    obtain ⟨u, a, r⟩ := hbd x _ e1
    cases r with
    | d r =>
      cases a with
      | loc z _ => rw [k1] at z; cases z
      | free z _ _ _ => rw [k1] at z; cases z
      | cell _ z c => exact ⟨u, d, _, rfl, r.mono (.of_stays old), k2 _, k3.trans z, c.keeps old⟩
  have loop : ∀ s₃ : Shared, s₃ = { s₂ with heap := h₁, toks := s₂.toks + ([] : List (Str × Value)).length } →
      codeAny (model prog w) A (.compLoop (.ListComp elt [⟨t, iter, ifs, 0⟩] scope pos) 0 (.ref it) (.ref s₂.heap.objs.size) (compEnvC scope cl H2.objs.size env))
        (compPost (model prog w) A (fun _ _ => False) use R (.ref s₂.heap.objs.size) H2.objs.size) s₃ := by
    rintro s₃ rfl
    refine comp_loop hS hk hA ⟨hkind, S₂.ok.glob, S₂.ok.blt⟩ rfl (S₂.base_none fC) (S₂.base_none fD) (hT _) hlen I₁ hns₁ hcap₁ (fun b o e => old b o (S₂.stays b o e)) hacc hDC
      (fun a ha => ⟨Nat.ne_of_lt (lts a ha), (below a (lts a ha)).1, (hits a ha).2.2.2⟩) (fun a ha => ⟨Nat.ne_of_lt (ltsrc a ha), (below a (ltsrc a ha)).1⟩) fun h' tk m' us n' hn' hl' hr' kk => ?_
    have k₂ : ∀ b o, b ∉ its → s₂.heap.get? b = some o → h'.get? b = some o := fun b o nb e => kk b o (below b (Heap.lt_size e)).1 (below b (Heap.lt_size e)).2 nb (old b o e)
    have S' : St base env ex φ₁ ρ₁ μ₁ { s₂ with heap := h', toks := tk } := S₂.its k₂ nIt (fun a ha => (hits a ha).2.2.2) (fun a ha => (hits a ha).2.1)
    have K' : ∀ b o, hh.get? b = some o → h'.get? b = some o := fun b o e => k₂ b o (fun m => by rw [(hits b m).1] at e; cases e) (K₂ b o e)
    have N' : Nx ex φ φ₁ s.heap h' := N₂.trans (.of_stays K')
    have cnone : s.heap.get? H2.objs.size = none := by
      refine N₂.live _ ?_
      cases z : hh.get? H2.objs.size with
      | none => rfl
      | some o => rw [K₂ _ _ z] at fC; cases fC
    exact fin s₂.heap.objs.size H2.objs.size _ ρ₁ μ₁ φ₁ m' _ S' N' (M₂.trans ⟨_, _, rfl⟩) (.tl hl' hr' (S₂.off fD).1 (S₂.off fD).2) q (S₂.off fC).1 (S₂.base_none fC) cnone hn'
  exact codeAny_compStart_list (loop _ rfl) (hS.again _ _ 0 _ _ I₁ (loop _ rfl))

theorem ns_off {h : Heap} {C : Addr} {m : Str → Option Value} (hn : h.Ns C m) : ∀ o, h.get? C = some o → (∀ items n, o.data ≠ .seq items n) ∧ (∀ u, ¬ h.IsCell C u) ∧ ∀ vs, o.data ≠ .fields vs := fun o e => by
  obtain ⟨o', es, ep, ho, hd, _⟩ := hn
  rw [e] at ho; cases ho
  exact ⟨fun i n q => (by rw [hd] at q; cases q), fun u ⟨o₂, ho₂, hd₂⟩ => (by rw [e] at ho₂; cases ho₂; rw [hd] at hd₂; cases hd₂), fun vs q => (by rw [hd] at q; cases q)⟩

theorem W_Comp {t elt iter : Expr} {ifs : List Expr} {scope : Scope} {pos : Pos} {cl : List (Str × Addr)} {pr : Bool} (h : IT prog w base env B iter pr ρ μ (CompQ prog w base env B t elt ifs scope cl fun xs ρ' μ' => Q (.tl xs) ρ' μ')) (hk : TgtK pr t)
    (hclos : closureFor scope env = pure cl := by rfl) (hcell : ∀ y ∈ scope.names, y.2 ≠ .cell := by decide) (hkind : scope.kind = .function := by rfl) (hnames : ∀ y ∈ scope.names, y.2 = .local → scope.names.lookup y.1 = some .local := by decide)
    (hs : ∀ x, foldedSetIterable iter env x = pure x := by intro _; rfl) : W prog w base env B (.ListComp elt [⟨t, iter, ifs, 0⟩] scope pos) ρ μ Q := fun A s ex φ hA S => by
  rw [PySem.eval_ListComp]
  refine comp_all (use := none) hk hclos hcell hkind hnames hA S h hs fun D C s' ρ' μ' φ' m xs S' N' M' r q hx hb hn hC => ?_
  refine ⟨m, hC, fun h' hs' => ?_⟩
  have S'' : St base env ex φ' ρ' μ' { s' with heap := h', toks := s'.toks } := S'.but hs' hx hb (ns_off hC)
  have off : ∀ b o, s'.heap.get? b = some o → b ≠ C → h'.get? b = some o := fun b o e n => (hs'.2 b n).trans e
  have tt : TupIn s'.heap h' := fun b o e c ⟨i, n, hd⟩ => off b o e fun q => by subst q; exact (ns_off hC o e).1 _ _ hd
  refine ⟨_, ρ', μ', φ', S'', ?_, M'.trans ⟨_, _, rfl⟩, ?_, q⟩
  · refine ⟨fun b o e c => off b o (N'.keep b o e c) (fun q => by rw [q, hn] at e; cases e), N'.pre, N'.fresh, fun b e => ?_⟩
    by_cases z : b = C
    · rw [z]; exact hn
    · exact N'.live b (by rw [← hs'.2 b z]; exact e)
  · cases r with
    | tl hl hr a b =>
      exact .tl (off _ _ hl fun q => (ns_off hC _ (q ▸ hl)).1 _ _ rfl) (hr.mono tt) a b

/-- `y = [.. for ..]` -/
theorem X_setcomp {t elt iter : Expr} {ifs : List Expr} {scope : Scope} {pos py spos : Pos} {y : Str} {cl : List (Str × Addr)} {pr : Bool} (h : IT prog w base env B iter pr ρ μ (CompQ prog w base env B t elt ifs scope cl fun xs ρ' μ' => QF .next ((y, .tl xs) :: ρ') μ')) (hk : TgtK pr t)
    (hsw : swapsWith (.ListComp elt [⟨t, iter, ifs, 0⟩] scope pos) (some (.Name y py)) spos.line env = pure true := by rfl) (hy : env.kindOf y = some .local := by rfl)
    (hclos : closureFor scope env = pure cl := by rfl) (hcell : ∀ y ∈ scope.names, y.2 ≠ .cell := by decide) (hkind : scope.kind = .function := by rfl) (hnames : ∀ y ∈ scope.names, y.2 = .local → scope.names.lookup y.1 = some .local := by decide)
    (hs : ∀ x, foldedSetIterable iter env x = pure x := by intro _; rfl) : X1 prog w base env B (.Assign [.Name y py] (.ListComp elt [⟨t, iter, ifs, 0⟩] scope pos) spos) ρ μ QF := fun A s ex φ hA S => by
  show wpAny (model prog w) A (exec _ env) _ _ _
  rw [exec_Assign_Name_used _ _ _ _ hsw]
  refine wpAny_bind (wpAny_standAt (wpAny_bind ?_))
  show wpAny _ A (do let _ ← comprehension (.ListComp elt [⟨t, iter, ifs, 0⟩] scope pos) scope env _ (newList []) false (eval iter env) (some (assign (.Name y py) env))) _ _ s
  refine wpAny_bind (wpAny_mono (comp_all (use := some (assign (.Name y py) env)) (R := fun _ s' => Post base env ex φ s RF QF Flow.next s') hk hclos hcell hkind hnames hA S h hs fun D C s' ρ' μ' φ' m xs S' N' M' r q hx hb hn hC => ?_) (fun _ s' hq => wpAny_pure (wpAny_pure hq)) fun _ _ e => e)
  show wpAny _ A (assign (.Name y py) env (.ref D)) _ _ _
  have hL : C ≠ env.locals := fun q => hx (q ▸ S'.hL)
  refine assign_name S' hy r fun s₂ S₂ N₂ k₂ M₂ => ?_
  have hC₂ : s₂.heap.Ns C m := by
    obtain ⟨o, es, ep, ho, r⟩ := hC
    exact ⟨o, es, ep, k₂ _ _ hL ho, r⟩
  refine ⟨m, hC₂, fun h' hs' => ?_⟩
  have S'' : St base env ex φ' ((y, .tl xs) :: ρ') μ' { s₂ with heap := h', toks := s₂.toks } := S₂.but hs' hx hb (ns_off hC₂)
  have off : ∀ b o, s₂.heap.get? b = some o → b ≠ C → h'.get? b = some o := fun b o e n => (hs'.2 b n).trans e
  have NN := N'.trans N₂
  refine ⟨.next, _, μ', φ', S'', ?_, (M'.trans M₂).trans ⟨_, _, rfl⟩, .next, q⟩
  refine ⟨fun b o e c => off b o (NN.keep b o e c) (fun q => by rw [q, hn] at e; cases e), NN.pre, NN.fresh, fun b e => ?_⟩
  by_cases z : b = C
  · rw [z]; exact hn
  · exact NN.live b (by rw [← hs'.2 b z]; exact e)
end
end Mine

/-! part MP11 -/
namespace Mine
open PySem PySem.W PySem.Calls PyProof.Rows PySem.SeqAt PySem.MeetsSeq
section
variable {prog : Program} {w : World} {base : Heap} {env : Env} {B : Nat} {ρ : Vars} {μ : Lists} {Q : V → Vars → Lists → Prop} {QB : Bool → Vars → Lists → Prop} {QF : Fl → Vars → Lists → Prop} {mg mb : Str → Option Value}
/-- a call of a def that hands back a new list: the caller's own from then on -/
theorem W_callM (C : Cx base mg mb) {f : Str} {fa : Addr} {p pos : Pos} {e : Expr} {es : List Expr} {fo : Obj} {fd : FuncData} (hf : mg f = some (.ref fa)) (ho : base.get? fa = some fo) (hfd : fo.data = .func fd)
    (h : WL prog w base env B pos (e :: es) ρ μ fun vs ρ' μ' => ∃ ps xs, argVs vs μ' = some ps ∧ Fn prog w base fa B ps (.l xs) ∧ Q (.lst μ'.length) ρ' (μ' ++ [xs.map V.d]))
    (hk : env.kindOf f = some .globalImplicit := by rfl) (hd : (f == ("__debug__" : Str)) = false := by rfl)
    (he : starEach (e :: es) env = (false, eval e env) :: starEach es env := by rfl) : W prog w base env B (.Call (.Name f p) (e :: es) [] pos) ρ μ Q := fun A s ex φ hA S => by
  refine Call_Name rfl (global_name S C hf hk hd (callWith_function (o := fo) (fd := fd) (args_any he ?_)))
  refine h.use hA S fun us s₁ vs ρ₁ μ₁ φ₁ S₁ N₁ M₁ r₁ ⟨ps, xs, e1, hF, q⟩ => ⟨⟨S₁.stays _ _ ho, hfd⟩, ?_⟩
  refine wpAny_mono (hF A s₁ us hA S₁.stays (argVs_at S₁ e1 r₁)) (fun u s₂ ⟨k, M, rr⟩ => ?_) fun _ _ x => x
  cases rr with
  | l hn hl hr =>
    obtain ⟨h₂, tk₂, rfl⟩ := M
    obtain ⟨S₂, N₂⟩ := S₁.adopt (s' := { s₁ with heap := h₂, toks := tk₂ }) k hn hl hr
    exact ⟨_, ρ₁, _, _, S₂, N₁.trans N₂, M₁.trans ⟨_, _, rfl⟩, .lst (S₁.adopt_at _), q⟩
variable {f : Nat → Addr}
theorem W_calldM (C : Cx base mg mb) (Df : Defs base mg prog f) (i : Nat) {name : Str} {params : Arguments} {body : List Stmt} {ds : List Expr} {ret : Option Expr} {tps : List TypeParam} {scope : Scope} {ts : Option Scope} {bind : Str} {dpos : Pos}
    {p pos : Pos} {e : Expr} {es : List Expr}
    (h : WL prog w base env B pos (e :: es) ρ μ fun vs ρ' μ' => ∃ ps xs, argVs vs μ' = some ps ∧ Fn prog w base (f i) B ps (.l xs) ∧ Q (.lst μ'.length) ρ' (μ' ++ [xs.map V.d]))
    (hst : prog.main.body[i]? = some (.FunctionDef name params body ds ret tps scope ts bind dpos) := by rfl)
    (hk : env.kindOf name = some .globalImplicit := by rfl) (hd : (name == ("__debug__" : Str)) = false := by rfl)
    (he : starEach (e :: es) env = (false, eval e env) :: starEach es env := by rfl) : W prog w base env B (.Call (.Name name p) (e :: es) [] pos) ρ μ Q := by
  obtain ⟨fo, doc, pm, an, cd, ct, hm, ho, hfd, hcd⟩ := Df.has _ _ _ _ _ _ _ _ _ _ _ hst
  exact W_callM C hm ho hfd h hk hd he

/-- a def whose one parameter is a cell, from the program -/
theorem Fn_def1c (C : Cx base mg mb) (Df : Defs base mg prog f) {i : Nat} {name : Str} {params : Arguments} {body : List Stmt} {ds : List Expr} {ret : Option Expr} {tps : List TypeParam} {scope : Scope} {ts : Option Scope} {bind : Str} {pos : Pos} {x : Str} {d y : D}
    (hst : prog.main.body[i]? = some (.FunctionDef name params body ds ret tps scope ts bind pos))
    (hbind : ∀ doc pm an cd ct (u : Value), bindArgs (fnOf name name params body scope .none .none doc pm an cd ct) ⟨[u], []⟩ = pure [(x, u)])
    (h : ∀ doc pm an cd ct L, X prog w base (callEnvC (fnOf name name params body scope .none .none doc pm an cd ct) L (f i)) B body [(x, .d d)] [] fun fl _ _ => fl = .ret (.d y))
    (honly : ∀ p ∈ scope.names, p.2 = .cell → p.1 = x := by decide) (hnt : x ≠ Str.ofString "truths" := by decide) (hloc : scope.names.lookup x = some .cell := by rfl) (hsome : ∀ n, ((cellsFrom n scope.names []).lookup x).isSome = true := by intro _; rfl)
    (hco : scope.isCoroutine = false := by rfl) (hgen : scope.isGenerator = false := by rfl) (hk : scope.kind = .function := by rfl) : Fn prog w base (f i) (B + 1) [.d d] (.d y) := by
  obtain ⟨fo, doc, pm, an, cd, ct, _, ho, hfd, hcd⟩ := Df.has _ _ _ _ _ _ _ _ _ _ _ hst
  intro A s us hA hsts hr
  cases hr with
  | @cons u _ _ _ ru rr =>
    cases rr
    cases ru with
    | d ru =>
      refine wpAny_call ?_
      refine codeAny_call_cells (fd := fnOf name name params body scope .none .none doc pm an cd ct) (body := body) (binds := [(x, u)]) (by have := hA.dep; show A.depth < 1000; lia) (hsts _ _ ho) hfd (C.lim.keeps hsts) (hcd.keeps hsts) rfl (hbind doc pm an cd ct u) rfl
        (fun z hz => by rw [List.mem_singleton.mp hz]; exact .inr ⟨hloc, hsome _⟩) (fun s₁ I => ?_) hco hgen hk
      generalize hfdd : fnOf name name params body scope .none .none doc pm an cd ct = fd at *
      have hsc : fd.scope = scope := by rw [← hfdd]
      have hLs : (callEnvC fd s.heap.objs.size (f i)).locals = s.heap.objs.size := rfl
      have hA' : AOk (A.deeper (callEnvC fd s.heap.objs.size (f i))) B := ⟨hA.hh, by have := hA.dep; show A.depth + 1 + B ≤ 900; lia, by have := hA.un; show A.units + 3 + 16 * B ≤ 9000; lia⟩
      obtain ⟨h₁, tk₁, es, hkeep⟩ := I.done
      have kx : (callEnvC fd s.heap.objs.size (f i)).kindOf x = some .cell := by
        show fd.scope.names.lookup x = _
        rw [hsc]; exact hloc
      obtain ⟨c₀, hc₀⟩ := Option.isSome_iff_exists.mp (hsome (s.heap.objs.size + 1))
      have hcx : (callEnvC fd s.heap.objs.size (f i)).cells.lookup x = some c₀ := by
        show (cellsFrom (s.heap.objs.size + 1) fd.scope.names []).lookup x = _
        rw [hsc]; exact hc₀
      have hcell := I.cell x c₀ hcx
      have above : ∀ b ∈ [s.heap.objs.size, c₀], s.heap.objs.size ≤ b := fun b hb => by
        rcases List.mem_cons.mp hb with rfl | hb
        · exact Nat.le_refl _
        · rw [List.mem_singleton.mp hb]
          exact Nat.le_of_lt (I.above x c₀ (PySem.mem_of_lookup hcx))
      have S₀ : St base (callEnvC fd s.heap.objs.size (f i)) [s.heap.objs.size, c₀] [] [(x, .d d)] [] s₁ := by
        refine ⟨⟨by show fd.scope.kind = _; rw [hsc]; exact hk, by rw [← hfdd]; first | rfl | done, by rw [← hfdd]; first | rfl | done⟩, .head _, ⟨_, I.toInCall.ns, fun z v e => ?_⟩, fun b o e => I.toInCall.keep b o (hsts b o e), fun b hb => ?_, (fun b hb => nomatch hb), fun b hb => ?_, rfl, .nil, (fun k a ds e _ => by simp at e), fun _ z c e1 e2 => ?_, fun _ e1 => ?_⟩
        · rw [List.lookup_cons] at e
          cases q : z == x with
          | false => rw [q] at e; cases e
          | true =>
            rw [q] at e; cases e
            rw [beq_iff_eq.mp q]
            have : bindC (callEnvC fd s.heap.objs.size (f i)).kindOf [(x, u)] (fun _ => none) x = some u := by
              simp [bindC, kx]
            rw [this] at hcell
            exact ⟨u, .cell kx hcx hcell, .d (ru.mono (.of_stays fun b o e => I.toInCall.keep b o e))⟩
        · cases q : base.get? b with
          | none => rfl
          | some o =>
            have := Heap.lt_size (hsts _ _ q)
            exact absurd this (Nat.not_lt.mpr (above b hb))
        · rcases List.mem_cons.mp hb with rfl | hb
          · exact ns_not_seq I.toInCall.ns
          · rw [List.mem_singleton.mp hb]
            obtain ⟨o, ho, hd⟩ := hcell
            exact ⟨o, ho, fun i n q => by rw [q] at hd; cases hd⟩
        · have e1' : fd.scope.names.lookup z = some .cell := e1
          rw [hsc] at e1'
          have := honly _ (PySem.mem_of_lookup e1') rfl
          have : z = x := this
          subst this
          rw [hcx] at e2; cases e2
          exact ⟨.tail _ (.head _), _, hcell⟩
        · have e1' : fd.scope.names.lookup (Str.ofString "truths") = some NameKind.cell := e1
          rw [hsc] at e1'
          have : (Str.ofString "truths") = x := honly _ (PySem.mem_of_lookup e1') rfl
          exact (hnt this.symm).elim
      have h' := h doc pm an cd ct s.heap.objs.size
      rw [hfdd] at h'
      subst es
      refine wpAny_mono (T.use h' hA' S₀ (R := fun fl s' => ∃ u, fl = .ret u ∧ (∀ b o, s.heap.get? b = some o → s'.heap.get? b = some o) ∧ Sim s s' ∧ RetP s.heap s'.heap u (.d y)) fun fl s' f' ρ' μ' φ' S' N M rf e => ?_) (fun fl s' ⟨u, e, q⟩ => by subst e; exact q) fun _ _ x => x.elim
      subst e
      cases rf with
      | ret ru =>
        cases ru with
        | d ru =>
          refine ⟨_, rfl, fun b o e => N.keep b o (hkeep b o e) (.inr ⟨fun m => ?_, fun m => nomatch m⟩), Sim.trans ⟨_, _, rfl⟩ M, .d ru⟩
          have := above b m
          exact absurd (Heap.lt_size e) (Nat.not_lt.mpr this)
end
end Mine

/-! part MP12 -/
namespace Mine
open PySem PySem.W PySem.Calls PyProof.Rows PySem.SeqAt PySem.MeetsSeq
section
variable {prog : Program} {w : World} {base : Heap} {env : Env} {B : Nat} {ρ : Vars} {μ : Lists} {Q : V → Vars → Lists → Prop} {QB : Bool → Vars → Lists → Prop} {QF : Fl → Vars → Lists → Prop} {mg mb : Str → Option Value}

theorem set_IsLk {A : Around} {s : Shared} {E : Value → Shared → Prop} {l : Addr} {items : Array Value} {n : Nat} {k : Int} {t : Tok} {v : Value} {R : Unit → Shared → Prop} (hl : IsL s.heap l items n) (h0 : 0 ≤ k) (hfit : k < 2 ^ 63) (hn : k < items.size)
    (h : ∀ n', IsL (s.heap.update l (Obj.mapSeq (·.setIfInBounds k.toNat v))) l (items.setIfInBounds k.toNat v) n' → Heap.SameBut l s.heap (s.heap.update l (Obj.mapSeq (·.setIfInBounds k.toNat v))) → R () { s with heap := s.heap.update l (Obj.mapSeq (·.setIfInBounds k.toNat v)) }) :
    wpAny (model prog w) A (setItem (.ref l) (.int k t) v) R E s := by
  have hT := hl.isList.typeIs
  have fin := h _ (hl.update fun xs => xs.setIfInBounds k.toNat v) (Heap.SameBut.update ..)
  obtain ⟨o, ho, hc, ne, hd⟩ := id hl.isList
  clear h
  unfold setItem
  try with_reducible refine wpAny_holding ?_
  first | refine wpAny_bind (wpAny_pure ?_) | skip
  refine wpAny_bind (wpAny_sequenceKey hT (by decide) ?_)
  refine wpAny_bind (wpAny_callSpecial?_slot (name := Str.ofString "__setitem__") hT slot_list_setitem
    (wpAny_call_entry slot_list_setitem hT entry_list_setitem ?_ (args_list_setitem _ _ _)))
  show wpAny _ _ (Builtin.List.listSubscript? (.int k t) >>= _) _ _ s
  refine wpAny_bind (wpAny_listSubscript_int (fitsIndex_of h0 hfit) ?_)

  clear hfit
  obtain ⟨j, rfl⟩ := Int.eq_ofNat_of_zero_le h0
  have hj : j < items.size := by lia
  have hx' : items[j]? = some items[j] := Array.getElem?_eq_getElem hj
  show wpAny _ _ ((seqItemAt l j >>= fun r => pure (r.map (j, ·))) >>= _) _ _ s
  refine wpAny_bind (wpAny_bind (wpAny_seqItemAt ho hd (wpAny_pure ?_)))
  rw [hx']
  show wpAny _ _ (setSeqItemAt l j v >>= _) _ _ s
  refine wpAny_bind (wpAny_setSeqItemAt ho hd ?_)
  first
    | exact wpAny_bind (wpAny_pure (wpAny_pure ⟨.none, rfl, wpAny_pure fin⟩))
    | exact wpAny_pure ⟨.none, rfl, wpAny_pure fin⟩
theorem set_IsL {A : Around} {s : Shared} {E : Value → Shared → Prop} {l : Addr} {items : Array Value} {n : Nat} {j : Nat} {t : Tok} {v : Value} {R : Unit → Shared → Prop} (hl : IsL s.heap l items n) (hj : j < items.size) (hf : (j : Int) < 2 ^ 63)
    (h : ∀ n', IsL (s.heap.update l (Obj.mapSeq (·.setIfInBounds j v))) l (items.setIfInBounds j v) n' → Heap.SameBut l s.heap (s.heap.update l (Obj.mapSeq (·.setIfInBounds j v))) → R () { s with heap := s.heap.update l (Obj.mapSeq (·.setIfInBounds j v)) }) :
    wpAny (model prog w) A (setItem (.ref l) (.int j t) v) R E s :=
  set_IsLk hl (Int.natCast_nonneg _) hf (by lia) h

/-- `x[i] = e`, x an own list -/
theorem X_setitem {x : Str} {e : Expr} {kk : Nat} {i : Nat} {np ip sp pos : Pos} (h : W prog w base env B e ρ μ fun v ρ' μ' => ∃ (k : Nat) (vs : List V), ρ'.lookup x = some (V.lst k) ∧ μ'[k]? = some vs ∧ i < vs.length ∧ QF .next ρ' (μ'.set k (vs.set i v)))
    (hi : i < 1000000) (hd : (x == ("__debug__" : Str)) = false := by rfl)
    (hs : swapsWith e (some (.Subscript (.Name x np) (.Constant (.int (i : Int)) kk ip) sp)) pos.line env = pure false := by rfl) :
    X1 prog w base env B (.Assign [.Subscript (.Name x np) (.Constant (.int (i : Int)) kk ip) sp] e pos) ρ μ QF := fun A s ex φ hA S => by
  refine wpAny_Assign_Subscript (h.use hA S fun u s₁ v ρ₁ μ₁ φ₁ S₁ N₁ M₁ r₁ ⟨k, vs, hx, hv, hlt, q⟩ => ?_) hs
  refine own_name S₁ hx hd fun a ha => ?_
  · refine wpAny_Constant_int ?_
    obtain ⟨us, n, hl, hr⟩ := S₁.lists k a _ ha hv
    refine set_IsL (s := { s₁ with toks := s₁.toks + 1 }) hl (by simp [hr.length]; exact hlt) (by lia) fun n' hl' hsb => ?_
    rw [show us.toArray.setIfInBounds i u = (us.set i u).toArray by simp] at hl'
    obtain ⟨S₃, N₃⟩ := S₁.turn (tk := s₁.toks + 1) ha hl hl' hsb (hr.set i r₁)
    exact ⟨_, _, _, _, S₃, N₁.trans N₃, M₁.trans ⟨_, _, rfl⟩, .next, q⟩

/-- `x = e`, x a cell of the frame -/
theorem X_setcell {x : Str} {c : Addr} {e : Expr} {pos pos' : Pos} (h : W prog w base env B e ρ μ fun v ρ' μ' => QF .next ((x, v) :: ρ') μ') (hf : env.func ≠ none) (hk : env.kindOf x = some .cell) (hc : env.cells.lookup x = some c)
    (hne : ∀ y c', env.cells.lookup y = some c' → y ≠ x → c' ≠ c)
    (hs : swapsWith e (some (.Name x pos')) pos.line env = pure false := by rfl) : X1 prog w base env B (.Assign [.Name x pos'] e pos) ρ μ QF := fun A s ex φ hA S =>
  wpAny_Assign_Name (h.use hA S fun u s₁ v ρ₁ μ₁ φ₁ S₁ N₁ M₁ r₁ q => by
    obtain ⟨hcx, q₀, h0⟩ := S₁.cellx hf _ _ hk hc
    refine wpAny_storeName_cell S₁.ok.kind hk hc h0 fun h' hn hsb => ?_
    obtain ⟨S', N'⟩ := S₁.storec (tk := s₁.toks) hf hk hc hne r₁ hn hsb
    exact ⟨_, _, μ₁, φ₁, S', N₁.trans N', M₁.trans ⟨_, _, rfl⟩, .next, q⟩) hs

/-- `abs(i)` -/
theorem W_abs (C : Cx base mg mb) {p pos : Pos} {e : Expr} (h : W prog w base env B e ρ μ fun v ρ' μ' => ∃ i : Int, v = .d (.int i) ∧ Q (.d (.int (if i < 0 then -i else i))) ρ' μ')
    (hf : mg "abs" = none) (hk : env.kindOf "abs" = some .globalImplicit := by rfl) (he : starEach [e] env = [(false, eval e env)] := by rfl) : W prog w base env B (.Call (.Name "abs" p) [e] [] pos) ρ μ Q := fun A s ex φ hA S => by
  refine Call_Name (trees := backTo pos (starEach [e] env)) rfl (builtin_name S C hf (u := .builtin "abs") PyProof.Rows.boot_abs (by decide) hk (by rfl) (Calls.callWith_builtin (by rw [he]; rfl) ?_))
  rw [he]
  refine Calls.evalArgs_plain (Calls.spliced_cons (h.use hA S fun u s₁ v ρ₁ μ₁ φ₁ S₁ N₁ M₁ r₁ ⟨i, e, q⟩ => Calls.spliced_nil ?_))
  subst e
  obtain ⟨t, rfl⟩ := r₁.data.ofInt
  · skip
    · skip
      show wpAny (model prog w) A (call (.builtin "abs") [.int i t]) _ _ _
      exact PyProof.Rows.call_abs_int fun u tk => ⟨_, ρ₁, μ₁, φ₁, S₁.tok, N₁, M₁.trans ⟨_, _, rfl⟩, .d (.int _ _), q⟩
/-- `list(xs)`: a new list, that no one turns -/
theorem W_list (C : Cx base mg mb) {p pos : Pos} {e : Expr} (h : W prog w base env B e ρ μ fun v ρ' μ' => ∃ xs, listV v μ' = some xs ∧ xs.length ≤ 1000000 ∧ Q (.tl xs) ρ' μ')
    (hf : mg "list" = none) (hk : env.kindOf "list" = some .globalImplicit := by rfl) (he : starEach [e] env = [(false, eval e env)] := by rfl) : W prog w base env B (.Call (.Name "list" p) [e] [] pos) ρ μ Q := fun A s ex φ hA S => by
  refine Call_Name (trees := backTo pos (starEach [e] env)) rfl (builtin_name S C hf (u := .type "list") PyProof.Rows.boot_list (by decide) hk (by rfl) ?_)
  refine PyProof.Rows.callWith_type1 (rest := []) (he := he) ?_
  rw [he]
  refine Calls.spliced_cons (h.use hA S fun u s₁ v ρ₁ μ₁ φ₁ S₁ N₁ M₁ r₁ ⟨xs, e, hlen, q⟩ => Calls.spliced_nil ?_)
  obtain ⟨a, us, n, rfl, hl, hr⟩ := listV_at S₁ e r₁
  have hnew : s₁.heap.get? s₁.heap.objs.size = none := Heap.get?_none_of_le (Nat.le_refl _)
  refine call_list_seq (T := "list") (items := us.toArray) (n := n) a (.inl rfl) hl rfl rfl (fun h' c' k hg => ?_) (Nat.le_trans (by simp [hr.length]; exact hlen) szLine)
  exact ⟨_, ρ₁, μ₁, φ₁, S₁.grow (tk := s₁.toks) k, N₁.trans (.of_stays k), M₁.trans ⟨_, _, rfl⟩, .tl (n := c') hg (hr.mono (.of_stays k)) (S₁.off hnew).1 (S₁.off hnew).2, q⟩
noncomputable def intsD (ns : List Int) : List D := ns.map D.int
theorem ints_items {h : Heap} : ∀ {us : List Value} {ns : List Int}, RepDs h us (intsD ns) → ∃ xs : Array (Int × Tok), us.toArray = intItems xs ∧ xs.toList.map (·.1) = ns
  | [], ns, r => by
    cases ns with
    | nil => exact ⟨#[], by simp [intItems], rfl⟩
    | cons n ns => cases r
  | u :: us, ns, r => by
    cases ns with
    | nil => cases r
    | cons n ns =>
      cases r with
      | cons r1 r =>
        cases r1 with
        | int _ t =>
          obtain ⟨xs, e1, e2⟩ := ints_items (ns := ns) r
          refine ⟨⟨(n, t) :: xs.toList⟩, ?_, ?_⟩
          · have : us = (intItems xs).toList := by rw [← e1]
            rw [this]; simp [intItems]
          · simp [e2]
/-- `sum(ints)` -/
theorem W_sum (C : Cx base mg mb) {p pos : Pos} {e : Expr} (h : W prog w base env B e ρ μ fun v ρ' μ' => ∃ ns, listV v μ' = some (intsD ns) ∧ ∀ i : Int, Q (.d (.int i)) ρ' μ')
    (hf : mg "sum" = none) (hk : env.kindOf "sum" = some .globalImplicit := by rfl) (he : starEach [e] env = [(false, eval e env)] := by rfl) : W prog w base env B (.Call (.Name "sum" p) [e] [] pos) ρ μ Q := fun A s ex φ hA S => by
  refine Call_Name (trees := backTo pos (starEach [e] env)) rfl (builtin_name S C hf (u := .builtin "sum") PyProof.Rows.boot_sum (by decide) hk (by rfl) (Calls.callWith_builtin (by rw [he]; rfl) ?_))
  rw [he]
  refine Calls.evalArgs_plain (Calls.spliced_cons (h.use hA S fun u s₁ v ρ₁ μ₁ φ₁ S₁ N₁ M₁ r₁ ⟨ns, e, q⟩ => Calls.spliced_nil ?_))
  obtain ⟨a, us, n, rfl, hl, hr⟩ := listV_at S₁ e r₁
  obtain ⟨xs, e1, e2⟩ := ints_items hr
  show wpAny (model prog w) A (call (.builtin "sum") [.ref a]) _ _ _
  refine sum_intListG hA.hh (xs := xs) (by rw [← e1]; exact hl.isList) fun h' tk t' k => ?_
  exact ⟨_, ρ₁, μ₁, φ₁, S₁.grow (tk := tk) k, N₁.trans (.of_stays k), M₁.trans ⟨_, _, rfl⟩, .d (.int _ _), q _⟩
/-- a global name that is data -/
theorem W_globalD (C : Cx base mg mb) {f : Str} {p : Pos} {u : Value} {d : D} (hf : mg f = some u) (hr : RepD base u d) (h : Q (.d d) ρ μ) (hk : env.kindOf f = some .globalImplicit := by rfl) (hd : (f == ("__debug__" : Str)) = false := by rfl) : W prog w base env B (.Name f p) ρ μ Q := fun A s ex φ hA S =>
  global_name S C hf hk hd ⟨_, ρ, μ, φ, S, .refl, .refl _, .d (hr.mono (.of_stays S.stays)), h⟩
end
end Mine

/-! part MP13 -/
namespace Mine
open PySem PySem.W PySem.Calls PyProof.Rows PySem.SeqAt PySem.MeetsSeq
section
variable {prog : Program} {w : World} {base : Heap} {env : Env} {B : Nat} {ρ : Vars} {μ : Lists} {Q : V → Vars → Lists → Prop} {QB : Bool → Vars → Lists → Prop} {QF : Fl → Vars → Lists → Prop} {mg mb : Str → Option Value}

noncomputable def NoLst (vs : List V) : Prop := ∀ k, V.lst k ∉ vs
/-- a def that is handed one own list and data: it may turn the list -/
noncomputable def PenFn (prog : Program) (w : World) (base : Heap) (fa : Addr) (B : Nat) (vs : List V) (args : List D) (post : List V → D → Prop) : Prop :=
  ∀ (A : Around) (s : Shared) (a : Addr) (us : List Value) (n : Nat) (ws : List Value), AOk A B → base.StaysIn s.heap → base.get? a = none → IsL s.heap a us.toArray n → Reps s.heap [] [a] us vs → RepDs s.heap ws args →
    wpAny (model prog w) A (call (.ref fa) (.ref a :: ws)) (fun u s' => Sim s s' ∧ (∀ b o, b ≠ a → s.heap.get? b = some o → s'.heap.get? b = some o) ∧
      ∃ us' n' vs' r, IsL s'.heap a (List.toArray us') n' ∧ Reps s'.heap [] [a] us' vs' ∧ RepD s'.heap u r ∧ NoLst vs' ∧ post vs' r) (fun _ _ => False) s

theorem Reps.map {h h' : Heap} {ex φ ex' φ' : List Addr} (k : ∀ u v, Rep h ex φ u v → (∀ j, v ≠ .lst j) → Rep h' ex' φ' u v) {us : List Value} {vs : List V} (r : Reps h ex φ us vs) (n : NoLst vs) : Reps h' ex' φ' us vs := by
  induction r with
  | nil => exact .nil
  | cons a _ ih => exact .cons (k _ _ a fun j q => n j (q ▸ .head _)) (ih fun j m => n j (.tail _ m))

theorem lookup_zip_ds {h : Heap} : ∀ (names : List Str) (ws : List Value) (args : List D), RepDs h ws args → names.length = ws.length → ∀ x v, (names.zip (args.map V.d)).lookup x = some v → ∃ u d, (names.zip ws).lookup x = some u ∧ v = .d d ∧ RepD h u d
  | [], _, _, _, _, x, v, e => by cases e
  | y :: names, [], _, _, hl, x, v, e => by simp at hl
  | y :: names, u :: ws, args, r, hl, x, v, e => by
    cases r with
    | @cons _ d _ ds ru rs =>
      rw [List.map_cons, List.zip_cons_cons, List.lookup_cons] at e
      rw [List.zip_cons_cons, List.lookup_cons]
      cases q : x == y with
      | true => rw [q] at e; cases e; exact ⟨u, d, rfl, rfl, ru⟩
      | false => rw [q] at e; exact lookup_zip_ds names ws ds rs (by simpa using hl) x v e
/-- an own list is turned, and new objects may be laid -/
theorem St.turnx {ex φ : List Addr} {s : Shared} {h' : Heap} {tk : Nat} (S : St base env ex φ ρ μ s) {k : Nat} {a : Addr} (ha : φ[k]? = some a) {us' : List Value} {n' : Nat} {ds : List V} (hl' : IsL h' a us'.toArray n')
    (hs : ∀ b o, b ≠ a → s.heap.get? b = some o → h'.get? b = some o) (hr : Reps h' ex φ us' ds) (hlt : k < μ.length) : St base env ex φ ρ (μ.set k ds) { s with heap := h', toks := tk } ∧ Nx ex φ φ s.heap h' := by
  have hm : a ∈ φ := List.mem_of_getElem? ha
  obtain ⟨us, n, hl, _⟩ := S.lists k a _ ha (List.getElem?_eq_getElem hlt)
  have notT : ∀ o, s.heap.get? a = some o → ¬ (o.cls = .type "tuple" ∧ ∃ items n, o.data = .seq items n) := fun o e c => by
      have : s.heap.get? a = some _ := hl
      rw [this] at e; cases e; exact absurd (show Value.type "list" = Value.type "tuple" from c.1) (by decide)
  have N : Nx ex φ φ s.heap h' := by
    refine ⟨fun b o e c => hs b o (fun q => ?_) e, List.prefix_refl _, fun _ m => .inl m, fun b e => ?_⟩
    · subst q
      exact c.elim (notT o e) fun z => z.2 hm
    · by_cases q : b = a
      · have : h'.get? a = some _ := hl'
        rw [q, this] at e; cases e
      · cases z : s.heap.get? b with
        | none => rfl
        | some o => rw [hs b o q z] at e; cases e
  obtain ⟨m, hn₀, hb⟩ := S.ns
  have naL := isL_ne_ns hl hn₀
  have hnn : h'.Ns env.locals m := by
    obtain ⟨o, es, ep, ho, r⟩ := hn₀
    exact ⟨o, es, ep, hs _ _ (Ne.symm naL) ho, r⟩
  have cellk : ∀ {c : Addr} {q : Option Value}, s.heap.IsCell c q → h'.IsCell c q := fun {c q} hc => let ⟨o, ho, hd⟩ := id hc; ⟨o, hs _ _ (Ne.symm (isL_ne_cell hl hc)) ho, hd⟩
  refine ⟨⟨S.ok, S.hL, ⟨m, hnn, fun y v' e => ?_⟩, fun b o e => ?_, S.offx, S.offl, fun b hb' => ?_, by rw [List.length_set]; exact S.len, S.nodup, fun j b ds' e f => ?_, fun hf x c a b => let ⟨m, q, hc⟩ := S.cellx hf x c a b; ⟨m, q, cellk hc⟩, fun hf ht => (S.tabx hf ht).mono fun b o vs e d _ => hs b o (fun q => by
      subst q
      have hl2 : s.heap.get? b = some _ := hl
      rw [hl2] at e; cases e; cases d) e⟩, N⟩
  · obtain ⟨u', a', r⟩ := hb y v' e
    refine ⟨u', ?_, r.mono N⟩
    cases a' with
    | loc a b => exact .loc a b
    | cell a b c => exact .cell a b (cellk c)
    | free a d b c => exact .free a d b (cellk c)
  · have : b ≠ a := fun q => by rw [q, S.offl _ hm] at e; cases e
    exact hs b o this (S.stays b o e)
  · obtain ⟨o, ho, hd⟩ := S.live b hb'
    have : b ≠ a := fun q => by
      subst q
      have : s.heap.get? b = some _ := hl
      rw [this] at ho; cases ho
      exact hd _ _ rfl
    exact ⟨o, hs b o this ho, hd⟩
  · by_cases q : j = k
    · subst q
      rw [ha] at e; cases e
      rw [List.getElem?_set_self hlt] at f
      cases f
      exact ⟨us', n', hl', hr⟩
    · rw [List.getElem?_set_ne (Ne.symm q)] at f
      obtain ⟨vs, n₂, hl₂, hr₂⟩ := S.lists j b ds' e f
      have : b ≠ a := fun z => by
        subst z
        exact q ((List.getElem?_inj (List.getElem?_eq_some_iff.mp e).1 S.nodup).mp (e.trans ha.symm))
      exact ⟨vs, n₂, hs b _ this hl₂, hr₂.mono N⟩

variable {f : Nat → Addr}
/-- a call of such a def: the caller's one own list is handed on -/
theorem W_pen (C : Cx base mg mb) (Df : Defs base mg prog f) (i : Nat) {name : Str} {params : Arguments} {body : List Stmt} {ds : List Expr} {ret : Option Expr} {tps : List TypeParam} {scope : Scope} {ts : Option Scope} {bind : Str} {dpos : Pos}
    {p pos : Pos} {e : Expr} {es : List Expr}
    (h : WL prog w base env B pos (e :: es) ρ μ fun vs ρ' μ' => ∃ ps args post, vs = .lst 0 :: args.map V.d ∧ μ' = [ps] ∧ NoLst ps ∧ PenFn prog w base (f i) B ps args post ∧ ∀ vs' r, NoLst vs' → post vs' r → Q (.d r) ρ' [vs'])
    (hst : prog.main.body[i]? = some (.FunctionDef name params body ds ret tps scope ts bind dpos) := by rfl)
    (hk : env.kindOf name = some .globalImplicit := by rfl) (hd : (name == ("__debug__" : Str)) = false := by rfl)
    (he : starEach (e :: es) env = (false, eval e env) :: starEach es env := by rfl) : W prog w base env B (.Call (.Name name p) (e :: es) [] pos) ρ μ Q := by
  obtain ⟨fo, doc, pm, an, cd, ct, hm, ho, hfd, hcd⟩ := Df.has _ _ _ _ _ _ _ _ _ _ _ hst
  intro A s ex φ hA S
  refine Call_Name rfl (global_name S C hm hk hd (callWith_function (o := fo) (fd := fnOf name name params body scope .none .none doc pm an cd ct) (args_any he ?_)))
  refine h.use hA S fun us s₁ vs ρ₁ μ₁ φ₁ S₁ N₁ M₁ r₁ ⟨ps, args, post, e1, e2, hno, hF, q⟩ => ⟨⟨S₁.stays _ _ ho, hfd⟩, ?_⟩
  subst e1 e2
  cases r₁ with
  | @cons u₀ _ ws _ r₀ rs =>
    cases r₀ with
    | @lst _ a ha =>
      have hφ : φ₁ = [a] := by
        have := S₁.len
        match φ₁, ha, this with
        | [b], ha, _ => simp at ha; rw [ha]
      subst hφ
      obtain ⟨us₀, n₀, hl, hr⟩ := S₁.lists 0 a ps rfl rfl
      refine wpAny_mono (hF A s₁ a us₀ n₀ ws hA S₁.stays (S₁.offl _ (.head _)) hl (hr.map (fun u v r n => by
        cases r with
        | d r => exact .d r
        | lst _ => exact (n _ rfl).elim
        | tl hl hr a b => exact .tl hl hr (fun m => nomatch m) b
        | val => exact .val _) hno) rs.to_ds) (fun u s₂ ⟨M, k, us', n', vs', r, hl', hr', ru, hno', hp⟩ => ?_) fun _ _ x => x
      obtain ⟨h₂, tk₂, rfl⟩ := M
      have hr₂ : Reps h₂ ex [a] us' vs' := hr'.map (fun u v r n => by
        cases r with
        | d r => exact .d r
        | lst _ => exact (n _ rfl).elim
        | @tl l us n xs hl hr c b =>
          refine .tl hl hr (fun m => ?_) b
          obtain ⟨o, ho, hd⟩ := S₁.live _ m
          have hla : l ≠ a := fun q => b (q ▸ .head _)
          have := k l o hla ho
          have hl2 : h₂.get? l = some _ := hl
          rw [hl2] at this; cases this
          exact hd _ _ rfl
        | val => exact .val _) hno'
      obtain ⟨S₂, N₂⟩ := S₁.turnx (tk := tk₂) (k := 0) rfl hl' k hr₂ (by simp)
      exact ⟨_, ρ₁, _, _, S₂, N₁.trans N₂, M₁.trans ⟨_, _, rfl⟩, .d ru, q _ _ hno' hp⟩

/-- such a contract, from the program -/
theorem Fn_pen (C : Cx base mg mb) (Df : Defs base mg prog f) {i : Nat} {name : Str} {params : Arguments} {body : List Stmt} {ds : List Expr} {ret : Option Expr} {tps : List TypeParam} {scope : Scope} {ts : Option Scope} {bind : Str} {pos : Pos} {x₀ : Str} {names : List Str} {vs : List V} {args : List D} {post : List V → D → Prop}
    (hst : prog.main.body[i]? = some (.FunctionDef name params body ds ret tps scope ts bind pos))
    (hbind : ∀ doc pm an cd ct (u : Value) (us : List Value), us.length = names.length → bindArgs (fnOf name name params body scope .none .none doc pm an cd ct) ⟨u :: us, []⟩ = pure ((x₀, u) :: names.zip us))
    (hno : NoLst vs)
    (h : ∀ doc pm an cd ct L, X prog w base (callEnv (fnOf name name params body scope .none .none doc pm an cd ct) L (f i)) B body ((x₀, .lst 0) :: names.zip (args.map V.d)) [vs] fun fl _ μ' => ∃ r vs', fl = .ret (.d r) ∧ μ'[0]? = some vs' ∧ NoLst vs' ∧ post vs' r)
    (hn : names.length = args.length := by rfl) (hnd : (x₀ :: names).Nodup := by decide) (hloc : ∀ x ∈ x₀ :: names, scope.names.lookup x = some .local := by decide) (hcell : ∀ x ∈ scope.names, x.2 ≠ .cell := by decide)
    (hco : scope.isCoroutine = false := by rfl) (hgen : scope.isGenerator = false := by rfl) (hk : scope.kind = .function := by rfl) : PenFn prog w base (f i) (B + 1) vs args post := by
  obtain ⟨fo, doc, pm, an, cd, ct, _, ho, hfd, hcd⟩ := Df.has _ _ _ _ _ _ _ _ _ _ _ hst
  intro A s a us n ws hA hst' hba hl hr hw
  have hlen : names.length = ws.length := by rw [hw.length, hn]
  refine wpAny_call ?_
  have h' := h doc pm an cd ct s.heap.objs.size
  have hbind' := hbind doc pm an cd ct (.ref a) ws hlen.symm
  generalize hfdd : fnOf name name params body scope .none .none doc pm an cd ct = fd at *
  have hsc : fd.scope = scope := by rw [← hfdd]
  have hbd : fd.body = .stmts body := by rw [← hfdd]
  have hqn : fd.qualname = name := by rw [← hfdd]
  have hcdd : fd.code = cd := by rw [← hfdd]
  refine codeAny_call_def (fd := fd) (body := body) (binds := (x₀, .ref a) :: names.zip ws) (by have := hA.dep; show A.depth < 1000; lia) (hst' _ _ ho) hfd (C.lim.keeps hst') (by rw [hcdd, hqn]; exact hcd.keeps hst') hbd (.of_eq hbind') (by rw [hsc]; exact hcell) (fun x hx => ?_) (fun h₀ hns hk₀ => ?_) (by rw [hsc]; exact hco) (by rw [hsc]; exact hgen) (by rw [hsc]; exact hk)
  · rw [hsc]
    rcases List.mem_cons.mp hx with rfl | hx
    · exact hloc _ (.head _)
    · exact hloc x.1 (.tail _ (List.of_mem_zip hx).1)
  · have hA' : AOk (A.deeper (callEnv fd s.heap.objs.size (f i))) B := ⟨hA.hh, by have := hA.dep; show A.depth + 1 + B ≤ 900; lia, by have := hA.un; show A.units + 3 + 16 * B ≤ 9000; lia⟩
    have hnew : s.heap.get? s.heap.objs.size = none := Heap.get?_none_of_le (Nat.le_refl _)
    have hla : a ≠ s.heap.objs.size := fun q => by
      have hl2 : s.heap.get? a = some _ := hl
      rw [q, hnew] at hl2; cases hl2
    have hz : ((x₀, Value.ref a) :: names.zip ws).map (·.1) = x₀ :: names := by
      rw [List.map_cons, List.map_fst_zip]
      lia
    have kl : ∀ x ∈ x₀ :: names, (callEnv fd s.heap.objs.size (f i)).kindOf x = some .local := fun x hx => by
      show fd.scope.names.lookup x = _
      rw [hsc]; exact hloc x hx
    have S₀ : St base (callEnv fd s.heap.objs.size (f i)) [s.heap.objs.size] [a] ((x₀, .lst 0) :: names.zip (args.map V.d)) [vs] { s with heap := h₀, toks := s.toks + ((x₀, Value.ref a) :: names.zip ws).length } := by
      refine ⟨⟨by show fd.scope.kind = _; rw [hsc]; exact hk, by rw [← hfdd]; rfl, by rw [← hfdd]; rfl⟩, .head _, ⟨_, hns, fun x v e => ?_⟩, fun b o e => hk₀ b o (hst' b o e), fun b hb' => ?_, fun b hb' => ?_, fun b hb' => ?_, rfl, by simp, fun k b ds e e' => ?_, fun _ x c e _ => ?_, fun _ q => ?_⟩
      · have look : ∀ x u, ((x₀, Value.ref a) :: names.zip ws).lookup x = some u → ((x₀, Value.ref a) :: names.zip ws).reverse.lookup x = some u := fun x u e => by
          rw [lookup_reverse_nodup _ (by rw [hz]; exact hnd)]; exact e
        rw [List.lookup_cons] at e
        by_cases q : x = x₀
        · subst q
          rw [beq_self_eq_true] at e
          cases e
          exact ⟨.ref a, .loc (kl _ (.head _)) (look _ _ (by rw [List.lookup_cons, beq_self_eq_true])), .lst rfl⟩
        · rw [beq_eq_false_iff_ne.mpr q] at e
          obtain ⟨u, d, hu, rfl, ru⟩ := lookup_zip_ds names ws args hw hlen x v e
          have hm : x ∈ names := (List.of_mem_zip (mem_of_lookup hu)).1
          exact ⟨u, .loc (kl _ (.tail _ hm)) (look _ _ (by rw [List.lookup_cons, beq_eq_false_iff_ne.mpr q]; exact hu)), .d (ru.mono (.of_stays hk₀))⟩
      · rw [List.mem_singleton.mp hb']
        cases q : base.get? s.heap.objs.size with
        | none => rfl
        | some o => have := hst' _ _ q; rw [hnew] at this; cases this
      · rw [List.mem_singleton.mp hb']; exact hba
      · rw [List.mem_singleton.mp hb']
        exact ns_not_seq hns
      · match k, e, e' with
        | 0, e, e' =>
          cases e; cases e'
          exact ⟨us, n, hk₀ _ _ hl, hr.map (fun u v r n => by
            cases r with
            | d r => exact .d (r.mono (.of_stays hk₀))
            | lst _ => exact (n _ rfl).elim
            | @tl l us' n' xs hl' hr' c b =>
              refine .tl (hk₀ _ _ hl') (hr'.mono (.of_stays hk₀)) (fun m => ?_) b
              have hl2 : s.heap.get? l = some _ := hl'
              rw [List.mem_singleton.mp m, hnew] at hl2; cases hl2
            | val => exact .val _) hno⟩
        | k + 1, e, e' => simp at e
      · have e1 : fd.scope.names.lookup x = some .cell := e
        rw [hsc] at e1
        exact (hcell (x, .cell) (mem_of_lookup e1) rfl).elim
      · have e1 : fd.scope.names.lookup (Str.ofString "truths") = some .cell := q
        rw [hsc] at e1
        exact (hcell (_, .cell) (mem_of_lookup e1) rfl).elim
    refine wpAny_mono (T.use h' hA' S₀ (R := fun fl s' => ∃ u, fl = .ret u ∧ (Sim s s' ∧ (∀ b o, b ≠ a → s.heap.get? b = some o → s'.heap.get? b = some o) ∧
      ∃ us' n' vs' r, IsL s'.heap a (List.toArray us') n' ∧ Reps s'.heap [] [a] us' vs' ∧ RepD s'.heap u r ∧ NoLst vs' ∧ post vs' r)) fun fl s' f' ρ' μ' φ' S' N M rf ⟨r, vs', e, hv, hno', hp⟩ => ?_) (fun fl s' ⟨u, e, q⟩ => by subst e; exact q) fun _ _ x => x.elim
    subst e
    cases rf with
    | ret ru =>
      cases ru with
      | d ru =>
        have ha' : φ'[0]? = some a := by
          obtain ⟨t, rfl⟩ := N.pre
          rfl
        obtain ⟨us', n', hl', hr'⟩ := S'.lists 0 a vs' ha' hv
        refine ⟨_, rfl, Sim.trans ⟨_, _, rfl⟩ M, fun b o nb e => N.keep b o (hk₀ b o e) (.inr ⟨fun m => ?_, fun m => nb (List.mem_singleton.mp m)⟩), us', n', vs', r, hl', hr'.map (fun u v r n => ?_) hno', ru, hno', hp⟩
        · rw [List.mem_singleton.mp m, hnew] at e; cases e
        · cases r with
          | d r => exact .d r
          | lst _ => exact (n _ rfl).elim
          | tl hl hr c b => exact .tl hl hr (fun m => nomatch m) fun m => b (by rw [List.mem_singleton.mp m]; exact List.mem_of_getElem? ha')
          | val => exact .val _
end
end Mine

/-! part MP14 -/
namespace Mine
open PySem PySem.W PySem.Calls PyProof.Rows PySem.SeqAt PySem.MeetsSeq
section
variable {prog : Program} {w : World} {base : Heap} {env : Env} {B : Nat} {ρ : Vars} {μ : Lists} {Q : V → Vars → Lists → Prop} {QB : Bool → Vars → Lists → Prop} {QF : Fl → Vars → Lists → Prop} {mg mb : Str → Option Value}

/-- the frame's table is turned, and new objects may be laid -/
theorem St.tabset {ex φ : List Addr} {s : Shared} {h' : Heap} {tk : Nat} (S : St base env ex φ ρ μ s) {P c : Addr} {ps ps' : Array Value} (hcode : env.code = .ref c) (hhd : CodeHd base c P) (hP : P ∈ ex) (hg : s.heap.get? P = some (tabObj ps))
    (hs : ∀ b o, b ≠ P → s.heap.get? b = some o → h'.get? b = some o) (hg' : h'.get? P = some (tabObj ps')) (ht' : TabOk h' (env.qual ++ "<lambda>") ps') : St base env ex φ ρ μ { s with heap := h', toks := tk } ∧ Nx ex φ φ s.heap h' := by
  have N : Nx ex φ φ s.heap h' := by
    refine ⟨fun b o e c => hs b o (fun q => ?_) e, List.prefix_refl _, fun _ m => .inl m, fun b e => ?_⟩
    · subst q
      rw [hg] at e; cases e
      exact c.elim (fun z => by cases z.1) fun z => z.1 hP
    · by_cases q : b = P
      · rw [q, hg'] at e; cases e
      · cases z : s.heap.get? b with
        | none => rfl
        | some o => rw [hs b o q z] at e; cases e
  have off : ∀ b o, s.heap.get? b = some o → (∀ vs, o.data ≠ .fields vs) → h'.get? b = some o := fun b o e n => hs b o (fun q => by
    subst q
    rw [hg] at e; cases e
    exact n _ rfl) e
  obtain ⟨m, hn, hbd⟩ := S.ns
  have cellk : ∀ {c : Addr} {q : Option Value}, s.heap.IsCell c q → h'.IsCell c q := fun {c q} hc => let ⟨o, ho, hd⟩ := id hc; ⟨o, off _ _ ho fun vs q => (by rw [hd] at q; cases q), hd⟩
  refine ⟨⟨S.ok, S.hL, ⟨m, ?_, fun x v e => ?_⟩, fun b o e => hs b o (fun m => by rw [m, S.offx P hP] at e; cases e) (S.stays b o e), S.offx, S.offl, fun b hb' => ?_, S.len, S.nodup, fun k a ds e f => ?_, fun hf x c a b => let ⟨m, q, hc⟩ := S.cellx hf x c a b; ⟨m, q, cellk hc⟩, fun hf ht => ⟨c, P, ps', hcode, hhd, hP, hg', ht'⟩⟩, N⟩
  · obtain ⟨o, es, ep, ho, hd, r⟩ := hn
    exact ⟨o, es, ep, off _ _ ho fun vs q => (by rw [hd] at q; cases q), hd, r⟩
  · obtain ⟨u, a, r⟩ := hbd x v e
    refine ⟨u, ?_, r.mono N⟩
    cases a with
    | loc a b => exact .loc a b
    | cell a b c => exact .cell a b (cellk c)
    | free a d b c => exact .free a d b (cellk c)
  · by_cases q : b = P
    · exact ⟨_, q ▸ hg', fun _ _ z => by cases z⟩
    · obtain ⟨o, ho, hd⟩ := S.live b hb'
      exact ⟨o, hs b o q ho, hd⟩
  · obtain ⟨us, n, hl, hr⟩ := S.lists k a ds e f
    exact ⟨us, n, off _ _ hl (fun vs q => by cases q), hr.mono N⟩

/-- what a lambda's making needs of the top -/
structure Bm (base : Heap) (mg : Str → Option Value) : Prop where
  bm : ∃ bm ob, mg "__builtins__" = some (.ref bm) ∧ bm ≠ builtinsNs ∧ base.get? bm = some ob ∧ ob.cls = .type "module" ∧ ob.dict = some builtinsNs ∧ ob.data = .plain

theorem lam_eval (C : Cx base mg mb) (Bb : Bm base mg) {A : Around} {s : Shared} {ex φ : List Addr} {R : Value → Shared → Prop} {args : Arguments} {body : Expr} {scope : Scope} {lpos : Pos} {q : Str × Addr} {cl : List (Str × Addr)}
    (S : St base env ex φ ρ μ s) (hf : env.func ≠ none) (ht : env.kindOf "truths" = some .cell) (hcl : closureFor scope env = pure (q :: cl)) (hdf : defaultsOf args env = ([], [])) (hl : lpos.line = 156) (hc : lpos.col = 27)
    (h : ∀ fa s' cd ctv, St base env ex φ ρ μ s' → Nx ex φ φ s.heap s'.heap → Sim s s' → s'.heap.get? fa = some { cls := .type "function", data := .func (kla_fn "<lambda>" (env.qual ++ "<lambda>") args body scope (q :: cl) ((mg "__name__").getD .none) cd ctv) } → s'.heap.CodeRec cd (env.qual ++ "<lambda>") → R (.ref fa) s') :
    wpAny (model prog w) A (eval (.Lambda args body scope lpos) env) R (fun _ _ => False) s := by
  rw [PySem.arm_eval_Lambda, hdf]
  refine wpAny_bind (wpAny_pure (wpAny_bind (wpAny_holding (wpAny_pure ?_))))
  rw [makeFunction_eq]
  simp only [List.zip_nil_right, List.filterMap_nil, List.isEmpty_nil, if_true, pure_bind]
  obtain ⟨c, P, ps, hcode, hhd, hP, hg, htab⟩ := S.tabx hf ht
  obtain ⟨bm, ob, hbm, hne0, hbo, hcls, hdict, hdata⟩ := Bb.bm
  have hG := C.g.keeps S.stays
  have hbo' := S.stays _ _ hbo
  have C' := hhd.keeps S.stays
  have hPG : mainGlobals ≠ P := fun q => by
    obtain ⟨o, es, ep, ho, hd, _⟩ := hG
    rw [q, hg] at ho; cases ho; cases hd
  have hPb : bm ≠ P := fun q => by
    rw [q, hg] at hbo'; cases hbo'; cases hcls
  unfold makeTail
  rw [hcl, S.ok.glob]
  refine wpAny_bind (wpAny_pure ?_)
  simp only [List.isEmpty_cons, Bool.false_eq_true, if_false]
  refine wpAny_bind (wpAny_newTextTuple ?_)
  have kp : ∀ oT : Obj, ∀ b o, s.heap.get? b = some o → (s.heap.push oT).get? b = some o := fun oT b o e => Heap.get?_push_of_some _ e
  rcases htab with rfl | ⟨c', rfl, o', vs', t', ho', hcl', hd', hv'⟩
  · refine wpAny_bind (wpAny_functionCodeX hcode ((C'.keeps (kp _)).code (kp _ _ _ hg) trivial) ((C'.keeps (kp _)).tab (kp _ _ _ hg)) rfl fun c' h' tk hx hge hlt _ hrec htb ⟨P', _, hic, htc⟩ => ?_)
    have hg' := (hG.push _).extBut hx hPG
    refine wpAny_bind (wpAny_builtinsFor hg' hbm hne0 (hx _ _ hPb (kp _ _ _ hbo')) hcls hdict hdata ?_)
    refine wpAny_bind (wpAny_nsGet hg' ?_)
    refine wpAny_bind (wpAny_pure (wpAny_newObj_type ?_ (by size_fits)))
    have hccl : CodeCl h' c' (env.qual ++ "<lambda>") := by
      obtain ⟨c₂, oc, vs, t, e2, hoc, hd, hv⟩ := hrec
      cases e2
      obtain ⟨o, vs2, file, tf, flags, tg, inF, text, tt, e1, e3, e4, _⟩ := CodeHd.of hic htc
      rw [hoc] at e1; cases e1
      exact ⟨oc, vs, t, hoc, e3, hd, hv⟩
    have e1 : (#[] ++ #[rawInt lpos.line, rawInt lpos.col, Value.ref c'] : Array Value) = #[rawInt 156, rawInt 27, .ref c'] := by rw [hl, hc]; rfl
    have hps := htb.2
    rw [e1] at hps
    obtain ⟨S', N'⟩ := S.tabset (h' := h'.push { cls := .type "function", data := .func (kla_fn "<lambda>" (env.qual ++ "<lambda>") args body scope (q :: cl) ((mg "__name__").getD .none) (.ref c') (.ref s.heap.objs.size)) }) (tk := tk) hcode hhd hP hg
      (fun b o nb e => Heap.get?_push_of_some _ (hx b o nb (kp _ _ _ e))) (Heap.get?_push_of_some _ hps) (.inr ⟨c', rfl, let ⟨o, vs, t, e, r⟩ := hccl; ⟨o, vs, t, Heap.get?_push_of_some _ e, r⟩⟩)
    exact h _ _ _ _ S' N' ⟨_, _, rfl⟩ (Heap.get?_push_size _ rfl) (hrec.push _)
  · have e1 : codeAmong lpos (#[rawInt 156, rawInt 27, Value.ref c'] : Array Value).toList = some (.ref c') := by
      simp [codeAmong, rawInt, hl, hc]
    refine wpAny_bind (wpAny_functionCode_hit hcode ((C'.keeps (kp _)).code (kp _ _ _ hg) (by simp [TriplesOk, rawInt])) e1 ?_)
    have hg' := hG.push { cls := .type "tuple", data := .seq (((q :: cl).mergeSort fun a b => decide (a.1.cps.toList ≤ b.1.cps.toList)).map fun x => Value.ref x.2).toArray }
    refine wpAny_bind (wpAny_builtinsFor (hG.push _) hbm hne0 (kp _ _ _ hbo') hcls hdict hdata ?_)
    refine wpAny_bind (wpAny_nsGet (hG.push _) ?_)
    refine wpAny_bind (wpAny_pure (wpAny_newObj_type ?_ (by size_fits)))
    have k : ∀ oT o2 : Obj, ∀ b o, s.heap.get? b = some o → ((s.heap.push oT).push o2).get? b = some o := fun oT o2 b o e => Heap.get?_push_of_some _ (kp _ _ _ e)
    exact h _ _ _ _ (S.grow (k _ _)) (.of_stays (k _ _)) ⟨_, _, rfl⟩ (Heap.get?_push_size _ rfl) ⟨c', o', vs', t', rfl, k _ _ _ _ ho', hd', hv'⟩
end
end Mine

/-! part TR -/
namespace Mine
open PySem

/-- the six leaves -/
inductive Lf where
  | seen | work | large | uid | all | body
  deriving DecidableEq
noncomputable def lfDs : Lf → List D
  | .seen => [.str (Str.ofString "flag"), .str (Str.ofString "\\Seen")]
  | .work => [.str (Str.ofString "flag"), .str (Str.ofString "work")]
  | .large => [.str (Str.ofString "larger"), .int 7]
  | .uid => [.str (Str.ofString "uid"), .tup [.tup [.int 1, .int 0]]]
  | .all => [.str (Str.ofString "all")]
  | .body => [.str (Str.ofString "body"), .bytes #[120]]
inductive Tr where
  | leaf (l : Lf)
  | nt (t : Tr)
  | an (a b : Tr)
  | or (a b : Tr)
  deriving DecidableEq
noncomputable def Tr.ds : Tr → List D
  | .leaf l => lfDs l
  | .nt t => [.str (Str.ofString "not"), .tup t.ds]
  | .an a b => [.str (Str.ofString "and"), .tup a.ds, .tup b.ds]
  | .or a b => [.str (Str.ofString "or"), .tup a.ds, .tup b.ds]
noncomputable abbrev Tr.D (t : Tr) : D := .tup t.ds
noncomputable def Tr.size : Tr → Nat
  | .leaf _ => 1
  | .nt t => t.size + 1
  | .an a b => a.size + b.size + 1
  | .or a b => a.size + b.size + 1
theorem Tr.size_pos : ∀ t : Tr, 1 ≤ t.size
  | .leaf _ => by simp [Tr.size]
  | .nt t => by simp [Tr.size]
  | .an a b => by simp [Tr.size]
  | .or a b => by simp [Tr.size]

/-! == of trees -/
theorem str_ne : ∀ a b : String, (Str.ofString a == Str.ofString b) = decide (Str.ofString a = Str.ofString b) := fun a b => rfl
theorem lf_ok : ∀ a b : Lf, okDs (lfDs a) (lfDs b) = true := by intro a b; cases a <;> cases b <;> decide +kernel
theorem lf_eq : ∀ a b : Lf, eqDs (lfDs a) (lfDs b) = decide (a = b) := by intro a b; cases a <;> cases b <;> decide +kernel
theorem ok_head {x y : D} {xs ys : List D} (h : okD x y = true) (n : eqD x y = false) : okDs (x :: xs) (y :: ys) = true := by rw [okDs_cons, h, n]; rfl
noncomputable def Tr.kind : Tr → Str
  | .leaf .seen => Str.ofString "flag"
  | .leaf .work => Str.ofString "flag"
  | .leaf .large => Str.ofString "larger"
  | .leaf .uid => Str.ofString "uid"
  | .leaf .all => Str.ofString "all"
  | .leaf .body => Str.ofString "body"
  | .nt _ => Str.ofString "not"
  | .an _ _ => Str.ofString "and"
  | .or _ _ => Str.ofString "or"
theorem Tr.ds_kind (t : Tr) : ∃ r, t.ds = .str t.kind :: r := by
  cases t with
  | leaf l => cases l <;> exact ⟨_, rfl⟩
  | _ => exact ⟨_, rfl⟩
theorem ok_kinds {t u : Tr} (h : (t.kind == u.kind) = false) : okDs t.ds u.ds = true ∧ eqDs t.ds u.ds = false := by
  obtain ⟨r, e⟩ := t.ds_kind
  obtain ⟨r', e'⟩ := u.ds_kind
  rw [e, e']
  refine ⟨ok_head rfl h, ?_⟩
  rw [eqDs_cons, eqD_str, h, Bool.false_and]
theorem ok_more {x y : D} {xs ys : List D} (h : okD x y = true) (k : okDs xs ys = true) : okDs (x :: xs) (y :: ys) = true := by rw [okDs_cons, h, k]; cases eqD x y <;> rfl
theorem Tr.ok : ∀ t u : Tr, okDs t.ds u.ds = true
  | .leaf a, .leaf b => lf_ok a b
  | .nt t, .nt u => ok_more rfl (ok_more (Tr.ok t u) rfl)
  | .an a b, .an c d => ok_more rfl (ok_more (Tr.ok a c) (ok_more (Tr.ok b d) rfl))
  | .or a b, .or c d => ok_more rfl (ok_more (Tr.ok a c) (ok_more (Tr.ok b d) rfl))
  | .leaf a, .nt _ => (ok_kinds (by cases a <;> rfl)).1
  | .leaf a, .an _ _ => (ok_kinds (by cases a <;> rfl)).1
  | .leaf a, .or _ _ => (ok_kinds (by cases a <;> rfl)).1
  | .nt _, .leaf a => (ok_kinds (by cases a <;> rfl)).1
  | .an _ _, .leaf a => (ok_kinds (by cases a <;> rfl)).1
  | .or _ _, .leaf a => (ok_kinds (by cases a <;> rfl)).1
  | .nt _, .an _ _ => (ok_kinds (by rfl)).1
  | .nt _, .or _ _ => (ok_kinds (by rfl)).1
  | .an _ _, .nt _ => (ok_kinds (by rfl)).1
  | .an _ _, .or _ _ => (ok_kinds (by rfl)).1
  | .or _ _, .nt _ => (ok_kinds (by rfl)).1
  | .or _ _, .an _ _ => (ok_kinds (by rfl)).1
theorem Tr.eq : ∀ t u : Tr, eqDs t.ds u.ds = decide (t = u)
  | .leaf a, .leaf b => by rw [show Tr.ds (.leaf a) = lfDs a from rfl, show Tr.ds (.leaf b) = lfDs b from rfl, lf_eq]; simp
  | .nt t, .nt u => by
    have := Tr.eq t u
    simp [Tr.ds, eqDs_cons, eqD_tup, eqD_str, eqDs_nil, this]
  | .an a b, .an c d => by
    have h1 := Tr.eq a c
    have h2 := Tr.eq b d
    simp [Tr.ds, eqDs_cons, eqD_tup, eqD_str, eqDs_nil, h1, h2]
  | .or a b, .or c d => by
    have h1 := Tr.eq a c
    have h2 := Tr.eq b d
    simp [Tr.ds, eqDs_cons, eqD_tup, eqD_str, eqDs_nil, h1, h2]
  | .leaf a, .nt _ => by rw [(ok_kinds (by cases a <;> rfl)).2]; simp
  | .leaf a, .an _ _ => by rw [(ok_kinds (by cases a <;> rfl)).2]; simp
  | .leaf a, .or _ _ => by rw [(ok_kinds (by cases a <;> rfl)).2]; simp
  | .nt _, .leaf a => by rw [(ok_kinds (by cases a <;> rfl)).2]; simp
  | .an _ _, .leaf a => by rw [(ok_kinds (by cases a <;> rfl)).2]; simp
  | .or _ _, .leaf a => by rw [(ok_kinds (by cases a <;> rfl)).2]; simp
  | .nt _, .an _ _ => by rw [(ok_kinds (by rfl)).2]; simp
  | .nt _, .or _ _ => by rw [(ok_kinds (by rfl)).2]; simp
  | .an _ _, .nt _ => by rw [(ok_kinds (by rfl)).2]; simp
  | .an _ _, .or _ _ => by rw [(ok_kinds (by rfl)).2]; simp
  | .or _ _, .nt _ => by rw [(ok_kinds (by rfl)).2]; simp
  | .or _ _, .an _ _ => by rw [(ok_kinds (by rfl)).2]; simp
theorem Tr.dep : ∀ t : Tr, depDs t.ds ≤ t.size + 1
  | .leaf l => by cases l <;> decide +kernel
  | .nt t => by have := Tr.dep t; simp only [Tr.ds, depDs_cons, depD_tup, Tr.size, dep_str, dep_nil]; lia
  | .an a b => by have h1 := Tr.dep a; have h2 := Tr.dep b; simp only [Tr.ds, depDs_cons, depD_tup, Tr.size, dep_str, dep_nil]; lia
  | .or a b => by have h1 := Tr.dep a; have h2 := Tr.dep b; simp only [Tr.ds, depDs_cons, depD_tup, Tr.size, dep_str, dep_nil]; lia
theorem Tr.eqD (t u : Tr) : eqD t.D u.D = decide (t = u) := by rw [show Mine.eqD t.D u.D = eqDs t.ds u.ds from rfl]; exact Tr.eq t u
theorem Tr.okD (t u : Tr) : okD t.D u.D = true := by rw [show Mine.okD t.D u.D = okDs t.ds u.ds from rfl]; exact Tr.ok t u
theorem Tr.depD (t : Tr) : depD t.D ≤ t.size + 2 := by have := t.dep; show depDs t.ds + 1 ≤ _; lia
theorem cmp_tr_eq {t u : Tr} (h : t.size ≤ 600) : cmpD .Eq t.D u.D = some (decide (t = u)) := by
  have h1 := t.depD
  exact (if_pos ⟨Tr.okD t u, by lia⟩).trans (by rw [Tr.eqD])
theorem cmp_tr_ne {t u : Tr} (h : t.size ≤ 600) : cmpD .NotEq t.D u.D = some (!decide (t = u)) := by
  have h1 := t.depD
  exact (if_pos ⟨Tr.okD t u, by lia⟩).trans (by rw [Tr.eqD])
theorem dep_trs {ts : List Tr} {n : Nat} (h : ∀ t ∈ ts, t.size ≤ n) : depDs (ts.map Tr.D) ≤ n + 2 := depDs_le fun x hx => by
  obtain ⟨t, ht, rfl⟩ := List.mem_map.mp hx
  have := t.depD
  have := h t ht
  lia
theorem any_trs (ts : List Tr) (u : Tr) : ((ts.map Tr.D).any fun x => eqD x u.D) = decide (u ∈ ts) := by
  induction ts with
  | nil => simp
  | cons t ts ih =>
    rw [List.map_cons, List.any_cons, ih, Tr.eqD]
    by_cases h : t = u
    · subst h; simp
    · have h2 : ¬ u = t := fun q => h q.symm
      simp [h, h2]
theorem cmp_tr_in {ts : List Tr} {u : Tr} (h : ∀ t ∈ ts, t.size ≤ 600) : cmpDL .In u.D (some (ts.map Tr.D)) = some (decide (u ∈ ts)) := by
  exact (if_pos ⟨by simp [Tr.okD], by have := dep_trs h; lia⟩).trans (by rw [any_trs])
theorem cmp_tr_notin {ts : List Tr} {u : Tr} (h : ∀ t ∈ ts, t.size ≤ 600) : cmpDL .NotIn u.D (some (ts.map Tr.D)) = some (!decide (u ∈ ts)) := by
  exact (if_pos ⟨by simp [Tr.okD], by have := dep_trs h; lia⟩).trans (by rw [any_trs])
theorem eq_trs (ts us : List Tr) : eqDs (ts.map Tr.D) (us.map Tr.D) = decide (ts = us) := by
  induction ts generalizing us with
  | nil => cases us <;> rfl
  | cons t ts ih =>
    cases us with
    | nil => rfl
    | cons u us => rw [List.map_cons, List.map_cons, eqDs_cons, ih, Tr.eqD]; simp
theorem cmp_trs_ne {ts us : List Tr} (h : ∀ t ∈ ts, t.size ≤ 600) : cmpLL .NotEq (some (ts.map Tr.D)) (some (us.map Tr.D)) = some (!decide (ts = us)) := by
  exact (if_pos ⟨by simp [Tr.okD], by have := dep_trs h; lia⟩).trans (by rw [eq_trs])

/-! steps' ends -/
theorem sub_kind (t : Tr) (μ : Lists) : subV (.d t.D) (.d (.int 0)) μ = some (.d (.str t.kind)) := by
  obtain ⟨r, e⟩ := t.ds_kind
  show (t.ds[0]?).map V.d = _
  rw [e]; rfl
theorem cmp_str_eq (a b : Str) (μ : Lists) : cmpV .Eq (.d (.str a)) (.d (.str b)) μ = some (a == b) := rfl
theorem cmp_str_ne (a b : Str) (μ : Lists) : cmpV .NotEq (.d (.str a)) (.d (.str b)) μ = some (!(a == b)) := rfl
theorem leaf_not (l : Lf) : ((Tr.leaf l).kind == Str.ofString "not") = false := by cases l <;> rfl
theorem leaf_and (l : Lf) : ((Tr.leaf l).kind == Str.ofString "and") = false := by cases l <;> rfl
theorem leaf_or (l : Lf) : ((Tr.leaf l).kind == Str.ofString "or") = false := by cases l <;> rfl

/-! the functions, as plain functions -/
inductive Kd where
  | and | or
  deriving DecidableEq
noncomputable def Kd.str : Kd → Str
  | .and => Str.ofString "and"
  | .or => Str.ofString "or"
noncomputable def Kd.mk : Kd → Tr → Tr → Tr
  | .and => .an
  | .or => .or
noncomputable def opp : Tr → Tr
  | .nt t => t
  | t => .nt t
noncomputable def rowOf : Tr → List Tr
  | .an a b => rowOf a ++ [b]
  | t => [t]
noncomputable def ops (k : Kd) : Tr → List Tr
  | .an a b => if k = .and then ops k a ++ ops k b else [.an a b]
  | .or a b => if k = .or then ops k a ++ ops k b else [.or a b]
  | t => [t]
noncomputable def sizes (ts : List Tr) : Nat := (ts.map Tr.size).sum
theorem sizes_cons (t : Tr) (ts : List Tr) : sizes (t :: ts) = t.size + sizes ts := by simp [sizes]
theorem sizes_append (ts us : List Tr) : sizes (ts ++ us) = sizes ts + sizes us := by simp [sizes]
theorem sizes_len : ∀ ts : List Tr, ts.length ≤ sizes ts
  | [] => by simp
  | t :: ts => by have := t.size_pos; have := sizes_len ts; rw [sizes_cons, List.length_cons]; lia
theorem rowOf_size : ∀ t : Tr, sizes (rowOf t) ≤ t.size
  | .an a b => by
    have := rowOf_size a
    rw [rowOf, sizes_append]
    simp only [sizes, List.map_cons, List.map_nil, List.sum_cons, List.sum_nil, Tr.size] at *
    lia
  | .leaf l => by simp [rowOf, sizes]
  | .nt t => by simp [rowOf, sizes]
  | .or a b => by simp [rowOf, sizes]
theorem ops_size (k : Kd) : ∀ t : Tr, sizes (ops k t) ≤ t.size
  | .an a b => by
    have h1 := ops_size k a
    have h2 := ops_size k b
    rw [ops]
    split
    · rw [sizes_append]; simp only [Tr.size]; lia
    · simp [sizes]
  | .or a b => by
    have h1 := ops_size k a
    have h2 := ops_size k b
    rw [ops]
    split
    · rw [sizes_append]; simp only [Tr.size]; lia
    · simp [sizes]
  | .leaf l => by simp [ops, sizes]
  | .nt t => by simp [ops, sizes]
end Mine

/-! part F1 -/
namespace Mine
open PySem PySem.W PySem.Calls PyProof.Rows PySem.SeqAt PySem.MeetsSeq

noncomputable abbrev PR : Program := PySem.Challenge.pw_no0351_01
noncomputable abbrev Trs (ts : List Tr) : List V := ts.map fun t => V.d t.D
noncomputable abbrev TrD (ts : List Tr) : List D := ts.map Tr.D
theorem Trs_eq (ts : List Tr) : Trs ts = (TrD ts).map V.d := by simp [Trs, TrD]
theorem len0 {α : Type} {us : List α} (h : us.length = 0) : us = [] := List.length_eq_zero_iff.mp h
theorem len1 {α : Type} {us : List α} (h : us.length = 1) : ∃ a, us = [a] := List.length_eq_one_iff.mp h
theorem len2 {α : Type} {us : List α} (h : us.length = 2) : ∃ a b, us = [a, b] := by
  match us, h with
  | [a, b], _ => exact ⟨a, b, rfl⟩
theorem len3 {α : Type} {us : List α} (h : us.length = 3) : ∃ a b c, us = [a, b, c] := by
  match us, h with
  | [a, b, c], _ => exact ⟨a, b, c, rfl⟩
theorem vs_nil {ρ : Vars} : ∀ p ∈ ([] : Vars), ρ.lookup p.1 = some p.2 := fun _ h => nomatch h
theorem vs_cons {ρ r : Vars} {x : Str} {v : V} (e : ρ.lookup x = some v) (h : ∀ p ∈ r, ρ.lookup p.1 = some p.2) : ∀ p ∈ (x, v) :: r, ρ.lookup p.1 = some p.2 := List.forall_mem_cons.mpr ⟨e, h⟩
theorem row_cases (t : Tr) : (∃ a b, t = .an a b) ∨ ((t.kind == Str.ofString "and") = false ∧ rowOf t = [t]) := by
  cases t with
  | an a b => exact .inl ⟨a, b, rfl⟩
  | leaf l => exact .inr ⟨leaf_and l, rfl⟩
  | nt a => exact .inr ⟨rfl, rfl⟩
  | or a b => exact .inr ⟨rfl, rfl⟩
theorem allD_Trs (ts : List Tr) : allD (Trs ts) = some (TrD ts) := by rw [Trs_eq, allD_map]

section
variable {w : World} {base : Heap} {mg mb : Str → Option Value} {f : Nat → Addr} (C : Cx base mg mb) (Df : Defs base mg PR f)
include C Df

theorem every_fn : Fn PR w base (f 1) 1 [] (.d (Tr.leaf .all).D) := by
  refine Fn_def C Df (i := 1) (names := []) rfl (fun _ _ _ _ _ us h => ?_) (fun doc pm an cd ct L => ?_)
  · cases len0 h; rfl
  · dsimp only [List.map, List.zip, List.zipWith, inV]
    ((with_reducible refine X_cons ?_); (with_reducible refine X_ret ?_); (with_reducible refine W_Tuple ?_); refine WL_cons ?_; (with_reducible refine W_str ?_); (with_reducible refine WL_nil ?_); refine ⟨_, rfl, Nat.le_of_ble_eq_true rfl, ?_⟩)
    exact ⟨_, rfl, rfl⟩
theorem no_fn : Fn PR w base (f 2) 1 [] (.d (Tr.nt (.leaf .all)).D) := by
  refine Fn_def C Df (i := 2) (names := []) rfl (fun _ _ _ _ _ us h => ?_) (fun doc pm an cd ct L => ?_)
  · cases len0 h; rfl
  · dsimp only [List.map, List.zip, List.zipWith, inV]
    ((with_reducible refine X_cons ?_); (with_reducible refine X_ret ?_); (with_reducible refine W_Tuple ?_); refine WL_cons ?_; (with_reducible refine W_str ?_); refine WL_cons ?_; (with_reducible refine W_Tuple ?_); refine WL_cons ?_; (with_reducible refine W_str ?_); (with_reducible refine WL_nil ?_); refine ⟨_, rfl, Nat.le_of_ble_eq_true rfl, ?_⟩; (with_reducible refine WL_nil ?_); refine ⟨_, rfl, Nat.le_of_ble_eq_true rfl, ?_⟩)
    exact ⟨_, rfl, rfl⟩
theorem opposite_fn (t : Tr) : Fn PR w base (f 5) 1 [.d t.D] (.d (opp t).D) := by
  refine Fn_def C Df (i := 5) (names := [Str.ofString "tree"]) rfl (fun _ _ _ _ _ us h => ?_) (fun doc pm an cd ct L => ?_)
  · obtain ⟨a, rfl⟩ := len1 h; rfl
  · dsimp only [List.map, List.zip, List.zipWith, inV]
    ((with_reducible refine X_cons ?_); (with_reducible refine X_ret ?_); (with_reducible refine W_IfExp ?_); refine WB_Cmp ?_; refine W_Sub ?_; refine W_Name rfl ?_; (with_reducible refine W_int ?_); refine ⟨_, sub_kind _ _, ?_⟩; (with_reducible refine W_str ?_); refine ⟨_, cmp_str_eq _ _ _, ?_⟩)
    cases t with
    | nt u =>
      refine ite_t rfl ?_
      (refine W_Sub ?_; refine W_Name rfl ?_; (with_reducible refine W_int ?_); refine ⟨_, rfl, ?_⟩)
      exact ⟨_, rfl, rfl⟩
    | leaf l =>
      refine ite_f (leaf_not l) ?_
      ((with_reducible refine W_Tuple ?_); refine WL_cons ?_; (with_reducible refine W_str ?_); refine WL_cons ?_; refine W_Name rfl ?_; (with_reducible refine WL_nil ?_); refine ⟨_, rfl, Nat.le_of_ble_eq_true rfl, ?_⟩)
      exact ⟨_, rfl, rfl⟩
    | an a b =>
      refine ite_f rfl ?_
      ((with_reducible refine W_Tuple ?_); refine WL_cons ?_; (with_reducible refine W_str ?_); refine WL_cons ?_; refine W_Name rfl ?_; (with_reducible refine WL_nil ?_); refine ⟨_, rfl, Nat.le_of_ble_eq_true rfl, ?_⟩)
      exact ⟨_, rfl, rfl⟩
    | or a b =>
      refine ite_f rfl ?_
      ((with_reducible refine W_Tuple ?_); refine WL_cons ?_; (with_reducible refine W_str ?_); refine WL_cons ?_; refine W_Name rfl ?_; (with_reducible refine WL_nil ?_); refine ⟨_, rfl, Nat.le_of_ble_eq_true rfl, ?_⟩)
      exact ⟨_, rfl, rfl⟩

theorem row_fn (t : Tr) (ht : t.size ≤ 600) : Fn PR w base (f 3) 1 [.d t.D] (.l (TrD (rowOf t))) := by
  refine Fn_def C Df (i := 3) (names := [Str.ofString "tree"]) rfl (fun _ _ _ _ _ us h => ?_) (fun doc pm an cd ct L => ?_)
  · obtain ⟨a, rfl⟩ := len1 h; rfl
  · dsimp only [List.map, List.zip, List.zipWith, inV]
    ((with_reducible refine X_cons ?_); refine X_set (W_ListM ?_); (with_reducible refine WL_nil ?_); refine ⟨Nat.le_of_ble_eq_true rfl, ?_⟩; (with_reducible refine X_cons ?_); (with_reducible refine X_while ?_))
    refine LT_ind (ι := Tr × List Tr) (fun i => [(Str.ofString "found", .lst 0), (Str.ofString "tree", .d i.1.D)]) (fun i => [Trs i.2]) (fun i => i.1.size) (fun i => rowOf t = rowOf i.1 ++ i.2.reverse ∧ i.2.length + i.1.size ≤ 600) (t, []) ⟨by simp, by simpa using ht⟩ (vs_cons rfl (vs_cons rfl vs_nil)) rfl fun i hi ih => ?_
    obtain ⟨cur, acc⟩ := i
    obtain ⟨hr, hl⟩ := hi
    refine LT_while ?_
    dsimp only at hr hl ⊢
    (refine WB_Cmp ?_; refine W_Sub ?_; refine W_Name rfl ?_; (with_reducible refine W_int ?_); refine ⟨_, sub_kind _ _, ?_⟩; (with_reducible refine W_str ?_); refine ⟨_, cmp_str_eq _ _ _, ?_⟩)
    rcases row_cases cur with ⟨a, b, rfl⟩ | ⟨hk, hc⟩
    · refine ite_t rfl ?_
      ((with_reducible refine X_cons ?_); refine X_expr ?_; refine W_append rfl ?_ (Nat.le_of_ble_eq_true rfl); refine W_Sub ?_; refine W_Name rfl ?_; (with_reducible refine W_int ?_); refine ⟨_, rfl, ?_⟩)
      refine ⟨_, rfl, by simp; omega, ?_⟩
      refine ⟨rfl, ?_⟩
      ((with_reducible refine X_cons ?_); refine X_set ?_; refine W_Sub ?_; refine W_Name rfl ?_; (with_reducible refine W_int ?_); refine ⟨_, rfl, ?_⟩; (with_reducible refine X_nil ?_))
      refine ih (a, acc ++ [b]) _ _ ⟨?_, ?_⟩ ?_ (vs_cons rfl (vs_cons rfl vs_nil)) ?_
      · rw [hr]; simp [rowOf]
      · simp only [Tr.size, List.length_append, List.length_singleton] at hl ⊢; omega
      · simp only [Tr.size]; omega
      · simp
    · refine ite_f hk ?_
      rw [hc] at hr
      ((with_reducible refine X_cons ?_); refine X_expr ?_; refine W_append rfl ?_ (Nat.le_of_ble_eq_true rfl); refine W_Name rfl ?_)
      refine ⟨_, rfl, by simp; omega, ?_⟩
      refine ⟨rfl, ?_⟩
      ((with_reducible refine X_cons ?_); (with_reducible refine X_ret ?_); refine W_rev ?_; refine W_Name rfl ?_)
      refine ⟨TrD (acc ++ [cur]), ?_, by simp; omega, ?_⟩
      · show allD (Trs acc ++ [V.d cur.D]) = _
        rw [show Trs acc ++ [V.d cur.D] = Trs (acc ++ [cur]) by simp, allD_Trs]
      · refine ⟨_, rfl, ?_⟩
        show Option.map PV.l (allD (List.map V.d (TrD (acc ++ [cur])).reverse)) = _
        rw [allD_map, hr]
        simp
end

/-! part F2 -/
theorem cmp_trs_nil {ts : List Tr} {k : Nat} {μ : Lists} (e : μ[k]? = some (Trs ts)) (h : ∀ t ∈ ts, t.size ≤ 600) : cmpV .NotEq (.lst k) (.tl []) μ = some (!decide (ts = [])) := by
  show cmpLL .NotEq (match μ[k]? with | some vs => allD vs | none => none) (some []) = _
  rw [e]
  show cmpLL .NotEq (allD (Trs ts)) (some (([] : List Tr).map Tr.D)) = _
  rw [allD_Trs, cmp_trs_ne h]
theorem size_mem {ts : List Tr} {t : Tr} (h : t ∈ ts) : t.size ≤ sizes ts := by
  induction ts with
  | nil => cases h
  | cons u us ih =>
    rw [sizes_cons]
    cases h with
    | head => lia
    | tail _ h => have := ih h; lia
theorem ops_cases (k : Kd) (t : Tr) : (∃ a b, t = k.mk a b) ∨ ((t.kind == k.str) = false ∧ ops k t = [t]) := by
  cases k <;> cases t with
  | leaf l => cases l <;> exact .inr ⟨rfl, rfl⟩
  | nt a => exact .inr ⟨rfl, rfl⟩
  | an a b => first | exact .inl ⟨a, b, rfl⟩ | exact .inr ⟨rfl, rfl⟩
  | or a b => first | exact .inl ⟨a, b, rfl⟩ | exact .inr ⟨rfl, rfl⟩
theorem ops_mk (k : Kd) (a b : Tr) : ops k (k.mk a b) = ops k a ++ ops k b := by cases k <;> simp [Kd.mk, ops]
theorem mk_size (k : Kd) (a b : Tr) : (k.mk a b).size = a.size + b.size + 1 := by cases k <;> rfl

section
variable {w : World} {base : Heap} {mg mb : Str → Option Value} {f : Nat → Addr} (C : Cx base mg mb) (Df : Defs base mg PR f)
include C Df

theorem operands_fn (k : Kd) (t : Tr) (ht : t.size ≤ 600) : Fn PR w base (f 4) 1 [.d (.str k.str), .d t.D] (.l (TrD (ops k t))) := by
  refine Fn_def C Df (i := 4) (names := [Str.ofString "kind", Str.ofString "tree"]) rfl (fun _ _ _ _ _ us h => ?_) (fun doc pm an cd ct L => ?_)
  · obtain ⟨a, b, rfl⟩ := len2 h; rfl
  · dsimp only [List.map, List.zip, List.zipWith, inV]
    refine X_cons (X_set2 (W_ListM (WL_nil ⟨Nat.le_of_ble_eq_true rfl, W_ListM ?_⟩)))
    (refine WL_cons ?_; refine W_Name rfl ?_; (with_reducible refine WL_nil ?_); refine ⟨Nat.le_of_ble_eq_true rfl, ?_⟩; (with_reducible refine X_cons ?_); (with_reducible refine X_while ?_))
    refine LT_ind (ι := List Tr × List Tr) (fun i => [(Str.ofString "found", .lst 0), (Str.ofString "left", .lst 1), (Str.ofString "kind", .d (.str k.str))]) (fun i => [Trs i.2, Trs i.1.reverse]) (fun i => sizes i.1) (fun i => ops k t = i.2 ++ i.1.flatMap (ops k) ∧ i.2.length + sizes i.1 ≤ 600) ([t], []) ⟨by simp, by simpa [sizes] using ht⟩ (vs_cons rfl (vs_cons rfl (vs_cons rfl vs_nil))) rfl fun i hi ih => ?_
    obtain ⟨stack, acc⟩ := i
    obtain ⟨hr, hl⟩ := hi
    refine LT_while ?_
    dsimp only at hr hl ⊢
    (refine WB_Cmp ?_; refine W_Name rfl ?_; (with_reducible refine W_List ?_); (with_reducible refine WL_nil ?_); refine ⟨_, rfl, Nat.le_of_ble_eq_true rfl, ?_⟩)
    refine ⟨_, cmp_trs_nil (ts := stack.reverse) rfl (fun u hu => by have := size_mem (List.mem_reverse.mp hu); lia), ?_⟩
    cases stack with
    | nil =>
      refine ite_f (by simp) ?_
      ((with_reducible refine X_cons ?_); (with_reducible refine X_ret ?_); refine W_Name rfl ?_)
      refine ⟨_, rfl, ?_⟩
      show Option.map PV.l (allD (Trs acc)) = _
      rw [allD_Trs, hr]; simp
    | cons here rest =>
      rw [sizes_cons] at hl
      refine ite_t (by simp) ?_
      have hlen := sizes_len rest
      refine X_cons (X_set (W_pop (k := 1) (vs := Trs rest.reverse) (v := .d here.D) rfl (by simp) (by simp; lia) ?_))
      ((with_reducible refine X_cons ?_); (with_reducible refine X_if ?_); refine WB_Cmp ?_; refine W_Sub ?_; refine W_Name rfl ?_; (with_reducible refine W_int ?_); refine ⟨_, sub_kind _ _, ?_⟩; refine W_Name rfl ?_; refine ⟨_, cmp_str_eq _ _ _, ?_⟩)
      rcases ops_cases k here with ⟨a, b, rfl⟩ | ⟨hk, hc⟩
      · rw [List.flatMap_cons, ops_mk] at hr
        rw [mk_size] at hl
        cases k with
        | and =>
          refine ite_t rfl ?_
          ((with_reducible refine X_cons ?_); refine X_expr ?_; refine W_extend rfl ?_ (Nat.le_of_ble_eq_true rfl); refine WL_cons ?_; refine W_Sub ?_; refine W_Name rfl ?_; (with_reducible refine W_int ?_); refine ⟨_, rfl, ?_⟩; refine WL_cons ?_; refine W_Sub ?_; refine W_Name rfl ?_; (with_reducible refine W_int ?_); refine ⟨_, rfl, ?_⟩; (with_reducible refine WL_nil ?_))
          refine ⟨_, rfl, by simp; lia, ?_⟩
          refine ⟨rfl, ?_⟩
          ((with_reducible refine X_nil ?_); (with_reducible refine X_nil ?_))
          refine ih (a :: b :: rest, acc) _ _ ⟨by rw [hr]; simp, ?_⟩ ?_ (vs_cons rfl (vs_cons rfl (vs_cons rfl vs_nil))) ?_
          · dsimp only; rw [sizes_cons, sizes_cons]; lia
          · dsimp only; rw [sizes_cons, sizes_cons, sizes_cons, mk_size]; lia
          · simp [Kd.mk]
        | or =>
          refine ite_t rfl ?_
          ((with_reducible refine X_cons ?_); refine X_expr ?_; refine W_extend rfl ?_ (Nat.le_of_ble_eq_true rfl); refine WL_cons ?_; refine W_Sub ?_; refine W_Name rfl ?_; (with_reducible refine W_int ?_); refine ⟨_, rfl, ?_⟩; refine WL_cons ?_; refine W_Sub ?_; refine W_Name rfl ?_; (with_reducible refine W_int ?_); refine ⟨_, rfl, ?_⟩; (with_reducible refine WL_nil ?_))
          refine ⟨_, rfl, by simp; lia, ?_⟩
          refine ⟨rfl, ?_⟩
          ((with_reducible refine X_nil ?_); (with_reducible refine X_nil ?_))
          refine ih (a :: b :: rest, acc) _ _ ⟨by rw [hr]; simp, ?_⟩ ?_ (vs_cons rfl (vs_cons rfl (vs_cons rfl vs_nil))) ?_
          · dsimp only; rw [sizes_cons, sizes_cons]; lia
          · dsimp only; rw [sizes_cons, sizes_cons, sizes_cons, mk_size]; lia
          · simp [Kd.mk]
      · have := here.size_pos
        refine ite_f hk ?_
        ((with_reducible refine X_cons ?_); refine X_expr ?_; refine W_append rfl ?_ (Nat.le_of_ble_eq_true rfl); refine W_Name rfl ?_)
        refine ⟨_, rfl, by simp; lia, ?_⟩
        refine ⟨rfl, ?_⟩
        ((with_reducible refine X_nil ?_); (with_reducible refine X_nil ?_))
        refine ih (rest, acc ++ [here]) _ _ ⟨by rw [hr]; simp [hc], ?_⟩ ?_ (vs_cons rfl (vs_cons rfl (vs_cons rfl vs_nil))) ?_
        · simp; lia
        · dsimp only; rw [sizes_cons]; lia
        · simp
end

/-! part F3 -/
structure Nb (mg : Str → Option Value) : Prop where
  len : mg "len" = none
  enum : mg "enumerate" = none
  range : mg "range" = none
  list : mg "list" = none
  sum : mg "sum" = none
  abs : mg "abs" = none
section
variable {prog : Program} {w : World} {base : Heap} {env : Env} {B : Nat} {ρ : Vars} {μ : Lists} {QF : Fl → Vars → Lists → Prop}
theorem X_cons_to {st : Stmt} {sts : List Stmt} (ρ₁ : Vars) (μ₁ : Lists) (h1 : X1 prog w base env B st ρ μ fun f ρ' μ' => f = .next ∧ (∀ p ∈ ρ₁, ρ'.lookup p.1 = some p.2) ∧ μ' = μ₁) (h2 : X prog w base env B sts ρ₁ μ₁ QF) : X prog w base env B (st :: sts) ρ μ QF :=
  X_cons (h1.mono fun f ρ' μ' ⟨e1, h, e2⟩ => by subst e1 e2; exact T_sub h2 (sub_of h))
theorem ForX_ind {α ι : Type} {body : List Stmt} (g : α → Vars) (ρf : ι → Vars) (μf : ι → Lists) (P : List α → ι → Prop)
    (turn : ∀ a as i, P (a :: as) i → X prog w base env B body (g a ++ ρf i) (μf i) fun f ρ' μ' => match f with
      | .next => ∃ j, P as j ∧ (∀ p ∈ ρf j, ρ'.lookup p.1 = some p.2) ∧ μ' = μf j
      | .cont => ∃ j, P as j ∧ (∀ p ∈ ρf j, ρ'.lookup p.1 = some p.2) ∧ μ' = μf j
      | .brk => QF .next ρ' μ'
      | .ret v => QF (.ret v) ρ' μ')
    (fin : ∀ i ρ', P [] i → (∀ p ∈ ρf i, ρ'.lookup p.1 = some p.2) → QF .next ρ' (μf i)) :
    ∀ (as : List α) (i : ι) {ρ : Vars} {μ : Lists}, P as i → (∀ p ∈ ρf i, ρ.lookup p.1 = some p.2) → μ = μf i → ForX prog w base env B body QF (as.map g) ρ μ
  | [], i, ρ, μ, hP, hs, e => by subst e; exact fin i ρ hP hs
  | a :: as, i, ρ, μ, hP, hs, e => by
    subst e
    show X prog w base env B body (g a ++ ρ) (μf i) _
    refine T_sub (ρ' := g a ++ ρf i) ((turn a as i hP).mono fun f ρ' μ' h => ?_) fun x v e => ?_
    · cases f with
      | next => obtain ⟨j, h1, h2, h3⟩ := h; exact ForX_ind g ρf μf P turn fin as j h1 h2 h3
      | cont => obtain ⟨j, h1, h2, h3⟩ := h; exact ForX_ind g ρf μf P turn fin as j h1 h2 h3
      | brk => exact h
      | ret v => exact h
    · rw [List.lookup_append] at e ⊢
      cases q : (g a).lookup x with
      | some z => rw [q] at e; exact e
      | none =>
        rw [q] at e
        exact sub_of hs x v e
end

theorem half_ok {α : Type} (t u : α) (r : List α) {n : Nat} (h : (t :: u :: r).length ≤ n + 1) :
    (t :: u :: r).take ((t :: u :: r).length / 2) ≠ [] ∧ ((t :: u :: r).take ((t :: u :: r).length / 2)).length ≤ n ∧ (t :: u :: r).drop ((t :: u :: r).length / 2) ≠ [] ∧ ((t :: u :: r).drop ((t :: u :: r).length / 2)).length ≤ n := by
  have e : (t :: u :: r).length = r.length + 2 := rfl
  have e1 : ((t :: u :: r).take ((t :: u :: r).length / 2)).length = (r.length + 2) / 2 := by rw [List.length_take, e]; lia
  have e2 : ((t :: u :: r).drop ((t :: u :: r).length / 2)).length = (r.length + 2) - (r.length + 2) / 2 := by rw [List.length_drop, e]
  rw [e] at h
  exact ⟨fun q => by rw [q, List.length_nil] at e1; lia, by lia, fun q => by rw [q, List.length_nil] at e2; lia, by lia⟩
/-! the functions -/
noncomputable def rowd (t : Tr) (ts : List Tr) : Tr := ts.foldl .an t
noncomputable def halveN : Nat → List Tr → Tr
  | 0, _ => .leaf .all
  | _ + 1, [] => .leaf .all
  | _ + 1, [t] => t
  | n + 1, t :: u :: r => .or (halveN n ((t :: u :: r).take ((t :: u :: r).length / 2))) (halveN n ((t :: u :: r).drop ((t :: u :: r).length / 2)))
noncomputable def halve (ts : List Tr) : Tr := halveN ts.length ts
noncomputable def Kd.rest : Kd → Tr
  | .and => .leaf .all
  | .or => .nt (.leaf .all)
noncomputable def Kd.whole : Kd → Tr
  | .and => .nt (.leaf .all)
  | .or => .leaf .all
noncomputable def joinGo (k : Kd) : List Tr → List Tr → Option (List Tr)
  | found, [] => some found
  | found, p :: ps => if p = k.whole ∨ opp p ∈ found then none else if p ≠ k.rest ∧ p ∉ found then joinGo k (found ++ [p]) ps else joinGo k found ps
noncomputable def mkRow : Kd → List Tr → Tr
  | _, [] => .leaf .all
  | .and, t :: ts => rowd t ts
  | .or, t :: ts => halve (t :: ts)
noncomputable def joinR (k : Kd) : Option (List Tr) → Tr
  | none => k.whole
  | some [] => k.rest
  | some (t :: ts) => mkRow k (t :: ts)
noncomputable def join (k : Kd) (a b : Tr) : Tr := joinR k (joinGo k [] (ops k a ++ ops k b))

theorem listV_Trs {ts : List Tr} {k : Nat} {μ : Lists} (e : μ[k]? = some (Trs ts)) : listV (.lst k) μ = some (TrD ts) := by
  show (match μ[k]? with | some vs => allD vs | none => none) = _
  rw [e]; exact allD_Trs ts
theorem argVs_Trs {ts : List Tr} {k : Nat} {μ : Lists} (e : μ[k]? = some (Trs ts)) : argVs [.lst k] μ = some [.l (TrD ts)] := by
  show ((listV (.lst k) μ).map PV.l).bind (fun p => some [p]) = _
  rw [listV_Trs e]; rfl
theorem sub_trs {ts : List Tr} {n : Nat} {t : Tr} {μ : Lists} (e : ts[n]? = some t) (h : n < 1000000) : subV (.tl (TrD ts)) (.d (.int n)) μ = some (.d t.D) := sub_tl (by rw [TrD, List.getElem?_map, e]; rfl) h
theorem cmp_in_lst {ts : List Tr} {k : Nat} {μ : Lists} {u : Tr} (e : μ[k]? = some (Trs ts)) (h : ∀ t ∈ ts, t.size ≤ 600) : cmpV .In (.d u.D) (.lst k) μ = some (decide (u ∈ ts)) := by
  show cmpDL .In u.D (listV (.lst k) μ) = _
  rw [listV_Trs e, cmp_tr_in h]
theorem cmp_notin_lst {ts : List Tr} {k : Nat} {μ : Lists} {u : Tr} (e : μ[k]? = some (Trs ts)) (h : ∀ t ∈ ts, t.size ≤ 600) : cmpV .NotIn (.d u.D) (.lst k) μ = some (!decide (u ∈ ts)) := by
  show cmpDL .NotIn u.D (listV (.lst k) μ) = _
  rw [listV_Trs e, cmp_tr_notin h]
theorem cmp_eq_nil {ts : List Tr} {k : Nat} {μ : Lists} (e : μ[k]? = some (Trs ts)) (h : ∀ t ∈ ts, t.size ≤ 600) : cmpV .Eq (.lst k) (.tl []) μ = some (decide (ts = [])) := by
  show cmpLL .Eq (listV (.lst k) μ) (some (([] : List Tr).map Tr.D)) = _
  rw [listV_Trs e]
  exact (if_pos ⟨by simp, by have : depDs (TrD ts) ≤ _ := dep_trs h; lia⟩).trans (by rw [eq_trs])
theorem size_opp (t : Tr) : (opp t).size ≤ t.size + 1 := by cases t <;> simp [opp, Tr.size]; lia

section
variable {w : World} {base : Heap} {mg mb : Str → Option Value} {f : Nat → Addr} (C : Cx base mg mb) (Df : Defs base mg PR f) (Nn : Nb mg)
include C Df

theorem rowed_fn (t : Tr) (ts : List Tr) (hl : ts.length ≤ 600) : Fn PR w base (f 7) 1 [.l (TrD (t :: ts))] (.d (rowd t ts).D) := by
  refine Fn_def C Df (i := 7) (names := [Str.ofString "trees"]) rfl (fun _ _ _ _ _ us h => ?_) (fun doc pm an cd ct L => ?_)
  · obtain ⟨a, rfl⟩ := len1 h; rfl
  · dsimp only [List.map, List.zip, List.zipWith, inV]
    ((with_reducible refine X_cons ?_); refine X_set ?_; refine W_Sub ?_; refine W_Name rfl ?_; (with_reducible refine W_int ?_); refine ⟨_, rfl, ?_⟩; (with_reducible refine X_cons ?_))
    refine X_for_list ?_
    (refine W_from ?_; refine W_Name rfl ?_; (with_reducible refine W_int ?_))
    refine ⟨_, 1, rfl, rfl, by decide, by simp; lia, ?_⟩
    refine ⟨TrD ts, by simp, ?_⟩
    rw [show (TrD ts).map (fun d => [(Str.ofString "part", V.d d)]) = ts.map (fun t => [(Str.ofString "part", V.d t.D)]) by simp]
    refine ForX_ind (fun (t : Tr) => [(Str.ofString "part", V.d t.D)]) (fun (i : Tr) => [(Str.ofString "tree", .d i.D)]) (fun _ => []) (fun as i => rowd t ts = as.foldl .an i) ?_ ?_ ts t rfl (vs_cons rfl vs_nil) rfl
    · intro a as i e
      ((with_reducible refine X_cons ?_); refine X_set ?_; (with_reducible refine W_Tuple ?_); refine WL_cons ?_; (with_reducible refine W_str ?_); refine WL_cons ?_; refine W_Name rfl ?_; refine WL_cons ?_; refine W_Name rfl ?_; (with_reducible refine WL_nil ?_); refine ⟨_, rfl, Nat.le_of_ble_eq_true rfl, ?_⟩; (with_reducible refine X_nil ?_))
      exact ⟨.an i a, e, vs_cons rfl vs_nil, rfl⟩
    · intro i ρ' e hs
      try dsimp only
      refine T_sub (ρ' := [(Str.ofString "tree", .d i.D)]) ?_ (sub_of hs)
      ((with_reducible refine X_cons ?_); (with_reducible refine X_ret ?_); refine W_Name rfl ?_)
      exact ⟨_, rfl, by rw [e]; rfl⟩

include Nn
theorem halved_go : ∀ (n : Nat) (ts : List Tr), ts ≠ [] → ts.length ≤ n → n ≤ 600 → Fn PR w base (f 6) n [.l (TrD ts)] (.d (halveN n ts).D)
  | 0, ts, h0, hl, _ => absurd (List.length_eq_zero_iff.mp (Nat.le_zero.mp hl)) h0
  | n + 1, ts, h0, hl, hn => by
    have ih := halved_go n
    refine Fn_def C Df (i := 6) (names := [Str.ofString "trees"]) rfl (fun _ _ _ _ _ us h => ?_) (fun doc pm an cd ct L => ?_)
    · obtain ⟨a, rfl⟩ := len1 h; rfl
    · dsimp only [List.map, List.zip, List.zipWith, inV]
      refine X_cons (X_if (WB_Cmp (W_len C ?_ Nn.len)))
      (refine W_Name rfl ?_)
      refine ⟨_, rfl, by simp; lia, ?_⟩
      ((with_reducible refine W_int ?_))
      refine ⟨_, rfl, ?_⟩
      match ts, h0, hl with
      | [t], _, _ =>
        refine ite_t rfl ?_
        ((with_reducible refine X_cons ?_); (with_reducible refine X_ret ?_); refine W_Sub ?_; refine W_Name rfl ?_; (with_reducible refine W_int ?_); refine ⟨_, rfl, ?_⟩)
        exact ⟨_, rfl, rfl⟩
      | t :: u :: r, _, hl =>
        have hlen : (t :: u :: r).length = r.length + 2 := rfl
        refine ite_f ?_ ?_
        · show decide (((TrD (t :: u :: r)).length : Int) = 1) = false
          simp; lia
        · ((with_reducible refine X_nil ?_); (with_reducible refine X_cons ?_); refine X_set ?_)
          refine W_Bin (W_len C ?_ Nn.len)
          (refine W_Name rfl ?_)
          refine ⟨_, rfl, by simp; lia, ?_⟩
          ((with_reducible refine W_int ?_))
          refine ⟨_, _, ((t :: u :: r).length / 2 : Nat), rfl, rfl, ?_, ?_⟩
          · exact (binI_div (by decide)).trans (by rw [Int.fdiv_eq_ediv_of_nonneg _ (by decide), TrD, List.length_map, Int.natCast_ediv]; rfl)
          · ((with_reducible refine X_cons ?_); (with_reducible refine X_ret ?_); (with_reducible refine W_Tuple ?_); refine WL_cons ?_; (with_reducible refine W_str ?_); refine WL_cons ?_)
            refine W_calld C Df 6 ?_
            (refine WL_cons ?_; refine W_upto ?_; refine W_Name rfl ?_; refine W_Name rfl ?_)
            refine ⟨_, _, rfl, rfl, by lia, by simp; lia, ?_⟩
            ((with_reducible refine WL_nil ?_))
            refine ⟨_, _, rfl, by rw [← List.map_take, Int.toNat_natCast]; exact ih ((t :: u :: r).take ((t :: u :: r).length / 2)) (half_ok t u r hl).1 (half_ok t u r hl).2.1 (Nat.le_of_succ_le hn), ?_⟩
            refine WL_cons (W_calld C Df 6 ?_)
            (refine WL_cons ?_; refine W_from ?_; refine W_Name rfl ?_; refine W_Name rfl ?_)
            refine ⟨_, _, rfl, rfl, by lia, by simp; lia, ?_⟩
            ((with_reducible refine WL_nil ?_))
            refine ⟨_, _, rfl, by rw [← List.map_drop, Int.toNat_natCast]; exact ih ((t :: u :: r).drop ((t :: u :: r).length / 2)) (half_ok t u r hl).2.2.1 (half_ok t u r hl).2.2.2 (Nat.le_of_succ_le hn), ?_⟩
            ((with_reducible refine WL_nil ?_); refine ⟨_, rfl, Nat.le_of_ble_eq_true rfl, ?_⟩)
            exact ⟨_, rfl, rfl⟩

theorem halved_fn (ts : List Tr) (h0 : ts ≠ []) (hl : ts.length ≤ 200) : Fn PR w base (f 6) 200 [.l (TrD ts)] (.d (halve ts).D) :=
  (halved_go C Df Nn ts.length ts h0 (Nat.le_refl _) (by lia)).le hl

theorem joined_fn (k : Kd) (a b : Tr) (hl : a.size + b.size ≤ 200) : Fn PR w base (f 8) 201 [.d (.str k.str), .d a.D, .d b.D] (.d (join k a b).D) := by
  refine Fn_def C Df (i := 8) (names := [Str.ofString "kind", Str.ofString "one", Str.ofString "other"]) rfl (fun _ _ _ _ _ us h => ?_) (fun doc pm an cd ct L => ?_)
  · obtain ⟨a, b, c, rfl⟩ := len3 h; rfl
  · dsimp only [List.map, List.zip, List.zipWith, inV]
    refine X_cons (X_set2 (W_calld0 C Df 1 ((every_fn C Df).le (by first | decide | omega)) (W_calld0 C Df 2 ((no_fn C Df).le (by first | decide | omega)) ?_)))
    have hca := ops_size k a
    have hcb := ops_size k b
    refine X_cons_to [(Str.ofString "rest", .d k.rest.D), (Str.ofString "whole", .d k.whole.D), (Str.ofString "kind", .d (.str k.str)), (Str.ofString "one", .d a.D), (Str.ofString "other", .d b.D)] [] ?_ ?_
    · ((with_reducible refine X_if ?_); refine WB_Cmp ?_; refine W_Name rfl ?_; (with_reducible refine W_str ?_); refine ⟨_, cmp_str_eq _ _ _, ?_⟩)
      cases k with
      | or =>
        refine ite_t rfl ?_
        ((with_reducible refine X_cons ?_); refine X_set2 ?_; refine W_Name rfl ?_; refine W_Name rfl ?_; (with_reducible refine X_nil ?_))
        exact ⟨rfl, vs_cons rfl (vs_cons rfl (vs_cons rfl (vs_cons rfl (vs_cons rfl vs_nil)))), rfl⟩
      | and =>
        refine ite_f rfl ?_
        ((with_reducible refine X_nil ?_))
        exact ⟨rfl, vs_cons rfl (vs_cons rfl (vs_cons rfl (vs_cons rfl (vs_cons rfl vs_nil)))), rfl⟩
    have n1 := sizes_len (ops k a)
    have n2 := sizes_len (ops k b)
    have hw : k.whole.size ≤ 600 := by cases k <;> decide
    have hre : k.rest.size ≤ 600 := by cases k <;> decide
    ((with_reducible refine X_cons ?_); refine X_set (W_ListM ?_); (with_reducible refine WL_nil ?_); refine ⟨Nat.le_of_ble_eq_true rfl, ?_⟩; (with_reducible refine X_cons ?_))
    refine X_for_list (W_cat (W_calld C Df 4 ?_))
    (refine WL_cons ?_; refine W_Name rfl ?_; refine WL_cons ?_; refine W_Name rfl ?_; (with_reducible refine WL_nil ?_))
    refine ⟨_, _, rfl, (operands_fn C Df k a (by lia)).le (by first | decide | omega), W_calld C Df 4 ?_⟩
    (refine WL_cons ?_; refine W_Name rfl ?_; refine WL_cons ?_; refine W_Name rfl ?_; (with_reducible refine WL_nil ?_))
    refine ⟨_, _, rfl, (operands_fn C Df k b (by lia)).le (by first | decide | omega), _, _, rfl, rfl, by simp; lia, _, rfl, ?_⟩
    rw [← List.map_append, show (TrD (ops k a ++ ops k b)).map (fun d => [(Str.ofString "part", V.d d)]) = (ops k a ++ ops k b).map (fun t => [(Str.ofString "part", V.d t.D)]) from by rw [List.map_map]; rfl]
    have hsz : sizes (ops k a ++ ops k b) ≤ 200 := by rw [sizes_append]; lia
    refine ForX_ind (fun (t : Tr) => [(Str.ofString "part", V.d t.D)]) (fun (i : List Tr) => [(Str.ofString "found", .lst 0), (Str.ofString "rest", .d k.rest.D), (Str.ofString "whole", .d k.whole.D), (Str.ofString "kind", .d (.str k.str))]) (fun i => [Trs i]) (fun as i => joinGo k [] (ops k a ++ ops k b) = joinGo k i as ∧ sizes i + sizes as ≤ 200) ?_ ?_ (ops k a ++ ops k b) [] ⟨rfl, by simpa [sizes] using hsz⟩ (vs_cons rfl (vs_cons rfl (vs_cons rfl (vs_cons rfl vs_nil)))) rfl
    · intro p as found ⟨e, hs⟩
      rw [sizes_cons] at hs
      have hn := sizes_len found
      have hmem : ∀ t ∈ found, t.size ≤ 600 := fun t h => by have := size_mem h; lia
      ((with_reducible refine X_cons ?_); (with_reducible refine X_if ?_); (with_reducible refine WB_or ?_); refine WB_Cmp ?_; refine W_Name rfl ?_; refine W_Name rfl ?_)
      refine ⟨_, cmp_tr_eq (by lia), ?_⟩
      by_cases h1 : p = k.whole
      · refine ite_t (decide_eq_true h1) ?_
        refine ite_t rfl ?_
        ((with_reducible refine X_cons ?_); (with_reducible refine X_ret ?_); refine W_Name rfl ?_)
        exact ⟨_, rfl, by rw [join, e, joinGo, if_pos (.inl h1)]; rfl⟩
      refine ite_f (decide_eq_false h1) ?_
      refine WB_or (WB_Cmp (W_calld C Df 5 ?_))
      (refine WL_cons ?_; refine W_Name rfl ?_; (with_reducible refine WL_nil ?_))
      refine ⟨_, _, rfl, (opposite_fn C Df p).le (by first | decide | omega), ?_⟩
      (refine W_Name rfl ?_)
      refine ⟨_, cmp_in_lst (ts := found) rfl hmem, ?_⟩
      by_cases h2 : opp p ∈ found
      · refine ite_t (decide_eq_true h2) (ite_t rfl ?_)
        ((with_reducible refine X_cons ?_); (with_reducible refine X_ret ?_); refine W_Name rfl ?_)
        exact ⟨_, rfl, by rw [join, e, joinGo, if_pos (.inr h2)]; rfl⟩
      refine ite_f (decide_eq_false h2) ?_
      rw [joinGo, if_neg (fun q => q.elim h1 h2)] at e
      refine WB_or_nil (ite_f rfl ?_)
      ((with_reducible refine X_nil ?_); (with_reducible refine X_cons ?_); (with_reducible refine X_if ?_); (with_reducible refine WB_and ?_); refine WB_Cmp ?_; refine W_Name rfl ?_; refine W_Name rfl ?_)
      refine ⟨_, cmp_tr_ne (by lia), ?_⟩
      by_cases h3 : p = k.rest
      · refine ite_f (by simp [h3]) (ite_f rfl ?_)
        rw [if_neg (fun q => q.1 h3)] at e
        ((with_reducible refine X_nil ?_); (with_reducible refine X_nil ?_))
        exact ⟨found, ⟨e, by lia⟩, vs_cons rfl (vs_cons rfl (vs_cons rfl (vs_cons rfl vs_nil))), rfl⟩
      refine ite_t (by simp [h3]) ?_
      ((with_reducible refine WB_and ?_); refine WB_Cmp ?_; refine W_Name rfl ?_; refine W_Name rfl ?_)
      refine ⟨_, cmp_notin_lst (ts := found) rfl hmem, ?_⟩
      by_cases h4 : p ∈ found
      · refine ite_f (by simp [h4]) (ite_f rfl ?_)
        rw [if_neg (fun q => q.2 h4)] at e
        ((with_reducible refine X_nil ?_); (with_reducible refine X_nil ?_))
        exact ⟨found, ⟨e, by lia⟩, vs_cons rfl (vs_cons rfl (vs_cons rfl (vs_cons rfl vs_nil))), rfl⟩
      refine ite_t (by simp [h4]) (WB_and_nil (ite_t rfl ?_))
      rw [if_pos ⟨h3, h4⟩] at e
      ((with_reducible refine X_cons ?_); refine X_expr ?_; refine W_append rfl ?_ (Nat.le_of_ble_eq_true rfl); refine W_Name rfl ?_)
      refine ⟨_, rfl, by simp; lia, rfl, ?_⟩
      ((with_reducible refine X_nil ?_); (with_reducible refine X_nil ?_))
      refine ⟨found ++ [p], ⟨e, ?_⟩, vs_cons rfl (vs_cons rfl (vs_cons rfl (vs_cons rfl vs_nil))), by simp⟩
      rw [sizes_append]; simp [sizes] at *; lia
    · intro found ρ' ⟨e, hs⟩ hr
      have hn := sizes_len found
      have hmem : ∀ t ∈ found, t.size ≤ 600 := fun t h => by have := size_mem h; lia
      rw [joinGo] at e
      try dsimp only
      refine T_sub (ρ' := [(Str.ofString "found", .lst 0), (Str.ofString "rest", .d k.rest.D), (Str.ofString "whole", .d k.whole.D), (Str.ofString "kind", .d (.str k.str))]) ?_ (sub_of hr)
      ((with_reducible refine X_cons ?_); (with_reducible refine X_if ?_); refine WB_Cmp ?_; refine W_Name rfl ?_; (with_reducible refine W_List ?_); (with_reducible refine WL_nil ?_); refine ⟨_, rfl, Nat.le_of_ble_eq_true rfl, ?_⟩)
      refine ⟨_, cmp_eq_nil (ts := found) rfl hmem, ?_⟩
      cases found with
      | nil =>
        refine ite_t rfl ?_
        ((with_reducible refine X_cons ?_); (with_reducible refine X_ret ?_); refine W_Name rfl ?_)
        exact ⟨_, rfl, by rw [join, e]; rfl⟩
      | cons t ts =>
        refine ite_f rfl ?_
        ((with_reducible refine X_nil ?_); (with_reducible refine X_cons ?_); (with_reducible refine X_ret ?_); (with_reducible refine W_IfExp ?_); refine WB_Cmp ?_; refine W_Name rfl ?_; (with_reducible refine W_str ?_); refine ⟨_, cmp_str_eq _ _ _, ?_⟩)
        cases k with
        | and =>
          refine ite_t rfl (W_calld C Df 7 ?_)
          (refine WL_cons ?_; refine W_Name rfl ?_; (with_reducible refine WL_nil ?_))
          refine ⟨_, _, argVs_Trs rfl, (rowed_fn C Df t ts (by simp at hn; lia)).le (by first | decide | omega), ?_⟩
          exact ⟨_, rfl, by rw [join, e]; rfl⟩
        | or =>
          refine ite_f rfl (W_calld C Df 6 ?_)
          (refine WL_cons ?_; refine W_Name rfl ?_; (with_reducible refine WL_nil ?_))
          refine ⟨_, _, argVs_Trs rfl, halved_fn C Df Nn (t :: ts) (by simp) (by lia), ?_⟩
          exact ⟨_, rfl, by rw [join, e]; rfl⟩
end

/-! part F4 -/
noncomputable def fold1 (k : Kd) : Option Tr → List Tr → Option Tr
  | acc, [] => acc
  | none, m :: ms => fold1 k (some m) ms
  | some f, m :: ms => fold1 k (some (join k f m)) ms
noncomputable def Kd.turn : Kd → Bool → Kd
  | k, false => k
  | .and, true => .or
  | .or, true => .and
noncomputable def pushN : Nat → Tr → Bool → Tr
  | 0, _, _ => .leaf .all
  | _ + 1, .leaf l, neg => if neg then .nt (.leaf l) else .leaf l
  | n + 1, .nt t, neg => pushN n t !neg
  | n + 1, .an a b, neg => (fold1 (Kd.turn .and neg) none ((ops .and a ++ ops .and b).map fun p => pushN n p neg)).getD (.leaf .all)
  | n + 1, .or a b, neg => (fold1 (Kd.turn .or neg) none ((ops .or a ++ ops .or b).map fun p => pushN n p neg)).getD (.leaf .all)
theorem pushN_mk (n : Nat) (k : Kd) (a b : Tr) (neg : Bool) : pushN (n + 1) (k.mk a b) neg = (fold1 (k.turn neg) none ((ops k (k.mk a b)).map fun p => pushN n p neg)).getD (.leaf .all) := by
  rw [ops_mk]; cases k <;> rfl

noncomputable def tot (ts : List Tr) : Nat := sizes ts + ts.length
theorem tot_cons (t : Tr) (ts : List Tr) : tot (t :: ts) = t.size + 1 + tot ts := by simp [tot, sizes_cons]; lia
theorem tot_nil : tot [] = 0 := rfl
theorem tot_append (ts us : List Tr) : tot (ts ++ us) = tot ts + tot us := by simp [tot, sizes_append]; lia
theorem tot_ops (k : Kd) : ∀ t : Tr, tot (ops k t) ≤ t.size + 1
  | .an a b => by
    have h1 := tot_ops k a
    have h2 := tot_ops k b
    rw [ops]
    split
    · rw [tot_append]; simp only [Tr.size]; lia
    · simp [tot_cons, tot_nil]
  | .or a b => by
    have h1 := tot_ops k a
    have h2 := tot_ops k b
    rw [ops]
    split
    · rw [tot_append]; simp only [Tr.size]; lia
    · simp [tot_cons, tot_nil]
  | .leaf l => by simp [ops, tot_cons, tot_nil]
  | .nt t => by simp [ops, tot_cons, tot_nil]
theorem rowd_size : ∀ (ts : List Tr) (t : Tr), (rowd t ts).size + 1 = tot (t :: ts)
  | [], t => by simp [rowd, tot_cons, tot_nil]
  | u :: ts, t => by
    have := rowd_size ts (.an t u)
    rw [rowd, List.foldl_cons]
    rw [rowd] at this
    rw [this]
    simp only [tot_cons, Tr.size]; lia
theorem tot_two {x : List Tr} (h : x ≠ []) : 2 ≤ tot x := by
  cases x with
  | nil => exact absurd rfl h
  | cons a x => have := a.size_pos; rw [tot_cons]; lia
theorem halveN_size : ∀ (n : Nat) (ts : List Tr), ts ≠ [] → ts.length ≤ n → (halveN n ts).size + 1 ≤ tot ts
  | 0, ts, h, hl => absurd (List.length_eq_zero_iff.mp (Nat.le_zero.mp hl)) h
  | n + 1, [], h, _ => absurd rfl h
  | n + 1, [t], _, _ => by simp [halveN, tot_cons, tot_nil]
  | n + 1, t :: u :: r, _, hl => by
    obtain ⟨a1, a2, a3, a4⟩ := half_ok t u r hl
    have h1 := halveN_size n _ a1 a2
    have h2 := halveN_size n _ a3 a4
    have h3 : tot (t :: u :: r) = tot ((t :: u :: r).take ((t :: u :: r).length / 2)) + tot ((t :: u :: r).drop ((t :: u :: r).length / 2)) := by rw [← tot_append, List.take_append_drop]
    rw [halveN, h3]
    simp only [Tr.size]
    lia
theorem halve_size (t : Tr) (ts : List Tr) : (halve (t :: ts)).size + 1 ≤ tot (t :: ts) := by
  rw [halve]; exact halveN_size _ _ (List.cons_ne_nil _ _) (Nat.le_refl _)
theorem joinGo_tot (k : Kd) : ∀ (ps found fs : List Tr), joinGo k found ps = some fs → tot fs ≤ tot found + tot ps
  | [], found, fs, e => by rw [joinGo] at e; cases e; simp [tot_nil]
  | p :: ps, found, fs, e => by
    rw [joinGo] at e
    rw [tot_cons]
    split at e
    · cases e
    · split at e
      · have := joinGo_tot k ps _ fs e
        rw [tot_append, tot_cons, tot_nil] at this; lia
      · have := joinGo_tot k ps _ fs e
        lia
theorem join_size (k : Kd) (a b : Tr) : (join k a b).size ≤ a.size + b.size + 1 := by
  have ha := a.size_pos
  have hb := b.size_pos
  have h1 := tot_ops k a
  have h2 := tot_ops k b
  rw [join]
  cases e : joinGo k [] (ops k a ++ ops k b) with
  | none => cases k <;> simp [joinR, Kd.whole, Tr.size] <;> lia
  | some fs =>
    have := joinGo_tot k _ _ _ e
    rw [tot_append, tot_nil] at this
    cases fs with
    | nil => cases k <;> simp [joinR, Kd.rest, Tr.size] <;> lia
    | cons t ts =>
      cases k with
      | and => have := rowd_size ts t; simp only [joinR, mkRow]; lia
      | or => have := halve_size t ts; simp only [joinR, mkRow]; lia
noncomputable def szo : Option Tr → Nat
  | none => 0
  | some t => t.size + 1
theorem fold1_size (k : Kd) : ∀ (ms : List Tr) (i : Option Tr), szo (fold1 k i ms) ≤ szo i + tot ms
  | [], i => by cases i <;> simp [fold1, tot_nil]
  | m :: ms, none => by
    have := fold1_size k ms (some m)
    rw [fold1, tot_cons]; simp only [szo] at *; lia
  | m :: ms, some f => by
    have := fold1_size k ms (some (join k f m))
    have h := join_size k f m
    rw [fold1, tot_cons]; simp only [szo] at *; lia
theorem ops_pos (k : Kd) (t : Tr) : 1 ≤ (ops k t).length := by
  induction t with
  | leaf l => simp [ops]
  | nt t _ => simp [ops]
  | an a b h1 _ => rw [ops]; split <;> simp; lia
  | or a b h1 _ => rw [ops]; split <;> simp; lia
theorem tot_map {g : Tr → Tr} : ∀ (ts : List Tr), (∀ t ∈ ts, (g t).size ≤ 2 * t.size) → tot (ts.map g) + ts.length ≤ 2 * tot ts
  | [], _ => by simp [tot_nil]
  | t :: ts, h => by
    have h1 := h t (.head _)
    have h2 := tot_map ts fun u m => h u (.tail _ m)
    rw [List.map_cons, tot_cons, tot_cons, List.length_cons]; lia
theorem getD_size (o : Option Tr) : (o.getD (.leaf .all)).size ≤ max 1 (szo o - 1) := by cases o <;> simp [szo, Tr.size]; lia
theorem pushN_size : ∀ (n : Nat) (t : Tr) (neg : Bool), (pushN n t neg).size ≤ 2 * t.size
  | 0, t, neg => by have := t.size_pos; simp only [pushN, Tr.size]; lia
  | n + 1, .leaf l, neg => by cases neg <;> simp [pushN, Tr.size]
  | n + 1, .nt t, neg => by have := pushN_size n t !neg; simp only [pushN, Tr.size]; lia
  | n + 1, .an a b, neg => by
    have h := fold1_size (Kd.turn .and neg) ((ops .and a ++ ops .and b).map fun p => pushN n p neg) none
    have h1 := tot_map (ops .and a ++ ops .and b) (g := fun p => pushN n p neg) fun t _ => pushN_size n t neg
    have h2 := tot_ops .and a
    have h3 := tot_ops .and b
    have h4 := getD_size (fold1 (Kd.turn .and neg) none ((ops .and a ++ ops .and b).map fun p => pushN n p neg))
    rw [tot_append] at h1
    have h0 : szo none = 0 := rfl
    rw [List.length_append] at h1
    have h5 := ops_pos .and a
    have h6 := ops_pos .and b
    rw [pushN]; simp only [Tr.size]; lia
  | n + 1, .or a b, neg => by
    have h := fold1_size (Kd.turn .or neg) ((ops .or a ++ ops .or b).map fun p => pushN n p neg) none
    have h1 := tot_map (ops .or a ++ ops .or b) (g := fun p => pushN n p neg) fun t _ => pushN_size n t neg
    have h2 := tot_ops .or a
    have h3 := tot_ops .or b
    have h4 := getD_size (fold1 (Kd.turn .or neg) none ((ops .or a ++ ops .or b).map fun p => pushN n p neg))
    rw [tot_append] at h1
    have h0 : szo none = 0 := rfl
    rw [List.length_append] at h1
    have h5 := ops_pos .or a
    have h6 := ops_pos .or b
    rw [pushN]; simp only [Tr.size]; lia
theorem part_size (k : Kd) (a b : Tr) {p : Tr} (h : p ∈ ops k (k.mk a b)) : p.size < (k.mk a b).size := by
  have h2 := ops_size k a
  have h3 := ops_size k b
  rw [mk_size]
  rw [ops_mk] at h
  rcases List.mem_append.mp h with h | h
  · have := size_mem h; lia
  · have := size_mem h; lia
theorem fold1_some (k : Kd) : ∀ (ms : List Tr) (f : Tr), ∃ r, fold1 k (some f) ms = some r
  | [], f => ⟨f, rfl⟩
  | m :: ms, f => fold1_some k ms _
theorem ops_ne (k : Kd) (t : Tr) : ops k t ≠ [] := by
  induction t with
  | leaf l => simp [ops]
  | nt t _ => simp [ops]
  | an a b h1 _ => rw [ops]; split <;> simp [h1]
  | or a b h1 _ => rw [ops]; split <;> simp [h1]
theorem mk_kind (k : Kd) (a b : Tr) : (k.mk a b).kind = k.str := by cases k <;> rfl
theorem kd_not (k : Kd) : (k.str == Str.ofString "not") = false := by cases k <;> rfl
theorem mk_cases (t : Tr) : (∃ l, t = .leaf l) ∨ (∃ u, t = .nt u) ∨ ∃ k a b, t = Kd.mk k a b := by
  cases t with
  | leaf l => exact .inl ⟨l, rfl⟩
  | nt u => exact .inr (.inl ⟨u, rfl⟩)
  | an a b => exact .inr (.inr ⟨.and, a, b, rfl⟩)
  | or a b => exact .inr (.inr ⟨.or, a, b, rfl⟩)
noncomputable def isAO : Tr → Bool
  | .an _ _ => true
  | .or _ _ => true
  | _ => false
noncomputable abbrev aoD : D := .tup [.str (Str.ofString "and"), .str (Str.ofString "or")]
theorem kind_notin (t : Tr) (μ : Lists) : cmpV .NotIn (.d (.str t.kind)) (.d aoD) μ = some (!isAO t) := by
  cases t with
  | leaf l => cases l <;> rfl
  | nt t => rfl
  | an a b => rfl
  | or a b => rfl
theorem kind_in (t : Tr) (μ : Lists) : cmpV .In (.d (.str t.kind)) (.d aoD) μ = some (isAO t) := by
  cases t with
  | leaf l => cases l <;> rfl
  | nt t => rfl
  | an a b => rfl
  | or a b => rfl
noncomputable def optD : Option Tr → D
  | none => .none
  | some t => t.D
theorem is_none (o : Option Tr) (μ : Lists) : cmpV .Is (.d (optD o)) (.d .none) μ = some o.isNone := by cases o <;> rfl

section
variable {w : World} {base : Heap} {mg mb : Str → Option Value} {f : Nat → Addr} (C : Cx base mg mb) (Df : Defs base mg PR f) (Nn : Nb mg)
include C Df Nn
theorem pushed_go : ∀ (n : Nat) (t : Tr) (neg : Bool), t.size ≤ n → n ≤ 90 → Fn PR w base (f 9) (202 + n) [.d t.D, .d (.bool neg)] (.d (pushN n t neg).D)
  | 0, t, neg, hl, _ => absurd t.size_pos (by lia)
  | n + 1, t, neg, hl, hn => by
    have ih := pushed_go n
    refine Fn_def C Df (i := 9) (B := 202 + n) (names := [Str.ofString "tree", Str.ofString "is_not"]) rfl (fun _ _ _ _ _ us h => ?_) (fun doc pm an cd ct L => ?_)
    · obtain ⟨a, b, rfl⟩ := len2 h; rfl
    · dsimp only [List.map, List.zip, List.zipWith, inV]
      ((with_reducible refine X_cons ?_); refine X_set ?_; refine W_Sub ?_; refine W_Name rfl ?_; (with_reducible refine W_int ?_); refine ⟨_, sub_kind _ _, ?_⟩; (with_reducible refine X_cons ?_); (with_reducible refine X_if ?_); refine WB_Cmp ?_; refine W_Name rfl ?_; (with_reducible refine W_str ?_); refine ⟨_, cmp_str_eq _ _ _, ?_⟩)
      rcases mk_cases t with ⟨l, rfl⟩ | ⟨u, rfl⟩ | ⟨k, a, b, rfl⟩
      · refine ite_f (leaf_not l) ?_
        ((with_reducible refine X_nil ?_); (with_reducible refine X_cons ?_); (with_reducible refine X_if ?_); refine WB_Cmp ?_; refine W_Name rfl ?_; (with_reducible refine W_Tuple ?_); refine WL_cons ?_; (with_reducible refine W_str ?_); refine WL_cons ?_; (with_reducible refine W_str ?_); (with_reducible refine WL_nil ?_); refine ⟨_, rfl, Nat.le_of_ble_eq_true rfl, ?_⟩)
        refine ⟨_, kind_notin (.leaf l) _, ite_t rfl ?_⟩
        ((with_reducible refine X_cons ?_); (with_reducible refine X_ret ?_); (with_reducible refine W_IfExp ?_); refine WB_plain ?_; refine W_Name rfl ?_; refine ⟨_, rfl, ?_⟩)
        cases neg with
        | true =>
          refine ite_t rfl ?_
          ((with_reducible refine W_Tuple ?_); refine WL_cons ?_; (with_reducible refine W_str ?_); refine WL_cons ?_; refine W_Name rfl ?_; (with_reducible refine WL_nil ?_); refine ⟨_, rfl, Nat.le_of_ble_eq_true rfl, ?_⟩)
          exact ⟨_, rfl, rfl⟩
        | false =>
          refine ite_f rfl ?_
          (refine W_Name rfl ?_)
          exact ⟨_, rfl, rfl⟩
      · refine ite_t rfl ?_
        refine X_cons (X_ret (W_calld C Df 9 ?_))
        (refine WL_cons ?_; refine W_Sub ?_; refine W_Name rfl ?_; (with_reducible refine W_int ?_); refine ⟨_, rfl, ?_⟩; refine WL_cons ?_; (with_reducible refine W_not ?_); refine W_Name rfl ?_; refine ⟨_, rfl, ?_⟩; (with_reducible refine WL_nil ?_))
        refine ⟨_, _, rfl, ih u (!neg) (by simp only [Tr.size] at hl; lia) (by lia), ?_⟩
        exact ⟨_, rfl, rfl⟩
      · rw [mk_kind]
        refine ite_f (kd_not k) ?_
        ((with_reducible refine X_nil ?_); (with_reducible refine X_cons ?_); (with_reducible refine X_if ?_); refine WB_Cmp ?_; refine W_Name rfl ?_; (with_reducible refine W_Tuple ?_); refine WL_cons ?_; (with_reducible refine W_str ?_); refine WL_cons ?_; (with_reducible refine W_str ?_); (with_reducible refine WL_nil ?_); refine ⟨_, rfl, Nat.le_of_ble_eq_true rfl, ?_⟩)
        refine ⟨_, by rw [← mk_kind k a b]; exact kind_notin (k.mk a b) _, ite_f (by cases k <;> rfl) ?_⟩
        refine X_nil ?_
        refine X_cons_to [(Str.ofString "turned", .d (.str (k.turn neg).str)), (Str.ofString "kind", .d (.str k.str)), (Str.ofString "tree", .d (k.mk a b).D), (Str.ofString "is_not", .d (.bool neg))] [] ?_ ?_
        · (refine X_set ?_; (with_reducible refine W_IfExp ?_); (with_reducible refine WB_not ?_); refine WB_plain ?_; refine W_Name rfl ?_; refine ⟨_, rfl, ?_⟩)
          cases neg with
          | false =>
            refine ite_t rfl ?_
            (refine W_Name rfl ?_)
            exact ⟨rfl, vs_cons rfl (vs_cons rfl (vs_cons rfl (vs_cons rfl vs_nil))), rfl⟩
          | true =>
            refine ite_f rfl ?_
            ((with_reducible refine W_IfExp ?_); refine WB_Cmp ?_; refine W_Name rfl ?_; (with_reducible refine W_str ?_); refine ⟨_, cmp_str_eq _ _ _, ?_⟩)
            cases k with
            | and =>
              refine ite_t rfl ?_
              ((with_reducible refine W_str ?_))
              exact ⟨rfl, vs_cons rfl (vs_cons rfl (vs_cons rfl (vs_cons rfl vs_nil))), rfl⟩
            | or =>
              refine ite_f rfl ?_
              ((with_reducible refine W_str ?_))
              exact ⟨rfl, vs_cons rfl (vs_cons rfl (vs_cons rfl (vs_cons rfl vs_nil))), rfl⟩
        ((with_reducible refine X_cons ?_); refine X_set ?_; (with_reducible refine W_none ?_); (with_reducible refine X_cons ?_))
        refine X_for_list (W_calld C Df 4 ?_)
        (refine WL_cons ?_; refine W_Name rfl ?_; refine WL_cons ?_; refine W_Name rfl ?_; (with_reducible refine WL_nil ?_))
        refine ⟨_, _, rfl, (operands_fn C Df k (k.mk a b) (by lia)).le (by first | decide | omega), _, rfl, ?_⟩
        rw [show (TrD (ops k (k.mk a b))).map (fun d => [(Str.ofString "part", V.d d)]) = (ops k (k.mk a b)).map (fun t => [(Str.ofString "part", V.d t.D)]) from by rw [List.map_map]; rfl]
        have htot := tot_ops k (k.mk a b)
        refine ForX_ind (fun (t : Tr) => [(Str.ofString "part", V.d t.D)]) (fun (i : Option Tr) => [(Str.ofString "found", .d (optD i)), (Str.ofString "turned", .d (.str (k.turn neg).str)), (Str.ofString "is_not", .d (.bool neg))]) (fun i => []) (fun as i => fold1 (k.turn neg) none ((ops k (k.mk a b)).map fun p => pushN n p neg) = fold1 (k.turn neg) i (as.map fun p => pushN n p neg) ∧ szo i + 2 * tot as ≤ 2 * ((k.mk a b).size + 1) ∧ ∀ p ∈ as, p ∈ ops k (k.mk a b)) ?_ ?_ (ops k (k.mk a b)) none ⟨rfl, by simp only [szo]; lia, fun _ h => h⟩ (vs_cons rfl (vs_cons rfl (vs_cons rfl vs_nil))) rfl
        · intro p as i ⟨e, hs, hm⟩
          rw [tot_cons] at hs
          have hp := part_size k a b (hm p (.head _))
          have hps := pushN_size n p neg
          refine X_cons (X_set (W_calld C Df 9 ?_))
          (refine WL_cons ?_; refine W_Name rfl ?_; refine WL_cons ?_; refine W_Name rfl ?_; (with_reducible refine WL_nil ?_))
          refine ⟨_, _, rfl, ih p neg (by lia) (by lia), ?_⟩
          ((with_reducible refine X_cons ?_); refine X_set ?_; (with_reducible refine W_IfExp ?_); refine WB_Cmp ?_; refine W_Name rfl ?_; (with_reducible refine W_none ?_))
          refine ⟨_, is_none i _, ?_⟩
          cases i with
          | none =>
            refine ite_t rfl ?_
            (refine W_Name rfl ?_; (with_reducible refine X_nil ?_))
            refine ⟨some (pushN n p neg), ⟨by rw [e]; rfl, ?_, fun q h => hm q (.tail _ h)⟩, vs_cons rfl (vs_cons rfl (vs_cons rfl vs_nil)), rfl⟩
            simp only [szo] at *; lia
          | some t =>
            refine ite_f rfl ?_
            simp only [szo] at hs
            refine W_calld C Df 8 ?_
            (refine WL_cons ?_; refine W_Name rfl ?_; refine WL_cons ?_; refine W_Name rfl ?_; refine WL_cons ?_; refine W_Name rfl ?_; (with_reducible refine WL_nil ?_))
            refine ⟨_, _, rfl, (joined_fn C Df Nn (k.turn neg) t (pushN n p neg) (by lia)).le (by first | decide | omega), ?_⟩
            ((with_reducible refine X_nil ?_))
            refine ⟨some (join (k.turn neg) t (pushN n p neg)), ⟨by rw [e]; rfl, ?_, fun q h => hm q (.tail _ h)⟩, vs_cons rfl (vs_cons rfl (vs_cons rfl vs_nil)), rfl⟩
            have := join_size (k.turn neg) t (pushN n p neg)
            simp only [szo]; lia
        · intro i ρ' ⟨e, _, _⟩ hr
          try dsimp only
          refine T_sub (ρ' := [(Str.ofString "found", .d (optD i)), (Str.ofString "turned", .d (.str (k.turn neg).str)), (Str.ofString "is_not", .d (.bool neg))]) ?_ (sub_of hr)
          ((with_reducible refine X_cons ?_); (with_reducible refine X_ret ?_); refine W_Name rfl ?_)
          refine ⟨_, rfl, ?_⟩
          rw [pushN_mk]
          cases h : ops k (k.mk a b) with
          | nil => exact absurd h (ops_ne _ _)
          | cons p ps =>
            rw [h, List.map_cons, fold1] at e
            obtain ⟨r, hr⟩ := fold1_some (k.turn neg) (ps.map fun p => pushN n p neg) (pushN n p neg)
            rw [List.map_cons, fold1, hr]
            rw [hr] at e
            rw [List.map_nil, fold1] at e
            rw [← e]; rfl
end

/-! part F5 -/
noncomputable def ends : Tr → List Lf
  | .leaf l => [l]
  | .nt t => ends t
  | .an a b => ends a ++ ends b
  | .or a b => ends a ++ ends b
theorem ends_len (t : Tr) : (ends t).length ≤ t.size := by
  induction t with
  | leaf l => simp [ends, Tr.size]
  | nt t h => simp only [ends, Tr.size]; lia
  | an a b h1 h2 => simp only [ends, Tr.size, List.length_append]; lia
  | or a b h1 h2 => simp only [ends, Tr.size, List.length_append]; lia
noncomputable abbrev lfTs (ls : List Lf) : List Tr := ls.map .leaf
noncomputable abbrev plain (t : Tr) : Tr := pushN t.size t false
noncomputable def lfk (l : Lf) : Str := (Tr.leaf l).kind
section
variable {prog : Program} {w : World} {base : Heap} {env : Env} {B : Nat} {ρ : Vars} {μ : Lists} {Q : V → Vars → Lists → Prop}
/-- `x[:4]` of a str -/
theorem W_str4 {e : Expr} {kk : Nat} {p p' pos : Pos} (h : W prog w base env B e ρ μ fun v ρ' μ' => ∃ x y, v = .d (.str x) ∧ (∀ t u, (sliceMade x t none (some (4, u)) none = .val (.str x t) ∧ y = x) ∨ sliceMade x t none (some (4, u)) none = .str y) ∧ y.length ≤ 1000 ∧ Q (.d (.str y)) ρ' μ')
    (ht : ∀ o r, letTemporaryGo e o r = pure () := by intro _ _; rfl) : W prog w base env B (.Subscript e (.Slice none (some (.Constant (.int 4) kk p')) none p) pos) ρ μ Q := fun A s ex φ hA S => by
  refine wpAny_Subscript_str_slice (h.use hA S fun u s₁ v ρ₁ μ₁ φ₁ S₁ N₁ M₁ r₁ ⟨x, y, e, hm, hy, q⟩ => wpAny_evalPart_none (wpAny_evalPart_some (wpAny_Constant_int ?_))) ht
  subst e
  cases r₁ with
  | d r =>
    cases r with
    | str _ t =>
      refine ⟨x, t, none, some (4, s₁.toks), rfl, rfl, rfl, ?_⟩
      have k0 : ∀ o' b o, s₁.heap.get? b = some o → (s₁.heap.push o').get? b = some o := fun o' b o e => Heap.get?_push_of_some _ e
      rcases hm t s₁.toks with ⟨h1, rfl⟩ | h1
      · rw [h1]
        exact ⟨_, ρ₁, μ₁, φ₁, S₁.grow (k0 _), N₁.trans (.of_stays (k0 _)), M₁.trans ⟨_, _, rfl⟩, .d (.str _ _), q⟩
      · rw [h1]
        have fin : ∀ tk tk', Post base env ex φ s Rep Q (.str y tk') { s₁ with heap := s₁.heap.push { cls := .type "slice", data := .fields #[.none, .int 4 s₁.toks, .none] }, toks := tk } := fun tk tk' =>
          ⟨_, ρ₁, μ₁, φ₁, S₁.grow (k0 _), N₁.trans (.of_stays (k0 _)), M₁.trans ⟨_, _, rfl⟩, .d (.str _ _), q⟩
        dsimp only [Made.post]
        first
          | exact ⟨fin _ _, by have := szLine; lia, fin _ _⟩
          | exact fin _ _
          | exact ⟨by have := szLine; lia, fin _ _⟩
          | exact ⟨fin _ _, by have := szLine; lia⟩
end

section
variable {w : World} {base : Heap} {mg mb : Str → Option Value} {f : Nat → Addr} (C : Cx base mg mb) (Df : Defs base mg PR f) (Nn : Nb mg)
include C Df Nn
theorem plain_fn (t : Tr) (ht : t.size ≤ 90) : Fn PR w base (f 10) 293 [.d t.D] (.d (plain t).D) := by
  refine Fn_def C Df (i := 10) (B := 292) (names := [Str.ofString "tree"]) rfl (fun _ _ _ _ _ us h => ?_) (fun doc pm an cd ct L => ?_)
  · obtain ⟨a, rfl⟩ := len1 h; rfl
  · dsimp only [List.map, List.zip, List.zipWith, inV]
    refine X_cons (X_ret (W_calld C Df 9 ?_))
    (refine WL_cons ?_; refine W_Name rfl ?_; refine WL_cons ?_; (with_reducible refine W_bool ?_); (with_reducible refine WL_nil ?_))
    exact ⟨_, _, rfl, (pushed_go C Df Nn t.size t false (Nat.le_refl _) ht).le (by first | decide | omega), _, rfl, rfl⟩
omit Nn
theorem leaves_fn (t : Tr) (ht : t.size ≤ 600) : Fn PR w base (f 11) 1 [.d t.D] (.l (TrD (lfTs (ends t)))) := by
  refine Fn_def C Df (i := 11) (names := [Str.ofString "tree"]) rfl (fun _ _ _ _ _ us h => ?_) (fun doc pm an cd ct L => ?_)
  · obtain ⟨a, rfl⟩ := len1 h; rfl
  · dsimp only [List.map, List.zip, List.zipWith, inV]
    refine X_cons (X_set2 (W_ListM (WL_nil ⟨Nat.le_of_ble_eq_true rfl, W_ListM ?_⟩)))
    (refine WL_cons ?_; refine W_Name rfl ?_; (with_reducible refine WL_nil ?_); refine ⟨Nat.le_of_ble_eq_true rfl, ?_⟩; (with_reducible refine X_cons ?_); (with_reducible refine X_while ?_))
    refine LT_ind (ι := List Tr × List Lf) (fun i => [(Str.ofString "found", .lst 0), (Str.ofString "left", .lst 1)]) (fun i => [Trs (lfTs i.2), Trs i.1.reverse]) (fun i => sizes i.1) (fun i => ends t = i.2 ++ i.1.flatMap ends ∧ i.2.length + sizes i.1 ≤ 600) ([t], []) ⟨by simp, by simpa [sizes] using ht⟩ (vs_cons rfl (vs_cons rfl vs_nil)) rfl fun i hi ih => ?_
    obtain ⟨stack, acc⟩ := i
    obtain ⟨hr, hl⟩ := hi
    refine LT_while ?_
    dsimp only at hr hl ⊢
    (refine WB_Cmp ?_; refine W_Name rfl ?_; (with_reducible refine W_List ?_); (with_reducible refine WL_nil ?_); refine ⟨_, rfl, Nat.le_of_ble_eq_true rfl, ?_⟩)
    refine ⟨_, cmp_trs_nil (ts := stack.reverse) rfl (fun u hu => by have := size_mem (List.mem_reverse.mp hu); lia), ?_⟩
    cases stack with
    | nil =>
      refine ite_f (by simp) ?_
      ((with_reducible refine X_cons ?_); (with_reducible refine X_ret ?_); refine W_Name rfl ?_)
      refine ⟨_, rfl, ?_⟩
      show Option.map PV.l (allD (Trs (lfTs acc))) = _
      rw [allD_Trs, hr]; simp
    | cons here rest =>
      rw [sizes_cons] at hl
      refine ite_t (by simp) ?_
      have hlen := sizes_len rest
      refine X_cons (X_set (W_pop (k := 1) (vs := Trs rest.reverse) (v := .d here.D) rfl (by simp) (by simp; lia) ?_))
      ((with_reducible refine X_cons ?_); (with_reducible refine X_if ?_); refine WB_Cmp ?_; refine W_Sub ?_; refine W_Name rfl ?_; (with_reducible refine W_int ?_); refine ⟨_, sub_kind _ _, ?_⟩; (with_reducible refine W_str ?_); refine ⟨_, cmp_str_eq _ _ _, ?_⟩)
      rw [List.flatMap_cons] at hr
      cases here with
      | nt u =>
        simp only [ends, Tr.size] at hr hl
        refine ite_t rfl ?_
        ((with_reducible refine X_cons ?_); refine X_expr ?_; refine W_append rfl ?_ (Nat.le_of_ble_eq_true rfl); refine W_Sub ?_; refine W_Name rfl ?_; (with_reducible refine W_int ?_); refine ⟨_, rfl, ?_⟩)
        refine ⟨_, rfl, by simp; lia, rfl, ?_⟩
        ((with_reducible refine X_nil ?_); (with_reducible refine X_nil ?_))
        refine ih (u :: rest, acc) _ _ ⟨by rw [hr]; simp, ?_⟩ ?_ (vs_cons rfl (vs_cons rfl vs_nil)) (by simp)
        · dsimp only; rw [sizes_cons]; lia
        · dsimp only; rw [sizes_cons, sizes_cons]; simp only [Tr.size]; lia
      | an a b =>
        simp only [ends, Tr.size] at hr hl
        refine ite_f rfl ?_
        ((with_reducible refine X_cons ?_); (with_reducible refine X_if ?_); refine WB_Cmp ?_; refine W_Sub ?_; refine W_Name rfl ?_; (with_reducible refine W_int ?_); refine ⟨_, sub_kind _ _, ?_⟩; (with_reducible refine W_Tuple ?_); refine WL_cons ?_; (with_reducible refine W_str ?_); refine WL_cons ?_; (with_reducible refine W_str ?_); (with_reducible refine WL_nil ?_); refine ⟨_, rfl, Nat.le_of_ble_eq_true rfl, ?_⟩)
        refine ⟨_, kind_in (.an a b) _, ite_t rfl ?_⟩
        ((with_reducible refine X_cons ?_); refine X_expr ?_; refine W_extend rfl ?_ (Nat.le_of_ble_eq_true rfl); refine WL_cons ?_; refine W_Sub ?_; refine W_Name rfl ?_; (with_reducible refine W_int ?_); refine ⟨_, rfl, ?_⟩; refine WL_cons ?_; refine W_Sub ?_; refine W_Name rfl ?_; (with_reducible refine W_int ?_); refine ⟨_, rfl, ?_⟩; (with_reducible refine WL_nil ?_))
        refine ⟨_, rfl, by simp; lia, rfl, ?_⟩
        ((with_reducible refine X_nil ?_); (with_reducible refine X_nil ?_); (with_reducible refine X_nil ?_))
        refine ih (a :: b :: rest, acc) _ _ ⟨by rw [hr]; simp, ?_⟩ ?_ (vs_cons rfl (vs_cons rfl vs_nil)) (by simp)
        · dsimp only; rw [sizes_cons, sizes_cons]; lia
        · dsimp only; rw [sizes_cons, sizes_cons, sizes_cons]; simp only [Tr.size]; lia
      | or a b =>
        simp only [ends, Tr.size] at hr hl
        refine ite_f rfl ?_
        ((with_reducible refine X_cons ?_); (with_reducible refine X_if ?_); refine WB_Cmp ?_; refine W_Sub ?_; refine W_Name rfl ?_; (with_reducible refine W_int ?_); refine ⟨_, sub_kind _ _, ?_⟩; (with_reducible refine W_Tuple ?_); refine WL_cons ?_; (with_reducible refine W_str ?_); refine WL_cons ?_; (with_reducible refine W_str ?_); (with_reducible refine WL_nil ?_); refine ⟨_, rfl, Nat.le_of_ble_eq_true rfl, ?_⟩)
        refine ⟨_, kind_in (.or a b) _, ite_t rfl ?_⟩
        ((with_reducible refine X_cons ?_); refine X_expr ?_; refine W_extend rfl ?_ (Nat.le_of_ble_eq_true rfl); refine WL_cons ?_; refine W_Sub ?_; refine W_Name rfl ?_; (with_reducible refine W_int ?_); refine ⟨_, rfl, ?_⟩; refine WL_cons ?_; refine W_Sub ?_; refine W_Name rfl ?_; (with_reducible refine W_int ?_); refine ⟨_, rfl, ?_⟩; (with_reducible refine WL_nil ?_))
        refine ⟨_, rfl, by simp; lia, rfl, ?_⟩
        ((with_reducible refine X_nil ?_); (with_reducible refine X_nil ?_); (with_reducible refine X_nil ?_))
        refine ih (a :: b :: rest, acc) _ _ ⟨by rw [hr]; simp, ?_⟩ ?_ (vs_cons rfl (vs_cons rfl vs_nil)) (by simp)
        · dsimp only; rw [sizes_cons, sizes_cons]; lia
        · dsimp only; rw [sizes_cons, sizes_cons, sizes_cons]; simp only [Tr.size]; lia
      | leaf l =>
        simp only [ends, Tr.size] at hr hl
        refine ite_f (leaf_not l) ?_
        ((with_reducible refine X_cons ?_); (with_reducible refine X_if ?_); refine WB_Cmp ?_; refine W_Sub ?_; refine W_Name rfl ?_; (with_reducible refine W_int ?_); refine ⟨_, sub_kind _ _, ?_⟩; (with_reducible refine W_Tuple ?_); refine WL_cons ?_; (with_reducible refine W_str ?_); refine WL_cons ?_; (with_reducible refine W_str ?_); (with_reducible refine WL_nil ?_); refine ⟨_, rfl, Nat.le_of_ble_eq_true rfl, ?_⟩)
        refine ⟨_, kind_in (.leaf l) _, ite_f rfl ?_⟩
        ((with_reducible refine X_cons ?_); refine X_expr ?_; refine W_append rfl ?_ (Nat.le_of_ble_eq_true rfl); refine W_Name rfl ?_)
        refine ⟨_, rfl, by simp; lia, rfl, ?_⟩
        ((with_reducible refine X_nil ?_); (with_reducible refine X_nil ?_); (with_reducible refine X_nil ?_))
        refine ih (rest, acc ++ [l]) _ _ ⟨by rw [hr]; simp, ?_⟩ ?_ (vs_cons rfl (vs_cons rfl vs_nil)) (by simp)
        · dsimp only; simp; lia
        · dsimp only; rw [sizes_cons]; simp only [Tr.size]; lia

theorem lrow_fn : ∀ (n : Nat) (k : Kd) (t : Tr), t.size ≤ n → n ≤ 300 → Fn PR w base (f 20) n [.d (.str k.str), .d t.D] (.l (TrD (ops k t)))
  | 0, k, t, hl, _ => absurd t.size_pos (by lia)
  | n + 1, k, t, hl, hn => by
    have ih := lrow_fn n
    refine Fn_def C Df (i := 20) (names := [Str.ofString "kind", Str.ofString "tree"]) rfl (fun _ _ _ _ _ us h => ?_) (fun doc pm an cd ct L => ?_)
    · obtain ⟨a, b, rfl⟩ := len2 h; rfl
    · dsimp only [List.map, List.zip, List.zipWith, inV]
      ((with_reducible refine X_cons ?_); (with_reducible refine X_if ?_); refine WB_Cmp ?_; refine W_Sub ?_; refine W_Name rfl ?_; (with_reducible refine W_int ?_); refine ⟨_, sub_kind _ _, ?_⟩; refine W_Name rfl ?_; refine ⟨_, cmp_str_ne _ _ _, ?_⟩)
      rcases ops_cases k t with ⟨a, b, rfl⟩ | ⟨hk, hc⟩
      · rw [mk_size] at hl
        rw [mk_kind]
        refine ite_f (by simp) (X_nil ?_)
        have h1 := sizes_len (ops k a)
        have h2 := sizes_len (ops k b)
        have h3 := ops_size k a
        have h4 := ops_size k b
        refine X_cons (X_ret (W_catM (W_calld C Df 20 ?_)))
        have e1 : ∀ μ, subV (.d (k.mk a b).D) (.d (.int 1)) μ = some (.d a.D) := fun μ => by cases k <;> rfl
        have e2 : ∀ μ, subV (.d (k.mk a b).D) (.d (.int 2)) μ = some (.d b.D) := fun μ => by cases k <;> rfl
        refine WL_cons (W_Name rfl (WL_cons (W_Sub (W_Name rfl (W_int ⟨_, e1 _, WL_nil ⟨_, _, rfl, ih k a (by lia) (by lia), W_calld C Df 20 ?_⟩⟩)))))
        refine WL_cons (W_Name rfl (WL_cons (W_Sub (W_Name rfl (W_int ⟨_, e2 _, WL_nil ⟨_, _, rfl, ih k b (by lia) (by lia), ?_⟩⟩)))))
        refine ⟨_, _, rfl, rfl, by simp; lia, ?_⟩
        refine ⟨_, rfl, ?_⟩
        show Option.map PV.l (allD (List.map V.d (TrD (ops k a) ++ TrD (ops k b)))) = _
        rw [allD_map, ops_mk]
        simp
      · refine ite_t (by simp [hk]) ?_
        ((with_reducible refine X_cons ?_); (with_reducible refine X_ret (W_ListM ?_)); refine WL_cons ?_; refine W_Name rfl ?_; (with_reducible refine WL_nil ?_); refine ⟨Nat.le_of_ble_eq_true rfl, ?_⟩)
        exact ⟨_, rfl, by rw [hc]; rfl⟩
theorem lends_fn : ∀ (n : Nat) (t : Tr), t.size ≤ n → n ≤ 300 → Fn PR w base (f 21) n [.d t.D] (.l (TrD (lfTs (ends t))))
  | 0, t, hl, _ => absurd t.size_pos (by lia)
  | n + 1, t, hl, hn => by
    have ih := lends_fn n
    refine Fn_def C Df (i := 21) (names := [Str.ofString "tree"]) rfl (fun _ _ _ _ _ us h => ?_) (fun doc pm an cd ct L => ?_)
    · obtain ⟨a, rfl⟩ := len1 h; rfl
    · dsimp only [List.map, List.zip, List.zipWith, inV]
      ((with_reducible refine X_cons ?_); (with_reducible refine X_if ?_); refine WB_Cmp ?_; refine W_Sub ?_; refine W_Name rfl ?_; (with_reducible refine W_int ?_); refine ⟨_, sub_kind _ _, ?_⟩; (with_reducible refine W_str ?_); refine ⟨_, cmp_str_eq _ _ _, ?_⟩)
      have two : ∀ a b : Tr, a.size + b.size + 1 ≤ n + 1 → (TrD (lfTs (ends a))).length + (TrD (lfTs (ends b))).length ≤ 1000000 := fun a b h => by
        have h1 := ends_len a
        have h2 := ends_len b
        simp; lia
      cases t with
      | nt u =>
        simp only [Tr.size] at hl
        refine ite_t rfl ?_
        refine X_cons (X_ret (W_calldM C Df 21 ?_))
        (refine WL_cons ?_; refine W_Sub ?_; refine W_Name rfl ?_; (with_reducible refine W_int ?_); refine ⟨_, rfl, ?_⟩; (with_reducible refine WL_nil ?_))
        refine ⟨_, _, rfl, ih u (by lia) (by lia), _, rfl, ?_⟩
        show Option.map PV.l (allD (List.map V.d (TrD (lfTs (ends u))))) = _
        rw [allD_map]; rfl
      | an a b =>
        simp only [Tr.size] at hl
        refine ite_f rfl ?_
        ((with_reducible refine X_nil ?_); (with_reducible refine X_cons ?_); (with_reducible refine X_if ?_); refine WB_Cmp ?_; refine W_Sub ?_; refine W_Name rfl ?_; (with_reducible refine W_int ?_); refine ⟨_, sub_kind _ _, ?_⟩; (with_reducible refine W_Tuple ?_); refine WL_cons ?_; (with_reducible refine W_str ?_); refine WL_cons ?_; (with_reducible refine W_str ?_); (with_reducible refine WL_nil ?_); refine ⟨_, rfl, Nat.le_of_ble_eq_true rfl, ?_⟩)
        refine ⟨_, kind_in (.an a b) _, ite_t rfl ?_⟩
        refine X_cons (X_ret (W_catM (W_calld C Df 21 ?_)))
        (refine WL_cons ?_; refine W_Sub ?_; refine W_Name rfl ?_; (with_reducible refine W_int ?_); refine ⟨_, rfl, ?_⟩; (with_reducible refine WL_nil ?_))
        refine ⟨_, _, rfl, ih a (by lia) (by lia), W_calld C Df 21 ?_⟩
        (refine WL_cons ?_; refine W_Sub ?_; refine W_Name rfl ?_; (with_reducible refine W_int ?_); refine ⟨_, rfl, ?_⟩; (with_reducible refine WL_nil ?_))
        refine ⟨_, _, rfl, ih b (by lia) (by lia), _, _, rfl, rfl, two a b (by lia), _, rfl, ?_⟩
        show Option.map PV.l (allD (List.map V.d (TrD (lfTs (ends a)) ++ TrD (lfTs (ends b))))) = _
        rw [allD_map]
        simp [ends]
      | or a b =>
        simp only [Tr.size] at hl
        refine ite_f rfl ?_
        ((with_reducible refine X_nil ?_); (with_reducible refine X_cons ?_); (with_reducible refine X_if ?_); refine WB_Cmp ?_; refine W_Sub ?_; refine W_Name rfl ?_; (with_reducible refine W_int ?_); refine ⟨_, sub_kind _ _, ?_⟩; (with_reducible refine W_Tuple ?_); refine WL_cons ?_; (with_reducible refine W_str ?_); refine WL_cons ?_; (with_reducible refine W_str ?_); (with_reducible refine WL_nil ?_); refine ⟨_, rfl, Nat.le_of_ble_eq_true rfl, ?_⟩)
        refine ⟨_, kind_in (.or a b) _, ite_t rfl ?_⟩
        refine X_cons (X_ret (W_catM (W_calld C Df 21 ?_)))
        (refine WL_cons ?_; refine W_Sub ?_; refine W_Name rfl ?_; (with_reducible refine W_int ?_); refine ⟨_, rfl, ?_⟩; (with_reducible refine WL_nil ?_))
        refine ⟨_, _, rfl, ih a (by lia) (by lia), W_calld C Df 21 ?_⟩
        (refine WL_cons ?_; refine W_Sub ?_; refine W_Name rfl ?_; (with_reducible refine W_int ?_); refine ⟨_, rfl, ?_⟩; (with_reducible refine WL_nil ?_))
        refine ⟨_, _, rfl, ih b (by lia) (by lia), _, _, rfl, rfl, two a b (by lia), _, rfl, ?_⟩
        show Option.map PV.l (allD (List.map V.d (TrD (lfTs (ends a)) ++ TrD (lfTs (ends b))))) = _
        rw [allD_map]
        simp [ends]
      | leaf l =>
        refine ite_f (leaf_not l) ?_
        ((with_reducible refine X_nil ?_); (with_reducible refine X_cons ?_); (with_reducible refine X_if ?_); refine WB_Cmp ?_; refine W_Sub ?_; refine W_Name rfl ?_; (with_reducible refine W_int ?_); refine ⟨_, sub_kind _ _, ?_⟩; (with_reducible refine W_Tuple ?_); refine WL_cons ?_; (with_reducible refine W_str ?_); refine WL_cons ?_; (with_reducible refine W_str ?_); (with_reducible refine WL_nil ?_); refine ⟨_, rfl, Nat.le_of_ble_eq_true rfl, ?_⟩)
        refine ⟨_, kind_in (.leaf l) _, ite_f rfl ?_⟩
        ((with_reducible refine X_nil ?_); (with_reducible refine X_cons ?_); (with_reducible refine X_ret (W_ListM ?_)); refine WL_cons ?_; refine W_Name rfl ?_; (with_reducible refine WL_nil ?_); refine ⟨Nat.le_of_ble_eq_true rfl, ?_⟩)
        exact ⟨_, rfl, rfl⟩
end

/-! part F6 -/
/-! kinds -/
noncomputable def gk : D → Option D
  | .tup (.str k :: _) => some (.str k)
  | _ => none
theorem gk_leaf (l : Lf) : gk (Tr.leaf l).D = some (.str (lfk l)) := by cases l <;> rfl
noncomputable abbrev kindsD (ls : List Lf) : List D := ls.map fun l => D.str (lfk l)
theorem gk_all (ls : List Lf) : (TrD (lfTs ls)).filterMap gk = kindsD ls := by
  induction ls with
  | nil => rfl
  | cons l ls ih =>
    show List.filterMap gk ((Tr.leaf l).D :: TrD (lfTs ls)) = D.str (lfk l) :: kindsD ls
    rw [List.filterMap_cons, gk_leaf, ih]
theorem str_any (x : Str) (ls : List Lf) : ((kindsD ls).any fun z => eqD z (.str x)) = ls.any fun l => lfk l == x := by
  induction ls with
  | nil => rfl
  | cons l ls ih => simp only [List.map_cons, List.any_cons, ih]; rfl
theorem kinds_dep (ls : List Lf) : depDs (kindsD ls) ≤ 2 := depDs_le (n := 2) fun x hx => by
  have hx : x ∈ kindsD ls := hx
  obtain ⟨l, _, rfl⟩ := List.mem_map.mp hx
  exact Nat.le_of_ble_eq_true rfl
theorem okD_strs (ls : List Lf) (x : Str) : ((kindsD ls).all fun z => okD z (.str x)) = true := List.all_eq_true.mpr fun y hy => by
  have hy : y ∈ kindsD ls := hy
  obtain ⟨l, _, rfl⟩ := List.mem_map.mp hy
  rfl
theorem cmp_kind_in (x : Str) (ls : List Lf) : cmpDL .In (.str x) (some (kindsD ls)) = some (ls.any fun l => lfk l == x) := by
  exact (if_pos ⟨okD_strs ls x, by have := kinds_dep ls; lia⟩).trans (by rw [str_any])
noncomputable def isBody : Lf → Bool
  | .body => true
  | _ => false
noncomputable def gb : D → Option D
  | .str k => if k == Str.ofString "body" then some (.str k) else none
  | _ => none
theorem gb_leaf (l : Lf) : gb (.str (lfk l)) = if isBody l then some (.str (lfk l)) else none := by cases l <;> rfl
theorem gb_all (ls : List Lf) : (kindsD ls).filterMap gb = kindsD (ls.filter isBody) := by
  induction ls with
  | nil => rfl
  | cons l ls ih =>
    show List.filterMap gb (D.str (lfk l) :: kindsD ls) = _
    rw [List.filterMap_cons, gb_leaf, List.filter_cons]
    cases isBody l
    · exact ih
    · show D.str (lfk l) :: _ = D.str (lfk l) :: kindsD _
      rw [ih]
theorem cmp_ne_nil (ls : List Lf) : cmpLL .NotEq (some (kindsD ls)) (some []) = some (!ls.isEmpty) := by
  exact (if_pos ⟨by simp, by have := kinds_dep ls; lia⟩).trans (by cases ls <;> rfl)
theorem body_any (ls : List Lf) : (!(ls.filter isBody).isEmpty) = ls.any fun l => lfk l == Str.ofString "body" := by
  induction ls with
  | nil => rfl
  | cons l ls ih =>
    rw [List.filter_cons, List.any_cons, ← ih]
    cases l <;> rfl
theorem cmp_in_tl {ts : List Tr} {u : Tr} {μ : Lists} (h : ∀ t ∈ ts, t.size ≤ 600) : cmpV .In (.d u.D) (.tl (TrD ts)) μ = some (decide (u ∈ ts)) := cmp_tr_in h
noncomputable def met (p : Lf → Bool) : Tr → Bool
  | .leaf l => decide (l = .all) || p l
  | .nt t => !met p t
  | .an a b => met p a && met p b
  | .or a b => met p a || met p b
theorem met_row (p : Lf → Bool) : ∀ t : Tr, (rowOf t).all (met p) = met p t
  | .an a b => by rw [rowOf, List.all_append, met_row p a]; simp [met]
  | .leaf l => by simp [rowOf]
  | .nt t => by simp [rowOf]
  | .or a b => by simp [rowOf]
theorem row_mem_size {a b x : Tr} (h : x ∈ rowOf (.an a b)) : x.size < (Tr.an a b).size := by
  rw [rowOf] at h
  have := rowOf_size a
  simp only [Tr.size]
  rcases List.mem_append.mp h with h | h
  · have := size_mem h; lia
  · rw [List.mem_singleton.mp h]; lia
/-- a function that tells of leaves -/
noncomputable def Hold (w : World) (base : Heap) (u : Value) (p : Lf → Bool) : Prop := ∃ fa fo fd, u = .ref fa ∧ base.get? fa = some fo ∧ fo.data = .func fd ∧ ∀ l, l ≠ .all → Fn PR w base fa 2 [.d (Tr.leaf l).D] (.d (.bool (p l)))
theorem W_callv {w : World} {base : Heap} {env : Env} {B : Nat} {ρ : Vars} {μ : Lists} {Q : V → Vars → Lists → Prop} {prog : Program} {x : Str} {fa : Addr} {p pos : Pos} {e : Expr} {es : List Expr} {fo : Obj} {fd : FuncData} (hx : ρ.lookup x = some (.val (.ref fa))) (ho : base.get? fa = some fo) (hfd : fo.data = .func fd)
    (h : WL prog w base env B pos (e :: es) ρ μ fun vs ρ' μ' => ∃ ps r, argVs vs μ' = some ps ∧ Fn prog w base fa B ps r ∧ Q (backV r) ρ' μ')
    (hd : (x == ("__debug__" : Str)) = false := by rfl)
    (he : starEach (e :: es) env = (false, eval e env) :: starEach es env := by rfl) : W prog w base env B (.Call (.Name x p) (e :: es) [] pos) ρ μ Q := fun A s ex φ hA S => by
  refine Call_Name rfl ((W_Name (Q := fun v ρ' μ' => v = .val (.ref fa) ∧ ρ' = ρ ∧ μ' = μ) hx ⟨rfl, rfl, rfl⟩ hd).use hA S fun u₀ s₀ v₀ ρ₀ μ₀ φ₀ S₀ N₀ M₀ r₀ ⟨e1, e2, e3⟩ => ?_)
  subst e1 e2 e3
  cases r₀
  refine callWith_function (o := fo) (fd := fd) (args_any he ?_)
  refine h.use hA S₀ fun us s₁ vs ρ₁ μ₁ φ₁ S₁ N₁ M₁ r₁ ⟨ps, r, e1, hF, q⟩ => ⟨⟨S₁.stays _ _ ho, hfd⟩, ?_⟩
  refine wpAny_mono (hF A s₁ us hA S₁.stays (argVs_at S₁ e1 r₁)) (fun u s₂ ⟨k, M, rr⟩ => ?_) fun _ _ x => x
  exact ⟨_, ρ₁, μ₁, φ₁, S₁.sim M k, (N₀.trans N₁).trans (.of_stays k), (M₀.trans M₁).trans M, fn_back S₁ k rr, q⟩

section
variable {w : World} {base : Heap} {mg mb : Str → Option Value} {f : Nat → Addr} (C : Cx base mg mb) (Df : Defs base mg PR f) (Nn : Nb mg)
include C Df
theorem has_fn (t : Tr) (x : Str) (ht : t.size ≤ 600) : Fn PR w base (f 12) 2 [.d t.D, .d (.str x)] (.d (.bool ((ends t).any fun l => lfk l == x))) := by
  refine Fn_def C Df (i := 12) (B := 1) (names := [Str.ofString "tree", Str.ofString "kind"]) rfl (fun _ _ _ _ _ us h => ?_) (fun doc pm an cd ct L => ?_)
  · obtain ⟨a, b, rfl⟩ := len2 h; rfl
  · dsimp only [List.map, List.zip, List.zipWith, inV]
    have hl := ends_len t
    refine X_cons (X_ret (W_Cmp (W_Name rfl (W_Comp (cl := []) (IT_list (W_calld C Df 11 ?_)) (.name _ _)))))
    (refine WL_cons ?_; refine W_Name rfl ?_; (with_reducible refine WL_nil ?_))
    refine ⟨_, _, rfl, leaves_fn C Df t ht, _, rfl, by simp; lia, gk, [], CapOf.nil, fun L d hd => ?_, ?_⟩
    · obtain ⟨u, hu, rfl⟩ := List.mem_map.mp hd
      obtain ⟨l, hl, rfl⟩ := List.mem_map.mp hu
      refine ⟨_, .name rfl, WT_nil (ite_t rfl ?_)⟩
      (refine W_Sub ?_; refine W_Name rfl ?_; (with_reducible refine W_int ?_); refine ⟨_, sub_kind _ _, ?_⟩)
      exact ⟨_, rfl, gk_leaf l⟩
    · rw [gk_all]
      exact ⟨_, cmp_kind_in x _, _, rfl, rfl⟩

theorem needs_fn (t : Tr) (ht : t.size ≤ 600) : Fn PR w base (f 13) 2 [.d t.D] (.d (.bool ((ends t).any fun l => lfk l == Str.ofString "body"))) := by
  refine Fn_def C Df (i := 13) (B := 1) (names := [Str.ofString "tree"]) rfl (fun _ _ _ _ _ us h => ?_) (fun doc pm an cd ct L => ?_)
  · obtain ⟨a, rfl⟩ := len1 h; rfl
  · dsimp only [List.map, List.zip, List.zipWith, inV]
    have hl := ends_len t
    refine X_cons (X_setcomp (cl := []) (IT_list (W_calld C Df 11 ?_)) (.name _ _))
    (refine WL_cons ?_; refine W_Name rfl ?_; (with_reducible refine WL_nil ?_))
    refine ⟨_, _, rfl, leaves_fn C Df t ht, _, rfl, by simp; lia, gk, [], CapOf.nil, fun L d hd => ?_, ?_⟩
    · obtain ⟨u, hu, rfl⟩ := List.mem_map.mp hd
      obtain ⟨l, hl, rfl⟩ := List.mem_map.mp hu
      refine ⟨_, .name rfl, WT_nil (ite_t rfl ?_)⟩
      (refine W_Sub ?_; refine W_Name rfl ?_; (with_reducible refine W_int ?_); refine ⟨_, sub_kind _ _, ?_⟩)
      exact ⟨_, rfl, gk_leaf l⟩
    · rw [gk_all]
      refine X_cons (X_ret (W_Cmp (W_Comp (cl := []) (IT_list (W_Name rfl ?_)) (.name _ _))))
      refine ⟨_, rfl, by simp; lia, gb, [], CapOf.nil, fun L d hd => ?_, ?_⟩
      · obtain ⟨l, hl, rfl⟩ := List.mem_map.mp hd
        refine ⟨_, .name rfl, WT_one ?_⟩
        cases l with
        | body =>
          ((with_reducible refine WB_or ?_); refine WB_Cmp ?_; refine W_Name rfl ?_; (with_reducible refine W_Tuple ?_); refine WL_cons ?_; (with_reducible refine W_str ?_); refine WL_cons ?_; (with_reducible refine W_str ?_); refine WL_cons ?_; (with_reducible refine W_str ?_); (with_reducible refine WL_nil ?_); refine ⟨_, rfl, Nat.le_of_ble_eq_true rfl, ?_⟩)
          refine ⟨_, rfl, ite_t rfl (ite_t rfl ?_)⟩
          (refine W_Name rfl ?_)
          exact ⟨_, rfl, rfl⟩
        | seen =>
          ((with_reducible refine WB_or ?_); refine WB_Cmp ?_; refine W_Name rfl ?_; (with_reducible refine W_Tuple ?_); refine WL_cons ?_; (with_reducible refine W_str ?_); refine WL_cons ?_; (with_reducible refine W_str ?_); refine WL_cons ?_; (with_reducible refine W_str ?_); (with_reducible refine WL_nil ?_); refine ⟨_, rfl, Nat.le_of_ble_eq_true rfl, ?_⟩)
          refine ⟨_, rfl, ite_f rfl (WB_or (WB_Cmp (W_str4 (W_Name rfl ?_))))⟩
          refine ⟨_, _, rfl, fun t u => .inl ⟨rfl, rfl⟩, by decide, ?_⟩
          ((with_reducible refine W_str ?_); refine ⟨_, cmp_str_eq _ _ _, ?_⟩)
          exact ite_f rfl (WB_or_nil (ite_f rfl rfl))
        | work =>
          ((with_reducible refine WB_or ?_); refine WB_Cmp ?_; refine W_Name rfl ?_; (with_reducible refine W_Tuple ?_); refine WL_cons ?_; (with_reducible refine W_str ?_); refine WL_cons ?_; (with_reducible refine W_str ?_); refine WL_cons ?_; (with_reducible refine W_str ?_); (with_reducible refine WL_nil ?_); refine ⟨_, rfl, Nat.le_of_ble_eq_true rfl, ?_⟩)
          refine ⟨_, rfl, ite_f rfl (WB_or (WB_Cmp (W_str4 (W_Name rfl ?_))))⟩
          refine ⟨_, _, rfl, fun t u => .inl ⟨rfl, rfl⟩, by decide, ?_⟩
          ((with_reducible refine W_str ?_); refine ⟨_, cmp_str_eq _ _ _, ?_⟩)
          exact ite_f rfl (WB_or_nil (ite_f rfl rfl))
        | large =>
          ((with_reducible refine WB_or ?_); refine WB_Cmp ?_; refine W_Name rfl ?_; (with_reducible refine W_Tuple ?_); refine WL_cons ?_; (with_reducible refine W_str ?_); refine WL_cons ?_; (with_reducible refine W_str ?_); refine WL_cons ?_; (with_reducible refine W_str ?_); (with_reducible refine WL_nil ?_); refine ⟨_, rfl, Nat.le_of_ble_eq_true rfl, ?_⟩)
          refine ⟨_, rfl, ite_f rfl (WB_or (WB_Cmp (W_str4 (W_Name rfl ?_))))⟩
          refine ⟨_, Str.ofString "larg", rfl, fun t u => .inr rfl, by decide, ?_⟩
          ((with_reducible refine W_str ?_); refine ⟨_, cmp_str_eq _ _ _, ?_⟩)
          exact ite_f rfl (WB_or_nil (ite_f rfl rfl))
        | uid =>
          ((with_reducible refine WB_or ?_); refine WB_Cmp ?_; refine W_Name rfl ?_; (with_reducible refine W_Tuple ?_); refine WL_cons ?_; (with_reducible refine W_str ?_); refine WL_cons ?_; (with_reducible refine W_str ?_); refine WL_cons ?_; (with_reducible refine W_str ?_); (with_reducible refine WL_nil ?_); refine ⟨_, rfl, Nat.le_of_ble_eq_true rfl, ?_⟩)
          refine ⟨_, rfl, ite_f rfl (WB_or (WB_Cmp (W_str4 (W_Name rfl ?_))))⟩
          refine ⟨_, _, rfl, fun t u => .inl ⟨rfl, rfl⟩, by decide, ?_⟩
          ((with_reducible refine W_str ?_); refine ⟨_, cmp_str_eq _ _ _, ?_⟩)
          exact ite_f rfl (WB_or_nil (ite_f rfl rfl))
        | all =>
          ((with_reducible refine WB_or ?_); refine WB_Cmp ?_; refine W_Name rfl ?_; (with_reducible refine W_Tuple ?_); refine WL_cons ?_; (with_reducible refine W_str ?_); refine WL_cons ?_; (with_reducible refine W_str ?_); refine WL_cons ?_; (with_reducible refine W_str ?_); (with_reducible refine WL_nil ?_); refine ⟨_, rfl, Nat.le_of_ble_eq_true rfl, ?_⟩)
          refine ⟨_, rfl, ite_f rfl (WB_or (WB_Cmp (W_str4 (W_Name rfl ?_))))⟩
          refine ⟨_, _, rfl, fun t u => .inl ⟨rfl, rfl⟩, by decide, ?_⟩
          ((with_reducible refine W_str ?_); refine ⟨_, cmp_str_eq _ _ _, ?_⟩)
          exact ite_f rfl (WB_or_nil (ite_f rfl rfl))
      · rw [gb_all]
        ((with_reducible refine W_List ?_); (with_reducible refine WL_nil ?_); refine ⟨_, rfl, Nat.le_of_ble_eq_true rfl, ?_⟩)
        refine ⟨_, cmp_ne_nil _, _, rfl, ?_⟩
        rw [body_any]; rfl

theorem ismet_fn (ts : List Tr) (hts : ∀ t ∈ ts, t.size ≤ 600) : ∀ (n : Nat) (t : Tr), t.size ≤ n → n ≤ 300 → Fn PR w base (f 19) n [.d t.D, .l (TrD ts)] (.d (.bool (met (fun l => decide (Tr.leaf l ∈ ts)) t)))
  | 0, t, hl, _ => absurd t.size_pos (by lia)
  | n + 1, t, hl, hn => by
    have ih := ismet_fn ts hts n
    refine Fn_def C Df (i := 19) (names := [Str.ofString "tree", Str.ofString "truths"]) rfl (fun _ _ _ _ _ us h => ?_) (fun doc pm an cd ct L => ?_)
    · obtain ⟨a, b, rfl⟩ := len2 h; rfl
    · dsimp only [List.map, List.zip, List.zipWith, inV]
      ((with_reducible refine X_cons ?_); (with_reducible refine X_if ?_); refine WB_Cmp ?_; refine W_Sub ?_; refine W_Name rfl ?_; (with_reducible refine W_int ?_); refine ⟨_, sub_kind _ _, ?_⟩; (with_reducible refine W_str ?_); refine ⟨_, cmp_str_eq _ _ _, ?_⟩)
      cases t with
      | an a b =>
        simp only [Tr.size] at hl
        refine ite_t rfl (X_cons (X_ret (W_and (W_calld C Df 19 ?_))))
        (refine WL_cons ?_; refine W_Sub ?_; refine W_Name rfl ?_; (with_reducible refine W_int ?_); refine ⟨_, rfl, ?_⟩; refine WL_cons ?_; refine W_Name rfl ?_; (with_reducible refine WL_nil ?_))
        refine ⟨_, _, rfl, ih a (by lia) (by lia), _, rfl, ?_⟩
        cases h : met (fun l => decide (Tr.leaf l ∈ ts)) a with
        | false => exact ite_f rfl ⟨_, rfl, by rw [met, h]; rfl⟩
        | true =>
          refine ite_t rfl (W_bop_one (W_calld C Df 19 ?_))
          (refine WL_cons ?_; refine W_Sub ?_; refine W_Name rfl ?_; (with_reducible refine W_int ?_); refine ⟨_, rfl, ?_⟩; refine WL_cons ?_; refine W_Name rfl ?_; (with_reducible refine WL_nil ?_))
          refine ⟨_, _, rfl, ih b (by lia) (by lia), _, rfl, by rw [met, h]; rfl⟩
      | or a b =>
        simp only [Tr.size] at hl
        refine ite_f rfl ?_
        ((with_reducible refine X_nil ?_); (with_reducible refine X_cons ?_); (with_reducible refine X_if ?_); refine WB_Cmp ?_; refine W_Sub ?_; refine W_Name rfl ?_; (with_reducible refine W_int ?_); refine ⟨_, sub_kind _ _, ?_⟩; (with_reducible refine W_str ?_); refine ⟨_, cmp_str_eq _ _ _, ?_⟩)
        refine ite_t rfl (X_cons (X_ret (W_or (W_calld C Df 19 ?_))))
        (refine WL_cons ?_; refine W_Sub ?_; refine W_Name rfl ?_; (with_reducible refine W_int ?_); refine ⟨_, rfl, ?_⟩; refine WL_cons ?_; refine W_Name rfl ?_; (with_reducible refine WL_nil ?_))
        refine ⟨_, _, rfl, ih a (by lia) (by lia), _, rfl, ?_⟩
        cases h : met (fun l => decide (Tr.leaf l ∈ ts)) a with
        | true => exact ite_t rfl ⟨_, rfl, by rw [met, h]; rfl⟩
        | false =>
          refine ite_f rfl (W_bop_one (W_calld C Df 19 ?_))
          (refine WL_cons ?_; refine W_Sub ?_; refine W_Name rfl ?_; (with_reducible refine W_int ?_); refine ⟨_, rfl, ?_⟩; refine WL_cons ?_; refine W_Name rfl ?_; (with_reducible refine WL_nil ?_))
          refine ⟨_, _, rfl, ih b (by lia) (by lia), _, rfl, by rw [met, h]; rfl⟩
      | nt u =>
        simp only [Tr.size] at hl
        refine ite_f rfl ?_
        ((with_reducible refine X_nil ?_); (with_reducible refine X_cons ?_); (with_reducible refine X_if ?_); refine WB_Cmp ?_; refine W_Sub ?_; refine W_Name rfl ?_; (with_reducible refine W_int ?_); refine ⟨_, sub_kind _ _, ?_⟩; (with_reducible refine W_str ?_); refine ⟨_, cmp_str_eq _ _ _, ?_⟩)
        refine ite_f rfl ?_
        ((with_reducible refine X_nil ?_); (with_reducible refine X_cons ?_); (with_reducible refine X_if ?_); refine WB_Cmp ?_; refine W_Sub ?_; refine W_Name rfl ?_; (with_reducible refine W_int ?_); refine ⟨_, sub_kind _ _, ?_⟩; (with_reducible refine W_str ?_); refine ⟨_, cmp_str_eq _ _ _, ?_⟩)
        refine ite_t rfl (X_cons (X_ret (W_not (W_calld C Df 19 ?_))))
        (refine WL_cons ?_; refine W_Sub ?_; refine W_Name rfl ?_; (with_reducible refine W_int ?_); refine ⟨_, rfl, ?_⟩; refine WL_cons ?_; refine W_Name rfl ?_; (with_reducible refine WL_nil ?_))
        refine ⟨_, _, rfl, ih u (by lia) (by lia), _, rfl, _, rfl, rfl⟩
      | leaf l =>
        refine ite_f (leaf_and l) ?_
        ((with_reducible refine X_nil ?_); (with_reducible refine X_cons ?_); (with_reducible refine X_if ?_); refine WB_Cmp ?_; refine W_Sub ?_; refine W_Name rfl ?_; (with_reducible refine W_int ?_); refine ⟨_, sub_kind _ _, ?_⟩; (with_reducible refine W_str ?_); refine ⟨_, cmp_str_eq _ _ _, ?_⟩)
        refine ite_f (leaf_or l) ?_
        ((with_reducible refine X_nil ?_); (with_reducible refine X_cons ?_); (with_reducible refine X_if ?_); refine WB_Cmp ?_; refine W_Sub ?_; refine W_Name rfl ?_; (with_reducible refine W_int ?_); refine ⟨_, sub_kind _ _, ?_⟩; (with_reducible refine W_str ?_); refine ⟨_, cmp_str_eq _ _ _, ?_⟩)
        refine ite_f (leaf_not l) ?_
        refine X_nil (X_cons (X_ret (W_or (W_Cmp ?_))))
        (refine W_Name rfl ?_; (with_reducible refine W_Tuple ?_); refine WL_cons ?_; (with_reducible refine W_str ?_); (with_reducible refine WL_nil ?_); refine ⟨_, rfl, Nat.le_of_ble_eq_true rfl, ?_⟩)
        refine ⟨_, cmp_tr_eq (t := .leaf l) (u := .leaf .all) (by simp [Tr.size]), _, rfl, ?_⟩
        by_cases h : l = .all
        · subst h
          exact ite_t (by simp) ⟨_, rfl, by simp [met, outV]⟩
        · refine ite_f (by simp [h]) (W_bop_one ?_)
          (refine W_Cmp ?_; refine W_Name rfl ?_; refine W_Name rfl ?_)
          exact ⟨_, cmp_in_tl hts, _, rfl, by simp [met, h, outV]⟩

theorem decide_fn {u : Value} {p : Lf → Bool} (H : Hold w base u p) : ∀ (n : Nat) (t : Tr), t.size ≤ n → n ≤ 300 → Fn PR w base (f 14) (n + 3) [.d t.D, .v u] (.d (.bool (met p t)))
  | 0, t, hl, _ => absurd t.size_pos (by lia)
  | n + 1, t, hl, hn => by
    have ih := decide_fn H n
    obtain ⟨fa, fo, fd, rfl, ho, hfd, hp⟩ := H
    refine Fn_def C Df (i := 14) (B := n + 3) (names := [Str.ofString "tree", Str.ofString "holds"]) rfl (fun _ _ _ _ _ us h => ?_) (fun doc pm an cd ct L => ?_)
    · obtain ⟨a, b, rfl⟩ := len2 h; rfl
    · dsimp only [List.map, List.zip, List.zipWith, inV]
      ((with_reducible refine X_cons ?_); refine X_set ?_; refine W_Sub ?_; refine W_Name rfl ?_; (with_reducible refine W_int ?_); refine ⟨_, sub_kind _ _, ?_⟩; (with_reducible refine X_cons ?_); (with_reducible refine X_if ?_); refine WB_Cmp ?_; refine W_Name rfl ?_; (with_reducible refine W_str ?_); refine ⟨_, cmp_str_eq _ _ _, ?_⟩)
      cases t with
      | an a b =>
        refine ite_f rfl ?_
        ((with_reducible refine X_nil ?_); (with_reducible refine X_cons ?_); (with_reducible refine X_if ?_); refine WB_Cmp ?_; refine W_Name rfl ?_; (with_reducible refine W_str ?_); refine ⟨_, cmp_str_eq _ _ _, ?_⟩)
        refine ite_f rfl ?_
        ((with_reducible refine X_nil ?_); (with_reducible refine X_cons ?_); (with_reducible refine X_if ?_); refine WB_Cmp ?_; refine W_Name rfl ?_; (with_reducible refine W_str ?_); refine ⟨_, cmp_str_eq _ _ _, ?_⟩)
        refine ite_f rfl ?_
        ((with_reducible refine X_nil ?_); (with_reducible refine X_cons ?_); (with_reducible refine X_if ?_); refine WB_Cmp ?_; refine W_Name rfl ?_; (with_reducible refine W_str ?_); refine ⟨_, cmp_str_ne _ _ _, ?_⟩)
        refine ite_f rfl ?_
        refine X_nil (X_cons (X_for_list (W_calld C Df 3 ?_)))
        (refine WL_cons ?_; refine W_Name rfl ?_; (with_reducible refine WL_nil ?_))
        refine ⟨_, _, rfl, (row_fn C Df (.an a b) (by lia)).le (by first | decide | omega), _, rfl, ?_⟩
        rw [show (TrD (rowOf (.an a b))).map (fun d => [(Str.ofString "part", V.d d)]) = (rowOf (.an a b)).map (fun t => [(Str.ofString "part", V.d t.D)]) from by rw [List.map_map]; rfl]
        refine ForX_ind (fun (t : Tr) => [(Str.ofString "part", V.d t.D)]) (fun (i : Unit) => [(Str.ofString "holds", .val (.ref fa))]) (fun i => []) (fun as i => met p (.an a b) = as.all (met p) ∧ ∀ x ∈ as, x.size ≤ n) ?_ ?_ (rowOf (.an a b)) () ⟨(met_row p _).symm, fun x hx => by have := row_mem_size hx; lia⟩ (vs_cons rfl vs_nil) rfl
        · intro x as i ⟨e, hs⟩
          refine X_cons (X_if (WB_not (WB_plain (W_calld C Df 14 ?_))))
          (refine WL_cons ?_; refine W_Name rfl ?_; refine WL_cons ?_; refine W_Name rfl ?_; (with_reducible refine WL_nil ?_))
          refine ⟨_, _, rfl, ih x (hs x (.head _)) (by lia), _, rfl, ?_⟩
          cases h : met p x with
          | false =>
            refine ite_t rfl ?_
            ((with_reducible refine X_cons ?_); (with_reducible refine X_ret ?_); (with_reducible refine W_bool ?_))
            exact ⟨_, rfl, by rw [e, List.all_cons, h]; rfl⟩
          | true =>
            refine ite_f rfl ?_
            ((with_reducible refine X_nil ?_); (with_reducible refine X_nil ?_))
            exact ⟨(), ⟨by rw [e, List.all_cons, h]; rfl, fun y hy => hs y (.tail _ hy)⟩, vs_cons rfl vs_nil, rfl⟩
        · intro i ρ' ⟨e, _⟩ hr
          try dsimp only
          ((with_reducible refine X_cons ?_); (with_reducible refine X_ret ?_); (with_reducible refine W_bool ?_))
          exact ⟨_, rfl, by rw [e]; rfl⟩
      | or a b =>
        simp only [Tr.size] at hl
        refine ite_f rfl ?_
        ((with_reducible refine X_nil ?_); (with_reducible refine X_cons ?_); (with_reducible refine X_if ?_); refine WB_Cmp ?_; refine W_Name rfl ?_; (with_reducible refine W_str ?_); refine ⟨_, cmp_str_eq _ _ _, ?_⟩)
        refine ite_f rfl ?_
        ((with_reducible refine X_nil ?_); (with_reducible refine X_cons ?_); (with_reducible refine X_if ?_); refine WB_Cmp ?_; refine W_Name rfl ?_; (with_reducible refine W_str ?_); refine ⟨_, cmp_str_eq _ _ _, ?_⟩)
        refine ite_t rfl (X_cons (X_ret (W_or (W_calld C Df 14 ?_))))
        (refine WL_cons ?_; refine W_Sub ?_; refine W_Name rfl ?_; (with_reducible refine W_int ?_); refine ⟨_, rfl, ?_⟩; refine WL_cons ?_; refine W_Name rfl ?_; (with_reducible refine WL_nil ?_))
        refine ⟨_, _, rfl, ih a (by lia) (by lia), _, rfl, ?_⟩
        cases h : met p a with
        | true => exact ite_t rfl ⟨_, rfl, by rw [met, h]; rfl⟩
        | false =>
          refine ite_f rfl (W_bop_one (W_calld C Df 14 ?_))
          (refine WL_cons ?_; refine W_Sub ?_; refine W_Name rfl ?_; (with_reducible refine W_int ?_); refine ⟨_, rfl, ?_⟩; refine WL_cons ?_; refine W_Name rfl ?_; (with_reducible refine WL_nil ?_))
          refine ⟨_, _, rfl, ih b (by lia) (by lia), _, rfl, by rw [met, h]; rfl⟩
      | nt u =>
        simp only [Tr.size] at hl
        refine ite_f rfl ?_
        ((with_reducible refine X_nil ?_); (with_reducible refine X_cons ?_); (with_reducible refine X_if ?_); refine WB_Cmp ?_; refine W_Name rfl ?_; (with_reducible refine W_str ?_); refine ⟨_, cmp_str_eq _ _ _, ?_⟩)
        refine ite_t rfl (X_cons (X_ret (W_not (W_calld C Df 14 ?_))))
        (refine WL_cons ?_; refine W_Sub ?_; refine W_Name rfl ?_; (with_reducible refine W_int ?_); refine ⟨_, rfl, ?_⟩; refine WL_cons ?_; refine W_Name rfl ?_; (with_reducible refine WL_nil ?_))
        refine ⟨_, _, rfl, ih u (by lia) (by lia), _, rfl, _, rfl, rfl⟩
      | leaf l =>
        by_cases h : l = .all
        · subst h
          refine ite_t rfl ?_
          ((with_reducible refine X_cons ?_); (with_reducible refine X_ret ?_); (with_reducible refine W_bool ?_))
          exact ⟨_, rfl, rfl⟩
        · refine ite_f (by cases l <;> first | rfl | exact absurd rfl h) ?_
          ((with_reducible refine X_nil ?_); (with_reducible refine X_cons ?_); (with_reducible refine X_if ?_); refine WB_Cmp ?_; refine W_Name rfl ?_; (with_reducible refine W_str ?_); refine ⟨_, cmp_str_eq _ _ _, ?_⟩)
          refine ite_f (leaf_not l) ?_
          ((with_reducible refine X_nil ?_); (with_reducible refine X_cons ?_); (with_reducible refine X_if ?_); refine WB_Cmp ?_; refine W_Name rfl ?_; (with_reducible refine W_str ?_); refine ⟨_, cmp_str_eq _ _ _, ?_⟩)
          refine ite_f (leaf_or l) ?_
          ((with_reducible refine X_nil ?_); (with_reducible refine X_cons ?_); (with_reducible refine X_if ?_); refine WB_Cmp ?_; refine W_Name rfl ?_; (with_reducible refine W_str ?_); refine ⟨_, cmp_str_ne _ _ _, ?_⟩)
          refine ite_t (by rw [leaf_and]; rfl) ?_
          refine X_cons (X_ret (W_callv (fa := fa) rfl ho hfd ?_))
          (refine WL_cons ?_; refine W_Name rfl ?_; (with_reducible refine WL_nil ?_))
          exact ⟨_, _, rfl, (hp l h).le (by first | decide | omega), _, rfl, by simp [met, h, outV, backV, inV]⟩
end

/-! part F7 -/
inductive Pl : Bool → Tr → Prop
  | leaf {top : Bool} {l : Lf} : (top || !decide (l = .all)) = true → Pl top (.leaf l)
  | nt {top : Bool} {l : Lf} : (top || !decide (l = .all)) = true → Pl top (.nt (.leaf l))
  | mk {top : Bool} (k : Kd) (a b : Tr) : (∀ x ∈ ops k (k.mk a b), Pl false x) → (ops k (k.mk a b)).Nodup → (∀ x ∈ ops k (k.mk a b), Tr.nt x ∉ ops k (k.mk a b)) → Pl top (k.mk a b)
noncomputable abbrev aonD : D := .tup [.str (Str.ofString "and"), .str (Str.ofString "or"), .str (Str.ofString "not")]
theorem leaf_notin (l : Lf) (μ : Lists) : cmpV .NotIn (.d (.str (Tr.leaf l).kind)) (.d aonD) μ = some true := by cases l <;> rfl
theorem bool_ne (a : Bool) (μ : Lists) : cmpV .NotEq (.d (.bool a)) (.d (.bool a)) μ = some false := by cases a <;> rfl
theorem no_and (ls : List Lf) : (ls.any fun l => lfk l == Str.ofString "and") = false := by
  induction ls with
  | nil => rfl
  | cons l ls ih => rw [List.any_cons, ih]; cases l <;> rfl
noncomputable def gh (ls : List Lf) : D → Option D
  | .str k => some (.bool (ls.any fun l => lfk l == k))
  | _ => none
theorem bools_eq (a b c : Bool) (μ : Lists) : cmpV .Eq (.tl [.bool a, .bool b, .bool c, .bool false]) (.tl [.bool a, .bool b, .bool c, .bool false]) μ = some true := by cases a <;> cases b <;> cases c <;> rfl
noncomputable abbrev spotB (p : Tr × Nat) : Vars := [(Str.ofString "one", .d p.1.D), (Str.ofString "spot", .d (.int (p.2 : Int)))]

section
variable {w : World} {base : Heap} {mg mb : Str → Option Value} {f : Nat → Addr} (C : Cx base mg mb) (Df : Defs base mg PR f) (Nn : Nb mg)
include C Df
theorem told_fn (t : Tr) (ht : t.size ≤ 300) : Fn PR w base (f 23) 301 [.d t.D] (.d (.bool true)) := by
  refine Fn_def1c C Df (i := 23) (B := 300) (x := Str.ofString "tree") rfl (fun _ _ _ _ _ u => rfl) (fun doc pm an cd ct L => ?_)
  have hl := ends_len t
  refine X_cons (X_set (W_calld C Df 21 ?_))
  (refine WL_cons ?_; refine W_Name rfl ?_; (with_reducible refine WL_nil ?_))
  refine ⟨_, _, rfl, (lends_fn C Df t.size t (Nat.le_refl _) (by lia)).le (by first | decide | omega), ?_⟩
  refine X_cons (X_setcomp (cl := []) (IT_list (W_Name rfl ⟨_, rfl, by simp; lia, gk, [], CapOf.nil, fun L d hd => ?_, ?_⟩)) (.name _ _))
  · obtain ⟨u, hu, rfl⟩ := List.mem_map.mp hd
    obtain ⟨l, hl, rfl⟩ := List.mem_map.mp hu
    refine ⟨_, .name rfl, WT_nil (ite_t rfl ?_)⟩
    (refine W_Sub ?_; refine W_Name rfl ?_; (with_reducible refine W_int ?_); refine ⟨_, sub_kind _ _, ?_⟩)
    exact ⟨_, rfl, gk_leaf l⟩
  · rw [gk_all]
    refine X_cons (X_if (WB_or (WB_Cmp (W_calld C Df 11 ?_))))
    (refine WL_cons ?_; refine W_Name rfl ?_; (with_reducible refine WL_nil ?_))
    refine ⟨_, _, rfl, (leaves_fn C Df t (by lia)).le (by first | decide | omega), ?_⟩
    (refine W_Name rfl ?_)
    refine ⟨_, cmp_trs_ne (ts := lfTs (ends t)) (us := lfTs (ends t)) (fun u hu => by obtain ⟨l, _, rfl⟩ := List.mem_map.mp hu; simp [Tr.size]), ite_f (by simp) ?_⟩
    refine WB_or (WB_Cmp (W_calld C Df 13 ?_))
    (refine WL_cons ?_; refine W_Name rfl ?_; (with_reducible refine WL_nil ?_))
    refine ⟨_, _, rfl, (needs_fn C Df t (by lia)).le (by first | decide | omega), ?_⟩
    (refine W_Cmp ?_; (with_reducible refine W_str ?_); refine W_Name rfl ?_)
    refine ⟨_, cmp_kind_in _ (ends t), _, bool_ne _ _, ite_f rfl (WB_or_nil (ite_f rfl ?_))⟩
    refine X_nil (X_cons (X_ret (W_Cmp (W_Comp (cl := [(Str.ofString "tree", L + 1)]) (IT_tuple ?_) (.name _ _)))))
    ((with_reducible refine W_Tuple ?_); refine WL_cons ?_; (with_reducible refine W_str ?_); refine WL_cons ?_; (with_reducible refine W_str ?_); refine WL_cons ?_; (with_reducible refine W_str ?_); refine WL_cons ?_; (with_reducible refine W_str ?_); (with_reducible refine WL_nil ?_); refine ⟨_, rfl, Nat.le_of_ble_eq_true rfl, ?_⟩)
    refine ⟨_, rfl, Nat.le_of_ble_eq_true rfl, gh (ends t), [(Str.ofString "tree", .d t.D)], CapOf.one rfl rfl (fun _ => rfl) rfl, fun L' d hd => ?_, ?_⟩
    · have hd : ∃ k, d = .str k := by
        simp only [List.mem_cons, List.not_mem_nil, or_false] at hd
        rcases hd with rfl | rfl | rfl | rfl <;> exact ⟨_, rfl⟩
      obtain ⟨k, rfl⟩ := hd
      refine ⟨_, .name rfl, WT_nil (ite_t rfl (W_calld C Df 12 ?_))⟩
      (refine WL_cons ?_; refine W_Name rfl ?_; refine WL_cons ?_; refine W_Name rfl ?_; (with_reducible refine WL_nil ?_))
      exact ⟨_, _, rfl, (has_fn C Df t k (by lia)).le (by first | decide | omega), _, rfl, rfl⟩
    · ((with_reducible refine W_List ?_); refine WL_cons ?_; refine W_Cmp ?_; (with_reducible refine W_str ?_); refine W_Name rfl ?_)
      refine ⟨_, cmp_kind_in _ (ends t), ?_⟩
      (refine WL_cons ?_; refine W_Cmp ?_; (with_reducible refine W_str ?_); refine W_Name rfl ?_)
      refine ⟨_, cmp_kind_in _ (ends t), ?_⟩
      (refine WL_cons ?_; refine W_Cmp ?_; (with_reducible refine W_str ?_); refine W_Name rfl ?_)
      refine ⟨_, cmp_kind_in _ (ends t), ?_⟩
      (refine WL_cons ?_; (with_reducible refine W_bool ?_); (with_reducible refine WL_nil ?_); refine ⟨_, rfl, Nat.le_of_ble_eq_true rfl, ?_⟩)
      refine ⟨_, ?_, rfl⟩
      show cmpV .Eq (.tl [.bool _, .bool _, .bool _, .bool ((ends t).any fun l => lfk l == Str.ofString "and")]) _ _ = _
      rw [no_and]
      exact bools_eq _ _ _ _

include Nn
theorem isplain_fn : ∀ (n : Nat) (t : Tr) (top : Bool), Pl top t → t.size ≤ n → n ≤ 200 → Fn PR w base (f 22) (n + 1) [.d t.D, .d (.bool top)] (.d (.bool true))
  | 0, t, top, _, hl, _ => absurd t.size_pos (by lia)
  | n + 1, t, top, hP, hl, hn => by
    have ih := isplain_fn n
    refine Fn_def C Df (i := 22) (B := n + 1) (names := [Str.ofString "tree", Str.ofString "is_top"]) rfl (fun _ _ _ _ _ us h => ?_) (fun doc pm an cd ct L => ?_)
    · obtain ⟨a, b, rfl⟩ := len2 h; rfl
    · dsimp only [List.map, List.zip, List.zipWith, inV]
      ((with_reducible refine X_cons ?_); (with_reducible refine X_if ?_); refine WB_Cmp ?_; refine W_Sub ?_; refine W_Name rfl ?_; (with_reducible refine W_int ?_); refine ⟨_, sub_kind _ _, ?_⟩; (with_reducible refine W_Tuple ?_); refine WL_cons ?_; (with_reducible refine W_str ?_); refine WL_cons ?_; (with_reducible refine W_str ?_); (with_reducible refine WL_nil ?_); refine ⟨_, rfl, Nat.le_of_ble_eq_true rfl, ?_⟩)
      cases hP with
      | @leaf _ l h =>
        refine ⟨_, kind_in (.leaf l) _, ite_f rfl ?_⟩
        ((with_reducible refine X_nil ?_); (with_reducible refine X_cons ?_); refine X_set ?_; (with_reducible refine W_IfExp ?_); refine WB_Cmp ?_; refine W_Sub ?_; refine W_Name rfl ?_; (with_reducible refine W_int ?_); refine ⟨_, sub_kind _ _, ?_⟩; (with_reducible refine W_str ?_); refine ⟨_, cmp_str_eq _ _ _, ?_⟩)
        refine ite_f (leaf_not l) ?_
        (refine W_Name rfl ?_; (with_reducible refine X_cons ?_); (with_reducible refine X_ret ?_))
        refine W_and (W_Cmp ?_)
        (refine W_Sub ?_; refine W_Name rfl ?_; (with_reducible refine W_int ?_); refine ⟨_, sub_kind _ _, ?_⟩; (with_reducible refine W_Tuple ?_); refine WL_cons ?_; (with_reducible refine W_str ?_); refine WL_cons ?_; (with_reducible refine W_str ?_); refine WL_cons ?_; (with_reducible refine W_str ?_); (with_reducible refine WL_nil ?_); refine ⟨_, rfl, Nat.le_of_ble_eq_true rfl, ?_⟩)
        refine ⟨_, leaf_notin l _, _, rfl, ite_t rfl (W_bop_one (W_or (W_Name rfl ⟨_, rfl, ?_⟩)))⟩
        cases top with
        | true => exact ite_t rfl ⟨_, rfl, rfl⟩
        | false =>
          refine ite_f rfl (W_bop_one ?_)
          (refine W_Cmp ?_; refine W_Name rfl ?_; (with_reducible refine W_Tuple ?_); refine WL_cons ?_; (with_reducible refine W_str ?_); (with_reducible refine WL_nil ?_); refine ⟨_, rfl, Nat.le_of_ble_eq_true rfl, ?_⟩)
          refine ⟨_, cmp_tr_ne (t := .leaf l) (u := .leaf .all) (by simp [Tr.size]), _, rfl, ?_⟩
          have : l ≠ .all := by simpa using h
          simp [this, outV]
      | @nt _ l h =>
        refine ⟨_, kind_in (.nt (.leaf l)) _, ite_f rfl ?_⟩
        ((with_reducible refine X_nil ?_); (with_reducible refine X_cons ?_); refine X_set ?_; (with_reducible refine W_IfExp ?_); refine WB_Cmp ?_; refine W_Sub ?_; refine W_Name rfl ?_; (with_reducible refine W_int ?_); refine ⟨_, sub_kind _ _, ?_⟩; (with_reducible refine W_str ?_); refine ⟨_, cmp_str_eq _ _ _, ?_⟩)
        refine ite_t rfl ?_
        (refine W_Sub ?_; refine W_Name rfl ?_; (with_reducible refine W_int ?_); refine ⟨_, rfl, ?_⟩; (with_reducible refine X_cons ?_); (with_reducible refine X_ret ?_))
        refine W_and (W_Cmp ?_)
        (refine W_Sub ?_; refine W_Name rfl ?_; (with_reducible refine W_int ?_); refine ⟨_, sub_kind _ _, ?_⟩; (with_reducible refine W_Tuple ?_); refine WL_cons ?_; (with_reducible refine W_str ?_); refine WL_cons ?_; (with_reducible refine W_str ?_); refine WL_cons ?_; (with_reducible refine W_str ?_); (with_reducible refine WL_nil ?_); refine ⟨_, rfl, Nat.le_of_ble_eq_true rfl, ?_⟩)
        refine ⟨_, leaf_notin l _, _, rfl, ite_t rfl (W_bop_one (W_or (W_Name rfl ⟨_, rfl, ?_⟩)))⟩
        cases top with
        | true => exact ite_t rfl ⟨_, rfl, rfl⟩
        | false =>
          refine ite_f rfl (W_bop_one ?_)
          (refine W_Cmp ?_; refine W_Name rfl ?_; (with_reducible refine W_Tuple ?_); refine WL_cons ?_; (with_reducible refine W_str ?_); (with_reducible refine WL_nil ?_); refine ⟨_, rfl, Nat.le_of_ble_eq_true rfl, ?_⟩)
          refine ⟨_, cmp_tr_ne (t := .leaf l) (u := .leaf .all) (by simp [Tr.size]), _, rfl, ?_⟩
          have : l ≠ .all := by simpa using h
          simp [this, outV]
      | mk k a b h1 h2 h3 =>
        refine ⟨_, kind_in (k.mk a b) _, ite_t (by cases k <;> rfl) ?_⟩
        have hsz := ops_size k (k.mk a b)
        have hlen := sizes_len (ops k (k.mk a b))
        have hmem : ∀ x ∈ ops k (k.mk a b), x.size ≤ 600 := fun x hx => by have := size_mem hx; lia
        refine X_cons (X_set (W_calld C Df 20 ?_))
        (refine WL_cons ?_; refine W_Sub ?_; refine W_Name rfl ?_; (with_reducible refine W_int ?_); refine ⟨_, sub_kind _ _, ?_⟩; refine WL_cons ?_; refine W_Name rfl ?_; (with_reducible refine WL_nil ?_))
        refine ⟨_, _, rfl, by rw [mk_kind]; exact (lrow_fn C Df (k.mk a b).size k (k.mk a b) (Nat.le_refl _) (by lia)).le hl, ?_⟩
        refine X_cons (X_for (.pair _ _ _) (IT_enum C Nn.enum (W_Name rfl ⟨_, rfl, (ops k (k.mk a b)).zipIdx.map spotB, by simp [enumD], fun j d b hd hb => ?_, ?_⟩)))
        · rw [List.getElem?_map, Option.map_eq_some_iff] at hb
          obtain ⟨⟨x, i⟩, hx, rfl⟩ := hb
          have hx' := List.mem_of_getElem? hx
          have e : i = j := by
            rw [List.getElem?_zipIdx, Option.map_eq_some_iff] at hx
            obtain ⟨y, _, e⟩ := hx
            cases e; simp
          have e2 : (ops k (k.mk a b))[j]? = some x := by
            rw [List.getElem?_zipIdx, Option.map_eq_some_iff] at hx
            obtain ⟨y, hy, e⟩ := hx
            cases e; exact hy
          subst e
          rw [enumD_get (x := x.D) (by rw [List.getElem?_map, e2]; rfl)] at hd
          cases hd
          exact .pair rfl rfl
        · refine ForX_ind spotB (fun (i : Unit) => [(Str.ofString "row", .tl (TrD (ops k (k.mk a b))))]) (fun i => []) (fun as i => ∀ p ∈ as, (ops k (k.mk a b))[p.2]? = some p.1) ?_ ?_ _ () (fun p hp => ?_) (vs_cons rfl vs_nil) rfl
          · intro ⟨x, i⟩ as _ hp
            have hx := hp _ (.head _)
            dsimp only at hx
            have hxm := List.mem_of_getElem? hx
            have hi : i < (ops k (k.mk a b)).length := (List.getElem?_eq_some_iff.mp hx).1
            have hps := part_size k a b hxm
            ((with_reducible refine X_cons ?_); (with_reducible refine X_if ?_); (with_reducible refine WB_or ?_); refine WB_Cmp ?_; refine W_Name rfl ?_; refine W_upto ?_; refine W_Name rfl ?_; refine W_Name rfl ?_)
            refine ⟨_, _, rfl, rfl, by lia, by simp; lia, ?_⟩
            rw [Int.toNat_natCast, ← List.map_take]
            refine ⟨_, cmp_in_tl (fun t ht => hmem t (List.mem_of_mem_take ht)), ite_f ?_ ?_⟩
            · refine decide_eq_false fun q => ?_
              obtain ⟨j, hj⟩ := List.mem_iff_getElem?.mp q
              rw [List.getElem?_take] at hj
              split at hj
              · rename_i hlt
                have := (List.getElem?_inj (by lia) h2).mp (hj.trans hx.symm)
                lia
              · cases hj
            ((with_reducible refine WB_or ?_); refine WB_Cmp ?_; (with_reducible refine W_Tuple ?_); refine WL_cons ?_; (with_reducible refine W_str ?_); refine WL_cons ?_; refine W_Name rfl ?_; (with_reducible refine WL_nil ?_); refine ⟨_, rfl, Nat.le_of_ble_eq_true rfl, ?_⟩; refine W_Name rfl ?_)
            refine ⟨_, cmp_in_tl (u := .nt x) hmem, ite_f (decide_eq_false (h3 x hxm)) ?_⟩
            refine WB_or (WB_not (WB_plain (W_calld C Df 22 ?_)))
            (refine WL_cons ?_; refine W_Name rfl ?_; refine WL_cons ?_; (with_reducible refine W_bool ?_); (with_reducible refine WL_nil ?_))
            refine ⟨_, _, rfl, ih x false (h1 x hxm) (by lia) (by lia), _, rfl, ite_f rfl (WB_or_nil (ite_f rfl ?_))⟩
            ((with_reducible refine X_nil ?_); (with_reducible refine X_nil ?_))
            exact ⟨(), fun p hp' => hp p (.tail _ hp'), vs_cons rfl vs_nil, rfl⟩
          · intro i ρ' _ hr
            try dsimp only
            ((with_reducible refine X_cons ?_); (with_reducible refine X_ret ?_); (with_reducible refine W_bool ?_))
            exact ⟨_, rfl, rfl⟩
          · have := List.mem_zipIdx hp
            obtain ⟨_, h, e⟩ := this
            rw [e]
            simp at h ⊢
end

/-! part F8 -/
theorem X_cons_ex {prog : Program} {w : World} {base : Heap} {env : Env} {B : Nat} {ρ : Vars} {μ : Lists} {QF : Fl → Vars → Lists → Prop} {st : Stmt} {sts : List Stmt} {ι : Type} (ρf : ι → Vars) (μf : ι → Lists) (P : ι → Prop)
    (h1 : X1 prog w base env B st ρ μ fun f ρ' μ' => match f with | .next => ∃ j, P j ∧ (∀ p ∈ ρf j, ρ'.lookup p.1 = some p.2) ∧ μ' = μf j | f => QF f ρ' μ')
    (h2 : ∀ j, P j → X prog w base env B sts (ρf j) (μf j) QF) : X prog w base env B (st :: sts) ρ μ QF :=
  X_cons (h1.mono fun f ρ' μ' h => by
    cases f with
    | next => obtain ⟨j, hj, hs, e⟩ := h; subst e; exact T_sub (h2 j hj) (sub_of hs)
    | brk => exact h
    | cont => exact h
    | ret v => exact h)
noncomputable def penV (cs : List Int) (i : Nat) (c d : Int) : List V := [.tl (intsD cs), .d (.int i), .d (.int c), .d (.int d)]
theorem penV_no (cs : List Int) (i : Nat) (c d : Int) : NoLst (penV cs i c d) := fun k m => by
  simp [penV] at m
noncomputable abbrev penL (cs : List Int) (d : Int) (j : Nat × Int) : Lists := [penV cs j.1 j.2 d]
theorem cmp_int_eq (a b : Int) (μ : Lists) : cmpV .Eq (.d (.int a)) (.d (.int b)) μ = some (decide (a = b)) := by
  show some (a == b) = _
  by_cases h : a = b <;> simp [h]
theorem cmp_int_gt (a b : Int) (μ : Lists) : cmpV .Gt (.d (.int a)) (.d (.int b)) μ = some (decide (b < a)) := rfl
theorem cmp_int_lt (a b : Int) (μ : Lists) : cmpV .Lt (.d (.int a)) (.d (.int b)) μ = some (decide (a < b)) := rfl
theorem mod_nat (x : Int) {m : Nat} (h : 0 < m) : ∃ k : Nat, k < m ∧ x.fmod m = (k : Int) := by
  have h1 := Int.fmod_nonneg_of_pos x (show (0 : Int) < m by omega)
  have h2 := Int.fmod_lt_of_pos x (show (0 : Int) < m by omega)
  exact ⟨(x.fmod m).toNat, by omega, by omega⟩

noncomputable def drawPost (cs : List Int) (d : Int) (i : Nat) (m : Nat) (vs' : List V) (r : D) : Prop := ∃ (i' : Nat) (c' : Int) (k : Nat), vs' = penV cs i' c' d ∧ i' ≤ i + 1 ∧ r = .int k ∧ k < m
section
variable {w : World} {base : Heap} {mg mb : Str → Option Value} {f : Nat → Addr} (C : Cx base mg mb) (Df : Defs base mg PR f) (Nn : Nb mg)
include C Df Nn
theorem draw_fn (cs : List Int) (i : Nat) (c d : Int) (m : Nat) (hm : 0 < m) (hm' : m < 1000) (hcs : cs.length ≤ 63) (hi : i ≤ 1000) (hd : 0 ≤ d) (hd' : d ≤ 1008) : PenFn PR w base (f 17) 1 (penV cs i c d) [.int m] (drawPost cs d i m) := by
  refine Fn_pen C Df (i := 17) (x₀ := Str.ofString "pen") (names := [Str.ofString "many"]) rfl (fun _ _ _ _ _ u us h => ?_) (penV_no _ _ _ _) (fun doc pm an cd ct L => ?_)
  · obtain ⟨a, rfl⟩ := len1 h; rfl
  · dsimp only [List.map, List.zip, List.zipWith]
    refine X_cons_ex (fun (j : Nat × Int) => [(Str.ofString "pen", .lst 0), (Str.ofString "many", .d (.int m))]) (penL cs d) (fun j => j.1 ≤ i + 1) ?_ ?_
    · ((with_reducible refine X_if ?_); refine WB_Cmp ?_; refine W_Sub ?_; refine W_Name rfl ?_; (with_reducible refine W_int ?_); refine ⟨_, rfl, ?_⟩; (with_reducible refine W_int ?_))
      refine ⟨_, cmp_int_eq _ _ _, ?_⟩
      by_cases hc : c = 0
      · refine ite_t (decide_eq_true hc) ?_
        refine X_cons (X_setitem (i := 1) (W_Bin ?_) (by decide))
        (refine W_Sub ?_; refine W_Name rfl ?_; (with_reducible refine W_int ?_); refine ⟨_, rfl, ?_⟩; (with_reducible refine W_int ?_))
        refine ⟨_, _, _, rfl, rfl, rfl, 0, _, rfl, rfl, Nat.le_of_ble_eq_true rfl, ?_⟩
        subst hc
        have hlen : (intsD cs).length = cs.length := by simp [intsD]
        ((with_reducible refine X_cons ?_); (with_reducible refine X_if ?_); refine WB_Cmp ?_; refine W_Sub ?_; refine W_Name rfl ?_; (with_reducible refine W_int ?_); refine ⟨_, rfl, ?_⟩)
        refine W_len C ?_ Nn.len
        (refine W_Sub ?_; refine W_Name rfl ?_; (with_reducible refine W_int ?_); refine ⟨_, rfl, ?_⟩)
        refine ⟨_, rfl, by omega, ?_⟩
        refine ⟨_, cmp_int_gt _ _ _, ?_⟩
        by_cases hgt : ((intsD cs).length : Int) < (i : Int) + 1
        · refine ite_t (decide_eq_true hgt) (X_cons (X_ret (W_Bin (W_Bin (W_Bin (W_Bin (W_Bin ?_)))))))
          (refine W_Sub ?_; refine W_Name rfl ?_; (with_reducible refine W_int ?_); refine ⟨_, rfl, ?_⟩; (with_reducible refine W_int ?_))
          refine ⟨_, _, _, rfl, rfl, rfl, W_Bin ?_⟩
          (refine W_Sub ?_; refine W_Name rfl ?_; (with_reducible refine W_int ?_); refine ⟨_, rfl, ?_⟩; (with_reducible refine W_int ?_))
          refine ⟨_, _, _, rfl, rfl, rfl, ?_⟩
          refine ⟨_, _, _, rfl, rfl, binI_mul (.inr (by omega)), W_Bin ?_⟩
          (refine W_Sub ?_; refine W_Name rfl ?_; (with_reducible refine W_int ?_); refine ⟨_, rfl, ?_⟩; (with_reducible refine W_int ?_))
          refine ⟨_, _, _, rfl, rfl, rfl, ?_⟩
          refine ⟨_, _, _, rfl, rfl, binI_mul (.inr (by omega)), ?_⟩
          ((with_reducible refine W_int ?_))
          refine ⟨_, _, _, rfl, rfl, rfl, ?_⟩
          (refine W_Name rfl ?_)
          refine ⟨_, _, _, rfl, rfl, binI_mod (by omega), ?_⟩
          obtain ⟨k, hk, e⟩ := mod_nat (((d + 3) * ((i : Int) + 1 + 2) * ((i : Int) + 1 + 9)).fdiv 5) hm
          exact ⟨_, penV cs (i + 1) 0 d, rfl, rfl, penV_no _ _ _ _, i + 1, _, k, rfl, Nat.le_refl _, by rw [← e], hk⟩
        · refine ite_f (decide_eq_false hgt) ?_
          have hlt : i < cs.length := by omega
          ((with_reducible refine X_nil ?_); (with_reducible refine X_cons ?_); refine X_set ?_; refine W_Sub ?_; refine W_Sub ?_; refine W_Name rfl ?_; (with_reducible refine W_int ?_); refine ⟨_, rfl, ?_⟩)
          refine W_Bin ?_
          (refine W_Sub ?_; refine W_Name rfl ?_; (with_reducible refine W_int ?_); refine ⟨_, rfl, ?_⟩; (with_reducible refine W_int ?_))
          refine ⟨_, _, _, rfl, rfl, rfl, ?_⟩
          refine ⟨_, show subV (.tl (intsD cs)) (.d (.int ((i : Int) + 1 - 1))) _ = some (.d (.int cs[i])) from ?_, ?_⟩
          · rw [show ((i : Int) + 1 - 1) = (i : Int) by omega]
            exact sub_tl (by rw [intsD, List.getElem?_map, List.getElem?_eq_getElem hlt]; rfl) (by omega)
          refine X_cons (X_if (WB_Cmp (W_abs C (W_Name rfl ⟨_, rfl, ?_⟩) Nn.abs)))
          refine W_Bin ?_
          ((with_reducible refine W_int ?_); (with_reducible refine W_int ?_))
          refine ⟨_, _, (10 : Int) ^ 18, rfl, rfl, rfl, ?_⟩
          refine ⟨_, cmp_int_lt _ _ _, ?_⟩
          by_cases hl : (if cs[i] < 0 then -cs[i] else cs[i]) < (10 : Int) ^ 18
          · refine ite_t (decide_eq_true hl) (X_cons (X_ret (W_Bin ?_)))
            (refine W_Name rfl ?_; refine W_Name rfl ?_)
            refine ⟨_, _, _, rfl, rfl, binI_mod (by omega), ?_⟩
            obtain ⟨k, hk, e⟩ := mod_nat cs[i] hm
            exact ⟨_, penV cs (i + 1) 0 d, rfl, rfl, penV_no _ _ _ _, i + 1, _, k, rfl, Nat.le_refl _, by rw [← e], hk⟩
          · refine ite_f (decide_eq_false hl) (X_nil ?_)
            refine X_cons (X_setitem (i := 2) (W_Bin (W_Bin (W_int (W_Bin (W_abs C (W_Name rfl ⟨_, rfl, W_Bin ?_⟩) Nn.abs))))) (by decide))
            ((with_reducible refine W_int ?_); (with_reducible refine W_int ?_))
            refine ⟨_, _, (10 : Int) ^ 18, rfl, rfl, rfl, ?_⟩
            refine ⟨_, _, _, rfl, rfl, rfl, ?_⟩
            refine ⟨_, _, _, rfl, rfl, binI_mul (.inl (by decide)), ?_⟩
            have fin : ∀ z : Int, ∃ j : Nat × Int, j.1 ≤ i + 1 ∧ [((penV cs i 0 d).set 1 (.d (.int ((i : Int) + 1)))).set 2 (.d (.int z))] = penL cs d j := fun z => ⟨(i + 1, z), Nat.le_refl _, rfl⟩
            refine W_IfExp (WB_Cmp ?_)
            (refine W_Name rfl ?_; (with_reducible refine W_int ?_))
            refine ⟨_, cmp_int_lt _ _ _, ?_⟩
            by_cases hz : cs[i] < 0
            · refine ite_t (decide_eq_true hz) ?_
              ((with_reducible refine W_int ?_))
              refine ⟨_, _, _, rfl, rfl, rfl, 0, _, rfl, rfl, Nat.le_of_ble_eq_true rfl, ?_⟩
              ((with_reducible refine X_nil ?_))
              obtain ⟨j, h1, h2⟩ := fin (2 * ((if cs[i] < 0 then -cs[i] else cs[i]) - 10 ^ 18) + 1)
              exact ⟨j, h1, vs_cons rfl (vs_cons rfl vs_nil), h2⟩
            · refine ite_f (decide_eq_false hz) ?_
              ((with_reducible refine W_int ?_))
              refine ⟨_, _, _, rfl, rfl, rfl, 0, _, rfl, rfl, Nat.le_of_ble_eq_true rfl, ?_⟩
              ((with_reducible refine X_nil ?_))
              obtain ⟨j, h1, h2⟩ := fin (2 * ((if cs[i] < 0 then -cs[i] else cs[i]) - 10 ^ 18) + 0)
              exact ⟨j, h1, vs_cons rfl (vs_cons rfl vs_nil), h2⟩
      · refine ite_f (decide_eq_false hc) ?_
        ((with_reducible refine X_nil ?_))
        exact ⟨(i, c), by omega, vs_cons rfl (vs_cons rfl vs_nil), rfl⟩
    · rintro ⟨i', c'⟩ hj
      refine X_cons (X_set (W_Bin ?_))
      (refine W_Sub ?_; refine W_Name rfl ?_; (with_reducible refine W_int ?_); refine ⟨_, rfl, ?_⟩; refine W_Name rfl ?_)
      refine ⟨_, _, _, rfl, rfl, binI_mod (by omega), ?_⟩
      refine X_cons (X_setitem (i := 2) (W_Bin ?_) (by decide))
      (refine W_Sub ?_; refine W_Name rfl ?_; (with_reducible refine W_int ?_); refine ⟨_, rfl, ?_⟩; refine W_Name rfl ?_)
      refine ⟨_, _, _, rfl, rfl, binI_div ⟨by omega, by omega⟩, 0, _, rfl, rfl, Nat.le_of_ble_eq_true rfl, ?_⟩
      ((with_reducible refine X_cons ?_); (with_reducible refine X_ret ?_); refine W_Name rfl ?_)
      obtain ⟨k, hk, e⟩ := mod_nat c' hm
      refine ⟨_, penV cs i' (c'.fdiv m) d, rfl, rfl, penV_no _ _ _ _, i', _, k, rfl, hj, by rw [e], hk⟩
end

/-! part F9 -/
noncomputable def leavesD : List D := [Lf.seen, .work, .large, .uid, .all, .body].map fun l => (Tr.leaf l).D
theorem leaf_at (k : Nat) (h : k < 6) (μ : Lists) : ∃ l : Lf, subV (.d (.tup leavesD)) (.d (.int (k : Int))) μ = some (.d (Tr.leaf l).D) := by
  match k, h with
  | 0, _ => exact ⟨_, rfl⟩
  | 1, _ => exact ⟨_, rfl⟩
  | 2, _ => exact ⟨_, rfl⟩
  | 3, _ => exact ⟨_, rfl⟩
  | 4, _ => exact ⟨_, rfl⟩
  | 5, _ => exact ⟨_, rfl⟩
noncomputable def cost : Nat → Nat
  | 0 => 2
  | n + 1 => 2 + 2 * cost n
noncomputable def bigs : Nat → Nat
  | 0 => 1
  | n + 1 => 1 + 2 * bigs n
noncomputable def treePost (cs : List Int) (d : Int) (i n : Nat) (vs' : List V) (r : D) : Prop := ∃ (t : Tr) (i' : Nat) (c' : Int), vs' = penV cs i' c' d ∧ i' ≤ i + cost n ∧ r = t.D ∧ t.size ≤ bigs n
theorem bigs_pos (n : Nat) : 1 ≤ bigs n := by cases n <;> simp [bigs]

section
variable {w : World} {base : Heap} {mg mb : Str → Option Value} {f : Nat → Addr} (C : Cx base mg mb) (Df : Defs base mg PR f) (Nn : Nb mg)
include C Df Nn
set_option maxHeartbeats 4000000 in
theorem tree_fn {uL : Value} (hL : mg "_law_leaves" = some uL) (hLr : RepD base uL (.tup leavesD)) (cs : List Int) (d : Int) (hcs : cs.length ≤ 63) (hd : 0 ≤ d) (hd' : d ≤ 1008) : ∀ (n i : Nat) (c : Int), i + cost n ≤ 1000 → PenFn PR w base (f 18) (n + 2) (penV cs i c d) [.int (n : Int)] (treePost cs d i n) := by
  intro n
  induction n with
  | zero =>
    intro i c hi
    refine Fn_pen C Df (i := 18) (B := 1) (x₀ := Str.ofString "pen") (names := [Str.ofString "deep"]) rfl (fun _ _ _ _ _ u us h => ?_) (penV_no _ _ _ _) (fun doc pm an cd ct L => ?_)
    · obtain ⟨a, rfl⟩ := len1 h; rfl
    · dsimp only [List.map, List.zip, List.zipWith]
      simp only [cost] at hi
      ((with_reducible refine X_cons ?_); refine X_set ?_; (with_reducible refine W_IfExp ?_); refine WB_Cmp ?_; refine W_Name rfl ?_; (with_reducible refine W_int ?_))
      refine ⟨_, cmp_int_gt _ _ _, ite_f rfl ?_⟩
      ((with_reducible refine W_int ?_); (with_reducible refine X_cons ?_); (with_reducible refine X_if ?_); refine WB_Cmp ?_; refine W_Name rfl ?_; (with_reducible refine W_int ?_))
      refine ⟨_, cmp_int_gt _ _ _, ite_t rfl ?_⟩
      refine X_cons (X_ret (W_Sub (W_globalD C hL hLr (W_pen C Df 17 ?_))))
      (refine WL_cons ?_; refine W_Name rfl ?_; refine WL_cons ?_; (with_reducible refine W_int ?_); (with_reducible refine WL_nil ?_))
      refine ⟨_, _, _, rfl, rfl, penV_no _ _ _ _, draw_fn C Df Nn cs i c d 6 (by decide) (by decide) hcs (by lia) hd hd', ?_⟩
      rintro vs' r hno ⟨i', c', k, rfl, hi', rfl, hk⟩
      obtain ⟨l, e⟩ := leaf_at k hk [penV cs i' c' d]
      exact ⟨_, e, _, _, rfl, rfl, penV_no _ _ _ _, .leaf l, i', c', rfl, by simp only [cost]; lia, rfl, by simp [Tr.size, bigs]⟩
  | succ n ih =>
    intro i c hi
    refine Fn_pen C Df (i := 18) (B := n + 2) (x₀ := Str.ofString "pen") (names := [Str.ofString "deep"]) rfl (fun _ _ _ _ _ u us h => ?_) (penV_no _ _ _ _) (fun doc pm an cd ct L => ?_)
    · obtain ⟨a, rfl⟩ := len1 h; rfl
    · dsimp only [List.map, List.zip, List.zipWith]
      simp only [cost] at hi
      have e1 : ((n + 1 : Nat) : Int) - 1 = (n : Int) := by lia
      have bp := bigs_pos n
      have drawB : ∀ (i : Nat) (c : Int) (m : Nat), 0 < m → m < 1000 → i ≤ 1000 → PenFn PR w base (f 17) (n + 2) (penV cs i c d) [.int (m : Int)] (drawPost cs d i m) := fun i c m h1 h2 h3 A s a us n' ws hA => draw_fn C Df Nn cs i c d m h1 h2 hcs h3 hd hd' A s a us n' ws (hA.le (by first | decide | omega))
      ((with_reducible refine X_cons ?_); refine X_set ?_; (with_reducible refine W_IfExp ?_); refine WB_Cmp ?_; refine W_Name rfl ?_; (with_reducible refine W_int ?_))
      refine ⟨_, cmp_int_gt _ _ _, ite_t (decide_eq_true (by lia)) ?_⟩
      refine W_pen C Df 17 ?_
      (refine WL_cons ?_; refine W_Name rfl ?_; refine WL_cons ?_; (with_reducible refine W_int ?_); (with_reducible refine WL_nil ?_))
      refine ⟨_, _, _, rfl, rfl, penV_no _ _ _ _, drawB i c 5 (by decide) (by decide) (by lia), ?_⟩
      rintro vs' r hno ⟨i', c', k, rfl, hi', rfl, hk⟩
      ((with_reducible refine X_cons ?_); (with_reducible refine X_if ?_); refine WB_Cmp ?_; refine W_Name rfl ?_; (with_reducible refine W_int ?_))
      refine ⟨_, cmp_int_gt _ _ _, ?_⟩
      by_cases h2 : (2 : Int) < k
      · refine ite_t (decide_eq_true h2) ?_
        refine X_cons (X_ret (W_Sub (W_globalD C hL hLr (W_pen C Df 17 ?_))))
        (refine WL_cons ?_; refine W_Name rfl ?_; refine WL_cons ?_; (with_reducible refine W_int ?_); (with_reducible refine WL_nil ?_))
        refine ⟨_, _, _, rfl, rfl, penV_no _ _ _ _, drawB i' c' 6 (by decide) (by decide) (by lia), ?_⟩
        rintro vs' r hno ⟨i2, c2, k2, rfl, hi2, rfl, hk2⟩
        obtain ⟨l, e⟩ := leaf_at k2 hk2 [penV cs i2 c2 d]
        exact ⟨_, e, _, _, rfl, rfl, penV_no _ _ _ _, .leaf l, i2, c2, rfl, by simp only [cost]; lia, rfl, by simp only [Tr.size, bigs]; lia⟩
      · refine ite_f (decide_eq_false h2) ?_
        ((with_reducible refine X_nil ?_); (with_reducible refine X_cons ?_); (with_reducible refine X_if ?_); refine WB_Cmp ?_; refine W_Name rfl ?_; (with_reducible refine W_int ?_))
        refine ⟨_, cmp_int_eq _ _ _, ?_⟩
        by_cases h1 : (k : Int) = 1
        · refine ite_t (decide_eq_true h1) ?_
          refine X_cons (X_ret (W_Tuple (WL_cons (W_str (WL_cons (W_pen C Df 18 (WL_cons (W_Name rfl (WL_cons (W_Bin ?_))))))))))
          (refine W_Name rfl ?_; (with_reducible refine W_int ?_))
          refine ⟨_, _, _, rfl, rfl, rfl, ?_⟩
          ((with_reducible refine WL_nil ?_))
          refine ⟨_, [.int (n : Int)], _, by rw [e1]; rfl, rfl, penV_no _ _ _ _, ih i' c' (by lia), ?_⟩
          rintro vs' r hno ⟨t, i2, c2, rfl, hi2, rfl, ht⟩
          ((with_reducible refine WL_nil ?_); refine ⟨_, rfl, Nat.le_of_ble_eq_true rfl, ?_⟩)
          exact ⟨_, _, rfl, rfl, penV_no _ _ _ _, .nt t, i2, c2, rfl, by simp only [cost]; lia, rfl, by simp only [Tr.size, bigs]; lia⟩
        · refine ite_f (decide_eq_false h1) ?_
          have hk02 : k = 0 ∨ k = 2 := by lia
          rcases hk02 with rfl | rfl
          · refine X_nil (X_cons (X_ret (W_Tuple (WL_cons (W_Sub ?_)))))
            ((with_reducible refine W_Tuple ?_); refine WL_cons ?_; (with_reducible refine W_str ?_); refine WL_cons ?_; (with_reducible refine W_str ?_); refine WL_cons ?_; (with_reducible refine W_str ?_); (with_reducible refine WL_nil ?_); refine ⟨_, rfl, Nat.le_of_ble_eq_true rfl, ?_⟩; refine W_Name rfl ?_; refine ⟨_, rfl, ?_⟩; refine WL_cons ?_)
            refine W_pen C Df 18 (WL_cons (W_Name rfl (WL_cons (W_Bin ?_))))
            (refine W_Name rfl ?_; (with_reducible refine W_int ?_))
            refine ⟨_, _, _, rfl, rfl, rfl, ?_⟩
            ((with_reducible refine WL_nil ?_))
            refine ⟨_, [.int (n : Int)], _, by rw [e1]; rfl, rfl, penV_no _ _ _ _, ih i' c' (by lia), ?_⟩
            rintro vs' r hno ⟨t, i2, c2, rfl, hi2, rfl, ht⟩
            refine WL_cons (W_pen C Df 18 (WL_cons (W_Name rfl (WL_cons (W_Bin ?_)))))
            (refine W_Name rfl ?_; (with_reducible refine W_int ?_))
            refine ⟨_, _, _, rfl, rfl, rfl, ?_⟩
            ((with_reducible refine WL_nil ?_))
            refine ⟨_, [.int (n : Int)], _, by rw [e1]; rfl, rfl, penV_no _ _ _ _, ih i2 c2 (by lia), ?_⟩
            rintro vs' r hno ⟨t2, i3, c3, rfl, hi3, rfl, ht2⟩
            ((with_reducible refine WL_nil ?_); refine ⟨_, rfl, Nat.le_of_ble_eq_true rfl, ?_⟩)
            exact ⟨_, _, rfl, rfl, penV_no _ _ _ _, .or t t2, i3, c3, rfl, by simp only [cost]; lia, rfl, by simp only [Tr.size, bigs]; lia⟩
          · refine X_nil (X_cons (X_ret (W_Tuple (WL_cons (W_Sub ?_)))))
            ((with_reducible refine W_Tuple ?_); refine WL_cons ?_; (with_reducible refine W_str ?_); refine WL_cons ?_; (with_reducible refine W_str ?_); refine WL_cons ?_; (with_reducible refine W_str ?_); (with_reducible refine WL_nil ?_); refine ⟨_, rfl, Nat.le_of_ble_eq_true rfl, ?_⟩; refine W_Name rfl ?_; refine ⟨_, rfl, ?_⟩; refine WL_cons ?_)
            refine W_pen C Df 18 (WL_cons (W_Name rfl (WL_cons (W_Bin ?_))))
            (refine W_Name rfl ?_; (with_reducible refine W_int ?_))
            refine ⟨_, _, _, rfl, rfl, rfl, ?_⟩
            ((with_reducible refine WL_nil ?_))
            refine ⟨_, [.int (n : Int)], _, by rw [e1]; rfl, rfl, penV_no _ _ _ _, ih i' c' (by lia), ?_⟩
            rintro vs' r hno ⟨t, i2, c2, rfl, hi2, rfl, ht⟩
            refine WL_cons (W_pen C Df 18 (WL_cons (W_Name rfl (WL_cons (W_Bin ?_)))))
            (refine W_Name rfl ?_; (with_reducible refine W_int ?_))
            refine ⟨_, _, _, rfl, rfl, rfl, ?_⟩
            ((with_reducible refine WL_nil ?_))
            refine ⟨_, [.int (n : Int)], _, by rw [e1]; rfl, rfl, penV_no _ _ _ _, ih i2 c2 (by lia), ?_⟩
            rintro vs' r hno ⟨t2, i3, c3, rfl, hi3, rfl, ht2⟩
            ((with_reducible refine WL_nil ?_); refine ⟨_, rfl, Nat.le_of_ble_eq_true rfl, ?_⟩)
            exact ⟨_, _, rfl, rfl, penV_no _ _ _ _, .an t t2, i3, c3, rfl, by simp only [cost]; lia, rfl, by simp only [Tr.size, bigs]; lia⟩
end

/-! part F10 -/
theorem Cx.up {base base' : Heap} {mg mb : Str → Option Value} (C : Cx base mg mb) (k : base.StaysIn base') : Cx base' mg mb := ⟨C.g.keeps k, C.b.keeps k, C.blt, C.lim.keeps k⟩
theorem Defs.up {base base' : Heap} {mg : Str → Option Value} {prog : Program} {f : Nat → Addr} (Df : Defs base mg prog f) (k : base.StaysIn base') : Defs base' mg prog f := ⟨fun i name params body ds ret tps scope ts bind pos e =>
  let ⟨fo, doc, pm, an, cd, ct, h1, h2, h3, h4⟩ := Df.has i name params body ds ret tps scope ts bind pos e
  ⟨fo, doc, pm, an, cd, ct, h1, k _ _ h2, h3, h4.keeps k⟩⟩
noncomputable abbrev lamArgs (p : Pos) : Arguments := { posonlyargs := [], args := [{ arg := Str.ofString "leaf", annotation := none, pos := p }], vararg := none, kwonlyargs := [], kw_defaults := [], kwarg := none, defaults := [] }
noncomputable abbrev lamScope : Scope := { kind := .function, names := [(Str.ofString "leaf", .local), (Str.ofString "truths", .free)], isGenerator := false, isCoroutine := false }
noncomputable abbrev lamBody (p1 p2 p3 : Pos) : Expr := .Compare (.Name (Str.ofString "leaf") p1) [.In] [.Name (Str.ofString "truths") p2] p3

section
variable {w : World} {base : Heap} {mg mb : Str → Option Value}
theorem lam_fn (C : Cx base mg mb) {fa c l : Addr} {fo : Obj} {p0 p1 p2 p3 : Pos} {qual : Str} {pm cd ctv : Value} {us : List Value} {n : Nat} {ts : List Tr} (hts : ∀ t ∈ ts, t.size ≤ 600)
    (ho : base.get? fa = some fo) (hd : fo.data = .func (kla_fn "<lambda>" qual (lamArgs p0) (lamBody p1 p2 p3) lamScope [(Str.ofString "truths", c)] pm cd ctv)) (hcd : base.CodeRec cd qual)
    (hc : base.IsCell c (some (.ref l))) (hl : IsL base l us.toArray n) (hr : RepDs base us (TrD ts)) (t : Tr) : Fn PR w base fa 2 [.d t.D] (.d (.bool (decide (t ∈ ts)))) := by
  intro A s vs hA hst hv
  cases hv with
  | @cons u _ _ _ ru rr =>
    cases rr
    cases ru with
    | d ru =>
      refine wpAny_call ?_
      refine kla_callFunE (fd := kla_fn "<lambda>" qual (lamArgs p0) (lamBody p1 p2 p3) lamScope [(Str.ofString "truths", c)] pm cd ctv) (by have := hA.dep; show A.depth < 1000; lia) (hst _ _ ho) hd rfl rfl rfl (hcd.keeps hst) ?_
      rw [show bindArgs (kla_fn "<lambda>" qual (lamArgs p0) (lamBody p1 p2 p3) lamScope [(Str.ofString "truths", c)] pm cd ctv) ⟨[u], []⟩ = pure [(Str.ofString "leaf", u)] from rfl]
      refine wpAny_pure (PySem.wpAny_newFunctionEnv (show ∀ x ∈ lamScope.names, x.2 ≠ NameKind.cell by decide) (by intro x hx; rw [List.mem_singleton.mp hx]; rfl) (fun h₀ hns hsb => ⟨?_, ?_⟩) rfl)
      · have k0 : ∀ b o, s.heap.get? b = some o → h₀.get? b = some o := fun b o e => hsb.extBut b o (Nat.ne_of_lt (Heap.lt_size e)) (Heap.get?_push_of_some _ e)
        exact (C.lim.keeps hst).keeps k0
      have k0 : ∀ b o, s.heap.get? b = some o → h₀.get? b = some o := fun b o e => hsb.extBut b o (Nat.ne_of_lt (Heap.lt_size e)) (Heap.get?_push_of_some _ e)
      have hnew : s.heap.get? s.heap.objs.size = none := Heap.get?_none_of_le (Nat.le_refl _)
      refine kla_codeExpr ?_
      generalize henv : newEnv lamScope s.heap.objs.size mainGlobals [(Str.ofString "truths", c)] (qual ++ ".<locals>.") (some fa) cd none builtinsNs = env
      have henv' : env = newEnv lamScope s.heap.objs.size mainGlobals [(Str.ofString "truths", c)] (qual ++ ".<locals>.") (some fa) cd none builtinsNs := henv.symm
      have hA' : AOk (A.deeper env) 1 := ⟨hA.hh, by have := hA.dep; show A.depth + 1 + 1 ≤ 900; lia, by have := hA.un; show A.units + 3 + 16 * 1 ≤ 9000; lia⟩
      have hst0 : base.StaysIn h₀ := fun b o e => k0 b o (hst b o e)
      have noff : ∀ (a : Addr) (ws : List Value) (n : Nat), IsL base a ws.toArray n → a ∉ [s.heap.objs.size] := fun a ws n hl m => by
        have := hst _ _ hl
        rw [List.mem_singleton.mp m, hnew] at this; cases this
      have S₀ : St base env [s.heap.objs.size] [] [(Str.ofString "leaf", .d t.D), (Str.ofString "truths", .tl (TrD ts))] [] { s with heap := h₀, toks := s.toks + 1 } := by
        subst henv'
        refine ⟨⟨rfl, rfl, rfl⟩, .head _, ⟨_, hns, fun x v e => ?_⟩, hst0, fun b hb' => ?_, (fun b hb' => nomatch hb'), fun b hb' => ?_, rfl, .nil, (fun k a ds e _ => by simp at e), fun _ x c e _ => ?_, fun _ q => ?_⟩
        · rw [List.lookup_cons] at e
          cases q : x == Str.ofString "leaf" with
          | true =>
            rw [q] at e; cases e
            rw [beq_iff_eq.mp q]
            exact ⟨u, .loc rfl rfl, .d (ru.mono (.of_stays k0))⟩
          | false =>
            rw [q, List.lookup_cons] at e
            cases q2 : x == Str.ofString "truths" with
            | true =>
              rw [q2] at e; cases e
              rw [beq_iff_eq.mp q2]
              exact ⟨.ref l, .free rfl rfl rfl (hc.keeps hst0), .tl (hst0 _ _ hl) (hr.mono (.of_stays hst0)) (noff _ _ _ hl) (fun m => nomatch m)⟩
            | false => rw [q2] at e; cases e
        · rw [List.mem_singleton.mp hb']
          cases q : base.get? s.heap.objs.size with
          | none => rfl
          | some o => have := hst _ _ q; rw [hnew] at this; cases this
        · rw [List.mem_singleton.mp hb']
          exact ns_not_seq hns
        · have : (x, NameKind.cell) ∈ [(Str.ofString "leaf", NameKind.local), (Str.ofString "truths", NameKind.free)] := mem_of_lookup e
          simp at this
        · have : (Str.ofString "truths", NameKind.cell) ∈ [(Str.ofString "leaf", NameKind.local), (Str.ofString "truths", NameKind.free)] := mem_of_lookup q
          simp at this
      have body : W PR w base env 1 (lamBody p1 p2 p3) [(Str.ofString "leaf", .d t.D), (Str.ofString "truths", .tl (TrD ts))] [] fun v _ _ => v = .d (.bool (decide (t ∈ ts))) := by
        subst henv'
        refine W_Cmp ?_
        (refine W_Name rfl ?_; refine W_Name rfl ?_)
        exact ⟨_, cmp_in_tl hts, rfl⟩
      refine wpAny_mono (body.use hA' S₀ (R := fun v s' => (∀ b o, s.heap.get? b = some o → s'.heap.get? b = some o) ∧ Sim s s' ∧ RetP s.heap s'.heap v (.d (.bool (decide (t ∈ ts))))) fun v s' b ρ' μ' φ' S' N M r e => ?_) (fun _ _ q => q) fun _ _ x => x.elim
      subst e
      cases r with
      | d r =>
        refine ⟨fun b o e => N.keep b o (k0 b o e) (.inr ⟨fun m => ?_, fun m => nomatch m⟩), Sim.trans ⟨_, _, rfl⟩ M, .d r⟩
        rw [List.mem_singleton.mp m, hnew] at e; cases e

variable {env : Env} {B : Nat} {ρ : Vars} {μ : Lists} {Q : V → Vars → Lists → Prop} {f : Nat → Addr}
theorem W_decide (C : Cx base mg mb) (Df : Defs base mg PR f) (Bb : Bm base mg) {e : Expr} {p pos p0 p1 p2 p3 lpos : Pos} {c : Addr} {t : Tr} {ls : List Lf}
    (h : W PR w base env B e ρ μ fun v ρ' μ' => v = .d t.D ∧ ρ'.lookup (Str.ofString "truths") = some (.tl (TrD (lfTs ls))) ∧ Q (.d (.bool (met (fun l => decide (Tr.leaf l ∈ lfTs ls)) t))) ρ' μ')
    (ht : t.size ≤ 300) (hB : t.size + 3 ≤ B)
    (hf : env.func ≠ none) (htr : env.kindOf (Str.ofString "truths") = some .cell) (hc : env.cells.lookup (Str.ofString "truths") = some c) (hcl : closureFor lamScope env = pure [(Str.ofString "truths", c)]) (hdf : defaultsOf (lamArgs p0) env = ([], [])) (hl : lpos.line = 156) (hcc : lpos.col = 27)
    (hk : env.kindOf (Str.ofString "decide") = some .globalImplicit := by rfl)
    (he1 : starEach [e, .Lambda (lamArgs p0) (lamBody p1 p2 p3) lamScope lpos] env = (false, eval e env) :: starEach [.Lambda (lamArgs p0) (lamBody p1 p2 p3) lamScope lpos] env := by rfl)
    (he2 : starEach [.Lambda (lamArgs p0) (lamBody p1 p2 p3) lamScope lpos] env = (false, eval (.Lambda (lamArgs p0) (lamBody p1 p2 p3) lamScope lpos) env) :: starEach [] env := by rfl) :
    W PR w base env B (.Call (.Name (Str.ofString "decide") p) [e, .Lambda (lamArgs p0) (lamBody p1 p2 p3) lamScope lpos] [] pos) ρ μ Q := by
  obtain ⟨fo, doc, pm, an, cd, ct, hm, ho, hfd, hcd⟩ := Df.has 14 _ _ _ _ _ _ _ _ _ _ rfl
  obtain ⟨fd, hfd⟩ : ∃ fd, fo.data = .func fd := ⟨_, hfd⟩
  intro A s ex φ hA S
  refine Call_Name rfl (global_name S C hm hk rfl (callWith_function (o := fo) (fd := fd) (args_any he1 ?_)))
  refine spliced_more (h.use hA S fun u s₁ v ρ₁ μ₁ φ₁ S₁ N₁ M₁ r₁ ⟨e1, hx, q⟩ => ?_) he1
  subst e1
  refine spliced_more (lam_eval C Bb S₁ hf htr hcl hdf hl hcc fun fa s₂ cd₂ ctv S₂ N₂ M₂ hfa hrec => spliced_none ?_) he2
  refine ⟨⟨S₂.stays _ _ ho, hfd⟩, ?_⟩
  -- what the call sees
  have hH : Hold w s₂.heap (.ref fa) (fun l => decide (Tr.leaf l ∈ lfTs ls)) := by
    obtain ⟨m, hn, hb⟩ := S₂.ns
    obtain ⟨ul, a, rl⟩ := hb _ _ hx
    cases a with
    | loc z _ => rw [htr] at z; cases z
    | free z _ _ _ => rw [htr] at z; cases z
    | cell _ z hcell =>
      rw [hc] at z; cases z
      cases rl with
      | tl hl hr _ _ =>
        exact ⟨fa, _, _, rfl, hfa, rfl, fun l _ => lam_fn (C.up S₂.stays) (fun t ht => by obtain ⟨l, _, rfl⟩ := List.mem_map.mp ht; simp [Tr.size]) hfa rfl hrec hcell hl hr (.leaf l)⟩
  cases r₁ with
  | d r₁ =>
    refine wpAny_mono ((decide_fn (C.up S₂.stays) (Df.up S₂.stays) hH t.size t (Nat.le_refl _) ht) A s₂ [u, .ref fa] (hA.le hB) (fun _ _ e => e) (.cons (.d (r₁.mono N₂.tup)) (.cons (.v _) .nil))) (fun u s₃ ⟨k, M, rr⟩ => ?_) fun _ _ x => x
    exact ⟨_, ρ₁, μ₁, φ₁, S₂.sim M k, (N₁.trans N₂).trans (.of_stays k), (M₁.trans M₂).trans M, fn_back S₂ k rr, q⟩
end

/-! part F11 -/
theorem cells_apart {a b : Str} {L : Addr} {y : Str} {c' : Addr} (e : List.lookup y [(a, L + 1 + 1), (b, L + 1)] = some c') : (y ≠ b → c' ≠ L + 1) ∧ (y ≠ a → c' ≠ L + 1 + 1) := by
  rw [List.lookup_cons] at e
  cases h : y == a with
  | true =>
    rw [h] at e; cases e
    exact ⟨fun _ q => Nat.succ_ne_self _ q, fun n => absurd (beq_iff_eq.mp h) n⟩
  | false =>
    rw [h, List.lookup_cons] at e
    cases h2 : y == b with
    | true =>
      rw [h2] at e; cases e
      exact ⟨fun n => absurd (beq_iff_eq.mp h2) n, fun _ q => Nat.succ_ne_self _ q.symm⟩
    | false => rw [h2] at e; cases e
structure PlainLaws : Prop where
  pl : ∀ t, Pl true (plain t)
  id : ∀ t, plain (plain t) = plain t
  len : ∀ t, (ends (plain t)).length ≤ (ends t).length
  met : ∀ p t, met p (plain t) = met p t
noncomputable def LawX (st : Option Stmt) (P : Str → List Stmt → Scope → Prop) : Prop := match st with
  | some (.FunctionDef name params body ds ret tps scope ts bind pos) => P name body scope
  | _ => False
theorem LawX.go {st : Option Stmt} {P : Str → List Stmt → Scope → Prop} {name : Str} {params : Arguments} {body : List Stmt} {ds : List Expr} {ret : Option Expr} {tps : List TypeParam} {scope : Scope} {ts : Option Scope} {bind : Str} {pos : Pos}
    (e : st = some (.FunctionDef name params body ds ret tps scope ts bind pos)) (h : P name body scope) : LawX st P := by subst e; exact h
theorem LawX.use {st : Option Stmt} {P : Str → List Stmt → Scope → Prop} {name : Str} {params : Arguments} {body : List Stmt} {ds : List Expr} {ret : Option Expr} {tps : List TypeParam} {scope : Scope} {ts : Option Scope} {bind : Str} {pos : Pos}
    (h : LawX st P) (e : st = some (.FunctionDef name params body ds ret tps scope ts bind pos)) : P name body scope := by subst e; exact h
noncomputable def gn : D → Option D
  | .tup [_] => none
  | d => some d
noncomputable abbrev five : List Lf := [.seen, .work, .large, .uid, .body]
theorem gn_all : leavesD.filterMap gn = TrD (lfTs five) := rfl
noncomputable def gt (n : Nat) : D → Option D
  | .tup [.int i, x] => if ((n : Int).fdiv (2 ^ i.toNat)).fmod 2 = 1 then some x else none
  | _ => none
theorem gt_two (n : Nat) (i : Int) (x : D) : gt n (.tup [.int i, x]) = if ((n : Int).fdiv (2 ^ i.toNat)).fmod 2 = 1 then some x else none := rfl
theorem gt_all (n : Nat) : ∀ (ls : List Lf) (k : Nat), ∃ ms : List Lf, (((TrD (lfTs ls)).zipIdx k).map fun p => D.tup [.int (p.2 : Int), p.1]).filterMap (gt n) = TrD (lfTs ms)
  | [], k => ⟨[], rfl⟩
  | l :: ls, k => by
    obtain ⟨ms, e⟩ := gt_all n ls (k + 1)
    rw [show TrD (lfTs (l :: ls)) = (Tr.leaf l).D :: TrD (lfTs ls) from rfl, List.zipIdx_cons, List.map_cons, List.filterMap_cons]
    cases h : gt n (.tup [.int (k : Int), (Tr.leaf l).D]) with
    | none => exact ⟨ms, e⟩
    | some x =>
      have : x = (Tr.leaf l).D := by
        simp only [gt_two] at h
        split at h
        · cases h; rfl
        · cases h
      subst this
      exact ⟨l :: ms, by rw [e]; rfl⟩

section
variable {w : World} {base : Heap} {mg mb : Str → Option Value} {f : Nat → Addr} (C : Cx base mg mb) (Df : Defs base mg PR f) (Nn : Nb mg) (Bb : Bm base mg) (PP : PlainLaws)
include C Df Nn Bb PP
set_option maxHeartbeats 8000000 in
theorem law_X {uL : Value} (hL : mg "_law_leaves" = some uL) (hLr : RepD base uL (.tup leavesD)) (ns : List Int) (hns : ns.length ≤ 63) : LawX PR.main.body[24]? fun name body scope => ∀ L a cd, X PR w base (envOfC name scope L a cd) 500 body [(Str.ofString "script", .tl (intsD ns))] [] fun fl _ _ => fl = .ret (.d (.bool true)) := by
  refine LawX.go rfl fun L a cd => ?_
  have hlen : (intsD ns).length = ns.length := by simp [intsD]
  have hT : (intsD ns).take 63 = intsD ns := List.take_of_length_le (by lia)
  refine X_cons_ex (fun (d : Nat) => [(Str.ofString "pen", .lst 0)]) (fun d => [penV ns 0 0 (d : Int)]) (fun d => d ≤ 1008) ?_ ?_
  · refine X_set (W_ListM (WL_cons (W_list C ?_ Nn.list)))
    (refine W_upto ?_; refine W_Name rfl ?_; (with_reducible refine W_int ?_))
    refine ⟨_, 63, rfl, rfl, by decide, by lia, _, rfl, by rw [List.length_take]; lia, ?_⟩
    (refine WL_cons ?_; (with_reducible refine W_int ?_); refine WL_cons ?_; (with_reducible refine W_int ?_); refine WL_cons ?_)
    refine W_Bin (W_abs C (W_sum C ?_ Nn.sum) Nn.abs)
    (refine W_upto ?_; refine W_Name rfl ?_; (with_reducible refine W_int ?_))
    refine ⟨_, 63, rfl, rfl, by decide, by lia, ns, by show some ((intsD ns).take 63) = _; rw [hT], fun i => ⟨_, rfl, ?_⟩⟩
    ((with_reducible refine W_int ?_))
    refine ⟨_, _, _, rfl, rfl, binI_mod (by decide), ?_⟩
    ((with_reducible refine WL_nil ?_); refine ⟨Nat.le_of_ble_eq_true rfl, ?_⟩)
    obtain ⟨k, hk, e⟩ := mod_nat (if i < 0 then -i else i) (m := 1009) (by decide)
    refine ⟨k, by lia, vs_cons rfl vs_nil, ?_⟩
    show [[V.tl ((intsD ns).take 63), .d (.int 0), .d (.int 0), .d (.int ((if i < 0 then -i else i).fmod ((1009 : Nat) : Int)))]] = _
    rw [hT, e]; rfl
  · intro d hd
    refine X_cons (X_set (W_pen C Df 18 ?_))
    (refine WL_cons ?_; refine W_Name rfl ?_; refine WL_cons ?_; (with_reducible refine W_int ?_); (with_reducible refine WL_nil ?_))
    refine ⟨_, [.int ((4 : Nat) : Int)], _, rfl, rfl, penV_no _ _ _ _, fun A s a us n' ws hA => tree_fn C Df Nn hL hLr ns d hns (by lia) (by lia) 4 0 0 (by decide) A s a us n' ws (hA.le (by first | decide | omega)), ?_⟩
    rintro vs' r hno ⟨t, i', c', rfl, _, rfl, ht⟩
    have ht : t.size ≤ 31 := ht
    have hp : (plain t).size ≤ 62 := Nat.le_trans (pushN_size t.size t false) (by lia)
    refine X_cons (X_set (W_calld C Df 10 ?_))
    (refine WL_cons ?_; refine W_Name rfl ?_; (with_reducible refine WL_nil ?_))
    refine ⟨_, _, rfl, (plain_fn C Df Nn t (by lia)).le (by first | decide | omega), ?_⟩
    refine X_cons (X_if (WB_or (WB_not (WB_plain (W_calld C Df 22 ?_)))))
    (refine WL_cons ?_; refine W_Name rfl ?_; refine WL_cons ?_; (with_reducible refine W_bool ?_); (with_reducible refine WL_nil ?_))
    refine ⟨_, _, rfl, (isplain_fn C Df Nn (plain t).size (plain t) true (PP.pl t) (Nat.le_refl _) (by lia)).le (by first | decide | omega), _, rfl, ite_f rfl (WB_or (WB_Cmp (W_calld C Df 10 ?_)))⟩
    (refine WL_cons ?_; refine W_Name rfl ?_; (with_reducible refine WL_nil ?_))
    refine ⟨_, _, rfl, (plain_fn C Df Nn (plain t) (by lia)).le (by first | decide | omega), ?_⟩
    (refine W_Name rfl ?_)
    refine ⟨_, by rw [PP.id]; exact cmp_tr_ne (t := plain t) (u := plain t) (by lia), ite_f (by simp) (WB_or (WB_Cmp (W_len C (W_calld C Df 21 ?_) Nn.len)))⟩
    (refine WL_cons ?_; refine W_Name rfl ?_; (with_reducible refine WL_nil ?_))
    have el := ends_len (plain t)
    have el2 := ends_len t
    refine ⟨_, _, rfl, (lends_fn C Df (plain t).size (plain t) (Nat.le_refl _) (by lia)).le (by first | decide | omega), _, rfl, by simp; lia, W_len C (W_calld C Df 21 ?_) Nn.len⟩
    (refine WL_cons ?_; refine W_Name rfl ?_; (with_reducible refine WL_nil ?_))
    refine ⟨_, _, rfl, (lends_fn C Df t.size t (Nat.le_refl _) (by lia)).le (by first | decide | omega), _, rfl, by simp; lia, _, cmp_int_gt _ _ _, ite_f ?_ (WB_or_nil (ite_f rfl (X_nil ?_)))⟩
    · have := PP.len t
      refine decide_eq_false ?_
      simp; lia
    refine X_cons (X_setcomp (cl := []) (IT_tuple (W_globalD C hL hLr ⟨_, rfl, Nat.le_of_ble_eq_true rfl, gn, [], CapOf.nil, fun L' d' hd' => ?_, ?_⟩)) (.name _ _))
    · obtain ⟨l, _, rfl⟩ := List.mem_map.mp hd'
      refine ⟨_, .name rfl, WT_one ?_⟩
      (refine WB_Cmp ?_; refine W_Name rfl ?_; (with_reducible refine W_Tuple ?_); refine WL_cons ?_; (with_reducible refine W_str ?_); (with_reducible refine WL_nil ?_); refine ⟨_, rfl, Nat.le_of_ble_eq_true rfl, ?_⟩)
      refine ⟨_, cmp_tr_ne (t := .leaf l) (u := .leaf .all) (by simp [Tr.size]), ?_⟩
      by_cases h : l = .all
      · subst h
        exact ite_f rfl rfl
      · refine ite_t (by simp [h]) ?_
        (refine W_Name rfl ?_)
        exact ⟨_, rfl, by cases l <;> first | rfl | exact absurd rfl h⟩
    rw [gn_all]
    refine X_cons (X_for (.name _ _) (IT_range C Nn.range (W_Bin (W_int (W_len C (W_Name rfl ⟨_, rfl, Nat.le_of_ble_eq_true rfl, ?_⟩) Nn.len)))))
    refine ⟨_, _, (32 : Int), rfl, rfl, rfl, 32, rfl, by decide, (List.range 32).map (fun i : Nat => [(Str.ofString "number", V.d (.int (i : Int)))]), by simp [nums], fun j d' b hd' hb => ?_, ?_⟩
    · rw [List.getElem?_map, Option.map_eq_some_iff] at hb
      obtain ⟨i, hi, rfl⟩ := hb
      rw [nums, List.getElem?_map, hi] at hd'
      cases hd'
      exact .cell (fun q => nomatch q) rfl rfl fun y c' e => (cells_apart (a := Str.ofString "truths") (b := Str.ofString "number") e).1
    refine ForX_ind (fun (i : Nat) => [(Str.ofString "number", V.d (.int (i : Int)))]) (fun (i : Unit) => [(Str.ofString "tree", .d t.D), (Str.ofString "bare", .d (plain t).D), (Str.ofString "names", .tl (TrD (lfTs five)))]) (fun _ => [penV ns i' c' d]) (fun _ _ => True) ?_ ?_ _ () trivial (vs_cons rfl (vs_cons rfl (vs_cons rfl vs_nil))) rfl
    · intro n as _ _
      obtain ⟨ms, hms⟩ := gt_all n five 0
      refine X_cons (X_setcell (c := L + 1 + 1) (W_Comp (cl := [(Str.ofString "number", L + 1)]) (IT_enum C Nn.enum (W_Name rfl ⟨_, rfl, Nat.le_of_ble_eq_true rfl, gt n, [(Str.ofString "number", .d (.int (n : Int)))], CapOf.one rfl rfl (fun _ => rfl) rfl, fun L' d' hd' => ?_, ?_⟩)) (.pair _ _ _)) (fun q => nomatch q) rfl rfl fun y c' e => (cells_apart (a := Str.ofString "truths") (b := Str.ofString "number") e).2)
      · have hj : ∃ (j : Nat) (l : Lf), j < 5 ∧ d' = .tup [.int (j : Int), (Tr.leaf l).D] := by
          obtain ⟨⟨x, j⟩, hx, rfl⟩ := List.mem_map.mp hd'
          obtain ⟨_, h2, e⟩ := List.mem_zipIdx hx
          have hm : x ∈ TrD (lfTs five) := by rw [e]; exact List.getElem_mem _
          obtain ⟨u, hu, rfl⟩ := List.mem_map.mp hm
          obtain ⟨l, _, rfl⟩ := List.mem_map.mp hu
          exact ⟨j, l, by simpa using h2, rfl⟩
        obtain ⟨j, l, hj, rfl⟩ := hj
        refine ⟨_, .pair rfl rfl, WT_one ?_⟩
        refine WB_Cmp (W_Bin (W_Bin (W_Name rfl (W_Bin (W_int (W_Name rfl ⟨2, (j : Int), 2 ^ j, rfl, rfl, ?_, ?_⟩))))))
        · exact (binI_pow ⟨by lia, by lia, by decide⟩).trans (by simp)
        have h2 : (1 : Int) ≤ 2 ^ j ∧ (2 : Int) ^ j ≤ 16 := by
          match j, hj with
          | 0, _ => decide
          | 1, _ => decide
          | 2, _ => decide
          | 3, _ => decide
          | 4, _ => decide
        refine ⟨_, _, _, rfl, rfl, binI_div ⟨by lia, by lia⟩, ?_⟩
        ((with_reducible refine W_int ?_))
        refine ⟨_, _, _, rfl, rfl, binI_mod (by decide), ?_⟩
        ((with_reducible refine W_int ?_))
        refine ⟨_, cmp_int_eq _ _ _, ?_⟩
        by_cases hb : ((n : Int).fdiv (2 ^ j)).fmod 2 = 1
        · refine ite_t (decide_eq_true hb) ?_
          (refine W_Name rfl ?_)
          exact ⟨_, rfl, by simp only [gt_two, Int.toNat_natCast]; rw [if_pos hb]⟩
        · refine ite_f (decide_eq_false hb) ?_
          simp only [gt_two, Int.toNat_natCast]; rw [if_neg hb]
      rw [show (enumD (TrD (lfTs five))).filterMap (gt n) = TrD (lfTs ms) from hms]
      have sz : ∀ t ∈ lfTs ms, t.size ≤ 600 := fun t ht => by obtain ⟨l, _, rfl⟩ := List.mem_map.mp ht; simp [Tr.size]
      refine X_cons (X_set (W_calld C Df 19 ?_))
      (refine WL_cons ?_; refine W_Name rfl ?_; refine WL_cons ?_; refine W_Name rfl ?_; (with_reducible refine WL_nil ?_))
      refine ⟨_, _, rfl, (ismet_fn C Df (lfTs ms) sz t.size t (Nat.le_refl _) (by lia)).le (by first | decide | omega), ?_⟩
      refine X_cons (X_for (.name _ _) (IT_tuple (W_Tuple ?_)))
      (refine WL_cons ?_; refine W_Name rfl ?_; refine WL_cons ?_; refine W_Name rfl ?_; (with_reducible refine WL_nil ?_); refine ⟨_, rfl, Nat.le_of_ble_eq_true rfl, ?_⟩)
      refine ⟨_, rfl, [t, plain t].map (fun x => [(Str.ofString "one", V.d x.D)]), rfl, fun j d' b hd' hb => ?_, ?_⟩
      · rw [List.getElem?_map, Option.map_eq_some_iff] at hb
        obtain ⟨x, hx, rfl⟩ := hb
        have : (TrD [t, plain t])[j]? = some d' := hd'
        rw [List.getElem?_map, hx] at this
        cases this
        exact .name rfl
      refine ForX_ind (fun (x : Tr) => [(Str.ofString "one", V.d x.D)]) (fun (i : Unit) => [(Str.ofString "tree", .d t.D), (Str.ofString "bare", .d (plain t).D), (Str.ofString "names", .tl (TrD (lfTs five))), (Str.ofString "truths", .tl (TrD (lfTs ms))), (Str.ofString "due", .d (.bool (met (fun l => decide (Tr.leaf l ∈ lfTs ms)) t)))]) (fun _ => [penV ns i' c' d]) (fun as _ => ∀ x ∈ as, met (fun l => decide (Tr.leaf l ∈ lfTs ms)) x = met (fun l => decide (Tr.leaf l ∈ lfTs ms)) t ∧ x.size ≤ 62) ?_ ?_ _ () (fun x hx => ?_) (vs_cons rfl (vs_cons rfl (vs_cons rfl (vs_cons rfl (vs_cons rfl vs_nil))))) rfl
      · intro x as _ hx
        obtain ⟨h1, h2⟩ := hx x (.head _)
        refine X_cons (X_if (WB_Cmp (W_decide C Df Bb (c := L + 1 + 1) (t := x) (ls := ms) (W_Name rfl ⟨rfl, rfl, ?_⟩) (by lia) (by lia) (fun q => nomatch q) rfl rfl rfl rfl rfl rfl)))
        (refine W_Name rfl ?_)
        refine ⟨_, by rw [h1]; exact bool_ne _ _, ite_f rfl ?_⟩
        ((with_reducible refine X_nil ?_); (with_reducible refine X_nil ?_))
        exact ⟨(), fun y hy => hx y (.tail _ hy), vs_cons rfl (vs_cons rfl (vs_cons rfl (vs_cons rfl (vs_cons rfl vs_nil)))), rfl⟩
      · intro _ ρ' _ hr
        refine T_sub (ρ' := [(Str.ofString "tree", .d t.D), (Str.ofString "bare", .d (plain t).D), (Str.ofString "names", .tl (TrD (lfTs five))), (Str.ofString "truths", .tl (TrD (lfTs ms))), (Str.ofString "due", .d (.bool (met (fun l => decide (Tr.leaf l ∈ lfTs ms)) t)))]) ?_ (sub_of hr)
        ((with_reducible refine X_nil ?_))
        exact ⟨(), trivial, vs_cons rfl (vs_cons rfl (vs_cons rfl vs_nil)), rfl⟩
      · rcases List.mem_cons.mp hx with rfl | hx
        · exact ⟨rfl, by lia⟩
        · rw [List.mem_singleton.mp hx]
          exact ⟨PP.met _ _, hp⟩
    · intro _ ρ' _ hr
      refine T_sub (ρ' := [(Str.ofString "tree", .d t.D), (Str.ofString "bare", .d (plain t).D), (Str.ofString "names", .tl (TrD (lfTs five)))]) ?_ (sub_of hr)
      refine X_cons (X_ret (W_and (W_calld C Df 23 ?_)))
      (refine WL_cons ?_; refine W_Name rfl ?_; (with_reducible refine WL_nil ?_))
      refine ⟨_, _, rfl, (told_fn C Df t (by lia)).le (by first | decide | omega), _, rfl, ite_t rfl (W_bop_one (W_calld C Df 23 ?_))⟩
      (refine WL_cons ?_; refine W_Name rfl ?_; (with_reducible refine WL_nil ?_))
      exact ⟨_, _, rfl, (told_fn C Df (plain t) (by lia)).le (by first | decide | omega), rfl⟩
end

/-! part F12 -/
theorem callerA_ok (env : Env) : AOk (callerA.deeper env) 500 := ⟨rfl, (show callerA.depth + 1 + 500 ≤ 900 by decide +kernel), (show callerA.units + 3 + 16 * 500 ≤ 9000 by decide +kernel)⟩
theorem ints_rep {h : Heap} : ∀ {us : List Value} {ns : List Int}, IntsAre us ns → RepDs h us (intsD ns) := by
  intro us ns hI
  induction hI with
  | nil => exact .nil
  | cons n t _ ih => exact .cons (.int _ _) ih
section
variable {w : World} {mg mb : Str → Option Value} {f : Nat → Addr}
theorem law_join {s₁ : Shared} {ghost h₁ : Heap} {tk₁ : Tok} {L fa l : Addr} {m : Str → Option Value} {oA oB : Obj} {vA vB : Option Value} {uL : Value} {ns : List Int} {us : List Value} {n : Nat} {Q : Flow → Shared → Prop} {E : Value → Shared → Prop}
    (PP : PlainLaws) (C : Cx ghost mg mb) (Df : Defs ghost mg PR f) (Nn : Nb mg) (Bb : Bm ghost mg) (hL : mg "_law_leaves" = some uL) (hLr : RepD ghost uL (.tup leavesD))
    (hns : ns.length ≤ 63) (hl : IsL ghost l us.toArray n) (hI : IntsAre us ns) (hm : m (Str.ofString "script") = some (.ref l)) (F : Fr ghost L h₁ m) (N : News ghost L h₁ [(L + 1 + 1, oA), (L + 1, oB), (166, tabObj #[])])
    (hA : oA.data = .cell vA) (hB : oB.data = .cell vB) (hc : CodeHd ghost 168 166)
    (h : ∀ h' tk ps, (∀ b o, ghost.get? b = some o → h'.get? b = some o) → h'.get? 166 = some (tabObj ps) → Q (.ret (.bool true)) { s₁ with heap := h', toks := tk }) :
    LawX PR.main.body[24]? fun name body scope => wpAny (model PR w) (callerA.deeper (envOfC name scope L fa (.ref 168))) (execs body (envOfC name scope L fa (.ref 168))) Q E { s₁ with heap := h₁, toks := tk₁ } := by
  have X := law_X (w := w) C Df Nn Bb PP hL hLr ns hns
  have nA := N _ (.head _)
  have nB := N _ (.tail _ (.head _))
  have nT := N _ (.tail _ (.tail _ (.head _)))
  have hLnone : ghost.get? L = none := Heap.get?_none_of_le F.above
  refine LawX.go rfl ?_
  have X1 := X.use rfl L fa (.ref 168)
  refine wpAny_mono (X1.use (R := fun fl s' => fl = .ret (.bool true) ∧ ∃ h' tk ps, s' = { s₁ with heap := h', toks := tk } ∧ (∀ b o, ghost.get? b = some o → h'.get? b = some o) ∧ h'.get? 166 = some (tabObj ps)) (callerA_ok _) (ex := [L, L + 1 + 1, L + 1, 166]) (φ := []) ?S fun fl s' b ρ' μ' φ' S' N' M' r e => ?_) (fun fl s' ⟨e, h', tk, ps, e2, k1, k2⟩ => by subst e e2; exact h h' tk ps k1 k2) fun _ _ x => x.elim
  case S =>
    refine ⟨⟨rfl, rfl, rfl⟩, .head _, ⟨_, F.ns, fun x v e => ?_⟩, F.keep, fun b hb => ?_, (fun b hb => nomatch hb), fun b hb => ?_, rfl, .nil, (fun k a ds e _ => by simp at e), fun _ x c e1 e2 => ?_, fun _ _ => ⟨168, 166, #[], rfl, hc, .tail _ (.tail _ (.tail _ (.head _))), nT.1, .inl rfl⟩⟩
    · rw [List.lookup_cons] at e
      cases q : x == Str.ofString "script" with
      | false => rw [q] at e; cases e
      | true =>
        rw [q] at e; cases e
        rw [beq_iff_eq.mp q]
        refine ⟨.ref l, .loc rfl hm, .tl (F.keep _ _ hl) (ints_rep hI) (fun hb => ?_) (fun m => nomatch m)⟩
        have hl2 : ghost.get? l = some _ := hl
        simp only [List.mem_cons, List.not_mem_nil, or_false] at hb
        rcases hb with rfl | rfl | rfl | rfl
        · rw [hLnone] at hl2; cases hl2
        · rw [nA.2.2] at hl2; cases hl2
        · rw [nB.2.2] at hl2; cases hl2
        · rw [nT.2.2] at hl2; cases hl2
    · simp only [List.mem_cons, List.not_mem_nil, or_false] at hb
      rcases hb with rfl | rfl | rfl | rfl
      · exact hLnone
      · exact nA.2.2
      · exact nB.2.2
      · exact nT.2.2
    · simp only [List.mem_cons, List.not_mem_nil, or_false] at hb
      rcases hb with rfl | rfl | rfl | rfl
      · exact ns_not_seq F.ns
      · exact ⟨_, nA.1, fun i n q => by rw [hA] at q; cases q⟩
      · exact ⟨_, nB.1, fun i n q => by rw [hB] at q; cases q⟩
      · exact ⟨_, nT.1, fun i n q => by cases q⟩
    · have e2 : List.lookup x [(Str.ofString "truths", L + 1 + 1), (Str.ofString "number", L + 1)] = some c := e2
      rcases List.mem_cons.mp (mem_of_lookup e2) with q | q
      · cases q
        exact ⟨.tail _ (.head _), _, _, nA.1, hA⟩
      · cases List.mem_singleton.mp q
        exact ⟨.tail _ (.tail _ (.head _)), _, _, nB.1, hB⟩
  subst e
  obtain ⟨h', tk, rfl⟩ := M'
  obtain ⟨c, P, ps, e1, e2, _, e4, _⟩ := S'.tabx (fun q => nomatch q) rfl
  have hP : P = 166 := by
    cases e1
    obtain ⟨o, vs, _, _, _, _, _, _, _, f1, _, f3, f4, _⟩ := e2
    obtain ⟨o', vs', _, _, _, _, _, _, _, g1, _, g3, g4, _⟩ := hc
    rw [f1] at g1; cases g1
    rw [f3] at g3; cases g3
    rw [f4] at g4; cases g4; rfl
  subst hP
  cases r with
  | ret r =>
    cases r with
    | d r => cases r; exact ⟨rfl, h', tk, ps, rfl, S'.stays, e4⟩
end
end Mine

/-! part PL -/
namespace Mine
open PySem

/-! the shape of what pushed makes -/
inductive Gd : Bool → Tr → Prop
  | leaf {top : Bool} {l : Lf} : (top || !decide (l = .all)) = true → Gd top (.leaf l)
  | nt {top : Bool} {l : Lf} : (top || !decide (l = .all)) = true → Gd top (.nt (.leaf l))
  | mk {top : Bool} (k : Kd) (fs : List Tr) : (∀ x ∈ fs, Gd false x) → (∀ x ∈ fs, ops k x = [x]) → fs.Nodup → (∀ x ∈ fs, Tr.nt x ∉ fs) → 2 ≤ fs.length → Gd top (mkRow k fs)
theorem Gd.up {b : Bool} {t : Tr} (g : Gd b t) : Gd true t := by
  cases g with
  | leaf => exact .leaf rfl
  | nt => exact .nt rfl
  | mk k fs h1 h2 h3 h4 h5 => exact .mk k fs h1 h2 h3 h4 h5

theorem rowd_snoc (t x : Tr) (ts : List Tr) : rowd t (ts ++ [x]) = .an (rowd t ts) x := by simp [rowd]
theorem ops_rowd : ∀ (ts : List Tr) (t : Tr), ops .and (rowd t ts) = ops .and t ++ ts.flatMap (ops .and)
  | [], t => by simp [rowd]
  | u :: ts, t => by
    have := ops_rowd ts (.an t u)
    rw [rowd, List.foldl_cons]
    rw [rowd] at this
    rw [this, List.flatMap_cons]
    simp [ops]
theorem ops_halveN : ∀ (n : Nat) (ts : List Tr), ts ≠ [] → ts.length ≤ n → ops .or (halveN n ts) = ts.flatMap (ops .or)
  | 0, ts, h, hl => absurd (List.length_eq_zero_iff.mp (Nat.le_zero.mp hl)) h
  | n + 1, [], h, _ => absurd rfl h
  | n + 1, [t], _, _ => by simp [halveN]
  | n + 1, t :: u :: r, _, hl => by
    have hh := half_ok t u r hl
    rw [halveN]
    have e : (t :: u :: r).flatMap (ops .or) = ((t :: u :: r).take ((t :: u :: r).length / 2)).flatMap (ops .or) ++ ((t :: u :: r).drop ((t :: u :: r).length / 2)).flatMap (ops .or) := by rw [← List.flatMap_append, List.take_append_drop]
    rw [e, ← ops_halveN n _ hh.1 hh.2.1, ← ops_halveN n _ hh.2.2.1 hh.2.2.2]
    simp [ops]
theorem flat_self {k : Kd} : ∀ {fs : List Tr}, (∀ x ∈ fs, ops k x = [x]) → fs.flatMap (ops k) = fs
  | [], _ => rfl
  | x :: xs, h => by
    rw [List.flatMap_cons, h x (.head _), flat_self fun y hy => h y (.tail _ hy)]; rfl
theorem ops_mkRow {k : Kd} {fs : List Tr} (h : ∀ x ∈ fs, ops k x = [x]) (hne : fs ≠ []) : ops k (mkRow k fs) = fs := by
  cases fs with
  | nil => exact absurd rfl hne
  | cons t ts =>
    cases k with
    | and =>
      rw [mkRow, ops_rowd, h t (.head _), flat_self fun y hy => h y (.tail _ hy)]; rfl
    | or =>
      rw [mkRow, halve, ops_halveN _ _ (by simp) (Nat.le_refl _), flat_self h]
theorem mkRow_mk (k : Kd) : ∀ {fs : List Tr}, 2 ≤ fs.length → ∃ a b, mkRow k fs = k.mk a b
  | [], h => by simp at h
  | [t], h => by simp at h
  | t :: u :: r, _ => by
    cases k with
    | or => exact ⟨_, _, by rw [mkRow, halve]; rfl⟩
    | and =>
      rcases List.eq_nil_or_concat r with rfl | ⟨r', x, rfl⟩
      · exact ⟨t, u, rfl⟩
      · refine ⟨rowd t (u :: r'), x, ?_⟩
        rw [mkRow, List.concat_eq_append, show u :: (r' ++ [x]) = (u :: r') ++ [x] from rfl, rowd_snoc]; rfl
theorem mkRow_one (k : Kd) (t : Tr) : mkRow k [t] = t := by cases k <;> rfl

theorem Gd.pl {top : Bool} {t : Tr} (g : Gd top t) : Pl top t := by
  induction g with
  | leaf h => exact .leaf h
  | nt h => exact .nt h
  | mk k fs h1 h2 h3 h4 h5 ih =>
    obtain ⟨a, b, e⟩ := mkRow_mk k h5
    have eo := ops_mkRow h2 (fun q => by rw [q] at h5; simp at h5)
    rw [e] at eo ⊢
    exact .mk k a b (by rw [eo]; exact ih) (by rw [eo]; exact h3) (by rw [eo]; exact h4)
theorem kd_ne {k k' : Kd} (h : k' ≠ k) (a b : Tr) : ops k (k'.mk a b) = [k'.mk a b] := by
  cases k <;> cases k' <;> first | exact absurd rfl h | rfl
theorem Gd.ops_ok {t : Tr} (g : Gd true t) (k : Kd) : ∀ p ∈ ops k t, Gd true p ∧ ops k p = [p] := by
  have hg := g
  cases g with
  | leaf h => intro p hp; simp only [ops, List.mem_singleton] at hp; subst hp; exact ⟨hg, rfl⟩
  | nt h => intro p hp; simp only [ops, List.mem_singleton] at hp; subst hp; exact ⟨hg, rfl⟩
  | mk k' fs h1 h2 h3 h4 h5 =>
    by_cases e : k' = k
    · subst e
      rw [ops_mkRow h2 (fun q => by rw [q] at h5; simp at h5)]
      exact fun p hp => ⟨(h1 p hp).up, h2 p hp⟩
    · obtain ⟨a, b, em⟩ := mkRow_mk k' h5
      rw [em] at hg ⊢
      rw [kd_ne e]
      intro p hp
      rw [List.mem_singleton.mp hp]
      exact ⟨hg, kd_ne e a b⟩
theorem Gd.ne_all {t : Tr} (g : Gd false t) : t ≠ .leaf .all ∧ t ≠ .nt (.leaf .all) := by
  cases g with
  | @leaf _ l h => exact ⟨fun q => (by cases q; simp at h), fun q => (by cases q)⟩
  | @nt _ l h => exact ⟨fun q => (by cases q), fun q => (by cases q; simp at h)⟩
  | mk k fs h1 h2 h3 h4 h5 =>
    obtain ⟨a, b, e⟩ := mkRow_mk k h5
    rw [e]
    cases k <;> exact ⟨fun q => (by cases q), fun q => (by cases q)⟩
theorem Gd.ne_kd {k : Kd} {t : Tr} (g : Gd false t) : t ≠ k.whole ∧ t ≠ k.rest := by
  have := g.ne_all
  cases k
  · exact ⟨this.2, this.1⟩
  · exact ⟨this.1, this.2⟩
theorem Gd.down {k : Kd} {t : Tr} (g : Gd true t) (h1 : t ≠ k.whole) (h2 : t ≠ k.rest) : Gd false t := by
  have h : t ≠ .leaf .all ∧ t ≠ .nt (.leaf .all) := by
    cases k
    · exact ⟨h2, h1⟩
    · exact ⟨h1, h2⟩
  clear h1 h2
  cases g with
  | @leaf _ l _ => exact .leaf (by simp; exact fun q => h.1 (by rw [q]))
  | @nt _ l _ => exact .nt (by simp; exact fun q => h.2 (by rw [q]))
  | mk k fs h1 h2 h3 h4 h5 => exact .mk k fs h1 h2 h3 h4 h5
theorem Gd.not_nt2 {b : Bool} {t : Tr} (g : Gd b (.nt (.nt t))) : False := by
  generalize e : Tr.nt (.nt t) = u at g
  cases g with
  | leaf => cases e
  | nt => cases e
  | mk k fs h1 h2 h3 h4 h5 =>
    obtain ⟨a, b, e2⟩ := mkRow_mk k h5
    rw [e2] at e
    cases k <;> cases e
theorem opp_cases (t : Tr) : (∃ u, t = .nt u ∧ opp t = u) ∨ ((∀ u, t ≠ .nt u) ∧ opp t = .nt t) := by
  cases t with
  | nt u => exact .inl ⟨u, rfl, rfl⟩
  | _ => exact .inr ⟨fun u q => (by cases q), rfl⟩
theorem nt_ne (t : Tr) : Tr.nt t ≠ t := fun q => by
  have := congrArg Tr.size q
  simp [Tr.size] at this
structure JJ (k : Kd) (fs : List Tr) : Prop where
  g : ∀ x ∈ fs, Gd false x
  o : ∀ x ∈ fs, ops k x = [x]
  nd : fs.Nodup
  nn : ∀ x ∈ fs, Tr.nt x ∉ fs
theorem joinGo_ok (k : Kd) : ∀ (ps found fs : List Tr), JJ k found → (∀ p ∈ ps, Gd true p ∧ ops k p = [p]) → joinGo k found ps = some fs → JJ k fs
  | [], found, fs, J, _, e => by rw [joinGo] at e; cases e; exact J
  | p :: ps, found, fs, J, hp, e => by
    rw [joinGo] at e
    split at e
    · cases e
    rename_i h1
    have h1a : p ≠ k.whole := fun q => h1 (.inl q)
    have h1b : opp p ∉ found := fun q => h1 (.inr q)
    split at e
    · rename_i h2
      refine joinGo_ok k ps _ fs ?_ (fun x hx => hp x (.tail _ hx)) e
      obtain ⟨g, o⟩ := hp p (.head _)
      refine ⟨fun x hx => ?_, fun x hx => ?_, ?_, fun x hx hn => ?_⟩
      · rcases List.mem_append.mp hx with hx | hx
        · exact J.g x hx
        · rw [List.mem_singleton.mp hx]; exact g.down h1a h2.1
      · rcases List.mem_append.mp hx with hx | hx
        · exact J.o x hx
        · rw [List.mem_singleton.mp hx]; exact o
      · exact List.nodup_append.mpr ⟨J.nd, by simp, fun a ha b hb q => by rw [List.mem_singleton.mp hb] at q; rw [q] at ha; exact h2.2 ha⟩
      · rcases List.mem_append.mp hx with hx | hx
        · rcases List.mem_append.mp hn with hn | hn
          · exact J.nn x hx hn
          · rw [← List.mem_singleton.mp hn] at h1b
            exact h1b hx
        · rw [List.mem_singleton.mp hx] at hn
          rcases List.mem_append.mp hn with hn | hn
          · rcases opp_cases p with ⟨u, rfl, _⟩ | ⟨_, eo⟩
            · exact (J.g _ hn).not_nt2
            · rw [eo] at h1b; exact h1b hn
          · exact nt_ne p (List.mem_singleton.mp hn)
    · exact joinGo_ok k ps found fs J (fun x hx => hp x (.tail _ hx)) e
theorem JJ.row {k : Kd} {fs : List Tr} (J : JJ k fs) (h : fs ≠ []) : Gd true (mkRow k fs) := by
  match fs, h, J with
  | [t], _, J => rw [mkRow_one]; exact (J.g t (.head _)).up
  | t :: u :: r, _, J => exact .mk k _ J.g J.o J.nd J.nn (by simp)
theorem join_gd (k : Kd) {a b : Tr} (ga : Gd true a) (gb : Gd true b) : Gd true (join k a b) := by
  rw [join]
  cases e : joinGo k [] (ops k a ++ ops k b) with
  | none => cases k <;> first | exact .leaf rfl | exact .nt rfl
  | some fs =>
    have J := joinGo_ok k _ [] fs ⟨(fun _ h => nomatch h), (fun _ h => nomatch h), .nil, (fun _ h => nomatch h)⟩ (fun p hp => (List.mem_append.mp hp).elim (ga.ops_ok k p) (gb.ops_ok k p)) e
    cases fs with
    | nil => cases k <;> first | exact .leaf rfl | exact .nt rfl
    | cons t ts => exact J.row (by simp)
theorem fold1_gd (k : Kd) : ∀ (ms : List Tr) (acc : Option Tr), (∀ f, acc = some f → Gd true f) → (∀ m ∈ ms, Gd true m) → ∀ r, fold1 k acc ms = some r → Gd true r
  | [], acc, ha, _, r, e => ha r (by cases acc <;> simpa [fold1] using e)
  | m :: ms, none, _, hm, r, e => fold1_gd k ms (some m) (fun f q => by cases q; exact hm m (.head _)) (fun x hx => hm x (.tail _ hx)) r (by simpa [fold1] using e)
  | m :: ms, some f, ha, hm, r, e => fold1_gd k ms (some (join k f m)) (fun f' q => by cases q; exact join_gd k (ha f rfl) (hm m (.head _))) (fun x hx => hm x (.tail _ hx)) r (by simpa [fold1] using e)
theorem fold_getD (k : Kd) (ms : List Tr) (h : ∀ m ∈ ms, Gd true m) : Gd true ((fold1 k none ms).getD (.leaf .all)) := by
  cases e : fold1 k none ms with
  | none => exact .leaf rfl
  | some r => exact fold1_gd k ms none (fun _ q => by cases q) h r e
theorem pushN_gd : ∀ (n : Nat) (t : Tr) (neg : Bool), Gd true (pushN n t neg)
  | 0, t, neg => .leaf rfl
  | n + 1, .leaf l, neg => by
    cases neg
    · exact .leaf rfl
    · exact .nt rfl
  | n + 1, .nt t, neg => pushN_gd n t !neg
  | n + 1, .an a b, neg => fold_getD _ _ fun m hm => by obtain ⟨p, _, rfl⟩ := List.mem_map.mp hm; exact pushN_gd n p neg
  | n + 1, .or a b, neg => fold_getD _ _ fun m hm => by obtain ⟨p, _, rfl⟩ := List.mem_map.mp hm; exact pushN_gd n p neg

/-! again -/
theorem joinGo_id (k : Kd) : ∀ (ps found : List Tr), JJ k (found ++ ps) → joinGo k found ps = some (found ++ ps)
  | [], found, J => by rw [joinGo]; simp
  | p :: ps, found, J => by
    have hp : p ∈ found ++ p :: ps := List.mem_append_right _ (.head _)
    have hne := (J.g p hp).ne_kd (k := k)
    have hnf : p ∉ found := fun h => by
      have := (List.nodup_append.mp J.nd).2.2 p h p (.head _)
      exact this rfl
    have hopp : opp p ∉ found := fun h => by
      have h' : opp p ∈ found ++ p :: ps := List.mem_append_left _ h
      rcases opp_cases p with ⟨u, rfl, e⟩ | ⟨_, e⟩
      · rw [e] at h'
        exact J.nn u h' hp
      · rw [e] at h'
        exact J.nn p hp h'
    rw [joinGo, if_neg (fun q => q.elim hne.1 hopp), if_pos ⟨hne.2, hnf⟩, joinGo_id k ps (found ++ [p]) (by simpa using J)]
    simp
theorem JJ.left {k : Kd} {xs ys : List Tr} (J : JJ k (xs ++ ys)) : JJ k xs := ⟨fun x h => J.g x (List.mem_append_left _ h), fun x h => J.o x (List.mem_append_left _ h), (List.nodup_append.mp J.nd).1, fun x h q => J.nn x (List.mem_append_left _ h) (List.mem_append_left _ q)⟩
theorem join_row (k : Kd) {done : List Tr} {m : Tr} (h : done ≠ []) (J : JJ k (done ++ [m])) : join k (mkRow k done) m = mkRow k (done ++ [m]) := by
  rw [join, ops_mkRow (J.left.o) h, J.o m (by simp), joinGo_id k _ [] (by simpa using J)]
  cases done with
  | nil => exact absurd rfl h
  | cons t ts => rfl
theorem fold_row (k : Kd) : ∀ (ms done : List Tr), done ≠ [] → JJ k (done ++ ms) → fold1 k (some (mkRow k done)) ms = some (mkRow k (done ++ ms))
  | [], done, _, _ => by simp [fold1]
  | m :: ms, done, h, J => by
    have J' : JJ k ((done ++ [m]) ++ ms) := by simpa using J
    rw [fold1, join_row k h J'.left, fold_row k ms (done ++ [m]) (by simp) J']
    simp
theorem turn_false (k : Kd) : k.turn false = k := by cases k <;> rfl
theorem pushN_id : ∀ (n : Nat) (t : Tr), Gd true t → t.size ≤ n → pushN n t false = t
  | 0, t, _, h => absurd t.size_pos (by lia)
  | n + 1, t, g, h => by
    cases g with
    | leaf => rfl
    | @nt _ l _ =>
      simp only [Tr.size] at h
      obtain ⟨m, rfl⟩ : ∃ m, n = m + 1 := ⟨n - 1, by lia⟩
      rfl
    | mk k fs h1 h2 h3 h4 h5 =>
      obtain ⟨a, b, e⟩ := mkRow_mk k h5
      have hne : fs ≠ [] := fun q => by rw [q] at h5; simp at h5
      have eo := ops_mkRow h2 hne
      have em : (fs.map fun p => pushN n p false) = fs := by
        rw [List.map_congr_left (g := id) fun p hp => pushN_id n p (h1 p hp).up ?_, List.map_id]
        rw [e] at eo h
        rw [← eo] at hp
        have := part_size k a b hp
        lia
      rw [e] at eo
      rw [e, pushN_mk, turn_false, eo, em]
      cases fs with
      | nil => exact absurd rfl hne
      | cons t ts =>
        have := fold_row k ts [t] (by simp) ⟨h1, h2, h3, h4⟩
        rw [mkRow_one] at this
        rw [fold1, this, ← e]; rfl

/-! meaning -/
noncomputable def kop : Kd → List Bool → Bool
  | .and, bs => bs.all id
  | .or, bs => bs.any id
theorem kop_append (k : Kd) (xs ys : List Bool) : kop k (xs ++ ys) = match k with | .and => (kop k xs && kop k ys) | .or => (kop k xs || kop k ys) := by cases k <;> simp [kop]
variable (p : Lf → Bool)
noncomputable abbrev mets (ts : List Tr) : List Bool := ts.map (met p)
theorem kop_cons (k : Kd) (x : Bool) (ys : List Bool) : kop k (x :: ys) = match k with | .and => (x && kop k ys) | .or => (x || kop k ys) := by cases k <;> simp [kop]
theorem kop_app2 {k : Kd} {xs ys xs' ys' : List Bool} (h1 : kop k xs = kop k xs') (h2 : kop k ys = kop k ys') : kop k (xs ++ ys) = kop k (xs' ++ ys') := by
  rw [kop_append, kop_append, h1, h2]
theorem met_ops (k : Kd) : ∀ t : Tr, kop k (mets p (ops k t)) = met p t
  | .leaf l => by cases k <;> simp [ops, kop]
  | .nt t => by cases k <;> simp [ops, kop]
  | .an a b => by
    have h1 := met_ops k a
    have h2 := met_ops k b
    cases k with
    | and => rw [ops, if_pos rfl, mets, List.map_append, kop_append]; simp only [mets] at h1 h2; rw [h1, h2]; rfl
    | or => simp [ops, kop, met]
  | .or a b => by
    have h1 := met_ops k a
    have h2 := met_ops k b
    cases k with
    | or => rw [ops, if_pos rfl, mets, List.map_append, kop_append]; simp only [mets] at h1 h2; rw [h1, h2]; rfl
    | and => simp [ops, kop, met]
theorem met_rowd : ∀ (ts : List Tr) (t : Tr), met p (rowd t ts) = (met p t && (mets p ts).all id)
  | [], t => by simp [rowd]
  | u :: ts, t => by
    have := met_rowd ts (.an t u)
    rw [rowd, List.foldl_cons]
    rw [rowd] at this
    rw [this]
    simp [met, Bool.and_assoc]
theorem met_halveN : ∀ (n : Nat) (ts : List Tr), ts ≠ [] → ts.length ≤ n → met p (halveN n ts) = (mets p ts).any id
  | 0, ts, h, hl => absurd (List.length_eq_zero_iff.mp (Nat.le_zero.mp hl)) h
  | n + 1, [], h, _ => absurd rfl h
  | n + 1, [t], _, _ => by simp [halveN]
  | n + 1, t :: u :: r, _, hl => by
    have hh := half_ok t u r hl
    rw [halveN]
    have e : (mets p (t :: u :: r)).any id = ((mets p ((t :: u :: r).take ((t :: u :: r).length / 2))).any id || (mets p ((t :: u :: r).drop ((t :: u :: r).length / 2))).any id) := by
      rw [← List.any_append, ← List.map_append, List.take_append_drop]
    rw [e, ← met_halveN n _ hh.1 hh.2.1, ← met_halveN n _ hh.2.2.1 hh.2.2.2]
    rfl
theorem met_mkRow (k : Kd) {fs : List Tr} (h : fs ≠ []) : met p (mkRow k fs) = kop k (mets p fs) := by
  cases fs with
  | nil => exact absurd rfl h
  | cons t ts =>
    cases k with
    | and => rw [mkRow, met_rowd]; rfl
    | or => rw [mkRow, halve, met_halveN p _ _ (by simp) (Nat.le_refl _)]; rfl
theorem met_opp (t : Tr) : met p (opp t) = !met p t := by cases t <;> simp [opp, met]
theorem met_whole (k : Kd) : met p k.whole = (match k with | .and => false | .or => true) := by cases k <;> simp [Kd.whole, met]
theorem met_rest (k : Kd) : met p k.rest = (match k with | .and => true | .or => false) := by cases k <;> simp [Kd.rest, met]
theorem kop_mem {k : Kd} {bs : List Bool} {x : Bool} (h : x ∈ bs) : (match k with | .and => x = false → kop k bs = false | .or => x = true → kop k bs = true) := by
  cases k with
  | and => intro e; subst e; simp only [kop]; rw [List.all_eq_false]; exact ⟨false, h, by simp⟩
  | or => intro e; subst e; simp only [kop]; rw [List.any_eq_true]; exact ⟨true, h, rfl⟩
theorem joinGo_met (k : Kd) : ∀ (ps found : List Tr), met p (joinR k (joinGo k found ps)) = kop k (mets p (found ++ ps))
  | [], found => by
    rw [joinGo, List.append_nil]
    cases found with
    | nil => rw [joinR, met_rest]; cases k <;> rfl
    | cons t ts => rw [joinR]; exact met_mkRow p k (by simp)
  | q :: ps, found => by
    rw [joinGo]
    split
    · rename_i h
      rw [joinR, met_whole]
      rcases h with h | h
      · have := kop_mem (k := k) (bs := mets p (found ++ q :: ps)) (x := met p q) (List.mem_map.mpr ⟨q, by simp, rfl⟩)
        subst h
        rw [met_whole] at this
        cases k <;> exact (this rfl).symm
      · have h1 := kop_mem (k := k) (bs := mets p (found ++ q :: ps)) (x := met p q) (List.mem_map.mpr ⟨q, by simp, rfl⟩)
        have h2 := kop_mem (k := k) (bs := mets p (found ++ q :: ps)) (x := met p (opp q)) (List.mem_map.mpr ⟨opp q, by simp [h], rfl⟩)
        rw [met_opp] at h2
        cases k <;> cases hq : met p q <;> rw [hq] at h1 h2 <;> first | exact (h1 rfl).symm | exact (h2 rfl).symm
    · split
      · rw [joinGo_met k ps (found ++ [q])]; simp
      · rename_i h
        rw [joinGo_met k ps found]
        have h' : q = k.rest ∨ q ∈ found := by
          by_cases h1 : q = k.rest
          · exact .inl h1
          · exact .inr (Classical.byContradiction fun h2 => h ⟨h1, h2⟩)
        rw [mets, mets, List.map_append, List.map_append, List.map_cons, kop_append, kop_append, kop_cons]
        rcases h' with h' | h'
        · rw [h', met_rest]; cases k <;> simp
        · have h1 := kop_mem (k := k) (bs := found.map (met p)) (x := met p q) (List.mem_map.mpr ⟨q, h', rfl⟩)
          cases k with
          | and => cases hq : met p q <;> rw [hq] at h1 <;> simp_all
          | or => cases hq : met p q <;> rw [hq] at h1 <;> simp_all
theorem join_met (k : Kd) (a b : Tr) : met p (join k a b) = kop k [met p a, met p b] := by
  rw [join, joinGo_met, List.nil_append, mets, List.map_append, kop_append]
  have h1 := met_ops p k a
  have h2 := met_ops p k b
  simp only [mets] at h1 h2
  rw [h1, h2]
  cases k <;> simp [kop]
theorem fold1_met (k : Kd) : ∀ (ms : List Tr) (f r : Tr), fold1 k (some f) ms = some r → met p r = kop k (met p f :: mets p ms)
  | [], f, r, e => by rw [fold1] at e; cases e; cases k <;> simp [kop]
  | m :: ms, f, r, e => by
    rw [fold1] at e
    rw [fold1_met k ms _ r e, join_met]
    cases k <;> simp [kop, Bool.and_assoc, Bool.or_assoc]
theorem fold_met (k : Kd) (ms : List Tr) (h : ms ≠ []) : met p ((fold1 k none ms).getD (.leaf .all)) = kop k (mets p ms) := by
  cases ms with
  | nil => exact absurd rfl h
  | cons m ms =>
    obtain ⟨r, e⟩ := fold1_some k ms m
    rw [fold1, e, Option.getD_some, fold1_met p k ms m r e]; rfl
theorem kop_neg (k : Kd) (neg : Bool) : ∀ bs : List Bool, kop (k.turn neg) (bs.map (xor neg)) = xor neg (kop k bs)
  | [] => by cases k <;> cases neg <;> rfl
  | b :: bs => by
    have := kop_neg k neg bs
    rw [List.map_cons, kop_cons, kop_cons, this]
    cases k <;> cases neg <;> cases b <;> simp [Kd.turn]
theorem pushN_met : ∀ (n : Nat) (t : Tr) (neg : Bool), t.size ≤ n → met p (pushN n t neg) = xor neg (met p t) := by
  intro n
  induction n with
  | zero => intro t neg h; exact absurd t.size_pos (by lia)
  | succ n ih =>
    intro t neg h
    rcases mk_cases t with ⟨l, rfl⟩ | ⟨u, rfl⟩ | ⟨k, a, b, rfl⟩
    · cases neg <;> simp [pushN, met]
    · simp only [Tr.size] at h
      rw [pushN, ih u _ (by lia)]
      cases neg <;> simp [met]
    · rw [pushN_mk, fold_met p _ _ (by simp [ops_ne]), ← met_ops p k (k.mk a b), ← kop_neg]
      congr 1
      simp only [mets, List.map_map]
      refine List.map_congr_left fun x hx => ?_
      exact ih x neg (by have := part_size k a b hx; lia)
theorem plain_met (t : Tr) : met p (plain t) = met p t := by rw [plain, pushN_met p _ _ _ (Nat.le_refl _)]; simp

/-! leaves -/
noncomputable def endN (ts : List Tr) : Nat := (ts.map fun t => (ends t).length).sum
theorem endN_cons (t : Tr) (ts : List Tr) : endN (t :: ts) = (ends t).length + endN ts := by simp [endN]
theorem endN_append (ts us : List Tr) : endN (ts ++ us) = endN ts + endN us := by simp [endN]
theorem ends_pos (t : Tr) : 1 ≤ (ends t).length := by
  induction t with
  | leaf l => simp [ends]
  | nt t h => simpa [ends] using h
  | an a b h1 h2 => simp only [ends, List.length_append]; lia
  | or a b h1 h2 => simp only [ends, List.length_append]; lia
theorem ends_ops (k : Kd) : ∀ t : Tr, endN (ops k t) = (ends t).length
  | .leaf l => by simp [ops, endN]
  | .nt t => by simp [ops, endN]
  | .an a b => by
    rw [ops]; split
    · rw [endN_append, ends_ops k a, ends_ops k b]; simp [ends]
    · simp [endN]
  | .or a b => by
    rw [ops]; split
    · rw [endN_append, ends_ops k a, ends_ops k b]; simp [ends]
    · simp [endN]
theorem ends_rowd : ∀ (ts : List Tr) (t : Tr), (ends (rowd t ts)).length = (ends t).length + endN ts
  | [], t => by simp [rowd, endN]
  | u :: ts, t => by
    have := ends_rowd ts (.an t u)
    rw [rowd, List.foldl_cons]
    rw [rowd] at this
    rw [this, endN_cons]
    simp only [ends, List.length_append]; lia
theorem ends_halveN : ∀ (n : Nat) (ts : List Tr), ts ≠ [] → ts.length ≤ n → (ends (halveN n ts)).length = endN ts
  | 0, ts, h, hl => absurd (List.length_eq_zero_iff.mp (Nat.le_zero.mp hl)) h
  | n + 1, [], h, _ => absurd rfl h
  | n + 1, [t], _, _ => by simp [halveN, endN]
  | n + 1, t :: u :: r, _, hl => by
    have hh := half_ok t u r hl
    rw [halveN]
    have e : endN (t :: u :: r) = endN ((t :: u :: r).take ((t :: u :: r).length / 2)) + endN ((t :: u :: r).drop ((t :: u :: r).length / 2)) := by rw [← endN_append, List.take_append_drop]
    rw [e, ← ends_halveN n _ hh.1 hh.2.1, ← ends_halveN n _ hh.2.2.1 hh.2.2.2]
    simp [ends]
theorem ends_mkRow (k : Kd) {fs : List Tr} (h : fs ≠ []) : (ends (mkRow k fs)).length = endN fs := by
  cases fs with
  | nil => exact absurd rfl h
  | cons t ts =>
    cases k with
    | and => rw [mkRow, ends_rowd, endN_cons]
    | or => rw [mkRow, halve, ends_halveN _ _ (by simp) (Nat.le_refl _)]
theorem joinGo_ends (k : Kd) : ∀ (ps found fs : List Tr), joinGo k found ps = some fs → endN fs ≤ endN found + endN ps
  | [], found, fs, e => by rw [joinGo] at e; cases e; simp [endN]
  | q :: ps, found, fs, e => by
    rw [joinGo] at e
    rw [endN_cons]
    split at e
    · cases e
    · split at e
      · have := joinGo_ends k ps _ fs e
        rw [endN_append, endN_cons] at this
        simp only [endN, List.map_nil, List.sum_nil] at this ⊢; lia
      · have := joinGo_ends k ps found fs e
        lia
theorem join_ends (k : Kd) (a b : Tr) : (ends (join k a b)).length ≤ (ends a).length + (ends b).length := by
  have ha := ends_pos a
  have hb := ends_pos b
  rw [join]
  cases e : joinGo k [] (ops k a ++ ops k b) with
  | none => cases k <;> simp [joinR, Kd.whole, ends] <;> lia
  | some fs =>
    have := joinGo_ends k _ _ _ e
    rw [endN_append, ends_ops, ends_ops] at this
    cases fs with
    | nil => cases k <;> simp [joinR, Kd.rest, ends] <;> lia
    | cons t ts =>
      rw [joinR, ends_mkRow k (by simp)]
      simp only [endN, List.map_nil, List.sum_nil] at this ⊢
      lia
theorem fold1_ends (k : Kd) : ∀ (ms : List Tr) (f r : Tr), fold1 k (some f) ms = some r → (ends r).length ≤ (ends f).length + endN ms
  | [], f, r, e => by rw [fold1] at e; cases e; simp [endN]
  | m :: ms, f, r, e => by
    rw [fold1] at e
    have := fold1_ends k ms _ r e
    have h := join_ends k f m
    rw [endN_cons]; lia
theorem fold_ends (k : Kd) (ms : List Tr) (h : ms ≠ []) : (ends ((fold1 k none ms).getD (.leaf .all))).length ≤ endN ms := by
  cases ms with
  | nil => exact absurd rfl h
  | cons m ms =>
    obtain ⟨r, e⟩ := fold1_some k ms m
    have := fold1_ends k ms m r e
    rw [fold1, e, Option.getD_some, endN_cons]; exact this
theorem endN_map {g : Tr → Tr} : ∀ ts : List Tr, (∀ t ∈ ts, (ends (g t)).length ≤ (ends t).length) → endN (ts.map g) ≤ endN ts
  | [], _ => by simp [endN]
  | t :: ts, h => by
    have h1 := h t (.head _)
    have h2 := endN_map ts fun u m => h u (.tail _ m)
    rw [List.map_cons, endN_cons, endN_cons]; lia
theorem pushN_ends : ∀ (n : Nat) (t : Tr) (neg : Bool), (ends (pushN n t neg)).length ≤ (ends t).length := by
  intro n
  induction n with
  | zero => intro t neg; have := ends_pos t; simpa [pushN, ends] using this
  | succ n ih =>
    intro t neg
    rcases mk_cases t with ⟨l, rfl⟩ | ⟨u, rfl⟩ | ⟨k, a, b, rfl⟩
    · cases neg <;> simp [pushN, ends]
    · rw [pushN]; exact ih u _
    · rw [pushN_mk, ← ends_ops k (k.mk a b)]
      exact Nat.le_trans (fold_ends _ _ (by simp [ops_ne])) (endN_map _ fun x _ => ih x neg)
theorem plain_laws : PlainLaws where
  pl t := (pushN_gd _ _ _).pl
  id t := pushN_id _ _ (pushN_gd _ _ _) (Nat.le_refl _)
  len t := pushN_ends _ _ _
  met p t := plain_met p t
end Mine

/-! part J1 -/
set_option maxHeartbeats 8000000
namespace Mine
open PySem PySem.W PyProof.Rows in
open_top hd for PySem.Challenge.rw_no0351_01
end Mine
namespace Mine
open PySem PySem.W PySem.Calls PyProof.Rows PySem.SeqAt PySem.MeetsSeq

noncomputable def addr (i : Nat) : Addr := match i with
  | 1 => 21 | 2 => 28 | 3 => 35 | 4 => 42 | 5 => 49 | 6 => 56 | 7 => 63 | 8 => 70 | 9 => 77 | 10 => 84 | 11 => 91 | 12 => 96 | 13 => 101 | 14 => 108
  | 17 => 124 | 18 => 131 | 19 => 138 | 20 => 145 | 21 => 152 | 22 => 159 | 23 => 164 | 24 => 169 | _ => 0
noncomputable def DefX (st : Option Stmt) (P : Str → Arguments → List Stmt → Scope → Prop) : Prop := match st with
  | some (.FunctionDef name params body ds ret tps scope ts bind pos) => P name params body scope
  | _ => True
theorem DefX.go {st : Option Stmt} {P : Str → Arguments → List Stmt → Scope → Prop} {name : Str} {params : Arguments} {body : List Stmt} {ds : List Expr} {ret : Option Expr} {tps : List TypeParam} {scope : Scope} {ts : Option Scope} {bind : Str} {pos : Pos}
    (e : st = some (.FunctionDef name params body ds ret tps scope ts bind pos)) (h : P name params body scope) : DefX st P := by subst e; exact h
theorem DefX.use {st : Option Stmt} {P : Str → Arguments → List Stmt → Scope → Prop} {name : Str} {params : Arguments} {body : List Stmt} {ds : List Expr} {ret : Option Expr} {tps : List TypeParam} {scope : Scope} {ts : Option Scope} {bind : Str} {pos : Pos}
    (h : DefX st P) (e : st = some (.FunctionDef name params body ds ret tps scope ts bind pos)) : P name params body scope := by subst e; exact h
noncomputable abbrev DefP (mg : Str → Option Value) (base : Heap) (a : Addr) (name : Str) (params : Arguments) (body : List Stmt) (scope : Scope) : Prop := ∃ fo doc pm an cd ct, mg name = some (.ref a) ∧ base.get? a = some fo ∧ fo.data = .func (fnOf name name params body scope .none .none doc pm an cd ct) ∧ base.CodeRec cd name
theorem def_at {K : Frag} {h : Heap} {mg : Str → Option Value} (X : K.In h) (G : h.Ns mainGlobals mg) {a : Addr} {name : Str} {params : Arguments} {body : List Stmt} {scope : Scope} {oc : Value} {od : Option Addr} {sl : Array (Option Value)} {doc pm cd ct : Value} {an : Option Addr}
    (e1 : nsIn K mainGlobals name = some (some (.ref a))) (e2 : K.lookup a = some ⟨oc, od, .func (fnOf name name params body scope .none .none doc pm an cd ct), sl⟩) (e3 : codeIn K cd name = true) : DefP mg h a name params body scope :=
  ⟨_, doc, pm, an, cd, ct, mg_of X G e1, X _ _ e2, rfl, codeRec_of X e3⟩
section
variable {w : World} {h : Heap} {mg mb : Str → Option Value}
theorem defs_K (X : (hd.heap_39 w.params).In h) (G : h.Ns mainGlobals mg) : Defs h mg PR addr := ⟨fun i name params body ds ret tps scope ts bind pos e => by
  have go : DefX PR.main.body[i]? (DefP mg h (addr i)) := by
    match i with
    | 0 => exact trivial
    | 1 => exact DefX.go rfl (def_at X G rfl rfl rfl)
    | 2 => exact DefX.go rfl (def_at X G rfl rfl rfl)
    | 3 => exact DefX.go rfl (def_at X G rfl rfl rfl)
    | 4 => exact DefX.go rfl (def_at X G rfl rfl rfl)
    | 5 => exact DefX.go rfl (def_at X G rfl rfl rfl)
    | 6 => exact DefX.go rfl (def_at X G rfl rfl rfl)
    | 7 => exact DefX.go rfl (def_at X G rfl rfl rfl)
    | 8 => exact DefX.go rfl (def_at X G rfl rfl rfl)
    | 9 => exact DefX.go rfl (def_at X G rfl rfl rfl)
    | 10 => exact DefX.go rfl (def_at X G rfl rfl rfl)
    | 11 => exact DefX.go rfl (def_at X G rfl rfl rfl)
    | 12 => exact DefX.go rfl (def_at X G rfl rfl rfl)
    | 13 => exact DefX.go rfl (def_at X G rfl rfl rfl)
    | 14 => exact DefX.go rfl (def_at X G rfl rfl rfl)
    | 15 => exact trivial
    | 16 => exact trivial
    | 17 => exact DefX.go rfl (def_at X G rfl rfl rfl)
    | 18 => exact DefX.go rfl (def_at X G rfl rfl rfl)
    | 19 => exact DefX.go rfl (def_at X G rfl rfl rfl)
    | 20 => exact DefX.go rfl (def_at X G rfl rfl rfl)
    | 21 => exact DefX.go rfl (def_at X G rfl rfl rfl)
    | 22 => exact DefX.go rfl (def_at X G rfl rfl rfl)
    | 23 => exact DefX.go rfl (def_at X G rfl rfl rfl)
    | 24 => exact DefX.go rfl (def_at X G rfl rfl rfl)
    | n + 25 =>
      rw [List.getElem?_eq_none (show PR.main.body.length ≤ n + 25 from Nat.le_add_left _ _)]
      exact trivial
  exact go.use e⟩
theorem nb_K (X : (hd.heap_39 w.params).In h) (G : h.Ns mainGlobals mg) : Nb mg := ⟨mg_none_of X G rfl, mg_none_of X G rfl, mg_none_of X G rfl, mg_none_of X G rfl, mg_none_of X G rfl, mg_none_of X G rfl⟩
theorem leaves_K (X : (hd.heap_39 w.params).In h) (G : h.Ns mainGlobals mg) : mg "_law_leaves" = some (.ref 117) ∧ RepD h (.ref 117) (.tup leavesD) :=
  ⟨mg_of X G rfl, .tup ⟨_, X _ _ rfl, rfl, _, rfl⟩ (.cons (.tup ⟨_, X _ _ rfl, rfl, _, rfl⟩ (.cons (.str _ _) (.cons (.str _ _) .nil)))
    (.cons (.tup ⟨_, X _ _ rfl, rfl, _, rfl⟩ (.cons (.str _ _) (.cons (.str _ _) .nil)))
    (.cons (.tup ⟨_, X _ _ rfl, rfl, _, rfl⟩ (.cons (.str _ _) (.cons (.int _ _) .nil)))
    (.cons (.tup ⟨_, X _ _ rfl, rfl, _, rfl⟩ (.cons (.str _ _) (.cons (.tup ⟨_, X _ _ rfl, rfl, _, rfl⟩ (.cons (.tup ⟨_, X _ _ rfl, rfl, _, rfl⟩ (.cons (.int _ _) (.cons (.int _ _) .nil))) .nil)) .nil)))
    (.cons (.tup ⟨_, X _ _ rfl, rfl, _, rfl⟩ (.cons (.str _ _) .nil))
    (.cons (.tup ⟨_, X _ _ rfl, rfl, _, rfl⟩ (.cons (.str _ _) (.cons (.bytes _ _) .nil))) .nil))))))⟩
end
end Mine

/-! part J2 -/
namespace Mine
open PySem PySem.W PySem.Calls PyProof.Rows PySem.SeqAt PySem.MeetsSeq
theorem isL_of {P : Params} {s₁ : Shared} {l : Addr} {us : List Value} {xs : List WData} (w1 : Well P s₁.heap (.ref l) (.list xs)) (hL : s₁.heap.IsList l us.toArray) (hT : s₁.heap.get? 166 = some (tabObj #[])) : ∃ n, IsL (ghostOf s₁.heap [(168, 166)]) l us.toArray n := by
  cases w1 with
  | @list _ vs _ hg _ =>
    obtain ⟨o, ho, _, n, hd⟩ := hL
    rw [hg] at ho; cases ho
    have e : vs.toArray = us.toArray := by cases hd; rfl
    rw [e] at hg
    refine ⟨_, ghost_ne hg fun m => ?_⟩
    have : l = 166 := List.mem_singleton.mp m
    rw [this, hT] at hg; cases hg

theorem post_ok (ns : List Int) : PySem.Challenge.rw_no0351_01.row.claim.post [ofPy (PyData.list (List.map PyData.int ns))] (WData.bool true) [ofPy (PyData.list (List.map PyData.int ns))] = true := by
  have h : ∀ c : WCtx, c.res = some (.bool true) → (WShape.has [] (WData.bool true) .bool && WTm.holds [] (.eq .res (.lit (.bool true))) c) = true := by
    intro c hc
    rw [Bool.and_eq_true]
    refine ⟨by decide +kernel, ?_⟩
    have e : same (WData.bool true) (WData.bool true) = true := by decide +kernel
    simp [WTm.holds, WTm.value, hc, e]
  exact h { args := _, res := some (.bool true), after := _ } rfl

theorem law_holds : PySem.Challenge.rw_no0351_01.Holds := hd (by
  w_strict (k_go0)
  rename_i w s₀ s₁ mg mb G Y fa o pm doc ho hg X V T B TE TW hcd ns hs hlay0 hL1 hr1 hl2 w6 w5 l us w2 hL ra w1 r0 hI hr hcond1 hcond2 hD h₁ tk₁ oA oB hA hB X0 X' T' K' F' N' l0
  obtain ⟨n, hl⟩ := isL_of w1 hL (hT8 166 (.head _))
  have hLv := leaves_K X' T'.g
  refine (law_join (s₁ := s₁) (f := addr) plain_laws ⟨T'.g, T'.b, T'.builtins, T'.nolimit⟩ (defs_K X' T'.g) (nb_K X' T'.g) ⟨T'.bmain⟩ hLv.1 hLv.2 (by omega) hl hI rfl F' N' hA hB codeHd (fun h' tk ps k1 k2 => ?_)).use rfl
  refine ⟨⟨.inl ⟨_, .bool true, [], rfl, fun cls => rfl, .bool true, ?_, fun _ => ⟨.nil, fun a h => nomatch h⟩⟩, k1, rfl, hg⟩, ⟨⟨ps, k2⟩, trivial⟩⟩
  exact post_ok ns)
end Mine

theorem PySem.Challenge.cw_no0351_01_holds : PySem.Challenge.rw_no0351_01.Holds :=
  Mine.law_holds
