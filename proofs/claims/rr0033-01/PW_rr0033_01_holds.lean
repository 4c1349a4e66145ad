import PyProof.Rows.All
import Wide.All
import OpenK.AllK
import Wide.FinOn
import PySem.Challenge.RW_rr0033_01
open PySem PySem.W PyProof.Rows PySem.Calls
set_option Elab.async false
set_option maxHeartbeats 4000000
set_option genSizeOf false
set_option genInjectivity false
set_option maxRecDepth 100000
set_option linter.unusedVariables false
namespace Mine
theorem nx1 {a p s l c : Nat} (hp : l ≤ p) (h : a + p + s ≤ c + l) : a ≤ c := Nat.le_of_add_le_add_right (b := l) (Nat.le_trans (Nat.le_trans (Nat.add_le_add_left hp a) (Nat.le_add_right _ s)) h)
theorem nx3 {a p s l c : Nat} (hp : l ≤ p) (h : a + 3 * (p + s) ≤ c + l) : a ≤ c := Nat.le_of_add_le_add_right (b := l) (Nat.le_trans (Nat.add_le_add_left (Nat.le_trans hp (Nat.le_trans (Nat.le_add_right p s) (Nat.le_mul_of_pos_left _ (by decide)))) a) h)
theorem nx14 {n fr x : Nat} (h : n < 4) (g : 30 ≤ fr) (hx : x ≤ fr + 1) : max x (10 + n + 1) ≤ fr + 1 := Nat.max_le.mpr ⟨hx, Nat.succ_le_succ (Nat.le_trans (Nat.add_le_add_left (Nat.le_of_lt h) 10) (Nat.le_trans (by decide) g))⟩
theorem nx2 {a c m : Nat} (h : a ≤ 2 * c + 2) (g : c ≤ m) : a ≤ 2 * (1 + m) := by
  rw [Nat.add_comm 1 m, Nat.mul_succ]
  exact Nat.le_trans h (Nat.add_le_add_right (Nat.mul_le_mul_left 2 g) 2)

/-- simple values: immutable data, or a value as it is -/
inductive V where
  | d (x : PyData)
  | c (v : Value)

noncomputable def RepV (h : Heap) (v : Value) : V → Prop
  | .d x => Reads h v x []
  | .c u => v = u

inductive RepVs (h : Heap) : List Value → List V → Prop
  | nil : RepVs h [] []
  | cons {v x vs xs} : RepV h v x → RepVs h vs xs → RepVs h (v :: vs) (x :: xs)

inductive SObj where
  | list (xs : List V)
  | idict (kvs : List (Int × V))
  | sdict (kvs : List (Str × V))
  | tdict (kvs : List (List Int × V))
  | iset (S : Int → Bool) (n : Nat)
  | inst (C dx : Addr)
  | ns (fs : List (Str × V))
  | range (a b c : Int)

abbrev SH := Addr → Option SObj
noncomputable def SH.set (σ : SH) (a : Addr) (o : SObj) : SH := fun b => if b = a then some o else σ b

/-- entries of an object's dict -/
inductive Flds (h : Heap) : List DictEntry → List (Str × V) → Prop
  | nil : Flds h [] []
  | cons {e es n x fs} : (∃ t, e.key = .str n t) → RepV h e.val x → Flds h es fs → Flds h (e :: es) ((n, x) :: fs)

section
variable (prog : Program) (w : World)

noncomputable def RepO (h : Heap) (a : Addr) : SObj → Prop
  | .list xs => ∃ vs : List Value, h.PlainList a vs.toArray ∧ RepVs h vs xs
  | .idict kvs => ∃ ws : List (Int × Value), h.DictOf (PySem.intKind prog w) a ws ∧ ws.map (·.1) = kvs.map (·.1) ∧ RepVs h (ws.map (·.2)) (kvs.map (·.2))
  | .sdict kvs => ∃ ws : List (Str × Value), h.DictOf (PySem.strKind prog w) a ws ∧ ws.map (·.1) = kvs.map (·.1) ∧ RepVs h (ws.map (·.2)) (kvs.map (·.2))
  | .tdict kvs => ∃ ws : List (List Int × Addr × Value), h.DictOfH (tupleKind (PySem.intKind prog w)) a ws ∧ ws.map (·.1) = kvs.map (·.1) ∧ RepVs h (ws.map (·.2.2)) (kvs.map (·.2))
  | .iset S n => h.SetOf (PySem.intKind prog w) a S n
  | .inst C dx => h.get? a = some ⟨.ref C, some dx, .plain, #[]⟩
  | .ns fs => ∃ es n, h.get? a = some (dictOf es n) ∧ Flds h es fs
  | .range x y z => ∃ t u v, IsRange h a x y z t u v
end

/-- tuples stay -/
noncomputable def KeepT (h h' : Heap) : Prop := ∀ b o, h.get? b = some o → o.cls = .type "tuple" → (∃ vs n, o.data = .seq vs n) → h'.get? b = some o
noncomputable def Keeps (h h' : Heap) : Prop := ∀ b o, h.get? b = some o → h'.get? b = some o
theorem Keeps.t {h h' : Heap} (k : Keeps h h') : KeepT h h' := fun b o e _ _ => k b o e

theorem Reads.keepT {h h' : Heap} (k : KeepT h h') {v : Value} {d : PyData} {as : List Addr} (r : Reads h v d as) : as = [] → Reads h' v d as := by
  refine Reads.rec (motive_1 := fun v d as _ => as = [] → Reads h' v d as) (motive_2 := fun vs ds as _ => as = [] → ReadsAll h' vs ds as) ?_ ?_ ?_ ?_ ?_ ?_ ?_ ?_ ?_ r
  · exact fun _ => .none
  · exact fun b _ => .bool b
  · exact fun i t _ => .int i t
  · exact fun x t _ => .str x t
  · intros; contradiction
  · exact fun h1 h2 h3 h4 ih e => .tuple (k _ _ h1 h2 ⟨_, _, h3⟩) h2 h3 (ih e)
  · intros; contradiction
  · exact fun _ => .nil
  · exact fun _ _ ih1 ih2 e => .cons (ih1 (List.append_eq_nil_iff.mp e).1) (ih2 (List.append_eq_nil_iff.mp e).2)
theorem RepV.keepT {h h' : Heap} (k : KeepT h h') {v : Value} : ∀ {x : V}, RepV h v x → RepV h' v x
  | .d _, r => Reads.keepT k r rfl
  | .c _, r => r
theorem RepVs.keepT {h h' : Heap} (k : KeepT h h') {vs : List Value} {xs : List V} (r : RepVs h vs xs) : RepVs h' vs xs := by
  induction r with
  | nil => exact .nil
  | cons a _ ih => exact .cons (a.keepT k) ih
theorem Flds.keepT {h h' : Heap} (k : KeepT h h') {es : List DictEntry} {fs : List (Str × V)} (r : Flds h es fs) : Flds h' es fs := by
  induction r with
  | nil => exact .nil
  | cons a b _ ih => exact .cons a (b.keepT k) ih
theorem RepVs.length {h : Heap} {vs : List Value} {xs : List V} (r : RepVs h vs xs) : vs.length = xs.length := by
  induction r with
  | nil => rfl
  | cons _ _ ih => simp [ih]
theorem RepVs.get {h : Heap} {vs : List Value} {xs : List V} (r : RepVs h vs xs) : ∀ {k : Nat} {x : V}, xs[k]? = some x → ∃ v, vs[k]? = some v ∧ RepV h v x := by
  induction r with
  | nil => intro k x e; simp at e
  | cons a _ ih =>
    intro k x e
    cases k with
    | zero => simp at e; subst e; exact ⟨_, rfl, a⟩
    | succ k => simpa using ih (by simpa using e)
theorem RepVs.append {h : Heap} {vs ws : List Value} {xs ys : List V} (r : RepVs h vs xs) (q : RepVs h ws ys) : RepVs h (vs ++ ws) (xs ++ ys) := by
  induction r with
  | nil => exact q
  | cons a _ ih => exact .cons a ih
theorem RepVs.set {h : Heap} {vs : List Value} {xs : List V} (r : RepVs h vs xs) {v : Value} {x : V} (q : RepV h v x) : ∀ {k : Nat}, RepVs h (vs.set k v) (xs.set k x) := by
  induction r with
  | nil => intro k; exact .nil
  | cons a b ih =>
    intro k
    cases k with
    | zero => exact .cons q b
    | succ k => exact .cons a ih
/-- all items of a list that are data: the list reads as data -/
theorem RepVs.reads {h : Heap} : ∀ {vs : List Value} {ds : List PyData}, RepVs h vs (ds.map V.d) → ReadsAll h vs ds []
  | [], [], .nil => .nil
  | _ :: _, _ :: _, .cons a b => ReadsAll.cons (as := []) (bs := []) a (RepVs.reads b)
theorem RepVs.ofReads {h : Heap} : ∀ {vs : List Value} {ds : List PyData} {as : List Addr}, ReadsAll h vs ds as → as = [] → RepVs h vs (ds.map V.d)
  | _, _, _, .nil, _ => .nil
  | _, _, _, .cons a b, e => by
    obtain ⟨rfl, rfl⟩ := List.append_eq_nil_iff.mp e
    exact .cons a (RepVs.ofReads b rfl)

section
variable {prog : Program} {w : World}
theorem RepO.obj {h : Heap} {a : Addr} {so : SObj} (r : RepO prog w h a so) : ∃ o, h.get? a = some o ∧ o.cls ≠ .type "tuple" ∧ (∀ v, o.data ≠ .cell v) ∧ True := by
  cases so with
  | list xs => obtain ⟨vs, ⟨n, e⟩, _⟩ := r; exact ⟨_, e, by simp, by simp, trivial⟩
  | idict kvs => obtain ⟨ws, ⟨o, es, ep, e, ⟨c, _⟩, d, _⟩, _⟩ := r; exact ⟨_, e, by rw [c]; simp, by rw [d]; simp, trivial⟩
  | sdict kvs => obtain ⟨ws, ⟨o, es, ep, e, ⟨c, _⟩, d, _⟩, _⟩ := r; exact ⟨_, e, by rw [c]; simp, by rw [d]; simp, trivial⟩
  | tdict kvs => obtain ⟨ws, ⟨o, es, ep, e, ⟨c, _⟩, d, _⟩, _⟩ := r; exact ⟨_, e, by rw [c]; simp, by rw [d]; simp, trivial⟩
  | iset S n => obtain ⟨o, es, ep, t, e, ⟨c, _⟩, d, _⟩ := r; exact ⟨_, e, by rw [c]; simp, by rw [d]; simp, trivial⟩
  | inst C dx => exact ⟨_, r, by simp, by simp, trivial⟩
  | ns fs => obtain ⟨es, n, e, _⟩ := r; exact ⟨_, e, by simp, by simp, trivial⟩
  | range x y z => obtain ⟨t, u, v, e⟩ := r; exact ⟨_, e, by simp, by simp, trivial⟩
theorem RepO.mono {h h' : Heap} {a : Addr} {so : SObj} (r : RepO prog w h a so) (k : KeepT h h') (ka : ∀ o, h.get? a = some o → h'.get? a = some o) : RepO prog w h' a so := by
  cases so with
  | list xs => obtain ⟨vs, p, q⟩ := r; exact ⟨vs, p.at ka, q.keepT k⟩
  | idict kvs => obtain ⟨ws, ⟨o, es, ep, e, d⟩, q, t⟩ := r; exact ⟨ws, ⟨o, es, ep, ka _ e, d⟩, q, t.keepT k⟩
  | sdict kvs => obtain ⟨ws, ⟨o, es, ep, e, d⟩, q, t⟩ := r; exact ⟨ws, ⟨o, es, ep, ka _ e, d⟩, q, t.keepT k⟩
  | tdict kvs =>
    obtain ⟨ws, ⟨o, es, ep, e, c, d, f, g, i⟩, q, t⟩ := r
    refine ⟨ws, ⟨o, es, ep, ka _ e, c, d, f, fun x hx => ?_, i⟩, q, t.keepT k⟩
    obtain ⟨o', items, n, h1, h2, h3⟩ := g x hx
    exact ⟨o', items, n, k _ _ h1 h2 ⟨_, _, h3.1⟩, h2, h3⟩
  | iset S n => obtain ⟨o, es, ep, t, e, d⟩ := r; exact ⟨o, es, ep, t, ka _ e, d⟩
  | inst C dx => exact ka _ r
  | ns fs => obtain ⟨es, n, e, f⟩ := r; exact ⟨es, n, ka _ e, f.keepT k⟩
  | range x y z => obtain ⟨t, u, v, e⟩ := r; exact ⟨t, u, v, ka _ e⟩
end

/-- what stands fast during the call -/
structure Cx where
  w : World
  h₀ : Heap
  s₀ : Shared

/-- the written part and the top's facts -/
structure Wd (prog : Program) (K : Frag) (C : Cx) : Prop where
  kin : K.In C.h₀
  top : ∃ p loose mg mb, TopRead p loose mg mb C.h₀

structure St0 (prog : Program) (C : Cx) (σ : SH) (s : Shared) : Prop where
  size : C.h₀.objs.size ≤ s.heap.objs.size
  keep : Keeps C.h₀ s.heap
  new : ∀ a so, σ a = some so → C.h₀.get? a = none ∧ (a == sysModules) = false
  rep : ∀ a so, σ a = some so → RepO prog C.w s.heap a so
  gens : s.gens = C.s₀.gens
  drawn : s.drawn = C.s₀.drawn
  os : s.os = C.s₀.os

abbrev Loc := Str → Option V
noncomputable def Loc.set (m : Loc) (x : Str) (v : V) : Loc := fun y => if y = x then some v else m y

noncomputable def Has (env : Env) (h : Heap) (mp : Str → Option Value) (x : Str) (X : V) : Prop := match env.cells.lookup x with
  | none => ∃ v, mp x = some v ∧ RepV h v X
  | some c => c ≠ env.locals ∧ ∃ v o, h.get? c = some o ∧ o.data = .cell (some v) ∧ RepV h v X

structure St (prog : Program) (C : Cx) (env : Env) (m : Loc) (σ : SH) (s : Shared) : Prop extends St0 prog C σ s where
  fr : ∃ mp, Fr C.h₀ env.locals s.heap mp ∧ ∀ x X, m x = some X → Has env s.heap mp x X
  off : σ env.locals = none

structure ExtC (σ : SH) (h : Heap) (σ' : SH) (h' : Heap) : Prop where
  keep : ∀ a o, σ a = none → h.get? a = some o → h'.get? a = some o
  new : ∀ a, σ' a ≠ none → σ a ≠ none ∨ h.get? a = none
structure Ext (L : Addr) (σ : SH) (h : Heap) (σ' : SH) (h' : Heap) : Prop where
  keep : ∀ a o, a ≠ L → σ a = none → h.get? a = some o → h'.get? a = some o
  new : ∀ a, σ' a ≠ none → σ a ≠ none ∨ h.get? a = none
  L : ∃ o, h.get? L = some o

theorem ExtC.to {L : Addr} {σ σ' : SH} {h h' : Heap} (x : ExtC σ h σ' h') (hL : ∃ o, h.get? L = some o) : Ext L σ h σ' h' := ⟨fun a o _ => x.keep a o, x.new, hL⟩
theorem ExtC.refl (σ : SH) (h : Heap) : ExtC σ h σ h := ⟨fun _ _ _ e => e, fun _ e => .inl e⟩
theorem Ext.refl {L : Addr} (σ : SH) {h : Heap} (hL : ∃ o, h.get? L = some o) : Ext L σ h σ h := (ExtC.refl σ h).to hL
theorem Ext.trans {L : Addr} {σ σ₁ σ₂ : SH} {h h₁ h₂ : Heap} (x : Ext L σ h σ₁ h₁) (y : Ext L σ₁ h₁ σ₂ h₂) : Ext L σ h σ₂ h₂ := by
  refine ⟨fun a o hL hσ e => y.keep a o hL ?_ (x.keep a o hL hσ e), fun a ha => ?_, x.L⟩
  · cases q : σ₁ a with
    | none => rfl
    | some so =>
      rcases x.new a (by rw [q]; simp) with r | r
      · exact absurd hσ r
      · rw [e] at r; cases r
  · rcases y.new a ha with r | r
    · exact x.new a r
    · by_cases hσ : σ a = none
      · refine .inr ?_
        cases q : h.get? a with
        | none => rfl
        | some o =>
          by_cases hL : a = L
          · obtain ⟨o', e'⟩ := y.L
            rw [hL, e'] at r; cases r
          · rw [x.keep a o hL hσ q] at r; cases r
      · exact .inl hσ
section
variable {prog : Program} {C : Cx} {σ σ' : SH} {s s' : Shared} {env : Env} {m : Loc}
theorem St0.noTup (S : St0 prog C σ s) {b : Addr} {o : Obj} (e : s.heap.get? b = some o) (hc : o.cls = .type "tuple") : σ b = none := by
  cases q : σ b with
  | none => rfl
  | some so =>
    obtain ⟨o', e', c, _⟩ := (S.rep b so q).obj
    rw [e] at e'; cases e'; exact absurd hc c
theorem St0.keepT (S : St0 prog C σ s) {h' : Heap} (x : ExtC σ s.heap σ' h') : KeepT s.heap h' := fun b o e hc _ => x.keep b o (S.noTup e hc) e
theorem St.hL (S : St prog C env m σ s) : ∃ o, s.heap.get? env.locals = some o := by
  obtain ⟨mp, F, _⟩ := S.fr
  obtain ⟨oL, _, _, hL, _⟩ := F.ns
  exact ⟨oL, hL⟩
/-- a state behind a call, or an operation, is a state of the frame -/
theorem St.after (S : St prog C env m σ s) (T : St0 prog C σ' s') (x : ExtC σ s.heap σ' s'.heap) : St prog C env m σ' s' := by
  obtain ⟨mp, F, Hm⟩ := S.fr
  obtain ⟨oL, es, ep, hL, r⟩ := F.ns
  have off' : σ' env.locals = none := by
    cases q : σ' env.locals with
    | none => rfl
    | some so =>
      rcases x.new _ (by rw [q]; simp) with y | y
      · exact absurd S.off y
      · rw [hL] at y; cases y
  refine ⟨T, ⟨mp, ⟨⟨oL, es, ep, x.keep _ _ S.off hL, r⟩, T.keep, F.above⟩, fun y X hy => ?_⟩, off'⟩
  have q := Hm y X hy
  have kt := S.keepT x
  unfold Has at q ⊢
  split
  · rename_i e; rw [e] at q
    obtain ⟨v, e1, e2⟩ := q
    exact ⟨v, e1, e2.keepT kt⟩
  · rename_i c e; rw [e] at q
    obtain ⟨n, v, o, e1, e2, e3⟩ := q
    refine ⟨n, v, o, x.keep _ _ ?_ e1, e2, e3.keepT kt⟩
    cases q : σ c with
    | none => rfl
    | some so =>
      obtain ⟨o', e', _, c', _⟩ := (S.rep c so q).obj
      rw [e1] at e'; cases e'; exact absurd e2 (c' _)
end
end Mine
namespace Mine
section
variable {prog : Program} {C : Cx} {σ σ' σ₁ : SH} {s s' s₁ : Shared} {env : Env} {m m' : Loc}
theorem St.keepT (S : St prog C env m σ s) {h' : Heap} (x : Ext env.locals σ s.heap σ' h') : KeepT s.heap h' := fun b o e hc hd => by
  refine x.keep b o (fun hb => ?_) (S.noTup e hc) e
  obtain ⟨mp, F, _⟩ := S.fr
  obtain ⟨oL, es, ep, hL, hLd, _⟩ := F.ns
  obtain ⟨vs, n, hd⟩ := hd
  rw [hb, hL] at e; cases e
  rw [hLd] at hd; cases hd
end

section
variable {α β γ δ : Type} (prog : Program) (C : Cx) (A : Around) (env : Env)
/-- what stands behind a step -/
noncomputable def GoQ (rep : Heap → α → β → Prop) (m : Loc) (σ : SH) (s : Shared) (Φ : β → SH → Prop) (a : α) (s' : Shared) : Prop :=
  ∃ b σ', rep s'.heap a b ∧ St prog C env m σ' s' ∧ Ext env.locals σ s.heap σ' s'.heap ∧ Φ b σ'
noncomputable def Go (rep : Heap → α → β → Prop) (t : Sem α) (m : Loc) (σ : SH) (s : Shared) (Φ : β → SH → Prop) : Prop :=
  wpAny (model prog C.w) A t (GoQ prog C env rep m σ s Φ) (fun _ _ => False) s
noncomputable def Tr (rep : Heap → α → β → Prop) (t : Sem α) (m : Loc) (σ : SH) (Φ : β → SH → Prop) : Prop :=
  ∀ s, St prog C env m σ s → Go prog C A env rep t m σ s Φ

inductive SF where
  | next | brk | cont
  | ret (X : V)
noncomputable def FlowRep (h : Heap) : Flow → SF → Prop
  | .next, .next => True
  | .brk, .brk => True
  | .cont, .cont => True
  | .ret v, .ret X => RepV h v X
  | _, _ => False
noncomputable def GoSQ (σ : SH) (s : Shared) (Φ : SF → Loc → SH → Prop) (f : Flow) (s' : Shared) : Prop :=
  ∃ F m' σ', FlowRep s'.heap f F ∧ St prog C env m' σ' s' ∧ Ext env.locals σ s.heap σ' s'.heap ∧ Φ F m' σ'
noncomputable def GoS (t : Sem Flow) (σ : SH) (s : Shared) (Φ : SF → Loc → SH → Prop) : Prop :=
  wpAny (model prog C.w) A t (GoSQ prog C env σ s Φ) (fun _ _ => False) s
noncomputable def Ex (t : Sem Flow) (m : Loc) (σ : SH) (Φ : SF → Loc → SH → Prop) : Prop :=
  ∀ s, St prog C env m σ s → GoS prog C A env t σ s Φ
end
noncomputable def RepB (_ : Heap) (a b : Bool) : Prop := a = b
noncomputable def RepU (_ : Heap) (_ : Unit) (_ : Unit) : Prop := True

noncomputable def Room (A : Around) (k : Nat) : Prop := A.handled = none ∧ A.depth + 4 * k + 10 ≤ recursionLimit ∧ A.units + 16 * k + 200 ≤ cLine
noncomputable def CallQ (prog : Program) (C : Cx) (σ : SH) (s : Shared) (Φ : V → SH → Prop) (v : Value) (s' : Shared) : Prop :=
  ∃ X σ', RepV s'.heap v X ∧ St0 prog C σ' s' ∧ ExtC σ s.heap σ' s'.heap ∧ Φ X σ'
noncomputable def CallR (prog : Program) (C : Cx) (σ : SH) (s : Shared) (Φ : V → SH → Prop) (r : Result) (s' : Shared) : Prop := match r with
  | .ok (.ret v) => CallQ prog C σ s Φ v s'
  | _ => False
noncomputable def CallC (prog : Program) (C : Cx) (k : Nat) (f : Value) (args : List V) (σ : SH) (Φ : V → SH → Prop) : Prop :=
  ∀ A s vs, Room A k → St0 prog C σ s → RepVs s.heap vs args →
    codeAny (model prog C.w) A (.call f ⟨vs, []⟩) (CallR prog C σ s Φ) s

section
variable {α β γ δ : Type} {prog : Program} {C : Cx} {A : Around} {env : Env} {m m' : Loc} {σ σ' σ₁ : SH} {s s' s₁ : Shared}

theorem Go.now {rep : Heap → α → β → Prop} {a : α} {b : β} {Φ : β → SH → Prop} (S : St prog C env m σ s) (r : rep s.heap a b) (h : Φ b σ) : GoQ prog C env rep m σ s Φ a s :=
  ⟨b, σ, r, S, Ext.refl σ S.hL, h⟩
theorem St.toks (S : St prog C env m σ s) (n : Nat) : St prog C env m σ { s with toks := n } := ⟨⟨S.size, S.keep, S.new, S.rep, S.gens, S.drawn, S.os⟩, S.fr, S.off⟩
theorem Go.nowT {rep : Heap → α → β → Prop} {a : α} {b : β} {Φ : β → SH → Prop} {n : Nat} (S : St prog C env m σ s) (r : rep s.heap a b) (h : Φ b σ) : GoQ prog C env rep m σ s Φ a { s with toks := n } :=
  ⟨b, σ, r, S.toks n, Ext.refl σ S.hL, h⟩
theorem GoQ.from {rep : Heap → α → β → Prop} {Φ : β → SH → Prop} (x : Ext env.locals σ s.heap σ₁ s₁.heap) {a : α} {s' : Shared} (h : GoQ prog C env rep m σ₁ s₁ Φ a s') : GoQ prog C env rep m σ s Φ a s' :=
  let ⟨b, σ', r, S, y, p⟩ := h; ⟨b, σ', r, S, x.trans y, p⟩
theorem Go.bind {rep : Heap → α → β → Prop} {t : Sem α} {Φ : β → SH → Prop} {Q : α → Shared → Prop} {E : Value → Shared → Prop} (h : Go prog C A env rep t m σ s Φ) (f : ∀ a s₁ b σ₁, rep s₁.heap a b → St prog C env m σ₁ s₁ → Ext env.locals σ s.heap σ₁ s₁.heap → Φ b σ₁ → Q a s₁) : wpAny (model prog C.w) A t Q E s :=
  wpAny_mono h (fun a s₁ q => by obtain ⟨b, σ₁, r, S₁, x, p⟩ := q; exact f a s₁ b σ₁ r S₁ x p) fun _ _ e => e.elim
theorem GoS.bind {t : Sem Flow} {Φ : SF → Loc → SH → Prop} {Q : Flow → Shared → Prop} {E : Value → Shared → Prop} (h : GoS prog C A env t σ s Φ) (f : ∀ a s₁ F m' σ₁, FlowRep s₁.heap a F → St prog C env m' σ₁ s₁ → Ext env.locals σ s.heap σ₁ s₁.heap → Φ F m' σ₁ → Q a s₁) : wpAny (model prog C.w) A t Q E s :=
  wpAny_mono h (fun a s₁ q => by obtain ⟨F, m', σ₁, r, S₁, x, p⟩ := q; exact f a s₁ F m' σ₁ r S₁ x p) fun _ _ e => e.elim
/-- one step, then the next -/
theorem Go.then {rep : Heap → α → β → Prop} {rep' : Heap → γ → δ → Prop} {t : Sem α} {k : α → Sem γ} {Φ : β → SH → Prop} {Ψ : δ → SH → Prop} (S : St prog C env m σ s) (h : Go prog C A env rep t m σ s Φ)
    (f : ∀ a s₁ b σ₁, rep s₁.heap a b → St prog C env m σ₁ s₁ → KeepT s.heap s₁.heap → Φ b σ₁ → Go prog C A env rep' (k a) m σ₁ s₁ Ψ) :
    wpAny (model prog C.w) A t (fun a s₁ => wpAny (model prog C.w) A (k a) (GoQ prog C env rep' m σ s Ψ) (fun _ _ => False) s₁) (fun _ _ => False) s :=
  wpAny_mono h (fun a s₁ ⟨b, σ₁, r, S₁, x, p⟩ => wpAny_mono (f a s₁ b σ₁ r S₁ (S.keepT x) p) (fun _ _ q => GoQ.from x q) fun _ _ e => e) fun _ _ e => e
theorem CallC.mono {k : Nat} {f : Value} {args : List V} {Φ Ψ : V → SH → Prop} (h : CallC prog C k f args σ Φ) (g : ∀ b σ', Φ b σ' → Ψ b σ') : CallC prog C k f args σ Ψ :=
  fun A s vs hR S r => codeAny_mono (h A s vs hR S r) fun r s' q => by
    cases r with
    | error e => exact q
    | ok f =>
      cases f with
      | ret v =>
        obtain ⟨X, σ', a, b, c, d⟩ := q
        exact ⟨X, σ', a, b, c, g _ _ d⟩
      | _ => exact q
theorem Room.le {k k' : Nat} (h : Room A k) (hk : k' ≤ k) : Room A k' := ⟨h.1, Nat.le_trans (Nat.add_le_add_right (Nat.add_le_add_left (Nat.mul_le_mul_left 4 hk) _) 10) h.2.1, Nat.le_trans (Nat.add_le_add_right (Nat.add_le_add_left (Nat.mul_le_mul_left 16 hk) _) 200) h.2.2⟩
theorem CallC.le {k k' : Nat} {f : Value} {args : List V} {Φ : V → SH → Prop} (h : CallC prog C k f args σ Φ) (hk : k ≤ k') : CallC prog C k' f args σ Φ := fun A s vs hR => h A s vs (hR.le hk)
theorem Room.hu {k : Nat} (h : Room A k) : A.units + 64 < cLine := by have := h.2.2; (first | lia | omega)
theorem Room.hu1 {k : Nat} (h : Room A k) : A.units + 1 < cLine := by have := h.2.2; (first | lia | omega)
theorem Room.hd {k : Nat} (h : Room A k) : A.depth < recursionLimit := by have := h.2.1; (first | lia | omega)
theorem Room.deeper {k : Nat} (h : Room A (k + 1)) (e : Env) : Room (A.deeper e) k := by
  refine ⟨h.1, ?_, ?_⟩
  · have := h.2.1; show A.depth + 1 + 4 * k + 10 ≤ _; (first | lia | omega)
  · have := h.2.2; show A.units + 3 + 16 * k + 200 ≤ _; (first | lia | omega)

/-- what a call's end says to the frame -/
theorem CallQ.go {Φ : V → SH → Prop} (S : St prog C env m σ s) {v : Value} {s' : Shared} (h : CallQ prog C σ s Φ v s') : GoQ prog C env RepV m σ s Φ v s' :=
  let ⟨X, σ', r, T, x, p⟩ := h; ⟨X, σ', r, S.after T x, x.to S.hL, p⟩
/-- an operation whose end is told without the frame -/
theorem Go.of {rep : Heap → α → β → Prop} {a : α} {b : β} {Φ : β → SH → Prop} (S : St prog C env m σ s) (T : St0 prog C σ' s') (x : ExtC σ s.heap σ' s'.heap) (r : rep s'.heap a b) (p : Φ b σ') : GoQ prog C env rep m σ s Φ a s' :=
  ⟨b, σ', r, S.after T x, x.to S.hL, p⟩

-- new objects, changed objects
theorem St0.push {s : Shared} (S : St0 prog C σ s) (o : Obj) : St0 prog C σ { s with heap := s.heap.push o } := by
  refine ⟨Nat.le_trans S.size (by rw [Heap.size_push]; exact Nat.le_succ _), fun b o' e => Heap.get?_push_of_some _ (S.keep b o' e), S.new, fun a so e => ?_, S.gens, S.drawn, S.os⟩
  exact (S.rep a so e).mono (Keeps.t fun b o' e => Heap.get?_push_of_some _ e) fun o' e => Heap.get?_push_of_some _ e
theorem ExtC.push {h : Heap} (o : Obj) : ExtC σ h σ (h.push o) := ⟨fun _ _ _ e => Heap.get?_push_of_some _ e, fun _ e => .inl e⟩
theorem St0.h₀none {s : Shared} (S : St0 prog C σ s) {a : Addr} (h : s.heap.get? a = none) : C.h₀.get? a = none := by
  cases q : C.h₀.get? a with
  | none => rfl
  | some o => rw [S.keep a o q] at h; cases h
/-- the state with one object more in the simple heap -/
theorem St0.add {s s' : Shared} {a : Addr} {so : SObj} (S : St0 prog C σ s) (k : Keeps s.heap s'.heap) (hn : s.heap.get? a = none) (hm : (a == sysModules) = false) (hz : s.heap.objs.size ≤ s'.heap.objs.size) (r : RepO prog C.w s'.heap a so) (hg : s'.gens = s.gens) (hd : s'.drawn = s.drawn) (ho : s'.os = s.os) :
    St0 prog C (σ.set a so) s' ∧ ExtC σ s.heap (σ.set a so) s'.heap := by
  refine ⟨⟨Nat.le_trans S.size hz, fun b o e => k _ _ (S.keep b o e), fun b so' e => ?_, fun b so' e => ?_, hg.trans S.gens, hd.trans S.drawn, ho.trans S.os⟩, fun b o _ e => k _ _ e, fun b hb => ?_⟩
  · unfold SH.set at e; split at e
    · rename_i q; subst q; exact ⟨S.h₀none hn, hm⟩
    · exact S.new b so' e
  · unfold SH.set at e; split at e
    · rename_i q; subst q; cases e; exact r
    · exact (S.rep b so' e).mono (Keeps.t k) fun o e => k _ _ e
  · unfold SH.set at hb; split at hb
    · rename_i q; subst q; exact .inr hn
    · exact .inl hb
theorem St0.fresh {K : Frag} {s : Shared} (W : Wd prog K C) (S : St0 prog C σ s) : (s.heap.objs.size == sysModules) = false := by
  obtain ⟨p, lo, mg, mb, T⟩ := W.top
  exact beq_eq_false_iff_ne.mpr (Nat.ne_of_gt (modules_low (T.nolimit.keeps S.keep)))
theorem get?_size (h : Heap) : h.get? h.objs.size = none := by
  cases q : h.get? h.objs.size with
  | none => rfl
  | some o => exact absurd (Heap.lt_size q) (Nat.lt_irrefl _)
/-- the state with one object of the simple heap changed -/
theorem St0.upd {s s' : Shared} {a : Addr} {so so' : SObj} (S : St0 prog C σ s) (hσ : σ a = some so) (hs : Heap.SameBut a s.heap s'.heap) (r : RepO prog C.w s'.heap a so') (hg : s'.gens = s.gens) (hd : s'.drawn = s.drawn) (ho : s'.os = s.os) :
    St0 prog C (σ.set a so') s' ∧ ExtC σ s.heap (σ.set a so') s'.heap := by
  have kp : ∀ b o, b ≠ a → s.heap.get? b = some o → s'.heap.get? b = some o := fun b o hb e => (hs.2 b hb).trans e
  have kt : KeepT s.heap s'.heap := fun b o e hc _ => by
    refine kp b o (fun q => ?_) e
    subst q
    obtain ⟨o', e', c, _⟩ := (S.rep b so hσ).obj
    rw [e] at e'; cases e'; exact absurd hc c
  refine ⟨⟨by rw [hs.1]; exact S.size, fun b o e => ?_, fun b so'' e => ?_, fun b so'' e => ?_, hg.trans S.gens, hd.trans S.drawn, ho.trans S.os⟩, fun b o hb e => ?_, fun b hb => ?_⟩
  · refine kp b o (fun q => ?_) (S.keep b o e)
    subst q
    rw [(S.new b so hσ).1] at e; cases e
  · unfold SH.set at e; split at e
    · rename_i q; subst q; exact S.new b so hσ
    · exact S.new b so'' e
  · unfold SH.set at e; split at e
    · rename_i q; subst q; cases e; exact r
    · rename_i q; exact (S.rep b so'' e).mono kt fun o e => kp b o q e
  · exact kp b o (fun q => by subst q; rw [hσ] at hb; cases hb) e
  · unfold SH.set at hb; split at hb
    · rename_i q; subst q; exact .inl (by rw [hσ]; simp)
    · exact .inl hb
end
end Mine
namespace Mine
section
variable {prog : Program} {K : Frag} {C : Cx} {A : Around} {m : Loc} {σ : SH} {s : Shared} {cn : Str} {cs : Scope} {L a : Addr} {ccd : Value} {cl : List (Str × Addr)} {x : Str} {pos : Pos} {Φ : V → SH → Prop} {k : Nat}

abbrev Ev (prog : Program) (C : Cx) (A : Around) (env : Env) (e : Expr) (m : Loc) (σ : SH) (Φ : V → SH → Prop) : Prop := Tr prog C A env RepV (eval e env) m σ Φ
abbrev Evs (prog : Program) (C : Cx) (A : Around) (env : Env) (pos : Pos) (es : List Expr) (m : Loc) (σ : SH) (Φ : List V → SH → Prop) : Prop := Tr prog C A env RepVs (spliced (backTo pos (starEach es env))) m σ Φ
abbrev Ts (prog : Program) (C : Cx) (A : Around) (env : Env) (e : Expr) (m : Loc) (σ : SH) (Φ : Bool → SH → Prop) : Prop := Tr prog C A env RepB (PySem.isTrue e env (eval e env)) m σ Φ

/-- operations upon values that are at hand -/
noncomputable def Op1 {α β : Type} (prog : Program) (C : Cx) (A : Around) (env : Env) (rep : Heap → α → β → Prop) (f : Value → Sem α) (X : V) (m : Loc) (σ : SH) (Φ : β → SH → Prop) : Prop :=
  ∀ s v, St prog C env m σ s → RepV s.heap v X → Go prog C A env rep (f v) m σ s Φ
noncomputable def Op2 {α β : Type} (prog : Program) (C : Cx) (A : Around) (env : Env) (rep : Heap → α → β → Prop) (f : Value → Value → Sem α) (X Y : V) (m : Loc) (σ : SH) (Φ : β → SH → Prop) : Prop :=
  ∀ s v u, St prog C env m σ s → RepV s.heap v X → RepV s.heap u Y → Go prog C A env rep (f v u) m σ s Φ
noncomputable def Op3 {α β : Type} (prog : Program) (C : Cx) (A : Around) (env : Env) (rep : Heap → α → β → Prop) (f : Value → Value → Value → Sem α) (X Y Z : V) (m : Loc) (σ : SH) (Φ : β → SH → Prop) : Prop :=
  ∀ s v u t, St prog C env m σ s → RepV s.heap v X → RepV s.heap u Y → RepV s.heap t Z → Go prog C A env rep (f v u t) m σ s Φ
noncomputable def OpL (prog : Program) (C : Cx) (A : Around) (env : Env) (f : Value) (Xs : List V) (m : Loc) (σ : SH) (Φ : V → SH → Prop) : Prop :=
  ∀ s vs, St prog C env m σ s → RepVs s.heap vs Xs → Go prog C A env RepV (call f vs) m σ s Φ

theorem repI {h : Heap} (i : Int) (t : Tok) : RepV h (.int i t) (.d (.int i)) := Reads.int i t
theorem repS {h : Heap} (i : Str) (t : Tok) : RepV h (.str i t) (.d (.str i)) := Reads.str i t
theorem repB {h : Heap} (b : Bool) : RepV h (.bool b) (.d (.bool b)) := Reads.bool b
theorem repN {h : Heap} : RepV h .none (.d .none) := Reads.none
theorem repR {h : Heap} (v : Value) : RepV h v (.c v) := rfl
-- constants
theorem ev_int {env : Env} {i : Int} {n : Nat} (h : Φ (.d (.int i)) σ) : Ev prog C A env (.Constant (.int i) n pos) m σ Φ :=
  fun s S => wpAny_Constant_int (Go.nowT S (repI i _) h)
theorem ev_str {env : Env} {i : Str} {n : Nat} (h : Φ (.d (.str i)) σ) : Ev prog C A env (.Constant (.str i) n pos) m σ Φ :=
  fun s S => wpAny_Constant_str (Go.nowT S (repS i _) h)
theorem ev_bool {env : Env} {i : Bool} {n : Nat} (h : Φ (.d (.bool i)) σ) : Ev prog C A env (.Constant (.bool i) n pos) m σ Φ :=
  fun s S => wpAny_Constant_bool (Go.now S (repB i) h)
theorem ev_none {env : Env} {n : Nat} (h : Φ (.d .none) σ) : Ev prog C A env (.Constant .none n pos) m σ Φ :=
  fun s S => wpAny_Constant_none (Go.now S repN h)

-- names
theorem ev_glob {v : Value} {X : V} (W : Wd prog K C) (e : nsIn K mainGlobals x = some (some v)) (r : ∀ h, K.In h → RepV h v X) (h : Φ X σ)
    (hk : cs.kind = .function := by rfl) (hx : (envX cn cs L a ccd cl).kindOf x = some .globalImplicit := by rfl) (hd : (x == ("__debug__" : Str)) = false := by decide) :
    Ev prog C A (envX cn cs L a ccd cl) (.Name x pos) m σ Φ := fun s S => by
  obtain ⟨mp, F, H⟩ := S.fr
  obtain ⟨p, lo, mg, mb, T⟩ := W.top
  exact nameX_K F W.kin T e (Go.now S (r _ (W.kin.keeps S.keep)) h) hk hx hd
theorem ev_gbuiltin {v : Value} (W : Wd prog K C) (e : nsIn K mainGlobals x = some none) (hv : bootBuiltins x = some v) (hn : x ≠ "__name__") (h : Φ (.c v) σ)
    (hk : cs.kind = .function := by rfl) (hx : (envX cn cs L a ccd cl).kindOf x = some .globalImplicit := by rfl) (hd : (x == ("__debug__" : Str)) = false := by decide) :
    Ev prog C A (envX cn cs L a ccd cl) (.Name x pos) m σ Φ := fun s S => by
  obtain ⟨mp, F, H⟩ := S.fr
  obtain ⟨p, lo, mg, mb, T⟩ := W.top
  exact nameX_B F W.kin T e hv hn (Go.now S (repR _) h) hk hx hd

-- lists of expressions
theorem evs_nil {env : Env} {Φ : List V → SH → Prop} (h : Φ [] σ) : Evs prog C A env pos [] m σ Φ := fun s S => wpAny_items_nil (Go.now S .nil h)
theorem evs_cons {env : Env} {e : Expr} {es : List Expr} {Φ : List V → SH → Prop} (h : Ev prog C A env e m σ (fun X σ₁ => Evs prog C A env pos es m σ₁ (fun Xs σ₂ => Φ (X :: Xs) σ₂)))
    (he : starEach (e :: es) env = (false, eval e env) :: starEach es env := by rfl) : Evs prog C A env pos (e :: es) m σ Φ := fun s S => by
  refine wpAny_items_cons (Go.bind (h s S) (fun v s₁ X σ₁ r S₁ x p => ?_)) he
  refine Go.bind (p s₁ S₁) (fun vs s₂ Xs σ₂ rs S₂ y q => ?_)
  exact ⟨X :: Xs, σ₂, .cons (r.keepT (S₁.keepT y)) rs, S₂, x.trans y, q⟩

noncomputable def unD : List V → Option (List PyData)
  | [] => some []
  | .d x :: r => (unD r).map (x :: ·)
  | .c _ :: _ => none
theorem unD_spec : ∀ {Xs : List V} {ds : List PyData}, unD Xs = some ds → Xs = ds.map V.d
  | [], ds, e => by cases e; rfl
  | .d x :: r, ds, e => by
    unfold unD at e
    cases q : unD r with
    | none => rw [q] at e; cases e
    | some l => rw [q] at e; cases e; rw [unD_spec q]; rfl
  | .c _ :: _, ds, e => by cases e
noncomputable def TupK (Xs : List V) (σ : SH) (Φ : V → SH → Prop) : Prop := Xs.length ≤ 1000 ∧ ∃ ds, unD Xs = some ds ∧ Φ (.d (.tuple ds)) σ
theorem newTuple_go {env : Env} {vs : List Value} {Xs : List V} (S : St prog C env m σ s) (r : RepVs s.heap vs Xs) (h : TupK Xs σ Φ) : Go prog C A env RepV (newTuple vs) m σ s Φ := by
  obtain ⟨hl, ds, e, h⟩ := h
  have hr := unD_spec e
  subst hr
  refine wpAny_newObj_type (Go.of S (S.push _) (ExtC.push _) ?_ h) ?_
  · refine Reads.tuple (Heap.get?_push_size _ rfl) rfl rfl ?_
    have := (r.keepT (Keeps.t fun b o' e => Heap.get?_push_of_some _ e)).reads (h := s.heap.push { cls := .type "tuple", data := .seq vs.toArray })
    simpa using this
  · show vs.toArray.size ≤ sizeLine
    rw [List.size_toArray, r.length, sizeLine_eq]
    (first | lia | omega)
theorem ev_tuple {env : Env} {es : List Expr} {n : Nat} (h : Evs prog C A env pos es m σ (fun Xs σ₁ => TupK Xs σ₁ Φ)) : Ev prog C A env (.Tuple es n pos) m σ Φ := fun s S =>
  Tuple_ (Go.then S (h s S) fun vs s₁ Xs σ₁ r S₁ _ p => newTuple_go S₁ r p)

noncomputable def ListK (Xs : List V) (σ : SH) (Φ : V → SH → Prop) : Prop := Xs.length ≤ 1000 ∧ ∀ b, σ b = none → Φ (.c (.ref b)) (σ.set b (.list Xs))
theorem St0.freshNone (S : St0 prog C σ s) : σ s.heap.objs.size = none := by
  cases q : σ s.heap.objs.size with
  | none => rfl
  | some so =>
    obtain ⟨o, e, _⟩ := (S.rep _ so q).obj
    rw [get?_size] at e; cases e
theorem newList_go {env : Env} {vs : List Value} {Xs : List V} (W : Wd prog K C) (S : St prog C env m σ s) (r : RepVs s.heap vs Xs) (h : ListK Xs σ Φ) : Go prog C A env RepV (newList vs) m σ s Φ := by
  have kp : Keeps s.heap (s.heap.push { cls := .type "list", data := .seq vs.toArray }) := fun b o' e => Heap.get?_push_of_some _ e
  obtain ⟨T, x⟩ := S.toSt0.add (s' := { s with heap := s.heap.push { cls := .type "list", data := .seq vs.toArray } }) (a := s.heap.objs.size) (so := .list Xs) kp (get?_size _) (S.toSt0.fresh W) (by rw [Heap.size_push]; exact Nat.le_succ _)
    ⟨vs, ⟨0, Heap.get?_push_size _ rfl⟩, r.keepT kp.t⟩ rfl rfl rfl
  refine wpAny_newObj_type (Go.of S T x (repR _) (h.2 _ S.toSt0.freshNone)) ?_
  show vs.toArray.size ≤ sizeLine
  rw [List.size_toArray, r.length, sizeLine_eq]
  have := h.1
  (first | lia | omega)
theorem ev_list {env : Env} {es : List Expr} (W : Wd prog K C) (h : Evs prog C A env pos es m σ (fun Xs σ₁ => ListK Xs σ₁ Φ)) : Ev prog C A env (.List es pos) m σ Φ := fun s S =>
  List_ (Go.then S (h s S) fun vs s₁ Xs σ₁ r S₁ _ p => newList_go W S₁ r p)

theorem ev_dict {env : Env} (so : SObj) (hso : so = .idict [] ∨ so = .sdict [] ∨ so = .tdict []) (W : Wd prog K C) (h : ∀ b, σ b = none → Φ (.c (.ref b)) (σ.set b so)) : Ev prog C A env (.Dict [] [] pos) m σ Φ := fun s S => by
  have kp : Keeps s.heap (s.heap.push { cls := .type "dict", data := .dict #[] }) := fun b o' e => Heap.get?_push_of_some _ e
  have ex : Obj.ExactDict { cls := .type "dict", data := .dict #[] } := ⟨rfl, rfl, rfl⟩
  obtain ⟨T, x⟩ := S.toSt0.add (s' := { s with heap := s.heap.push { cls := .type "dict", data := .dict #[] } }) (a := s.heap.objs.size) (so := so) kp (get?_size _) (S.toSt0.fresh W) (by rw [Heap.size_push]; exact Nat.le_succ _)
    (by
      rcases hso with rfl | rfl | rfl
      · exact ⟨[], ⟨_, #[], 0, Heap.get?_push_size _ rfl, ex, rfl, fun _ he => by simp at he, .nil, List.nodup_nil⟩, rfl, .nil⟩
      · exact ⟨[], ⟨_, #[], 0, Heap.get?_push_size _ rfl, ex, rfl, fun _ he => by simp at he, .nil, List.nodup_nil⟩, rfl, .nil⟩
      · exact ⟨[], Heap.DictOfH.new _, rfl, .nil⟩) rfl rfl rfl
  exact wpAny_Dict_empty (Go.of S T x (repR _) (h _ S.toSt0.freshNone))

-- operators
theorem ev_binop {env : Env} {l r : Expr} {op : Operator} (h : Ev prog C A env l m σ (fun X σ₁ => Ev prog C A env r m σ₁ (fun Y σ₂ => Op2 prog C A env RepV (binaryOp op) X Y m σ₂ Φ))) :
    Ev prog C A env (.BinOp l op r pos) m σ Φ := fun s S =>
  wpAny_BinOp (Go.bind (h s S) (fun v s₁ X σ₁ r S₁ x p => Go.bind (p s₁ S₁) (fun u s₂ Y σ₂ r' S₂ y q =>
    wpAny_mono (q s₂ v u S₂ (r.keepT (S₁.keepT y)) r') (fun _ _ z => GoQ.from (x.trans y) z) fun _ _ e => e)))
theorem ev_compare {env : Env} {l r : Expr} {op : CmpOp} (h : Ev prog C A env l m σ (fun X σ₁ => Ev prog C A env r m σ₁ (fun Y σ₂ => Op2 prog C A env RepV (compareOp op) X Y m σ₂ Φ)))
    (hm : behindInMarks op r = false := by with_unfolding_all rfl) : Ev prog C A env (.Compare l [op] [r] pos) m σ Φ := fun s S =>
  wpAny_Compare1 (Go.bind (h s S) (fun v s₁ X σ₁ r S₁ x p => Go.bind (p s₁ S₁) (fun u s₂ Y σ₂ r' S₂ y q =>
    wpAny_mono (q s₂ v u S₂ (r.keepT (S₁.keepT y)) r') (fun _ _ z => GoQ.from (x.trans y) z) fun _ _ e => e))) hm
/-- truth of a value -/
noncomputable def TruthK (prog : Program) (C : Cx) (A : Around) (env : Env) (m : Loc) (Φ : Bool → SH → Prop) (X : V) (σ : SH) : Prop := Op1 prog C A env RepB truthy X m σ Φ
theorem ts_value {env : Env} {e : Expr} {Φ : Bool → SH → Prop} (h : Ev prog C A env e m σ (TruthK prog C A env m Φ))
    (he : PySem.isTrue e env (eval e env) = (do let v ← eval e env; standAt e.pos; holding [v] (truthy v)) := by rfl) : Ts prog C A env e m σ Φ := fun s S =>
  wpAny_isTrue_value (Go.then S (h s S) fun v s₁ X σ₁ r S₁ _ p => p s₁ v S₁ r) he
theorem ts_compare {env : Env} {l r : Expr} {op : CmpOp} {Φ : Bool → SH → Prop} (h : Ev prog C A env l m σ (fun X σ₁ => Ev prog C A env r m σ₁ (fun Y σ₂ => Op2 prog C A env RepV (compareOp op) X Y m σ₂ (TruthK prog C A env m Φ))))
    (hm : behindInMarks op r = false := by with_unfolding_all rfl) : Ts prog C A env (.Compare l [op] [r] pos) m σ Φ := fun s S =>
  wpAny_isTrue_Compare1 (Go.bind (h s S) (fun v s₁ X σ₁ r S₁ x p => Go.bind (p s₁ S₁) (fun u s₂ Y σ₂ r' S₂ y q =>
    Go.bind (q s₂ v u S₂ (r.keepT (S₁.keepT y)) r') (fun c s₃ Z σ₃ r'' S₃ z t => wpAny_mono (t s₃ c S₃ r'') (fun _ _ z' => GoQ.from ((x.trans y).trans z) z') fun _ _ e => e)))) hm
theorem ts_not {env : Env} {e : Expr} {Φ : Bool → SH → Prop} (h : Ts prog C A env e m σ (fun b σ₁ => Φ (!b) σ₁)) : Ts prog C A env (.UnaryOp .Not e pos) m σ Φ := fun s S =>
  wpAny_isTrue_Not (Go.bind (h s S) (fun b s₁ b' σ₁ r S₁ x p => ⟨_, σ₁, congrArg (!·) r, S₁, x, p⟩))
noncomputable def Al (prog : Program) (C : Cx) (A : Around) (env : Env) (op : BoolOp) (es : List Expr) (m : Loc) (σ : SH) (Φ : Bool → SH → Prop) : Prop := Tr prog C A env RepB (allTrue op es env) m σ Φ
theorem ts_boolop {env : Env} {es : List Expr} {op : BoolOp} {Φ : Bool → SH → Prop} (h : Al prog C A env op es m σ Φ) : Ts prog C A env (.BoolOp op es pos) m σ Φ := fun s S =>
  wpAny_isTrue_BoolOp (h s S)
theorem al_and_nil {env : Env} {Φ : Bool → SH → Prop} (h : Φ true σ) : Al prog C A env .And [] m σ Φ := fun s S => wpAny_allTrue_And_nil (Go.now S rfl h)
theorem al_or_nil {env : Env} {Φ : Bool → SH → Prop} (h : Φ false σ) : Al prog C A env .Or [] m σ Φ := fun s S => wpAny_allTrue_Or_nil (Go.now S rfl h)
theorem al_and_cons {env : Env} {e : Expr} {es : List Expr} {Φ : Bool → SH → Prop} (h : Ts prog C A env e m σ (fun b σ₁ => (b = true → Al prog C A env .And es m σ₁ Φ) ∧ (b = false → Φ false σ₁))) :
    Al prog C A env .And (e :: es) m σ Φ := fun s S =>
  wpAny_allTrue_And_cons (Go.bind (h s S) (fun b s₁ b' σ₁ r S₁ x p => by
    cases r
    cases b with
    | true => exact wpAny_mono (p.1 rfl s₁ S₁) (fun _ _ z => GoQ.from x z) fun _ _ e => e
    | false => exact ⟨_, σ₁, rfl, S₁, x, p.2 rfl⟩))
theorem al_or_cons {env : Env} {e : Expr} {es : List Expr} {Φ : Bool → SH → Prop} (h : Ts prog C A env e m σ (fun b σ₁ => (b = false → Al prog C A env .Or es m σ₁ Φ) ∧ (b = true → Φ true σ₁))) :
    Al prog C A env .Or (e :: es) m σ Φ := fun s S =>
  wpAny_allTrue_Or_cons (Go.bind (h s S) (fun b s₁ b' σ₁ r S₁ x p => by
    cases r
    cases b with
    | false => exact wpAny_mono (p.1 rfl s₁ S₁) (fun _ _ z => GoQ.from x z) fun _ _ e => e
    | true => exact ⟨_, σ₁, rfl, S₁, x, p.2 rfl⟩))
theorem ev_ifexp {env : Env} {t e₁ e₂ : Expr} (h : Ts prog C A env t m σ (fun b σ₁ => (b = true → Ev prog C A env e₁ m σ₁ Φ) ∧ (b = false → Ev prog C A env e₂ m σ₁ Φ))) :
    Ev prog C A env (.IfExp t e₁ e₂ pos) m σ Φ := fun s S =>
  wpAny_IfExp (Go.bind (h s S) (fun b s₁ b' σ₁ r S₁ x p => by
    cases r
    cases b with
    | true => exact wpAny_mono (p.1 rfl s₁ S₁) (fun _ _ z => GoQ.from x z) fun _ _ e => e
    | false => exact wpAny_mono (p.2 rfl s₁ S₁) (fun _ _ z => GoQ.from x z) fun _ _ e => e))
theorem ev_or2 {env : Env} {e₁ e₂ : Expr} (h : Ev prog C A env e₁ m σ (fun X σ₁ => TruthK prog C A env m (fun b σ₂ => (b = false → Ev prog C A env e₂ m σ₂ Φ) ∧ (b = true → Φ X σ₂)) X σ₁)) :
    Ev prog C A env (.BoolOp .Or [e₁, e₂] pos) m σ Φ := fun s S =>
  wpAny_Or2 (Go.bind (h s S) (fun v s₁ X σ₁ r S₁ x p => Go.bind (p s₁ v S₁ r) (fun b s₂ b' σ₂ r' S₂ y q => by
    cases r'
    cases b with
    | false => exact wpAny_mono (q.1 rfl s₂ S₂) (fun _ _ z => GoQ.from (x.trans y) z) fun _ _ e => e
    | true => exact ⟨_, σ₂, r.keepT (S₁.keepT y), S₂, x.trans y, q.2 rfl⟩)))
theorem ev_subscript {env : Env} {e i : Expr} (h : Ev prog C A env e m σ (fun X σ₁ => Ev prog C A env i m σ₁ (fun Y σ₂ => Op2 prog C A env RepV (subscriptTail e i) X Y m σ₂ Φ))) :
    Ev prog C A env (.Subscript e i pos) m σ Φ := fun s S =>
  Subscript_ (Go.bind (h s S) (fun v s₁ X σ₁ r S₁ x p => Go.bind (p s₁ S₁) (fun u s₂ Y σ₂ r' S₂ y q =>
    wpAny_mono (q s₂ v u S₂ (r.keepT (S₁.keepT y)) r') (fun _ _ z => GoQ.from (x.trans y) z) fun _ _ e => e)))
theorem ev_attr {env : Env} {e : Expr} (h : Ev prog C A env e m σ (fun X σ₁ => Op1 prog C A env RepV (fun v => getAttr v x true) X m σ₁ Φ))
    (he : eval (.Attribute e x pos) env = (do
      let o ← eval e env
      standAt pos.atName
      let r ← holding [o] (getAttr o x true)
      letTemporaryGo e o r
      pure r) := by with_unfolding_all rfl) :
    Ev prog C A env (.Attribute e x pos) m σ Φ := fun s S =>
  Attribute_any_ (Go.then S (h s S) fun v s₁ X σ₁ r S₁ _ p => p s₁ v S₁ r) he
end
end Mine
namespace Mine
section
variable {prog : Program} {K : Frag} {C : Cx} {A : Around} {env : Env} {m : Loc} {σ : SH} {s : Shared} {Φ : V → SH → Prop} {k : Nat}

theorem RepV.int {h : Heap} {v : Value} {i : Int} (r : RepV h v (.d (.int i))) : ∃ t, v = .int i t := by cases r; exact ⟨_, rfl⟩
theorem RepV.str {h : Heap} {v : Value} {i : Str} (r : RepV h v (.d (.str i))) : ∃ t, v = .str i t := by cases r; exact ⟨_, rfl⟩
theorem RepV.bool {h : Heap} {v : Value} {i : Bool} (r : RepV h v (.d (.bool i))) : v = .bool i := by cases r; rfl
theorem RepV.none {h : Heap} {v : Value} (r : RepV h v (.d .none)) : v = .none := by cases r; rfl
theorem RepV.tup {h : Heap} {v : Value} {ds : List PyData} (r : RepV h v (.d (.tuple ds))) : ∃ a vs, v = .ref a ∧ IsTup h a vs ∧ RepVs h vs.toList (ds.map V.d) := by
  cases r with
  | tuple h1 h2 h3 h4 => exact ⟨_, _, rfl, ⟨_, h1, h2, _, h3⟩, RepVs.ofReads h4 rfl⟩
theorem RepV.ref {h : Heap} {v u : Value} (r : RepV h v (.c u)) : v = u := r

-- ints
theorem op_add {a b : Int} (h : Φ (.d (.int (a + b))) σ) : Op2 prog C A env RepV (binaryOp .Add) (.d (.int a)) (.d (.int b)) m σ Φ := fun s v u S r q => by
  obtain ⟨t, rfl⟩ := r.int; obtain ⟨t', rfl⟩ := q.int
  exact add_int (Go.nowT S (repI _ _) h)
theorem op_sub {a b : Int} (h : Φ (.d (.int (a - b))) σ) : Op2 prog C A env RepV (binaryOp .Sub) (.d (.int a)) (.d (.int b)) m σ Φ := fun s v u S r q => by
  obtain ⟨t, rfl⟩ := r.int; obtain ⟨t', rfl⟩ := q.int
  exact sub_int (Go.nowT S (repI _ _) h)
theorem op_mod {a b : Int} (hb : b ≠ 0) (h : Φ (.d (.int (a.fmod b))) σ) : Op2 prog C A env RepV (binaryOp .Mod) (.d (.int a)) (.d (.int b)) m σ Φ := fun s v u S r q => by
  obtain ⟨t, rfl⟩ := r.int; obtain ⟨t', rfl⟩ := q.int
  exact mod_int' hb (Go.nowT S (repI _ _) h)
theorem op_iadd {a b : Int} (h : Φ (.d (.int (a + b))) σ) : Op2 prog C A env RepV (inplaceOp .Add) (.d (.int a)) (.d (.int b)) m σ Φ := fun s v u S r q => by
  obtain ⟨t, rfl⟩ := r.int; obtain ⟨t', rfl⟩ := q.int
  exact wpAny_iadd_int (Go.nowT S (repI _ _) h)
theorem op_isub {a b : Int} (h : Φ (.d (.int (a - b))) σ) : Op2 prog C A env RepV (inplaceOp .Sub) (.d (.int a)) (.d (.int b)) m σ Φ := fun s v u S r q => by
  obtain ⟨t, rfl⟩ := r.int; obtain ⟨t', rfl⟩ := q.int
  exact isub_int (Go.nowT S (repI _ _) h)
theorem op_lt {a b : Int} (h : Φ (.d (.bool (decide (a < b)))) σ) : Op2 prog C A env RepV (compareOp .Lt) (.d (.int a)) (.d (.int b)) m σ Φ := fun s v u S r q => by
  obtain ⟨t, rfl⟩ := r.int; obtain ⟨t', rfl⟩ := q.int
  exact lt_int (Go.now S (repB _) h)
theorem op_gt {a b : Int} (h : Φ (.d (.bool (decide (b < a)))) σ) : Op2 prog C A env RepV (compareOp .Gt) (.d (.int a)) (.d (.int b)) m σ Φ := fun s v u S r q => by
  obtain ⟨t, rfl⟩ := r.int; obtain ⟨t', rfl⟩ := q.int
  exact gt_int (Go.now S (repB _) h)
theorem op_le {a b : Int} (h : Φ (.d (.bool (decide (a ≤ b)))) σ) : Op2 prog C A env RepV (compareOp .LtE) (.d (.int a)) (.d (.int b)) m σ Φ := fun s v u S r q => by
  obtain ⟨t, rfl⟩ := r.int; obtain ⟨t', rfl⟩ := q.int
  exact le_int (Go.now S (repB _) h)
theorem op_ge {a b : Int} (h : Φ (.d (.bool (decide (b ≤ a)))) σ) : Op2 prog C A env RepV (compareOp .GtE) (.d (.int a)) (.d (.int b)) m σ Φ := fun s v u S r q => by
  obtain ⟨t, rfl⟩ := r.int; obtain ⟨t', rfl⟩ := q.int
  exact ge_int (Go.now S (repB _) h)

-- equality of data
theorem op_eq {x y : PyData} (hR : Room A k) (hx : SeqAt.shaped x = true) (hy : SeqAt.shaped y = true) (h : Φ (.d (.bool (x.eqv y))) σ) : Op2 prog C A env RepV (compareOp .Eq) (.d x) (.d y) m σ Φ := fun s v u S r q =>
  SeqAt.compareEq_shaped (show Reads _ _ _ _ from r) (show Reads _ _ _ _ from q) hx hy hR.hu (Go.now S (repB _) h)
theorem op_ne {x y : PyData} (hR : Room A k) (hx : SeqAt.shaped x = true) (hy : SeqAt.shaped y = true) (h : Φ (.d (.bool (!x.eqv y))) σ) : Op2 prog C A env RepV (compareOp .NotEq) (.d x) (.d y) m σ Φ := fun s v u S r q =>
  SeqAt.compareNe_shaped (show Reads _ _ _ _ from r) (show Reads _ _ _ _ from q) hx hy hR.hu (Go.now S (repB _) h)
theorem St0.list {a : Addr} {xs : List V} (S : St0 prog C σ s) (e : σ a = some (.list xs)) : ∃ vs n, s.heap.get? a = some (listOf vs.toArray n) ∧ RepVs s.heap vs xs := by
  obtain ⟨vs, ⟨n, p⟩, q⟩ := S.rep a _ e
  exact ⟨vs, n, p, q⟩
theorem St0.readsList {a : Addr} {ds : List PyData} (S : St0 prog C σ s) (e : σ a = some (.list (ds.map V.d))) : Reads s.heap (.ref a) (.list ds) [a] := by
  obtain ⟨vs, n, p, q⟩ := S.list e
  exact reads_list_at p rfl rfl (by simpa using q.reads)
theorem op_neL {a b : Addr} {xs ys : List PyData} (hR : Room A k) (ea : σ a = some (.list (xs.map V.d))) (eb : σ b = some (.list (ys.map V.d))) (hx : SeqAt.shaped (.list xs) = true) (hy : SeqAt.shaped (.list ys) = true)
    (h : Φ (.d (.bool (!PyData.eqvAll xs ys))) σ) : Op2 prog C A env RepV (compareOp .NotEq) (.c (.ref a)) (.c (.ref b)) m σ Φ := fun s v u S r q => by
  cases r.ref; cases q.ref
  exact SeqAt.compareNe_shaped (S.toSt0.readsList ea) (S.toSt0.readsList eb) hx hy hR.hu (Go.now S (repB _) h)
-- membership in a list
theorem op_inL {a : Addr} {xs : List PyData} {x : PyData} (hR : Room A k) (ea : σ a = some (.list (xs.map V.d))) (hx : PyData.canLayAll0 xs = true) (hy : x.canLay0 = true) (hd : x.depth ≤ 64)
    (h : Φ (.d (.bool (xs.any fun y => y.eqv x))) σ) : Op2 prog C A env RepV (compareOp .In) (.d x) (.c (.ref a)) m σ Φ := fun s v u S r q => by
  cases q.ref
  refine SeqAt.in_list_reads (S.toSt0.readsList ea) (show Reads _ _ _ _ from r) hx hy ?_ (Go.now S (repB _) h)
  have := hR.2.2
  have := Nat.min_le_right (PyData.depthAll xs) x.depth
  (first | lia | omega)

-- is
-- truth
theorem truth_bool {b : Bool} {Φ : Bool → SH → Prop} (h : Φ b σ) : TruthK prog C A env m Φ (.d (.bool b)) σ := fun s v S r => by
  cases r.bool; exact wpAny_truthy_bool (Go.now S rfl h)

-- items
theorem op_tupIdx {ds : List PyData} {i : Int} {x : PyData} {e sl : Expr} (h0 : 0 ≤ i) (h1 : i < 2 ^ 63) (hx : ds[i.toNat]? = some x) (h : Φ (.d x) σ)
    (hs : ∀ a u, subscripted sl false (.ref a) (.int i u) = operate [.ref a, .int i u] (getItem (.ref a) (.int i u)) := by intro _ _; with_unfolding_all rfl) :
    Op2 prog C A env RepV (subscriptTail e sl) (.d (.tuple ds)) (.d (.int i)) m σ Φ := fun s v u S r q => by
  obtain ⟨a, vs, rfl, ht, rs⟩ := r.tup
  obtain ⟨t, rfl⟩ := q.int
  obtain ⟨w, e1, e2⟩ := rs.get (k := i.toNat) (x := .d x) (by rw [List.getElem?_map, hx]; rfl)
  have hlt : i.toNat < vs.toList.length := by
    rcases Nat.lt_or_ge i.toNat vs.toList.length with y | y
    · exact y
    · rw [List.getElem?_eq_none y] at e1; cases e1
  refine tail_any ht.typeIs slot_tuple_getitem.lookup (getItem_tuple ht (by (first | lia | omega)) h1 (j := i.toNat) ?_ (by simpa using e1) (Go.now S e2 h)) (hs _ _)
  unfold seqIndex?
  have : ¬ i < 0 := by (first | lia | omega)
  have h2 : i < (vs.size : Int) := by rw [Array.length_toList] at hlt; (first | lia | omega)
  simp [this, h0, h2]
theorem op_listIdx {a : Addr} {xs : List V} {i : Int} {X : V} {e sl : Expr} (ea : σ a = some (.list xs)) (h0 : 0 ≤ i) (h1 : i < 2 ^ 63) (hx : xs[i.toNat]? = some X) (h : Φ X σ)
    (hs : ∀ a u, subscripted sl false (.ref a) (.int i u) = operate [.ref a, .int i u] (getItem (.ref a) (.int i u)) := by intro _ _; with_unfolding_all rfl) :
    Op2 prog C A env RepV (subscriptTail e sl) (.c (.ref a)) (.d (.int i)) m σ Φ := fun s v u S r q => by
  cases r.ref
  obtain ⟨t, rfl⟩ := q.int
  obtain ⟨vs, n, p, rs⟩ := S.toSt0.list ea
  obtain ⟨w, e1, e2⟩ := rs.get hx
  have hl : s.heap.IsList a vs.toArray := ⟨_, p, rfl, n, rfl⟩
  exact tail_any hl.typeIs slot_list_getitem.lookup (wpAny_getItem_list hl h0 h1 (by simpa using e1) (Go.now S e2 h)) (hs _ _)
theorem op_listLast {a : Addr} {xs : List V} {X : V} {e sl : Expr} (ea : σ a = some (.list (xs ++ [X]))) (h : Φ X σ)
    (hs : ∀ a u, subscripted sl false (.ref a) (.int (-1) u) = operate [.ref a, .int (-1) u] (getItem (.ref a) (.int (-1) u)) := by intro _ _; with_unfolding_all rfl) :
    Op2 prog C A env RepV (subscriptTail e sl) (.c (.ref a)) (.d (.int (-1))) m σ Φ := fun s v u S r q => by
  cases r.ref
  obtain ⟨t, rfl⟩ := q.int
  obtain ⟨vs, n, p, rs⟩ := S.toSt0.list ea
  have hl : s.heap.IsList a vs.toArray := ⟨_, p, rfl, n, rfl⟩
  have hlen := rs.length
  rw [List.length_append, List.length_singleton] at hlen
  obtain ⟨w, e1, e2⟩ := rs.get (k := xs.length) (x := X) (by simp)
  refine tail_any hl.typeIs slot_list_getitem.lookup (wpAny_getItem_list_neg hl (by decide) ?_ (by decide) (x := w) ?_ (Go.now S e2 h)) (hs _ _)
  · rw [List.size_toArray, hlen]; (first | lia | omega)
  · rw [List.size_toArray, hlen, List.getElem?_toArray]
    rw [show (-1 + ((xs.length + 1 : Nat) : Int)).toNat = xs.length by (first | lia | omega)]
    exact e1

-- lists changed
theorem St0.setList {a : Addr} {xs ys : List V} {ws : List Value} {n : Nat} {h' : Heap} (S : St0 prog C σ s) (ea : σ a = some (.list xs)) (hs : Heap.SameBut a s.heap h')
    (e' : h'.get? a = some (listOf ws.toArray n)) (r : RepVs s.heap ws ys) (tk : Nat) :
    St0 prog C (σ.set a (.list ys)) { s with heap := h', toks := tk } ∧ ExtC σ s.heap (σ.set a (.list ys)) h' := by
  have kt : KeepT s.heap h' := fun b o e hc _ => by
    rw [hs.2 b (fun q => ?_)]; exact e
    subst q
    obtain ⟨vs, n, p, _⟩ := S.list ea
    rw [p] at e; cases e; simp at hc
  exact S.upd (s' := { s with heap := h', toks := tk }) ea hs ⟨ws, ⟨n, e'⟩, r.keepT kt⟩ rfl rfl rfl
theorem op_append {a : Addr} {xs : List V} {X : V} (ea : σ a = some (.list xs)) (hn : xs.length ≤ 1000) (h : Φ (.d .none) (σ.set a (.list (xs ++ [X])))) :
    OpL prog C A env (.builtin "list.append") [.c (.ref a), X] m σ Φ := fun s vs S r => by
  cases r with
  | cons r1 r' =>
    cases r' with
    | cons r2 r'' =>
      cases r''
      cases r1.ref
      rename_i v
      obtain ⟨vs, n, p, rs⟩ := S.toSt0.list ea
      have hsz : vs.toArray.size ≤ sizeLine := by rw [List.size_toArray, rs.length, sizeLine_eq]; (first | lia | omega)
      refine wpAny_list_append_plain (items := vs.toArray) ⟨n, p⟩ (fun h' hl hs => ?_) hsz
      obtain ⟨n', e'⟩ := hl
      obtain ⟨T, x⟩ := S.toSt0.setList (ws := vs ++ [v]) (n := n') ea hs (by rw [e']; simp) (rs.append (.cons r2 .nil)) s.toks
      exact Go.of S T x repN h
theorem getMethod_list {a : Addr} {xs : List V} {name : Str} {id : String} {pl : Sem Bool} {Q : Value × List Value → Shared → Prop} {E : Value → Shared → Prop} (S : St0 prog C σ s) (ea : σ a = some (.list xs))
    (slot : Slot "list" name id) (ty : typeOf (.builtin id) = pure (.type "method_descriptor")) (h : Q (.builtin id, [.ref a]) s) : wpAny (model prog C.w) A (getMethod (.ref a) name pl) Q E s := by
  obtain ⟨vs, n, p, rs⟩ := S.list ea
  refine getMethod_list_of slot ty (items := vs.toArray) ⟨_, p, rfl, n, rfl⟩ ?_ h
  exact ⟨_, p, rfl⟩
end
end Mine
namespace Mine
section
variable {prog : Program} {K : Frag} {C : Cx} {A : Around} {env : Env} {m : Loc} {σ : SH} {s : Shared} {Φ : V → SH → Prop} {k : Nat}

theorem RepVs.splitLast {h : Heap} : ∀ {vs : List Value} {xs : List V} {X : V}, RepVs h vs (xs ++ [X]) → ∃ us v, vs = us ++ [v] ∧ RepVs h us xs ∧ RepV h v X
  | [], xs, X, r => by cases xs <;> cases r
  | v :: vs, [], X, .cons a b => by cases b; exact ⟨[], v, rfl, .nil, a⟩
  | v :: vs, x :: xs, X, .cons a b => by
    obtain ⟨us, u, rfl, p, q⟩ := RepVs.splitLast b
    exact ⟨v :: us, u, rfl, .cons a p, q⟩
theorem erase_last (us : List Value) (v : Value) : ((us ++ [v]).toArray.eraseIdxIfInBounds ((us ++ [v]).toArray.size - 1)) = us.toArray := by
  apply Array.toList_inj.mp
  rw [Array.toList_eraseIdxIfInBounds]
  have := kl_eraseL us [] v
  simpa using this
theorem erase_first (us : List Value) (v : Value) : ((v :: us).toArray.eraseIdxIfInBounds 0) = us.toArray := by
  apply Array.toList_inj.mp
  rw [Array.toList_eraseIdxIfInBounds]
  simp
theorem update_list {h : Heap} {a : Addr} {vs ws : List Value} {n : Nat} {f : Array Value → Array Value} (p : h.get? a = some (listOf vs.toArray n)) (e : f vs.toArray = ws.toArray) :
    ∃ n', (h.update a (Obj.mapSeq f)).get? a = some (listOf ws.toArray n') := by
  refine ⟨if ws.toArray.size == vs.toArray.size then n else n + 1, ?_⟩
  rw [Heap.get?_update_self _ p (by unfold Obj.mapSeq; rfl)]
  show some (Obj.mapSeq f ⟨.type "list", none, .seq vs.toArray n, #[]⟩) = _
  unfold Obj.mapSeq
  dsimp only
  rw [e]

theorem op_pop {a : Addr} {xs : List V} {X : V} (ea : σ a = some (.list (xs ++ [X]))) (hn : xs.length ≤ 1000) (h : Φ X (σ.set a (.list xs))) :
    OpL prog C A env (.builtin "list.pop") [.c (.ref a)] m σ Φ := fun s vs S r => by
  cases r with
  | cons r1 r' =>
    cases r'
    cases r1.ref
    obtain ⟨vs, n, p, rs⟩ := S.toSt0.list ea
    obtain ⟨us, v, rfl, r2, r3⟩ := rs.splitLast
    have hsz : (us ++ [v]).toArray.size ≤ sizeLine := by rw [List.size_toArray, List.length_append, r2.length, sizeLine_eq]; simp; (first | lia | omega)
    have hk : (us ++ [v]).toArray.size - 1 = us.length := by rw [List.size_toArray, List.length_append]; rfl
    have hy : (us ++ [v]).toArray[(us ++ [v]).toArray.size - 1]? = some v := by rw [hk]; simp
    refine call_meets PySem.F.slot_list_pop ⟨_, p, rfl⟩ PySem.F.entry_list_pop (PySem.F.args_list_pop_1 _) (PySem.MeetsSeq.list_pop_last a _ n v hy hsz) ⟨p, ?_⟩
    obtain ⟨n', e'⟩ := update_list (f := fun xs => xs.eraseIdxIfInBounds ((us ++ [v]).toArray.size - 1)) p (erase_last us v)
    obtain ⟨T, x⟩ := S.toSt0.setList ea (Heap.SameBut.update s.heap a (Obj.mapSeq fun xs => xs.eraseIdxIfInBounds ((us ++ [v]).toArray.size - 1))) e' r2 s.toks
    exact Go.of S T x (r3.keepT (S.toSt0.keepT x)) h
theorem op_pop0 {a : Addr} {xs : List V} {X : V} (ea : σ a = some (.list (X :: xs))) (hn : xs.length ≤ 1000) (h : Φ X (σ.set a (.list xs))) :
    OpL prog C A env (.builtin "list.pop") [.c (.ref a), .d (.int 0)] m σ Φ := fun s vs S r => by
  cases r with
  | cons r1 r' =>
    cases r' with
    | cons r2 r'' =>
    cases r''
    cases r1.ref
    obtain ⟨t, rfl⟩ := r2.int
    obtain ⟨vs, n, p, rs⟩ := S.toSt0.list ea
    cases rs with
    | @cons v _ us _ r3 r4 =>
    have hsz : (v :: us).toArray.size ≤ sizeLine := by rw [List.size_toArray, List.length_cons, r4.length, sizeLine_eq]; (first | lia | omega)
    refine call_meets PySem.F.slot_list_pop ⟨_, p, rfl⟩ PySem.F.entry_list_pop (PySem.F.args_list_pop_2 _ _) (PySem.MeetsSeq.list_pop_at a _ n 0 t 0 v (by decide) ?_ (by simp) hsz) ⟨p, ?_⟩
    · unfold seqIndex?
      simp
    obtain ⟨n', e'⟩ := update_list (f := fun xs => xs.eraseIdxIfInBounds 0) p (erase_first us v)
    obtain ⟨T, x⟩ := S.toSt0.setList ea (Heap.SameBut.update s.heap a (Obj.mapSeq fun xs => xs.eraseIdxIfInBounds 0)) e' r4 s.toks
    exact Go.of S T x (r3.keepT (S.toSt0.keepT x)) h

abbrev Un (prog : Program) (C : Cx) (A : Around) (env : Env) (t : Sem Unit) (m : Loc) (σ : SH) (s : Shared) (Φ : SH → Prop) : Prop := Go prog C A env RepU t m σ s (fun _ σ' => Φ σ')
noncomputable def OpSet (prog : Program) (C : Cx) (A : Around) (env : Env) (X Y Z : V) (m : Loc) (σ : SH) (Φ : SH → Prop) : Prop :=
  ∀ s v u t, St prog C env m σ s → RepV s.heap v X → RepV s.heap u Y → RepV s.heap t Z → Un prog C A env (setItem v u t) m σ s Φ
theorem set_list {a : Addr} {xs : List V} {i : Int} {X : V} {Φ : SH → Prop} (ea : σ a = some (.list xs)) (h0 : 0 ≤ i) (h1 : i < 2 ^ 63) (h2 : i < xs.length) (h : Φ (σ.set a (.list (xs.set i.toNat X)))) :
    OpSet prog C A env (.c (.ref a)) (.d (.int i)) X m σ Φ := fun s v u t S r q z => by
  cases r.ref
  obtain ⟨tk, rfl⟩ := q.int
  obtain ⟨vs, n, p, rs⟩ := S.toSt0.list ea
  refine ki_setAt p h0 h1 (by rw [List.size_toArray, rs.length]; exact h2) ?_
  obtain ⟨n', e'⟩ := update_list (f := fun xs => xs.setIfInBounds i.toNat t) (ws := vs.set i.toNat t) p (by simp)
  obtain ⟨T, x⟩ := S.toSt0.setList ea (Heap.SameBut.update s.heap a (Obj.mapSeq fun xs => xs.setIfInBounds i.toNat t)) e' (rs.set z) s.toks
  exact Go.of (b := ()) S T x trivial h

-- dicts by ints
theorem St0.idict {a : Addr} {kvs : List (Int × V)} (S : St0 prog C σ s) (e : σ a = some (.idict kvs)) :
    ∃ ws, s.heap.DictOf (PySem.intKind prog C.w) a ws ∧ ws.map (·.1) = kvs.map (·.1) ∧ RepVs s.heap (ws.map (·.2)) (kvs.map (·.2)) := S.rep a _ e
noncomputable def vat {κ : Type} [DecidableEq κ] (kvs : List (κ × V)) (k : κ) : Option V := (kvs.find? fun kv => kv.1 = k).map (·.2)
noncomputable def vput {κ : Type} [DecidableEq κ] (kvs : List (κ × V)) (k : κ) (v : V) : List (κ × V) :=
  if kvs.any (fun kv => kv.1 = k) then kvs.map (fun kv => if kv.1 = k then (kv.1, v) else kv) else kvs ++ [(k, v)]
theorem valueAt_rep {κ : Type} [DecidableEq κ] {h : Heap} {k : κ} : ∀ {ws : List (κ × Value)} {kvs : List (κ × V)}, ws.map (·.1) = kvs.map (·.1) → RepVs h (ws.map (·.2)) (kvs.map (·.2)) →
    (vat kvs k = none → valueAt ws k = none) ∧ ∀ X, vat kvs k = some X → ∃ v, valueAt ws k = some v ∧ RepV h v X
  | [], [], _, _ => ⟨fun _ => rfl, fun X e => by cases e⟩
  | [], _ :: _, e, _ => by cases e
  | _ :: _, [], e, _ => by cases e
  | (a, v) :: ws, (b, X) :: kvs, e, .cons r1 r2 => by
    obtain ⟨e1, e2⟩ := List.cons.inj e
    dsimp only at e1
    subst e1
    have ih := valueAt_rep (k := k) e2 r2
    unfold vat valueAt at ih ⊢
    by_cases q : a = k
    · rw [List.find?_cons_of_pos (by simpa using q), List.find?_cons_of_pos (by simpa using q)]
      exact ⟨fun e => by (simp at e), fun Y e => by (simp at e; subst e; exact ⟨v, rfl, r1⟩)⟩
    · rw [List.find?_cons_of_neg (by simpa using q), List.find?_cons_of_neg (by simpa using q)]
      exact ih
theorem stored_rep {κ : Type} [DecidableEq κ] {h : Heap} {k : κ} {u : Value} {Y : V} (q : RepV h u Y) {ws : List (κ × Value)} {kvs : List (κ × V)} (e : ws.map (·.1) = kvs.map (·.1)) (r : RepVs h (ws.map (·.2)) (kvs.map (·.2))) :
    (stored ws k u).map (·.1) = (vput kvs k Y).map (·.1) ∧ RepVs h ((stored ws k u).map (·.2)) ((vput kvs k Y).map (·.2)) := by
  have hany : ∀ {ws : List (κ × Value)} {kvs : List (κ × V)}, ws.map (·.1) = kvs.map (·.1) → (ws.any fun kv => kv.1 = k) = (kvs.any fun kv => kv.1 = k) := by
    intro ws kvs e
    have := congrArg (fun l : List κ => l.any fun x => decide (x = k)) e
    simpa [List.any_map, Function.comp_def] using this
  unfold stored vput
  rw [hany e]
  by_cases c : (kvs.any fun kv => kv.1 = k) = true
  · rw [if_pos c, if_pos c]
    clear c hany
    induction ws generalizing kvs with
    | nil =>
      cases kvs with
      | nil => exact ⟨rfl, .nil⟩
      | cons _ _ => cases e
    | cons w ws ih =>
      cases kvs with
      | nil => cases e
      | cons kv kvs =>
        obtain ⟨e1, e2⟩ := List.cons.inj e
        cases r with
        | cons r1 r2 =>
          obtain ⟨i1, i2⟩ := ih e2 r2
          dsimp only at e1 r1
          simp only [List.map_cons, e1]
          by_cases c : kv.1 = k
          · rw [if_pos c, if_pos c]
            exact ⟨by rw [i1], .cons q i2⟩
          · rw [if_neg c, if_neg c]
            exact ⟨by rw [i1, e1], .cons r1 i2⟩
  · rw [if_neg c, if_neg c, List.map_append, List.map_append, List.map_append, List.map_append, e]
    exact ⟨rfl, r.append (.cons q .nil)⟩

theorem op_in_idict {a : Addr} {kvs : List (Int × V)} {i : Int} (ea : σ a = some (.idict kvs)) (h : Φ (.d (.bool (vat kvs i).isSome)) σ) :
    Op2 prog C A env RepV (compareOp .In) (.d (.int i)) (.c (.ref a)) m σ Φ := fun s v u S r q => by
  cases q.ref
  obtain ⟨t, rfl⟩ := r.int
  obtain ⟨ws, d, e1, e2⟩ := S.toSt0.idict ea
  refine wpAny_in_of (intKind_is prog C.w i t) (S.new a _ ea).2 d.mapOf ?_
  have e : (valueAt ws i).isSome = (vat kvs i).isSome := by
    obtain ⟨p1, p2⟩ := valueAt_rep (k := i) e1 e2
    cases c : vat kvs i with
    | none => rw [p1 c]; rfl
    | some X => obtain ⟨v, c', _⟩ := p2 X c; rw [c']; rfl
  rw [e]
  exact Go.nowT S (repB _) h
theorem op_notin_idict {a : Addr} {kvs : List (Int × V)} {i : Int} (ea : σ a = some (.idict kvs)) (h : Φ (.d (.bool (!(vat kvs i).isSome))) σ) :
    Op2 prog C A env RepV (compareOp .NotIn) (.d (.int i)) (.c (.ref a)) m σ Φ := fun s v u S r q => by
  cases q.ref
  obtain ⟨t, rfl⟩ := r.int
  obtain ⟨ws, d, e1, e2⟩ := S.toSt0.idict ea
  refine wpAny_notIn_of (intKind_is prog C.w i t) (S.new a _ ea).2 d.mapOf ?_
  have e : (valueAt ws i).isSome = (vat kvs i).isSome := by
    obtain ⟨p1, p2⟩ := valueAt_rep (k := i) e1 e2
    cases c : vat kvs i with
    | none => rw [p1 c]; rfl
    | some X => obtain ⟨v, c', _⟩ := p2 X c; rw [c']; rfl
  rw [e]
  exact Go.nowT S (repB _) h
theorem op_idictIdx {a : Addr} {kvs : List (Int × V)} {i : Int} {X : V} {e sl : Expr} (ea : σ a = some (.idict kvs)) (hx : vat kvs i = some X) (h : Φ X σ)
    (hs : ∀ a u, subscripted sl false (.ref a) (.int i u) = operate [.ref a, .int i u] (getItem (.ref a) (.int i u)) := by intro _ _; with_unfolding_all rfl) :
    Op2 prog C A env RepV (subscriptTail e sl) (.c (.ref a)) (.d (.int i)) m σ Φ := fun s v u S r q => by
  cases r.ref
  obtain ⟨t, rfl⟩ := q.int
  obtain ⟨ws, d, e1, e2⟩ := S.toSt0.idict ea
  obtain ⟨v, c, rv⟩ := (valueAt_rep (k := i) e1 e2).2 X hx
  exact tail_any d.typeIs slot_dict_getitem.lookup (wpAny_getItem_of (intKind_is prog C.w i t) d.mapOf c (Go.nowT S rv h)) (hs _ _)
theorem St0.noT {a : Addr} {so : SObj} {h' : Heap} (S : St0 prog C σ s) (ea : σ a = some so) (hs : Heap.SameBut a s.heap h') : KeepT s.heap h' := fun b o e hc _ => by
  rw [hs.2 b (fun q => ?_)]; exact e
  subst q
  obtain ⟨o', e', c, _⟩ := (S.rep b so ea).obj
  rw [e] at e'; cases e'; exact absurd hc c
theorem set_idict {a : Addr} {kvs : List (Int × V)} {i : Int} {X : V} {Φ : SH → Prop} (ea : σ a = some (.idict kvs)) (hn : kvs.length ≤ 1000) (h : Φ (σ.set a (.idict (vput kvs i X)))) :
    OpSet prog C A env (.c (.ref a)) (.d (.int i)) X m σ Φ := fun s v u t S r q z => by
  cases r.ref
  obtain ⟨tk, rfl⟩ := q.int
  obtain ⟨ws, d, e1, e2⟩ := S.toSt0.idict ea
  have hl : ws.length = kvs.length := by simpa using congrArg List.length e1
  refine wpAny_setItem_pairs (intKind_is prog C.w i tk) d (fun h' d' hs => ?_) (by rw [hl, sizeLine_eq]; (first | lia | omega))
  have kt := S.toSt0.noT ea hs
  obtain ⟨p1, p2⟩ := stored_rep (k := i) (z.keepT kt) e1 (e2.keepT kt)
  obtain ⟨T, x⟩ := S.toSt0.upd (s' := { s with heap := h', toks := s.toks + 1 }) (so' := .idict (vput kvs i X)) ea hs ⟨_, d', p1, p2⟩ rfl rfl rfl
  exact Go.of (b := ()) S T x trivial h
end
end Mine
namespace Mine
section
variable {prog : Program} {K : Frag} {C : Cx} {A : Around} {env : Env} {m : Loc} {σ : SH} {s : Shared} {Φ : V → SH → Prop} {k : Nat}

-- dicts by texts
theorem St0.sdict {a : Addr} {kvs : List (Str × V)} (S : St0 prog C σ s) (e : σ a = some (.sdict kvs)) :
    ∃ ws, s.heap.DictOf (PySem.strKind prog C.w) a ws ∧ ws.map (·.1) = kvs.map (·.1) ∧ RepVs s.heap (ws.map (·.2)) (kvs.map (·.2)) := S.rep a _ e
theorem getMethod_dictlike {a : Addr} {o : Obj} {name : Str} {id : String} {pl : Sem Bool} {Q : Value × List Value → Shared → Prop} {E : Value → Shared → Prop} (e : s.heap.get? a = some o) (x : o.ExactDict)
    (slot : Slot "dict" name id) (ty : typeOf (.builtin id) = pure (.type "method_descriptor")) (h : Q (.builtin id, [.ref a]) s) : wpAny (model prog C.w) A (getMethod (.ref a) name pl) Q E s :=
  getMethod_builtin ⟨o, e, x.1⟩ PySem.F.plainAttrs_dict slot ty (fun b q => by cases q; exact ⟨o, e, x.2.1⟩) h
theorem op_get_sdict {a : Addr} {kvs : List (Str × V)} {i : Str} {X : V} (ea : σ a = some (.sdict kvs)) (h : Φ ((vat kvs i).getD X) σ) :
    OpL prog C A env (.builtin "dict.get") [.c (.ref a), .d (.str i), X] m σ Φ := fun s vs S r => by
  cases r with
  | cons r1 r' =>
  cases r' with
  | cons r2 r'' =>
  cases r'' with
  | cons r3 r4 =>
  cases r4
  cases r1.ref
  obtain ⟨t, rfl⟩ := r2.str
  obtain ⟨ws, d, e1, e2⟩ := S.toSt0.sdict ea
  refine call_meetsIn PySem.F.slot_dict_get d.typeIs PySem.F.entry_dict_get (PySem.F.args_dict_get_3 _ _ _) (meets_dict_get_default (PySem.strKind prog C.w) a (strKind_is prog C.w i t) (S.new a _ ea).2 _) ⟨_, d.mapOf, ?_⟩
  obtain ⟨p1, p2⟩ := valueAt_rep (k := i) e1 e2
  cases c : vat kvs i with
  | none => rw [p1 c]; rw [c] at h; exact Go.nowT S r3 h
  | some Y => obtain ⟨v, c', r⟩ := p2 Y c; rw [c']; rw [c] at h; exact Go.nowT S r h
theorem set_sdict {a : Addr} {kvs : List (Str × V)} {i : Str} {X : V} {Φ : SH → Prop} (ea : σ a = some (.sdict kvs)) (hn : kvs.length ≤ 1000) (h : Φ (σ.set a (.sdict (vput kvs i X)))) :
    OpSet prog C A env (.c (.ref a)) (.d (.str i)) X m σ Φ := fun s v u t S r q z => by
  cases r.ref
  obtain ⟨tk, rfl⟩ := q.str
  obtain ⟨ws, d, e1, e2⟩ := S.toSt0.sdict ea
  have hl : ws.length = kvs.length := by simpa using congrArg List.length e1
  refine wpAny_setItem_pairs (strKind_is prog C.w i tk) d (fun h' d' hs => ?_) (by rw [hl, sizeLine_eq]; (first | lia | omega))
  have kt := S.toSt0.noT ea hs
  obtain ⟨p1, p2⟩ := stored_rep (k := i) (z.keepT kt) e1 (e2.keepT kt)
  obtain ⟨T, x⟩ := S.toSt0.upd (s' := { s with heap := h', toks := s.toks + 1 }) (so' := .sdict (vput kvs i X)) ea hs ⟨_, d', p1, p2⟩ rfl rfl rfl
  exact Go.of (b := ()) S T x trivial h

-- dicts by tuples of ints
theorem St0.tdict {a : Addr} {kvs : List (List Int × V)} (S : St0 prog C σ s) (e : σ a = some (.tdict kvs)) :
    ∃ ws, s.heap.DictOfH (tupleKind (PySem.intKind prog C.w)) a ws ∧ (kvsOf ws).map (·.1) = kvs.map (·.1) ∧ RepVs s.heap ((kvsOf ws).map (·.2)) (kvs.map (·.2)) := by
  obtain ⟨ws, d, e1, e2⟩ := S.rep a _ e
  refine ⟨ws, d, ?_, ?_⟩
  · rw [← e1]; unfold kvsOf; rw [List.map_map]; rfl
  · have : (kvsOf ws).map (·.2) = ws.map (·.2.2) := by unfold kvsOf; rw [List.map_map]; rfl
    rw [this]; exact e2
theorem RepV.tupInts {h : Heap} {v : Value} {is : List Int} (r : RepV h v (.d (.tuple (is.map PyData.int)))) : ∃ a, v = .ref a ∧ (tupleKind (PySem.intKind prog C.w)).is h is a := by
  cases r with
  | tuple h1 h2 h3 h4 =>
    rename_i a o vs n
    refine ⟨_, rfl, o, vs, n, h1, h2, h3, ?_⟩
    have rs := RepVs.ofReads h4 rfl
    clear h1 h3 h4
    generalize vs.toList = us at rs
    induction is generalizing us with
    | nil => cases rs; exact .nil
    | cons i is ih =>
      cases rs with
      | cons a b =>
        obtain ⟨t, rfl⟩ := a.int
        exact .cons (intKind_is prog C.w i t) (ih _ b)
theorem op_get_tdict {a : Addr} {kvs : List (List Int × V)} {is : List Int} {X : V} (hR : Room A k) (ea : σ a = some (.tdict kvs)) (h : Φ ((vat kvs is).getD X) σ) :
    OpL prog C A env (.builtin "dict.get") [.c (.ref a), .d (.tuple (is.map PyData.int)), X] m σ Φ := fun s vs S r => by
  cases r with
  | cons r1 r' =>
  cases r' with
  | cons r2 r'' =>
  cases r'' with
  | cons r3 r4 =>
  cases r4
  cases r1.ref
  obtain ⟨ta, rfl, hk⟩ := r2.tupInts (prog := prog) (C := C)
  obtain ⟨ws, d, e1, e2⟩ := S.toSt0.tdict ea
  refine call_meetsIn PySem.F.slot_dict_get d.typeIs PySem.F.entry_dict_get (PySem.F.args_dict_get_3 _ _ _) (meetsH_dict_get_default _ a ta (S.new a _ ea).2 _) ⟨tupleKind_room_in1 (Nat.lt_of_le_of_lt (Nat.le_refl _) hR.hu1), is, ws, hk, d, ?_⟩
  rw [← valueAt_kvsOf]
  obtain ⟨p1, p2⟩ := valueAt_rep (k := is) e1 e2
  cases c : vat kvs is with
  | none => rw [p1 c]; rw [c] at h; exact Go.nowT S r3 h
  | some Y => obtain ⟨v, c', r⟩ := p2 Y c; rw [c']; rw [c] at h; exact Go.nowT S r h
theorem set_tdict {a : Addr} {kvs : List (List Int × V)} {is : List Int} {X : V} {Φ : SH → Prop} (hR : Room A k) (ea : σ a = some (.tdict kvs)) (hn : kvs.length ≤ 1000) (h : Φ (σ.set a (.tdict (vput kvs is X)))) :
    OpSet prog C A env (.c (.ref a)) (.d (.tuple (is.map PyData.int))) X m σ Φ := fun s v u t S r q z => by
  cases r.ref
  obtain ⟨ta, rfl, hk⟩ := q.tupInts (prog := prog) (C := C)
  obtain ⟨ws, d, e1, e2⟩ := S.toSt0.tdict ea
  have hl : ws.length = kvs.length := by simpa [kvsOf] using congrArg List.length e1
  refine wpAny_setItem_heap (tupleKind_room_in1 hR.hu1) hk d (fun h' d' hs => ?_) (by rw [hl, sizeLine_eq]; (first | lia | omega))
  have kt := S.toSt0.noT ea hs
  obtain ⟨p1, p2⟩ := stored_rep (k := is) (z.keepT kt) e1 (e2.keepT kt)
  rw [← kvsOf_storedH (a := ta)] at p1 p2
  obtain ⟨T, x⟩ := S.toSt0.upd (s' := { s with heap := h', toks := s.toks + (tupleKind (PySem.intKind prog C.w)).draws is }) (so' := .tdict (vput kvs is X)) ea hs
    ⟨_, d', by rw [← p1]; unfold kvsOf; rw [List.map_map]; rfl, by have : (kvsOf (storedH ws is ta t)).map (·.2) = (storedH ws is ta t).map (·.2.2) := by unfold kvsOf; rw [List.map_map]; rfl
                                                                   rw [← this]; exact p2⟩ rfl rfl rfl
  exact Go.of (b := ()) S T x trivial h

-- sets of ints
theorem op_in_set {a : Addr} {T : Int → Bool} {n : Nat} {i : Int} (ea : σ a = some (.iset T n)) (h : Φ (.d (.bool (T i))) σ) :
    Op2 prog C A env RepV (compareOp .In) (.d (.int i)) (.c (.ref a)) m σ Φ := fun s v u S r q => by
  cases q.ref
  obtain ⟨t, rfl⟩ := r.int
  have hS : s.heap.SetOf (PySem.intKind prog C.w) a T n := S.rep a _ ea
  exact wpAny_inSet_of (intKind_is prog C.w i t) rfl hS (Go.nowT S (repB _) h)
end
end Mine
namespace Mine
/-- every object of the heap that is neither the base's, nor at L, nor at d -/
noncomputable def allNews (h₀ : Heap) (L d : Addr) (h : Heap) : List (Addr × Obj) :=
  (List.range h.objs.size).filterMap fun b => if b = L ∨ b = d ∨ (h₀.get? b).isSome = true then none else (h.get? b).map fun o => (b, o)
theorem mem_allNews {h₀ h : Heap} {L d b : Addr} {o : Obj} : (b, o) ∈ allNews h₀ L d h ↔ b ≠ L ∧ b ≠ d ∧ h₀.get? b = none ∧ h.get? b = some o := by
  unfold allNews
  rw [List.mem_filterMap]
  constructor
  · rintro ⟨b', hb, e⟩
    split at e
    · cases e
    · rename_i c
      simp only [not_or, Option.not_isSome_iff_eq_none, Bool.not_eq_true] at c
      cases q : h.get? b' with
      | none => rw [q] at e; cases e
      | some o' =>
        rw [q] at e
        simp only [Option.map_some, Option.some.injEq, Prod.mk.injEq] at e
        obtain ⟨rfl, rfl⟩ := e
        exact ⟨c.1, c.2.1, by simpa using c.2.2, q⟩
  · rintro ⟨h1, h2, h3, h4⟩
    refine ⟨b, List.mem_range.mpr (Heap.lt_size h4), ?_⟩
    rw [if_neg (by simp [h1, h2, h3]), h4]
    rfl
section
variable {prog : Program} {K : Frag} {C : Cx} {A : Around} {env : Env} {m : Loc} {σ σ' : SH} {s : Shared} {Φ : V → SH → Prop} {k : Nat}
theorem allNews_news {h₀ h : Heap} {L d : Addr} : News h₀ L h (allNews h₀ L d h) := fun p hp => by
  obtain ⟨b, o⟩ := p
  obtain ⟨h1, h2, h3, h4⟩ := mem_allNews.mp hp
  exact ⟨h4, h1, h3⟩
theorem keeps_news {L d : Addr} {h' : Heap} {mp : Str → Option Value} (S : St0 prog C σ s) (F' : Fr C.h₀ L h' mp) (N' : ∀ p ∈ allNews C.h₀ L d s.heap, h'.get? p.1 = some p.2) {b : Addr} {o : Obj} (h1 : b ≠ L) (h2 : b ≠ d) (e : s.heap.get? b = some o) : h'.get? b = some o := by
  cases q : C.h₀.get? b with
  | some o' =>
    rw [S.keep b o' q] at e; cases e
    exact F'.keep b _ q
  | none => exact N' (b, o) (mem_allNews.mpr ⟨h1, h2, q, e⟩)
/-- the frame behind a step that keeps all but the frame's own object and σ's -/
theorem St.afterL {mp : Str → Option Value} {s' : Shared} (S : St prog C env m σ s) (Hm : ∀ x X, m x = some X → Has env s.heap mp x X) (F' : Fr C.h₀ env.locals s'.heap mp) (T : St0 prog C σ' s') (x : Ext env.locals σ s.heap σ' s'.heap) : St prog C env m σ' s' := by
  have off' : σ' env.locals = none := by
    cases q : σ' env.locals with
    | none => rfl
    | some so =>
      rcases x.new _ (by rw [q]; simp) with y | y
      · exact absurd S.off y
      · obtain ⟨o, e⟩ := x.L; rw [e] at y; cases y
  refine ⟨T, ⟨mp, F', fun y X hy => ?_⟩, off'⟩
  have q := Hm y X hy
  have kt := S.keepT x
  unfold Has at q ⊢
  split
  · rename_i e; rw [e] at q
    obtain ⟨v, e1, e2⟩ := q
    exact ⟨v, e1, e2.keepT kt⟩
  · rename_i c e; rw [e] at q
    obtain ⟨n, v, o, e1, e2, e3⟩ := q
    refine ⟨n, v, o, x.keep _ _ n ?_ e1, e2, e3.keepT kt⟩
    cases q : σ c with
    | none => rfl
    | some so =>
      obtain ⟨o', e', _, c', _⟩ := (S.rep c so q).obj
      rw [e1] at e'; cases e'; exact absurd e2 (c' _)
theorem St.updNews {mp : Str → Option Value} {d : Addr} {so so' : SObj} {h' : Heap} {tk : Nat} (S : St prog C env m σ s) (Hm : ∀ x X, m x = some X → Has env s.heap mp x X) (ed : σ d = some so)
    (F' : Fr C.h₀ env.locals h' mp) (N' : ∀ p ∈ allNews C.h₀ env.locals d s.heap, h'.get? p.1 = some p.2) (r : RepO prog C.w h' d so') :
    St prog C env m (σ.set d so') { s with heap := h', toks := tk } ∧ Ext env.locals σ s.heap (σ.set d so') h' := by
  have kp : ∀ b o, b ≠ env.locals → b ≠ d → s.heap.get? b = some o → h'.get? b = some o := fun b o h1 h2 e => keeps_news S.toSt0 F' N' h1 h2 e
  have kt : KeepT s.heap h' := fun b o e hc hd => by
    refine kp b o (fun hb => ?_) (fun hb => ?_) e
    · obtain ⟨mp', F, _⟩ := S.fr
      obtain ⟨oL, es, ep, hL, hLd, _⟩ := F.ns
      obtain ⟨vs, n, hd⟩ := hd
      rw [hb, hL] at e; cases e
      rw [hLd] at hd; cases hd
    · subst hb
      obtain ⟨o', e', c, _⟩ := (S.rep b so ed).obj
      rw [e] at e'; cases e'; exact absurd hc c
  have x : Ext env.locals σ s.heap (σ.set d so') h' := by
    refine ⟨fun b o h1 h2 e => kp b o h1 (fun q => by subst q; rw [ed] at h2; cases h2) e, fun b hb => ?_, S.hL⟩
    unfold SH.set at hb; split at hb
    · rename_i q; subst q; exact .inl (by rw [ed]; simp)
    · exact .inl hb
  have T : St0 prog C (σ.set d so') { s with heap := h', toks := tk } := by
    refine ⟨Nat.le_trans F'.above (Nat.le_of_lt F'.ns.lt), F'.keep, fun b so'' e => ?_, fun b so'' e => ?_, S.gens, S.drawn, S.os⟩
    · unfold SH.set at e; split at e
      · rename_i q; subst q; exact S.new b so ed
      · exact S.new b so'' e
    · unfold SH.set at e; split at e
      · rename_i q; subst q; cases e; exact r
      · rename_i q
        exact (S.rep b so'' e).mono kt fun o e' => kp b o (fun hb => by subst hb; rw [S.off] at e; cases e) q e'
  exact ⟨S.afterL (s' := { s with heap := h', toks := tk }) Hm F' T x, x⟩

-- fields
theorem Flds.get {h : Heap} {name : Str} {es : List DictEntry} {fs : List (Str × V)} (r : Flds h es fs) : (∀ X, fs.lookup name = some X → ∃ v, getL name es = some (some v) ∧ RepV h v X) ∧ (fs.lookup name = none → getL name es = some none) := by
  have any : (es.any (·.refKey)) = false := by
    induction r with
    | nil => rfl
    | cons a _ _ ih =>
      obtain ⟨t, a⟩ := a
      rw [List.any_cons, ih, Bool.or_false]
      unfold DictEntry.refKey; rw [a]
  unfold getL
  rw [any]
  clear any
  induction r with
  | nil => exact ⟨fun X e => (by cases e), fun _ => rfl⟩
  | @cons e es n x fs a b _ ih =>
    obtain ⟨t, a⟩ := a
    rw [List.lookup_cons, List.find?_cons]
    have hk : e.key.isStr name = (name == n) := by
      rw [a]
      show (n == name) = (name == n)
      rw [Bool.eq_iff_iff, beq_iff_eq, beq_iff_eq, eq_comm]
    rw [hk]
    cases c : (name == n) with
    | true => exact ⟨fun X e => by cases e; exact ⟨_, rfl, b⟩, fun e => by cases e⟩
    | false => exact ih
noncomputable def okV : V → Prop
  | .d _ => True
  | .c (.ref _) => True
  | _ => False
theorem RepV.handed {h : Heap} {v : Value} {X : V} (r : RepV h v X) (o : okV X) : handedIn v = true := by
  cases X with
  | d x => cases r <;> rfl
  | c u =>
    cases r.ref
    cases v <;> first | rfl | exact absurd o (fun e => e)
theorem St0.inst {x Cc dx : Addr} {fs : List (Str × V)} (S : St0 prog C σ s) (ex : σ x = some (.inst Cc dx)) (ed : σ dx = some (.ns fs)) :
    ∃ es n, W.InstAt s.heap x ⟨.ref Cc, some dx, .plain, #[]⟩ Cc (some (dictOf es n)) ∧ Flds s.heap es fs ∧ s.heap.get? dx = some (dictOf es n) := by
  obtain ⟨es, n, e, r⟩ := S.rep dx _ ed
  have e1 : s.heap.get? x = some ⟨.ref Cc, some dx, .plain, #[]⟩ := S.rep x _ ex
  exact ⟨es, n, ⟨e1, rfl, rfl, e⟩, r, e⟩
theorem op_getattr {x Cc dx : Addr} {fs : List (Str × V)} {name : Str} {X : V} {attr : Option Value} {b : Bool} (W : Wd prog K C) (ex : σ x = some (.inst Cc dx)) (ed : σ dx = some (.ns fs))
    (g1 : plainGet K Cc name = true) (g2 : hasDictIn K Cc = true) (g3 : findIn K (.ref Cc) name = some attr) (g4 : noGet K attr = true) (hl : fs.lookup name = some X) (ho : okV X) (h : Φ X σ) :
    Op1 prog C A env RepV (fun v => getAttr v name b) (.c (.ref x)) m σ Φ := fun s v S r => by
  cases r.ref
  obtain ⟨mp, F, _⟩ := S.fr
  obtain ⟨es, n, I, fl, _⟩ := S.toSt0.inst ex ed
  obtain ⟨v, e, rv⟩ := fl.get.1 X hl
  exact get_own F W.kin I g1 g2 g3 g4 e (rv.handed ho) (Go.nowT S rv h)

noncomputable def fput (name : Str) (X : V) : List (Str × V) → List (Str × V)
  | [] => [(name, X)]
  | (n, Y) :: r => if n == name then (n, X) :: r else (n, Y) :: fput name X r
theorem Flds.put {h : Heap} {name : Str} {hsh : Int} {t : Tok} {v : Value} {X : V} (q : RepV h v X) {es : List DictEntry} {fs : List (Str × V)} (r : Flds h es fs) : Flds h (putL name hsh (.str name t) v es) (fput name X fs) := by
  induction r with
  | nil => exact .cons ⟨t, rfl⟩ q .nil
  | @cons e es n x fs a b c ih =>
    obtain ⟨t', a⟩ := a
    unfold putL fput
    have hk : e.key.isStr name = (n == name) := by rw [a]; rfl
    rw [hk]
    cases n == name with
    | true => exact .cons ⟨t', a⟩ q c
    | false => exact .cons ⟨t', a⟩ b ih
theorem Flds.length {h : Heap} {es : List DictEntry} {fs : List (Str × V)} (r : Flds h es fs) : es.length = fs.length := by
  induction r with
  | nil => rfl
  | cons _ _ _ ih => simp [ih]
noncomputable def OpAttr (prog : Program) (C : Cx) (A : Around) (env : Env) (name : Str) (X Y : V) (m : Loc) (σ : SH) (Φ : SH → Prop) : Prop :=
  ∀ s v u, St prog C env m σ s → RepV s.heap v X → RepV s.heap u Y → Un prog C A env (setAttr v name u) m σ s Φ
theorem op_setattr {x Cc dx : Addr} {fs : List (Str × V)} {name : Str} {X : V} {Φ : SH → Prop} (W : Wd prog K C) (ex : σ x = some (.inst Cc dx)) (ed : σ dx = some (.ns fs))
    (g1 : findIn K (.ref Cc) "__setattr__" = some (some (.builtin "object.__setattr__"))) (g2 : plainOver K Cc = true) (g3 : takerIn K Cc name = some none) (g4 : hasDictIn K Cc = true)
    (hz : (fput name X fs).length ≤ 1000) (h : Φ (σ.set dx (.ns (fput name X fs)))) : OpAttr prog C A env name (.c (.ref x)) X m σ Φ := fun s v u S r q => by
  cases r.ref
  obtain ⟨mp, F, Hm⟩ := S.fr
  obtain ⟨es, n, I, fl, e⟩ := S.toSt0.inst ex ed
  have hs : (getL name es).isSome = true := by
    cases c : fs.lookup name with
    | none => rw [fl.get.2 c]; rfl
    | some Y => obtain ⟨v, c', _⟩ := fl.get.1 Y c; rw [c']; rfl
  have hne : dx ≠ env.locals := fun q => by rw [q, S.off] at ed; cases ed
  have N : News C.h₀ env.locals s.heap ((dx, dictOf es n) :: allNews C.h₀ env.locals dx s.heap) := fun p hp => by
    rcases List.mem_cons.mp hp with rfl | hp
    · exact ⟨e, hne, (S.new dx _ ed).1⟩
    · exact allNews_news p hp
  refine set_dict F W.kin N I rfl g1 g2 g3 g4 hs rfl (Upd.head fun p hp => ?_) ?_ fun h' F' N' => ?_
  · obtain ⟨b, o⟩ := p; exact (mem_allNews.mp hp).2.1
  · have l1 := (fl.put (name := name) (hsh := PyData.keyHash C.w.params name) (t := s.toks + 1) q).length
    rw [l1]; exact hz
  · have kp : KeepT s.heap h' := fun b o e' hc hd => by
      refine keeps_news S.toSt0 F' (fun p hp => (N' p (.tail _ hp)).1) (fun hb => ?_) (fun hb => ?_) e'
      · obtain ⟨oL, es, ep, hL, hLd, _⟩ := F.ns
        obtain ⟨vs, n, hd⟩ := hd
        rw [hb, hL] at e'; cases e'
        rw [hLd] at hd; cases hd
      · rw [hb, e] at e'; cases e'; simp at hc
    obtain ⟨T, y⟩ := S.updNews (tk := s.toks + 2) (so' := .ns (fput name X fs)) Hm ed F' (fun p hp => (N' p (.tail _ hp)).1) ⟨_, _, (N' _ (.head _)).1, (fl.keepT kp).put (q.keepT kp)⟩
    exact ⟨(), _, trivial, T, y, h⟩
end
end Mine
namespace Mine
section
variable {prog : Program} {K : Frag} {C : Cx} {A : Around} {env : Env} {m : Loc} {σ σ' : SH} {s : Shared} {Φ : V → SH → Prop} {k : Nat} {pos np apos : Pos} {x : Str}

/-- the call of a value that is at hand, its arguments yet to be evaluated -/
noncomputable def CK (prog : Program) (C : Cx) (A : Around) (env : Env) (pos : Pos) (first : List V) (args : List Expr) (m : Loc) (Φ : V → SH → Prop) (F : V) (σ : SH) : Prop :=
  ∀ s v vs, St prog C env m σ s → RepV s.heap v F → RepVs s.heap vs first → Go prog C A env RepV (callWith pos v vs (backTo pos (starEach args env)) []) m σ s Φ
theorem ev_call {args : List Expr} (h : Ev prog C A env (.Name x np) m σ (CK prog C A env pos [] args m Φ)) : Ev prog C A env (.Call (.Name x np) args [] pos) m σ Φ := fun s S =>
  wpAny_Call_NameR (Go.then S (h s S) fun v s₁ X σ₁ r S₁ _ p => p s₁ v [] S₁ r .nil)
theorem ck_builtin {id : String} {first : List V} {e : Expr} {es : List Expr} (h : Evs prog C A env pos (e :: es) m σ (fun Xs σ₁ => OpL prog C A env (.builtin id) (first ++ Xs) m σ₁ Φ))
    (he : starEach (e :: es) env = (false, eval e env) :: starEach es env := by rfl) (hp : (backTo pos (starEach es env)).any (·.1) = false := by rfl) :
    CK prog C A env pos first (e :: es) m Φ (.c (.builtin id)) σ := fun s v vs S r rs => by
  cases r.ref
  refine callWith_method1 ?_ he hp
  exact Go.then (k := fun ws => call (.builtin id) (vs ++ ws)) S (h s S) fun ws s₁ Xs σ₁ r' S₁ kt p => p s₁ _ S₁ ((rs.keepT kt).append r')
theorem ck_builtin0 {id : String} {first : List V} (h : OpL prog C A env (.builtin id) first m σ Φ) : CK prog C A env pos first [] m Φ (.c (.builtin id)) σ := fun s v vs S r rs => by
  cases r.ref
  exact callWith_method0 (h s vs S rs)
theorem ck_type {T : String} {e : Expr} {es : List Expr} (h : Evs prog C A env pos (e :: es) m σ (fun Xs σ₁ => OpL prog C A env (.type T) Xs m σ₁ Φ))
    (he : starEach (e :: es) env = (false, eval e env) :: starEach es env := by rfl) (hp : (backTo pos (starEach es env)).any (·.1) = false := by rfl) :
    CK prog C A env pos [] (e :: es) m Φ (.c (.type T)) σ := fun s v vs S r rs => by
  cases r.ref
  cases rs
  refine PyProof.Rows.callWith_type1 ?_ he hp
  exact Go.then (k := fun ws => call (.type T) ws) S (h s S) fun ws s₁ Xs σ₁ r' S₁ kt p => p s₁ _ S₁ r'
theorem ck_type0 {T : String} (h : OpL prog C A env (.type T) [] m σ Φ) : CK prog C A env pos [] [] m Φ (.c (.type T)) σ := fun s v vs S r rs => by
  cases r.ref
  cases rs
  exact callWith_type0 (h s [] S .nil)
theorem ck_ref {b : Addr} {first : List V} {e : Expr} {es : List Expr} (W : Wd prog K C) (hk : keepIn K (.ref b) = true) (h : Evs prog C A env pos (e :: es) m σ (fun Xs σ₁ => OpL prog C A env (.ref b) (first ++ Xs) m σ₁ Φ))
    (he : starEach (e :: es) env = (false, eval e env) :: starEach es env := by rfl) (hp : (backTo pos (starEach es env)).any (·.1) = false := by rfl) :
    CK prog C A env pos first (e :: es) m Φ (.c (.ref b)) σ := fun s v vs S r rs => by
  cases r.ref
  refine callWith_K W.kin hk ?_ he hp
  refine Go.bind (h s S) (fun ws s₁ Xs σ₁ r' S₁ x p => ?_)
  exact ⟨W.kin.keeps S₁.keep, wpAny_mono (p s₁ _ S₁ ((rs.keepT (S.keepT x)).append r')) (fun _ _ z => GoQ.from x z) fun _ _ e => e⟩
theorem ck_ref0 {b : Addr} {first : List V} (W : Wd prog K C) (hk : keepIn K (.ref b) = true) (h : OpL prog C A env (.ref b) first m σ Φ) : CK prog C A env pos first [] m Φ (.c (.ref b)) σ := fun s v vs S r rs => by
  cases r.ref
  exact callWith_K0 (W.kin.keeps S.keep) hk (by rw [List.append_nil]; exact h s vs S rs)

/-- methods -/
noncomputable def GM (prog : Program) (C : Cx) (A : Around) (env : Env) (pos : Pos) (name : Str) (pl : Sem Bool) (args : List Expr) (m : Loc) (Φ : V → SH → Prop) (X : V) (σ : SH) : Prop :=
  ∀ s v, St prog C env m σ s → RepV s.heap v X →
    wpAny (model prog C.w) A (getMethod v name pl) (fun fx s₂ => wpAny (model prog C.w) A (callWith pos fx.1 fx.2 (backTo pos (starEach args env)) []) (GoQ prog C env RepV m σ s Φ) (fun _ _ => False) s₂) (fun _ _ => False) s
theorem ev_method {o : Expr} {name : Str} {args : List Expr} {pl : Sem Bool} (h : Ev prog C A env o m σ (GM prog C A env pos name pl args m Φ))
    (he : eval (.Call (.Attribute o name apos) args [] pos) env = (do
      let ov ← eval o env
      standAt apos.atName
      let (f, first) ← holding [ov] (getMethod ov name pl)
      callWith pos f first (backTo pos (starEach args env)) []) := by rfl) : Ev prog C A env (.Call (.Attribute o name apos) args [] pos) m σ Φ := fun s S => by
  refine MethodCall_ (Go.bind (h s S) (fun v s₁ X σ₁ r S₁ x p => ?_)) he
  exact wpAny_mono (p s₁ v S₁ r) (fun fx s₂ q => wpAny_mono q (fun _ _ z => GoQ.from x z) fun _ _ e => e) fun _ _ e => e
theorem gm_list {name : Str} {pl : Sem Bool} {args : List Expr} {a : Addr} {xs : List V} {id : String} (ea : σ a = some (.list xs)) (slot : Slot "list" name id) (ty : typeOf (.builtin id) = pure (.type "method_descriptor"))
    (h : CK prog C A env pos [.c (.ref a)] args m Φ (.c (.builtin id)) σ) : GM prog C A env pos name pl args m Φ (.c (.ref a)) σ := fun s v S r => by
  cases r.ref
  exact getMethod_list S.toSt0 ea slot ty (h s _ _ S (repR _) (.cons (repR _) .nil))
theorem gm_append {pl : Sem Bool} {args : List Expr} {a : Addr} {xs : List V} (ea : σ a = some (.list xs)) (h : CK prog C A env pos [.c (.ref a)] args m Φ (.c (.builtin "list.append")) σ) :
    GM prog C A env pos "append" pl args m Φ (.c (.ref a)) σ := gm_list ea PySem.F.slot_list_append PySem.F.type_list_append h
theorem gm_pop {pl : Sem Bool} {args : List Expr} {a : Addr} {xs : List V} (ea : σ a = some (.list xs)) (h : CK prog C A env pos [.c (.ref a)] args m Φ (.c (.builtin "list.pop")) σ) :
    GM prog C A env pos "pop" pl args m Φ (.c (.ref a)) σ := gm_list ea PySem.F.slot_list_pop PySem.F.type_list_pop h
theorem gm_sget {pl : Sem Bool} {args : List Expr} {a : Addr} {kvs : List (Str × V)} (ea : σ a = some (.sdict kvs)) (h : CK prog C A env pos [.c (.ref a)] args m Φ (.c (.builtin "dict.get")) σ) :
    GM prog C A env pos "get" pl args m Φ (.c (.ref a)) σ := fun s v S r => by
  cases r.ref
  obtain ⟨ws, ⟨o, es, ep, e, x, _⟩, _⟩ := S.toSt0.sdict ea
  exact getMethod_dictlike e x PySem.F.slot_dict_get PySem.F.type_dict_get (h s _ _ S (repR _) (.cons (repR _) .nil))
theorem gm_tget {pl : Sem Bool} {args : List Expr} {a : Addr} {kvs : List (List Int × V)} (ea : σ a = some (.tdict kvs)) (h : CK prog C A env pos [.c (.ref a)] args m Φ (.c (.builtin "dict.get")) σ) :
    GM prog C A env pos "get" pl args m Φ (.c (.ref a)) σ := fun s v S r => by
  cases r.ref
  obtain ⟨ws, ⟨o, es, ep, e, x, _⟩, _⟩ := S.toSt0.tdict ea
  exact getMethod_dictlike e x PySem.F.slot_dict_get PySem.F.type_dict_get (h s _ _ S (repR _) (.cons (repR _) .nil))
theorem gm_add {pl : Sem Bool} {args : List Expr} {a : Addr} {T : Int → Bool} {n : Nat} (ea : σ a = some (.iset T n)) (h : CK prog C A env pos [.c (.ref a)] args m Φ (.c (.builtin "set.add")) σ) :
    GM prog C A env pos "add" pl args m Φ (.c (.ref a)) σ := fun s v S r => by
  cases r.ref
  have hS : s.heap.SetOf (PySem.intKind prog C.w) a T n := S.rep a _ ea
  exact getMethod_set_add hS (h s _ _ S (repR _) (.cons (repR _) .nil))
theorem gm_inst {pl : Sem Bool} {args : List Expr} {name : Str} {x Cc dx f : Addr} {fs : List (Str × V)} (W : Wd prog K C) (ex : σ x = some (.inst Cc dx)) (ed : σ dx = some (.ns fs))
    (g1 : plainGet K Cc name = true) (g2 : findIn K (.ref Cc) name = some (some (.ref f))) (g3 : isFn K (.ref f) = true) (hl : fs.lookup name = none)
    (h : CK prog C A env pos [.c (.ref x)] args m Φ (.c (.ref f)) σ) : GM prog C A env pos name pl args m Φ (.c (.ref x)) σ := fun s v S r => by
  cases r.ref
  obtain ⟨mp, F, _⟩ := S.fr
  obtain ⟨es, n, I, fl, _⟩ := S.toSt0.inst ex ed
  exact method_inst F W.kin I g1 g2 g3 (fl.get.2 hl) (h s _ _ S (repR _) (.cons (repR _) .nil))

-- calls of the text's own
theorem opl_call {f : Value} {Xs : List V} (hR : Room A k) (h : CallC prog C k f Xs σ Φ) : OpL prog C A env f Xs m σ Φ := fun s vs S r =>
  wpAny_call (codeAny_mono (h A s vs hR S.toSt0 r) fun r s' q => by
    cases r with
    | error e => exact q.elim
    | ok f =>
      cases f with
      | ret v => exact CallQ.go S q
      | _ => exact q.elim)
noncomputable def RetK (Φ : V → SH → Prop) (F : SF) (m : Loc) (σ : SH) : Prop := match F with
  | .ret X => Φ X σ
  | _ => Φ (.d .none) σ
noncomputable def Loc.of (names : List Str) (Xs : List V) : Loc := fun y => (names.zip Xs).reverse.lookup y
theorem zip_rep {h : Heap} {vs : List Value} {Xs : List V} (r : RepVs h vs Xs) : ∀ (names : List Str) (l : List (Str × Value)) (l' : List (Str × V)), (∀ y X, l'.lookup y = some X → ∃ v, l.lookup y = some v ∧ RepV h v X) →
    (∀ y X, ((names.zip Xs).reverse ++ l').lookup y = some X → ∃ v, ((names.zip vs).reverse ++ l).lookup y = some v ∧ RepV h v X) := by
  induction r with
  | nil => intro names l l' hl; simpa using hl
  | @cons v x vs xs a _ ih =>
    intro names l l' hl
    cases names with
    | nil => simpa using hl
    | cons n names =>
      simp only [List.zip_cons_cons, List.reverse_cons, List.append_assoc, List.cons_append, List.nil_append]
      refine ih names _ _ fun y X e => ?_
      rw [List.lookup_cons] at e ⊢
      cases c : (y == n) with
      | true => rw [c] at e; cases e; exact ⟨v, rfl, a⟩
      | false => rw [c] at e; exact hl y X e
theorem callC_def {f : Addr} {oc : Value} {od an : Option Addr} {osl : Array (Option Value)} {name qual : Str} {params : Arguments} {body : List Stmt} {scope : Scope} {dV kV doc pm cdv ct : Value} {Xs : List V} (names : List Str)
    (W : Wd prog K C) (ho : K.lookup f = some ⟨oc, od, .func (fnOf name qual params body scope dV kV doc pm an cdv ct), osl⟩) (hcd : codeIn K cdv qual = true)
    (hb : ∀ s : Shared, K.In s.heap → ∀ vs, vs.length = Xs.length → BindsTo s (fnOf name qual params body scope dV kV doc pm an cdv ct) ⟨vs, []⟩ (names.zip vs))
    (hloc : (names.all fun y => scope.names.lookup y == some .local) = true) (hcell : (scope.names.all fun y => y.2 != .cell) = true)
    (hco : scope.isCoroutine = false) (hgen : scope.isGenerator = false) (hk : scope.kind = .function)
    (h : ∀ A L, Room A k → Ex prog C A (envX qual scope L f cdv []) (execs body (envX qual scope L f cdv [])) (Loc.of names Xs) σ (RetK Φ)) : CallC prog C (k + 1) (.ref f) Xs σ Φ := fun A s vs hR S rs => by
  obtain ⟨p, lo, mg, mb, T⟩ := W.top
  have X := W.kin.keeps S.keep
  refine codeAny_call_def (fd := fnOf name qual params body scope dV kV doc pm an cdv ct) (body := body) (binds := names.zip vs) hR.hd (X _ _ ho) rfl (T.nolimit.keeps S.keep) (codeRec_of X hcd) rfl (hb s X vs rs.length)
    (fun y hy => by simpa using List.all_eq_true.mp hcell y hy) (fun y hy => ?_) (fun h₁ hns kp => ?_) hco hgen hk
  · have := List.all_eq_true.mp hloc y.1 (List.of_mem_zip hy).1
    simpa using this
  · have S₁ : St prog C (envX qual scope s.heap.objs.size f cdv []) (Loc.of names Xs) σ { s with heap := h₁, toks := s.toks + (names.zip vs).length } := by
      refine ⟨⟨?_, fun b o e => kp _ _ (S.keep b o e), S.new, fun a so e => (S.rep a so e).mono (Keeps.t kp) fun o e => kp _ _ e, S.gens, S.drawn, S.os⟩, ⟨_, ⟨hns, fun b o e => kp _ _ (S.keep b o e), S.size⟩, fun y Y e => ?_⟩, ?_⟩
      · exact Nat.le_trans S.size (Nat.le_of_lt hns.lt)
      · obtain ⟨v, e', r⟩ := zip_rep rs names [] [] (fun _ _ e => by cases e) y Y (by rw [List.append_nil]; exact e)
        rw [List.append_nil] at e'
        exact ⟨v, e', r.keepT (Keeps.t kp)⟩
      · exact S.freshNone
    refine wpAny_mono (h (A.deeper (callEnv (fnOf name qual params body scope dV kV doc pm an cdv ct) s.heap.objs.size f)) s.heap.objs.size (hR.deeper _) _ S₁) (fun fl s' q => ?_) fun _ _ e => e.elim
    obtain ⟨F, m', σ', r, S', x, p⟩ := q
    have xC : ExtC σ s.heap σ' s'.heap := by
      refine ⟨fun b o hb e => x.keep b o (fun q => ?_) hb (kp _ _ e), fun b hb => ?_⟩
      · subst q
        exact absurd (Heap.lt_size e) (Nat.lt_irrefl _)
      · rcases x.new b hb with y | y
        · exact .inl y
        · refine .inr ?_
          cases q : s.heap.get? b with
          | none => rfl
          | some o => rw [kp _ _ q] at y; cases y
    cases fl with
    | ret v =>
      cases F with
      | ret X => exact ⟨X, σ', r, S'.toSt0, xC, p⟩
      | _ => exact r.elim
    | _ => cases F <;> first | exact r.elim | exact ⟨_, σ', repN, S'.toSt0, xC, p⟩
end
end Mine
namespace Mine
section
variable {prog : Program} {K : Frag} {C : Cx} {A : Around} {env : Env} {m : Loc} {σ σ' : SH} {s : Shared} {Φ : V → SH → Prop} {k : Nat} {pos np apos : Pos} {x : Str}

theorem SH.set_self (σ : SH) (a : Addr) (o : SObj) : σ.set a o a = some o := if_pos rfl
theorem SH.set_ne (σ : SH) {a b : Addr} (o : SObj) (h : b ≠ a) : σ.set a o b = σ b := if_neg h
theorem SH.set_set (σ : SH) (a : Addr) (o o' : SObj) : (σ.set a o).set a o' = σ.set a o' := by
  funext b; unfold SH.set; split <;> simp_all
theorem Room.underCls {k : Nat} (h : Room A (k + 1)) (c : Addr) (args : List Value) : Room (A.under (.builtin "type.__call__" ⟨.ref c :: args, []⟩)) k := by
  refine ⟨h.1, ?_, ?_⟩
  · have := h.2.1
    rw [depth_under_make]
    (first | lia | omega)
  · have := h.2.2
    rw [units_under_make]
    (first | lia | omega)
/-- a class of the text's own is called: the object is made, then its __init__ -/
theorem opl_cls {Cc fI : Addr} {Xs : List V} (W : Wd prog K C) (hR : Room A (k + 1)) (hm : makesIn K Cc = true) (hi : findIn K (.ref Cc) "__init__" = some (some (.ref fI))) (hf : isFn K (.ref fI) = true)
    (hσ : ∃ a so, σ a = some so) (h : ∀ x dx, σ x = none → σ dx = none → x ≠ dx → CallC prog C k (.ref fI) (.c (.ref x) :: Xs) ((σ.set dx (.ns [])).set x (.inst Cc dx)) (fun X σ' => X = .d .none ∧ Φ (.c (.ref x)) σ')) :
    OpL prog C A env (.ref Cc) Xs m σ Φ := fun s vs S rs => by
  obtain ⟨mp, F, Hm⟩ := S.fr
  refine call_cls F W.kin (allNews_news (d := env.locals)) hm hi hf fun x dx h' F' N' hlt hlt2 => ?_
  have kp : ∀ b o, b ≠ env.locals → s.heap.get? b = some o → h'.get? b = some o := fun b o h1 e =>
    keeps_news S.toSt0 F' (fun p hp => (N' p (.tail _ (.tail _ hp))).1) h1 h1 e
  have e1 : h'.get? x = some (instObj Cc dx) := (N' _ (.head _)).1
  have e2 : h'.get? dx = some (dictOf [] 0) := (N' _ (.tail _ (.head _))).1
  have l1 : x ≠ env.locals := (N' _ (.head _)).2.1
  have l2 : dx ≠ env.locals := (N' _ (.tail _ (.head _))).2.1
  have b1 : C.h₀.get? x = none := (N' _ (.head _)).2.2
  have b2 : C.h₀.get? dx = none := (N' _ (.tail _ (.head _))).2.2
  have hne : x ≠ dx := fun q => by rw [q] at hlt2; exact absurd hlt2 (Nat.lt_irrefl _)
  have old : ∀ b o, b ≠ env.locals → C.h₀.get? b = none → s.heap.get? b = some o → b < dx := fun b o h1 h2 e => hlt (b, o) (mem_allNews.mpr ⟨h1, h1, h2, e⟩)
  have n1 : s.heap.get? x = none := by
    cases q : s.heap.get? x with
    | none => rfl
    | some o => exact absurd (Nat.lt_trans hlt2 (old x o l1 b1 q)) (Nat.lt_irrefl _)
  have n2 : s.heap.get? dx = none := by
    cases q : s.heap.get? dx with
    | none => rfl
    | some o => exact absurd (old dx o l2 b2 q) (Nat.lt_irrefl _)
  have s1 : σ x = none := by
    cases q : σ x with
    | none => rfl
    | some so => obtain ⟨o, e, _⟩ := (S.rep x so q).obj; rw [n1] at e; cases e
  have s2 : σ dx = none := by
    cases q : σ dx with
    | none => rfl
    | some so => obtain ⟨o, e, _⟩ := (S.rep dx so q).obj; rw [n2] at e; cases e
  have big : 1 < dx := by
    obtain ⟨a, so, ea⟩ := hσ
    obtain ⟨o, e, _⟩ := (S.rep a so ea).obj
    have ha := old a o (fun q => by rw [q, S.off] at ea; cases ea) (S.new a so ea).1 e
    have h1 : a ≠ sysModules := by simpa using (S.new a so ea).2
    have h0 : a ≠ builtinsNs := fun q => by
      obtain ⟨p, lo, mg, mb, T⟩ := W.top
      obtain ⟨ob, _, _, eb, _⟩ := T.b
      have := (S.new a so ea).1
      rw [q, eb] at this; cases this
    have h1' : a ≠ 1 := h1
    have h0' : a ≠ 0 := h0
    exact Nat.lt_of_le_of_lt (Nat.pos_of_ne_zero h0') ha
  have kt : KeepT s.heap h' := fun b o e hc hd => by
    refine kp b o (fun hb => ?_) e
    obtain ⟨oL, es, ep, hL, hLd, _⟩ := F.ns
    obtain ⟨vs, n, hd⟩ := hd
    rw [hb, hL] at e; cases e
    rw [hLd] at hd; cases hd
  have T : St0 prog C ((σ.set dx (.ns [])).set x (.inst Cc dx)) { s with heap := h' } := by
    refine ⟨Nat.le_trans F'.above (Nat.le_of_lt F'.ns.lt), F'.keep, fun b so e => ?_, fun b so e => ?_, S.gens, S.drawn, S.os⟩
    · unfold SH.set at e
      split at e
      · rename_i q; subst q; exact ⟨b1, beq_eq_false_iff_ne.mpr (Nat.ne_of_gt (Nat.lt_trans big hlt2))⟩
      · split at e
        · rename_i q; subst q; exact ⟨b2, beq_eq_false_iff_ne.mpr (Nat.ne_of_gt big)⟩
        · exact S.new b so e
    · unfold SH.set at e
      split at e
      · rename_i q; subst q; cases e; exact e1
      · split at e
        · rename_i q; subst q; cases e; exact ⟨[], 0, e2, .nil⟩
        · exact (S.rep b so e).mono kt fun o e' => kp b o (fun hb => by subst hb; rw [S.off] at e; cases e) e'
  have X : Ext env.locals σ s.heap ((σ.set dx (.ns [])).set x (.inst Cc dx)) h' := by
    refine ⟨fun b o h1 _ e => kp b o h1 e, fun b hb => ?_, S.hL⟩
    unfold SH.set at hb
    split at hb
    · rename_i q; subst q; exact .inr n1
    · split at hb
      · rename_i q; subst q; exact .inr n2
      · exact .inl hb
  have S' := S.afterL (s' := { s with heap := h' }) Hm F' T X
  refine codeAny_mono (h x dx s1 s2 hne _ _ (.ref x :: vs) (hR.underCls Cc vs) T (.cons (repR _) (rs.keepT kt))) fun r s'' q => ?_
  cases r with
  | error e => exact q.elim
  | ok f =>
    cases f with
    | ret v =>
      obtain ⟨Y, σ'', r, T'', x'', rfl, p⟩ := q
      exact ⟨r.none, _, σ'', repR _, S'.after T'' x'', X.trans (x''.to S'.hL), p⟩
    | _ => exact q.elim

-- built-in functions
theorem opl_len_list {a : Addr} {xs : List V} (ea : σ a = some (.list xs)) (hn : xs.length ≤ 100000) (h : Φ (.d (.int xs.length)) σ) : OpL prog C A env (.builtin "len") [.c (.ref a)] m σ Φ := fun s vs S rs => by
  cases rs with
  | cons r1 r' =>
  cases r'
  cases r1.ref
  obtain ⟨vs, n, p, rs⟩ := S.toSt0.list ea
  refine len_list (items := vs.toArray) ⟨_, p, rfl, n, rfl⟩ ?_ ?_
  · rw [List.size_toArray, rs.length]; (first | lia | omega)
  · rw [List.size_toArray, rs.length]; exact Go.nowT S (repI _ _) h
theorem opl_len_idict {a : Addr} {kvs : List (Int × V)} (ea : σ a = some (.idict kvs)) (hn : kvs.length ≤ 100000) (h : Φ (.d (.int kvs.length)) σ) : OpL prog C A env (.builtin "len") [.c (.ref a)] m σ Φ := fun s vs S rs => by
  cases rs with
  | cons r1 r' =>
  cases r'
  cases r1.ref
  obtain ⟨ws, d, e1, e2⟩ := S.toSt0.idict ea
  have hl : ws.length = kvs.length := by simpa using congrArg List.length e1
  exact call_len_dict (S.new a _ ea).2 d (by rw [hl]; (first | lia | omega)) (by rw [hl]; exact Go.nowT S (repI _ _) h)
theorem opl_abs {i : Int} (h : Φ (.d (.int (if i < 0 then -i else i))) σ) : OpL prog C A env (.builtin "abs") [.d (.int i)] m σ Φ := fun s vs S rs => by
  cases rs with
  | cons r1 r' =>
  cases r'
  obtain ⟨t, rfl⟩ := r1.int
  exact call_abs_int fun u tk => Go.nowT S (repI _ _) h

/-- more objects, none of the simple heap's -/
theorem St0.keepsTo {h' : Heap} {tk : Nat} (S : St0 prog C σ s) (k : Keeps s.heap h') (hz : C.h₀.objs.size ≤ h'.objs.size) : St0 prog C σ { s with heap := h', toks := tk } ∧ ExtC σ s.heap σ h' :=
  ⟨⟨hz, fun b o e => k _ _ (S.keep b o e), S.new, fun a so e => (S.rep a so e).mono (Keeps.t k) fun o e => k _ _ e, S.gens, S.drawn, S.os⟩, fun a o _ e => k _ _ e, fun _ e => .inl e⟩
theorem opl_range1 {n : Int} (W : Wd prog K C) (h : ∀ b, σ b = none → Φ (.c (.ref b)) (σ.set b (.range 0 n 1))) : OpL prog C A env (.type "range") [.d (.int n)] m σ Φ := fun s vs S rs => by
  cases rs with
  | cons r1 r' =>
  cases r'
  obtain ⟨t, rfl⟩ := r1.int
  obtain ⟨mp, F, Hm⟩ := S.fr
  refine range1_rows F (allNews_news (d := env.locals)) fun h' tk t₁ u₁ v₁ hr F' N' kp => ?_
  obtain ⟨T, x⟩ := S.toSt0.add (s' := { s with heap := h', toks := tk }) (a := s.heap.objs.size) (so := .range 0 n 1) kp (get?_size _) (S.toSt0.fresh W) (Nat.le_of_lt (Heap.lt_size hr)) ⟨_, _, _, hr⟩ rfl rfl rfl
  exact Go.of S T x (repR _) (h _ S.toSt0.freshNone)
theorem pylong_no {a b : Int} (h : a.natAbs < 2 ^ 63) : Builtin.divisionGoesByPylong b a = false := by
  unfold Builtin.divisionGoesByPylong
  have h1 : a.natAbs.log2 / 30 + 1 ≤ 300 := by
    by_cases h0 : a.natAbs = 0
    · rw [h0]; decide
    · have := (Nat.log2_lt h0).mpr h
      (first | lia | omega)
  have h2 : ¬ ((if a == 0 then 0 else a.natAbs.log2 / 30 + 1) > 300) := by split <;> (first | lia | omega)
  show (decide _ && _) = false
  rw [decide_eq_false h2, Bool.false_and]
theorem opl_range3 {a b c : Int} (W : Wd prog K C) (hc : c ≠ 0) (hc' : c.natAbs < 2 ^ 63) (h : ∀ d, σ d = none → Φ (.c (.ref d)) (σ.set d (.range a b c))) : OpL prog C A env (.type "range") [.d (.int a), .d (.int b), .d (.int c)] m σ Φ := fun s vs S rs => by
  cases rs with
  | cons r1 r' =>
  cases r' with
  | cons r2 r' =>
  cases r' with
  | cons r3 r' =>
  cases r'
  obtain ⟨t, rfl⟩ := r1.int
  obtain ⟨t, rfl⟩ := r2.int
  obtain ⟨t, rfl⟩ := r3.int
  obtain ⟨mp, F, Hm⟩ := S.fr
  refine range3_rows F (allNews_news (d := env.locals)) hc (fun h' tk t₁ u₁ v₁ hr F' N' kp => ?_) (.inl (pylong_no hc'))
  obtain ⟨T, x⟩ := S.toSt0.add (s' := { s with heap := h', toks := tk }) (a := s.heap.objs.size) (so := .range a b c) kp (get?_size _) (S.toSt0.fresh W) (Nat.le_of_lt (Heap.lt_size hr)) ⟨_, _, _, hr⟩ rfl rfl rfl
  exact Go.of S T x (repR _) (h _ S.toSt0.freshNone)
theorem opl_tuple {a : Addr} {xs : List V} (ea : σ a = some (.list xs)) (h : TupK xs σ Φ) : OpL prog C A env (.type "tuple") [.c (.ref a)] m σ Φ := fun s vs S rs => by
  cases rs with
  | cons r1 r' =>
  cases r'
  cases r1.ref
  obtain ⟨hl, ds, e, h⟩ := h
  have hr := unD_spec e
  subst hr
  obtain ⟨vs, n, p, rs⟩ := S.toSt0.list ea
  obtain ⟨mp, F, Hm⟩ := S.fr
  refine tuple_ofL F (allNews_news (d := env.locals)) (vs := vs) ⟨_, p, rfl, n, rfl⟩ (fun D h' F' N' kp => ?_) (by rw [rs.length, sizeLine_eq]; (first | lia | omega))
  obtain ⟨T, x⟩ := S.toSt0.keepsTo (tk := s.toks) kp (Nat.le_trans F'.above (Nat.le_of_lt F'.ns.lt))
  refine Go.of (b := .d (.tuple ds)) S T x ?_ h
  have e1 : h'.get? D = some { cls := .type "tuple", data := .seq vs.toArray } := (N' _ (.head _)).1
  have := (rs.keepT (Keeps.t kp)).reads
  exact Reads.tuple e1 rfl rfl (by simpa using this)

/-- a new object, told by the ledger -/
theorem St.newNews {mp : Str → Option Value} {D : Addr} {od : Obj} {so : SObj} {h' : Heap} {tk : Nat} (W : Wd prog K C) (S : St prog C env m σ s) (Hm : ∀ x X, m x = some X → Has env s.heap mp x X)
    (hσ : ∃ a so, σ a = some so) (F' : Fr C.h₀ env.locals h' mp) (N' : News C.h₀ env.locals h' ((D, od) :: allNews C.h₀ env.locals env.locals s.heap)) (hlt : ∀ p ∈ allNews C.h₀ env.locals env.locals s.heap, p.1 < D)
    (r : KeepT s.heap h' → RepO prog C.w h' D so) : σ D = none ∧ St prog C env m (σ.set D so) { s with heap := h', toks := tk } ∧ Ext env.locals σ s.heap (σ.set D so) h' := by
  obtain ⟨mp', F, _⟩ := S.fr
  have kp : ∀ b o, b ≠ env.locals → s.heap.get? b = some o → h'.get? b = some o := fun b o h1 e =>
    keeps_news S.toSt0 F' (fun p hp => (N' p (.tail _ hp)).1) h1 h1 e
  have l1 : D ≠ env.locals := (N' _ (.head _)).2.1
  have b1 : C.h₀.get? D = none := (N' _ (.head _)).2.2
  have old : ∀ b o, b ≠ env.locals → C.h₀.get? b = none → s.heap.get? b = some o → b < D := fun b o h1 h2 e => hlt (b, o) (mem_allNews.mpr ⟨h1, h1, h2, e⟩)
  have n1 : s.heap.get? D = none := by
    cases q : s.heap.get? D with
    | none => rfl
    | some o => exact absurd (old D o l1 b1 q) (Nat.lt_irrefl _)
  have s1 : σ D = none := by
    cases q : σ D with
    | none => rfl
    | some so => obtain ⟨o, e, _⟩ := (S.rep D so q).obj; rw [n1] at e; cases e
  have big : 1 < D := by
    obtain ⟨a, so, ea⟩ := hσ
    obtain ⟨o, e, _⟩ := (S.rep a so ea).obj
    have ha := old a o (fun q => by rw [q, S.off] at ea; cases ea) (S.new a so ea).1 e
    have h1 : a ≠ sysModules := by simpa using (S.new a so ea).2
    have h0 : a ≠ builtinsNs := fun q => by
      obtain ⟨p, lo, mg, mb, T⟩ := W.top
      obtain ⟨ob, _, _, eb, _⟩ := T.b
      have := (S.new a so ea).1
      rw [q, eb] at this; cases this
    have h1' : a ≠ 1 := h1
    have h0' : a ≠ 0 := h0
    exact Nat.lt_of_le_of_lt (Nat.pos_of_ne_zero h0') ha
  have kt : KeepT s.heap h' := fun b o e hc hd => by
    refine kp b o (fun hb => ?_) e
    obtain ⟨oL, es, ep, hL, hLd, _⟩ := F.ns
    obtain ⟨vs, n, hd⟩ := hd
    rw [hb, hL] at e; cases e
    rw [hLd] at hd; cases hd
  have T : St0 prog C (σ.set D so) { s with heap := h', toks := tk } := by
    refine ⟨Nat.le_trans F'.above (Nat.le_of_lt F'.ns.lt), F'.keep, fun b so e => ?_, fun b so e => ?_, S.gens, S.drawn, S.os⟩
    · unfold SH.set at e
      split at e
      · rename_i q; subst q; exact ⟨b1, beq_eq_false_iff_ne.mpr (Nat.ne_of_gt big)⟩
      · exact S.new b so e
    · unfold SH.set at e
      split at e
      · rename_i q; subst q; cases e; exact r kt
      · exact (S.rep b so e).mono kt fun o e' => kp b o (fun hb => by subst hb; rw [S.off] at e; cases e) e'
  have X : Ext env.locals σ s.heap (σ.set D so) h' := by
    refine ⟨fun b o h1 _ e => kp b o h1 e, fun b hb => ?_, S.hL⟩
    unfold SH.set at hb
    split at hb
    · rename_i q; subst q; exact .inr n1
    · exact .inl hb
  exact ⟨s1, S.afterL (s' := { s with heap := h', toks := tk }) Hm F' T X, X⟩
theorem opl_listcopy {a : Addr} {xs : List V} (W : Wd prog K C) (ea : σ a = some (.list xs)) (hn : xs.length ≤ 100000) (h : ∀ d, σ d = none → Φ (.c (.ref d)) (σ.set d (.list xs))) : OpL prog C A env (.type "list") [.c (.ref a)] m σ Φ := fun s vs S rs => by
  cases rs with
  | cons r1 r' =>
  cases r'
  cases r1.ref
  obtain ⟨vs, n, p, rs⟩ := S.toSt0.list ea
  obtain ⟨mp, F, Hm⟩ := S.fr
  refine list_copyK F (allNews_news (d := env.locals)) (items := vs.toArray) ⟨_, p, rfl, n, rfl⟩ (fun D c h' F' N' hlt => ?_) (by rw [List.size_toArray, rs.length, sizeLine_eq]; (first | lia | omega))
  obtain ⟨s1, T, X⟩ := S.newNews (tk := s.toks) (so := .list xs) W Hm ⟨a, _, ea⟩ F' N' hlt fun kt => ⟨vs, ⟨c, (N' _ (.head _)).1⟩, rs.keepT kt⟩
  exact ⟨_, _, repR _, T, X, h D s1⟩
theorem opl_set (W : Wd prog K C) (hσ : ∃ a so, σ a = some so) (h : ∀ d, σ d = none → Φ (.c (.ref d)) (σ.set d (.iset (fun _ => false) 0))) : OpL prog C A env (.type "set") [] m σ Φ := fun s vs S rs => by
  cases rs
  obtain ⟨mp, F, Hm⟩ := S.fr
  refine kse_new F (allNews_news (d := env.locals)) fun D h' led F' N' hlt hs _ => ?_
  obtain ⟨s1, T, X⟩ := S.newNews (tk := s.toks) (so := .iset (fun _ => false) 0) W Hm hσ F' N' hlt fun kt => hs.setOf (N' _ (.head _)).1 (by decide)
  exact ⟨_, _, repR _, T, X, h D s1⟩
theorem op_add_set {a : Addr} {T : Int → Bool} {n : Nat} {i : Int} (ea : σ a = some (.iset T n)) (hn : n ≤ 1000) (h : Φ (.d .none) (σ.set a (.iset (fun j => T j || decide (j = i)) (if T i then n else n + 1)))) :
    OpL prog C A env (.builtin "set.add") [.c (.ref a), .d (.int i)] m σ Φ := fun s vs S rs => by
  cases rs with
  | cons r1 r' =>
  cases r' with
  | cons r2 r' =>
  cases r'
  cases r1.ref
  obtain ⟨t, rfl⟩ := r2.int
  have hS : s.heap.SetOf (PySem.intKind prog C.w) a T n := S.rep a _ ea
  refine call_set_add (intKind_is prog C.w i t) rfl hS (by unfold scanBound; (first | lia | omega)) fun h' hs hS' => ?_
  obtain ⟨T', x⟩ := S.toSt0.upd (s' := { s with heap := h', toks := s.toks + 1 }) (so' := .iset (fun j => T j || decide (j = i)) (if T i then n else n + 1)) ea hs hS' rfl rfl rfl
  exact Go.of S T' x repN h

theorem opl_list_idict0 {a : Addr} (hR : Room A k) (W : Wd prog K C) (ea : σ a = some (.idict [])) (h : ∀ d, σ d = none → Φ (.c (.ref d)) (σ.set d (.list []))) : OpL prog C A env (.type "list") [.c (.ref a)] m σ Φ := fun s vs S rs => by
  cases rs with
  | cons r1 r' =>
  cases r'
  cases r1.ref
  obtain ⟨ws, d, e1, e2⟩ := S.toSt0.idict ea
  have hw : ws = [] := by simpa using e1
  subst hw
  obtain ⟨ep, d'⟩ := d.dictAt
  refine kdl_call (kdl_dict (S.new a _ ea).2) hR.1 d' (Nat.zero_le _) fun h' tk acc' c' kp hD hacc => ?_
  have ha : acc' = #[] := by simpa using hacc.1
  subst ha
  obtain ⟨T, x⟩ := S.toSt0.add (s' := { s with heap := h', toks := tk }) (a := s.heap.objs.size) (so := .list []) kp (get?_size _) (S.toSt0.fresh W) (Nat.le_of_lt (Heap.lt_size hD)) ⟨[], ⟨c', hD⟩, .nil⟩ rfl rfl rfl
  exact Go.of S T x (repR _) (h _ S.toSt0.freshNone)
inductive IntsV : List V → List Int → Prop
  | nil : IntsV [] []
  | cons {i xs is} : IntsV xs is → IntsV (.d (.int i) :: xs) (i :: is)
theorem IntsV.are {h : Heap} {xs : List V} {is : List Int} (r : IntsV xs is) : ∀ {vs : List Value}, RepVs h vs xs → IntsAre vs is := by
  induction r with
  | nil => intro vs rs; cases rs; exact .nil
  | cons _ ih =>
    intro vs rs
    cases rs with
    | cons a b => obtain ⟨t, rfl⟩ := a.int; exact .cons _ _ (ih b)
theorem opl_sum {a : Addr} {xs : List V} {is : List Int} (hR : Room A k) (ea : σ a = some (.list xs)) (hi : IntsV xs is) (h : Φ (.d (.int is.sum)) σ) : OpL prog C A env (.builtin "sum") [.c (.ref a)] m σ Φ := fun s vs S rs => by
  cases rs with
  | cons r1 r' =>
  cases r'
  cases r1.ref
  obtain ⟨vs, n, p, rs⟩ := S.toSt0.list ea
  obtain ⟨mp, F, Hm⟩ := S.fr
  have hne : a ≠ env.locals := fun q => by rw [q, S.off] at ea; cases ea
  have N : News C.h₀ env.locals s.heap ((a, listOf vs.toArray n) :: allNews C.h₀ env.locals a s.heap) := fun p' hp => by
    rcases List.mem_cons.mp hp with rfl | hp
    · exact ⟨p, hne, (S.new a _ ea).1⟩
    · exact allNews_news p' hp
  refine sumK hR.1 F N (vs := vs) (ns := is) ⟨_, p, rfl, n, rfl⟩ (hi.are rs) fun h' tk t' F' N' => ?_
  have kt : KeepT s.heap h' := fun b o e' hc hd => by
    refine keeps_news S.toSt0 F' (fun p hp => (N' p (.tail _ hp)).1) (fun hb => ?_) (fun hb => ?_) e'
    · obtain ⟨oL, es, ep, hL, hLd, _⟩ := F.ns
      obtain ⟨vs, n, hd⟩ := hd
      rw [hb, hL] at e'; cases e'
      rw [hLd] at hd; cases hd
    · rw [hb, p] at e'; cases e'; simp at hc
  obtain ⟨T, y⟩ := S.updNews (tk := tk) (so' := .list xs) Hm ea F' (fun p hp => (N' p (.tail _ hp)).1) ⟨vs, ⟨n, (N' _ (.head _)).1⟩, rs.keepT kt⟩
  have e : σ.set a (.list xs) = σ := by
    funext b; unfold SH.set; split
    · rename_i q; subst q; exact ea.symm
    · rfl
  rw [e] at T y
  exact ⟨_, _, repI _ _, T, y, h⟩
end
end Mine
namespace Mine
section
variable {prog : Program} {K : Frag} {C : Cx} {A : Around} {env : Env} {m : Loc} {σ σ' : SH} {s : Shared} {Φ : SF → Loc → SH → Prop} {k : Nat} {pos np apos : Pos} {x : Str}

abbrev Exs (prog : Program) (C : Cx) (A : Around) (env : Env) (b : List Stmt) (m : Loc) (σ : SH) (Φ : SF → Loc → SH → Prop) : Prop := Ex prog C A env (execs b env) m σ Φ
abbrev Ex1 (prog : Program) (C : Cx) (A : Around) (env : Env) (b : Stmt) (m : Loc) (σ : SH) (Φ : SF → Loc → SH → Prop) : Prop := Ex prog C A env (exec b env) m σ Φ
theorem GoSQ.from {σ₁ : SH} {s₁ s' : Shared} {f : Flow} (x : Ext env.locals σ s.heap σ₁ s₁.heap) (h : GoSQ prog C env σ₁ s₁ Φ f s') : GoSQ prog C env σ s Φ f s' :=
  let ⟨F, m', σ', r, S, y, p⟩ := h; ⟨F, m', σ', r, S, x.trans y, p⟩
theorem GoSQ.now {f : Flow} {F : SF} (S : St prog C env m σ s) (r : FlowRep s.heap f F) (h : Φ F m σ) : GoSQ prog C env σ s Φ f s := ⟨F, m, σ, r, S, Ext.refl σ S.hL, h⟩
theorem Ex.mono {t : Sem Flow} {Ψ : SF → Loc → SH → Prop} (h : Ex prog C A env t m σ Φ) (f : ∀ F m' σ', Φ F m' σ' → Ψ F m' σ') : Ex prog C A env t m σ Ψ := fun s S =>
  GoS.bind (h s S) (fun _ _ F m' σ' r S x p => ⟨F, m', σ', r, S, x, f _ _ _ p⟩)

theorem exs_nil (h : Φ .next m σ) : Exs prog C A env [] m σ Φ := fun s S => wpAny_execs_nil (GoSQ.now (F := .next) S trivial h)
/-- what stands behind a statement of a block -/
noncomputable def SeqK (prog : Program) (C : Cx) (A : Around) (env : Env) (rest : List Stmt) (Φ : SF → Loc → SH → Prop) (F : SF) (m : Loc) (σ : SH) : Prop := match F with
  | .next => Exs prog C A env rest m σ Φ
  | F => Φ F m σ
theorem exs_cons {st : Stmt} {rest : List Stmt} (h : Ex1 prog C A env st m σ (SeqK prog C A env rest Φ)) : Exs prog C A env (st :: rest) m σ Φ := fun s S => by
  refine wpAny_execs_cons (GoS.bind (h s S) (fun f s₁ F m' σ' r S₁ x p => ?_))
  cases f <;> cases F <;> first | exact r.elim | exact wpAny_mono (p s₁ S₁) (fun _ _ z => GoSQ.from x z) (fun _ _ e => e) | exact ⟨_, m', σ', r, S₁, x, p⟩

/-- a name is stored -/
theorem St.store {v : Value} {X : V} {h' : Heap} {tk : Nat} {mp : Str → Option Value} (S : St prog C env m σ s) (F : Fr C.h₀ env.locals s.heap mp) (Hm : ∀ x X, m x = some X → Has env s.heap mp x X)
    (hc : env.cells.lookup x = none) (r : RepV s.heap v X) (hn : h'.Ns env.locals fun y => if y = x then some v else mp y) (hs : Heap.SameBut env.locals s.heap h') :
    St prog C env (m.set x X) σ { s with heap := h', toks := tk } ∧ Ext env.locals σ s.heap σ h' := by
  have kp : ∀ b o, b ≠ env.locals → s.heap.get? b = some o → h'.get? b = some o := fun b o h1 e => (hs.2 b h1).trans e
  have kt : KeepT s.heap h' := fun b o e hc hd => by
    refine kp b o (fun hb => ?_) e
    obtain ⟨oL, es, ep, hL, hLd, _⟩ := F.ns
    obtain ⟨vs, n, hd⟩ := hd
    rw [hb, hL] at e; cases e
    rw [hLd] at hd; cases hd
  refine ⟨⟨⟨by rw [hs.1]; exact S.size, fun b o e => ?_, S.new, fun a so e => ?_, S.gens, S.drawn, S.os⟩, ⟨_, F.set hn hs, fun y Y hy => ?_⟩, S.off⟩, fun b o h1 _ e => kp b o h1 e, fun _ e => .inl e, S.hL⟩
  · refine kp b o (fun hb => ?_) (S.keep b o e)
    have := Heap.lt_size e
    rw [hb] at this
    exact absurd (Nat.lt_of_lt_of_le this F.above) (Nat.lt_irrefl _)
  · exact (S.rep a so e).mono kt fun o e' => kp a o (fun hb => by rw [hb, S.off] at e; cases e) e'
  · unfold Loc.set at hy
    split at hy
    · rename_i q; subst q; cases hy
      unfold Has
      rw [hc]
      exact ⟨v, if_pos rfl, r.keepT kt⟩
    · rename_i q
      have z := Hm y Y hy
      unfold Has at z ⊢
      split
      · rename_i e; rw [e] at z
        obtain ⟨w, e1, e2⟩ := z
        exact ⟨w, (if_neg q).trans e1, e2.keepT kt⟩
      · rename_i c e; rw [e] at z
        obtain ⟨n, w, o, e1, e2, e3⟩ := z
        exact ⟨n, w, o, kp _ _ n e1, e2, e3.keepT kt⟩
theorem store_go {v : Value} {X : V} {cn : Str} {cs : Scope} {L a : Addr} {ccd : Value} {cl : List (Str × Addr)} {Q : Unit → Shared → Prop} {E : Value → Shared → Prop} (S : St prog C (envX cn cs L a ccd cl) m σ s) (r : RepV s.heap v X)
    (hk : cs.kind = .function) (hx : (envX cn cs L a ccd cl).kindOf x = some .local) (hc : cl.lookup x = none)
    (h : ∀ s', St prog C (envX cn cs L a ccd cl) (m.set x X) σ s' → Ext L σ s.heap σ s'.heap → Q () s') : wpAny (model prog C.w) A (storeName (envX cn cs L a ccd cl) x v) Q E s := by
  obtain ⟨mp, F, Hm⟩ := S.fr
  refine wpAny_storeName_local hx F.ns (fun h' hn hs => ?_) (by show (cs.kind == .class || (cs.kind == .module && L != mainGlobals)) = false; rw [hk]; rfl)
  obtain ⟨T, y⟩ := S.store (tk := s.toks + 1) F Hm hc r hn hs
  exact h _ T y

variable {cn : Str} {cs : Scope} {L a : Addr} {ccd : Value} {cl : List (Str × Addr)}
theorem st_assign {e : Expr} {px : Pos} (h : Ev prog C A (envX cn cs L a ccd cl) e m σ (fun X σ₁ => Φ .next (m.set x X) σ₁))
    (hk : cs.kind = .function := by rfl) (hx : (envX cn cs L a ccd cl).kindOf x = some .local := by rfl) (hc : cl.lookup x = none := by rfl)
    (hs : swapsWith e (some (.Name x px)) pos.line (envX cn cs L a ccd cl) = pure false := by rfl) : Ex1 prog C A (envX cn cs L a ccd cl) (.Assign [.Name x px] e pos) m σ Φ := fun s S =>
  wpAny_Assign_Name (Go.bind (h s S) (fun v s₁ X σ₁ r S₁ y p => store_go S₁ r hk hx hc fun s₂ S₂ z => ⟨.next, _, _, trivial, S₂, y.trans z, p⟩)) hs
theorem st_aug {e : Expr} {px : Pos} {op : Operator} {X : V} (hm : m x = some X)
    (h : Ev prog C A (envX cn cs L a ccd cl) e m σ (fun Y σ₁ => Op2 prog C A (envX cn cs L a ccd cl) RepV (inplaceOp op) X Y m σ₁ (fun Z σ₂ => Φ .next (m.set x Z) σ₂)))
    (hk : cs.kind = .function := by rfl) (hx : (envX cn cs L a ccd cl).kindOf x = some .local := by rfl) (hc : cl.lookup x = none := by rfl) :
    Ex1 prog C A (envX cn cs L a ccd cl) (.AugAssign (.Name x px) op e pos) m σ Φ := fun s S => by
  obtain ⟨mp, F, H⟩ := S.fr
  have q := H x X hm
  unfold Has at q
  rw [hc] at q
  obtain ⟨v, e, r⟩ := q
  refine wpAny_AugAssign_Name (wpAny_loadName_local hk hx F.ns e (Go.bind (h s S) (fun u s₁ Y σ₁ r' S₁ y p => ?_)))
  refine Go.bind (p s₁ v u S₁ (r.keepT (S.keepT y)) r') (fun w s₂ Z σ₂ r'' S₂ z p' => ?_)
  exact store_go S₂ r'' hk hx hc fun s₃ S₃ z' => ⟨.next, _, _, trivial, S₃, (y.trans z).trans z', p'⟩
theorem st_setattr {e o : Expr} {px : Pos} (h : Ev prog C A env e m σ (fun Y σ₁ => Ev prog C A env o m σ₁ (fun X σ₂ => OpAttr prog C A env x X Y m σ₂ (fun σ₃ => Φ .next m σ₃))))
    (hs : swapsWith e (some (.Attribute o x px)) pos.line env = pure false := by rfl) : Ex1 prog C A env (.Assign [.Attribute o x px] e pos) m σ Φ := fun s S =>
  plainObj_wpAny_Assign_Attribute (Go.bind (h s S) (fun v s₁ Y σ₁ r S₁ y p => Go.bind (p s₁ S₁) (fun u s₂ X σ₂ r' S₂ z q =>
    Go.bind (q s₂ u v S₂ r' (r.keepT (S₁.keepT z))) (fun _ s₃ _ σ₃ _ S₃ z' q' => ⟨.next, _, _, trivial, S₃, (y.trans z).trans z', q'⟩)))) hs
theorem st_setitem {e o i : Expr} {px : Pos} (h : Ev prog C A env e m σ (fun Z σ₁ => Ev prog C A env o m σ₁ (fun X σ₂ => Ev prog C A env i m σ₂ (fun Y σ₃ => OpSet prog C A env X Y Z m σ₃ (fun σ₄ => Φ .next m σ₄)))))
    (hs : swapsWith e (some (.Subscript o i px)) pos.line env = pure false := by rfl) : Ex1 prog C A env (.Assign [.Subscript o i px] e pos) m σ Φ := fun s S =>
  wpAny_Assign_Subscript (Go.bind (h s S) (fun v s₁ Y σ₁ r S₁ y p => Go.bind (p s₁ S₁) (fun u s₂ X σ₂ r' S₂ z q => Go.bind (q s₂ S₂) (fun t s₃ Z σ₃ r'' S₃ z' q' =>
    Go.bind (q' s₃ u t v S₃ (r'.keepT (S₂.keepT z')) r'' ((r.keepT (S₁.keepT z)).keepT (S₂.keepT z'))) (fun _ s₄ _ σ₄ _ S₄ z'' q'' => ⟨.next, _, _, trivial, S₄, ((y.trans z).trans z').trans z'', q''⟩))))) hs
theorem st_augitem {e o i : Expr} {px : Pos} {op : Operator} (h : Ev prog C A env o m σ (fun X σ₁ => Ev prog C A env i m σ₁ (fun Y σ₂ => Op2 prog C A env RepV getItem X Y m σ₂ (fun Z σ₃ => Ev prog C A env e m σ₃ (fun U σ₄ =>
      Op2 prog C A env RepV (inplaceOp op) Z U m σ₄ (fun T σ₅ => OpSet prog C A env X Y T m σ₅ (fun σ₆ => Φ .next m σ₆)))))))
    (hs : ∀ (ov iv new : Value), augStore i ov iv new = (do
            holding [new, ov, iv] (setItem ov iv new)
            release [new, ov, iv] []
            pure Flow.next) := by intro _ _ _; rfl) : Ex1 prog C A env (.AugAssign (.Subscript o i px) op e pos) m σ Φ := fun s S =>
  wpAny_AugAssign_SubscriptAny (Go.bind (h s S) (fun v s₁ X σ₁ r S₁ y p => Go.bind (p s₁ S₁) (fun u s₂ Y σ₂ r2 S₂ y2 p2 => Go.bind (p2 s₂ v u S₂ (r.keepT (S₁.keepT y2)) r2) (fun old s₃ Z σ₃ r3 S₃ y3 p3 =>
    Go.bind (p3 s₃ S₃) (fun w s₄ U σ₄ r4 S₄ y4 p4 => Go.bind (p4 s₄ old w S₄ (r3.keepT (S₃.keepT y4)) r4) (fun new s₅ T σ₅ r5 S₅ y5 p5 =>
      wpAny_mono (p5 s₅ v u new S₅ (((((r.keepT (S₁.keepT y2)).keepT (S₂.keepT y3)).keepT (S₃.keepT y4))).keepT (S₄.keepT y5)) (((r2.keepT (S₂.keepT y3)).keepT (S₃.keepT y4)).keepT (S₄.keepT y5)) r5)
        (fun _ s₆ ⟨_, σ₆, _, S₆, y6, p6⟩ => ⟨.next, _, _, trivial, S₆, ((((y.trans y2).trans y3).trans y4).trans y5).trans y6, p6⟩) fun _ _ e => e)))))) hs
theorem st_if {t : Expr} {b₁ b₂ : List Stmt} (h : Ts prog C A env t m σ (fun b σ₁ => (b = true → Exs prog C A env b₁ m σ₁ Φ) ∧ (b = false → Exs prog C A env b₂ m σ₁ Φ))) : Ex1 prog C A env (.If t b₁ b₂ pos) m σ Φ := fun s S =>
  wpAny_If (Go.bind (h s S) (fun b s₁ b' σ₁ r S₁ y p => by
    cases r
    cases b with
    | true => exact wpAny_mono (p.1 rfl s₁ S₁) (fun _ _ z => GoSQ.from y z) fun _ _ e => e
    | false => exact wpAny_mono (p.2 rfl s₁ S₁) (fun _ _ z => GoSQ.from y z) fun _ _ e => e))
theorem st_return {e : Expr} (h : Ev prog C A env e m σ (fun X σ₁ => Φ (.ret X) m σ₁)) : Ex1 prog C A env (.Return (some e) pos) m σ Φ := fun s S =>
  wpAny_Return_some (Go.bind (h s S) (fun v s₁ X σ₁ r S₁ y p => ⟨.ret X, m, σ₁, r, S₁, y, p⟩))
theorem st_return0 (h : Φ (.ret (.d .none)) m σ) : Ex1 prog C A env (.Return none pos) m σ Φ := fun s S =>
  wpAny_Return_none (GoSQ.now (F := .ret (.d .none)) S repN h)
theorem st_continue (h : Φ .cont m σ) : Ex1 prog C A env (.Continue pos) m σ Φ := fun s S => wpAny_Continue (GoSQ.now (F := .cont) S trivial h)
theorem st_expr {e : Expr} (h : Ev prog C A env e m σ (fun X σ₁ => Φ .next m σ₁)) (hi : interactive env = false := by rfl) (hs : swapsWith e none pos.line env = pure false := by rfl) : Ex1 prog C A env (.Expr e pos) m σ Φ := fun s S =>
  wpAny_Expr_any (Go.bind (h s S) (fun v s₁ X σ₁ r S₁ y p => ⟨.next, m, σ₁, trivial, S₁, y, p⟩)) hi hs

/-- two names at once -/
theorem St.keepsTo {h' : Heap} {tk : Nat} (S : St prog C env m σ s) (k : Keeps s.heap h') : St prog C env m σ { s with heap := h', toks := tk } ∧ Ext env.locals σ s.heap σ h' := by
  obtain ⟨mp, F, Hm⟩ := S.fr
  obtain ⟨oL, es, ep, hL, r⟩ := F.ns
  obtain ⟨T, x⟩ := S.toSt0.keepsTo (tk := tk) k (Nat.le_trans F.above (Nat.le_of_lt (Heap.lt_size (k _ _ hL))))
  exact ⟨S.after T x, x.to S.hL⟩
theorem st_assign2 {e : Expr} {x y : Str} {px py tp : Pos} {n : Nat} (hR : Room A k) (h : Ev prog C A (envX cn cs L a ccd cl) e m σ (fun X σ₁ => ∃ d₁ d₂, X = .d (.tuple [d₁, d₂]) ∧ Φ .next ((m.set x (.d d₁)).set y (.d d₂)) σ₁))
    (hk : cs.kind = .function := by rfl) (hx : (envX cn cs L a ccd cl).kindOf x = some .local := by rfl) (hc : cl.lookup x = none := by rfl)
    (hy : (envX cn cs L a ccd cl).kindOf y = some .local := by rfl) (hc' : cl.lookup y = none := by rfl)
    (hs1 : swapsWithSole [.Tuple [.Name x px, .Name y py] n tp] e pos.line (envX cn cs L a ccd cl) = pure false := by rfl)
    (hs2 : swappedStores [.Tuple [.Name x px, .Name y py] n tp] e (envX cn cs L a ccd cl) = pure none := by rfl) :
    Ex1 prog C A (envX cn cs L a ccd cl) (.Assign [.Tuple [.Name x px, .Name y py] n tp] e pos) m σ Φ := fun s S => by
  refine Assign_Tuple (Go.bind (h s S) (fun v s₁ X σ₁ r S₁ z pp9 => ?_)) hs1 hs2
  obtain ⟨d₁, d₂, e, p⟩ := pp9
  subst e
  obtain ⟨t, vs, rfl, ht, rs⟩ := r.tup
  obtain ⟨o, ho, hc1, nn, hd⟩ := ht
  have hsz : vs.size = 2 := by have := rs.length; simpa using this
  refine wpAny_assign_Tuple hR.1 ⟨o, ho, hc1, nn, hd⟩ (by rw [hsz]; rfl) (by rfl) fun h' hk' => ?_
  have kp : Keeps s₁.heap h' := fun b o e => hk' b o (Nat.ne_of_lt (Heap.lt_size e)) e
  obtain ⟨S₂, z₂⟩ := S₁.keepsTo (tk := s₁.toks) kp
  have rs' := rs.keepT (Keeps.t kp)
  generalize hv : vs.toList = us at rs'
  rw [List.map_cons, List.map_cons, List.map_nil] at rs'
  cases rs' with
  | @cons v1 _ ws _ r1 rr =>
  cases rr with
  | @cons v2 _ ws _ r2 rr =>
  cases rr
  refine wpAny_assignInOrder_more (wpAny_assign_Name (store_go S₂ r1 hk hx hc fun s₃ S₃ z₃ => ?_))
  refine wpAny_assignInOrder_more (wpAny_assign_Name (store_go S₃ (r2.keepT (S₂.keepT z₃)) hk hy hc' fun s₄ S₄ z₄ => ?_))
  exact wpAny_assignInOrder_none ⟨.next, _, _, trivial, S₄, ((z.trans z₂).trans z₃).trans z₄, p⟩
end
end Mine
namespace Mine
section
variable {prog : Program} {K : Frag} {C : Cx} {A : Around} {env : Env} {m : Loc} {σ σ' : SH} {s : Shared} {Φ : SF → Loc → SH → Prop} {k : Nat} {pos np apos : Pos} {x : Str}

/-- behind a turn of a while -/
noncomputable def WhileK (I : Nat → Loc → SH → Prop) (n : Nat) (Φ : SF → Loc → SH → Prop) (F : SF) (m : Loc) (σ : SH) : Prop := match F with
  | .next => ∃ n', n' < n ∧ I n' m σ
  | .cont => ∃ n', n' < n ∧ I n' m σ
  | .brk => Φ .next m σ
  | .ret X => Φ (.ret X) m σ
theorem st_while {t : Expr} {b : List Stmt} (I : Nat → Loc → SH → Prop) (n : Nat) (h0 : I n m σ)
    (step : ∀ n m σ, I n m σ → Ts prog C A env t m σ (fun c σ₁ => (c = true → Exs prog C A env b m σ₁ (WhileK I n Φ)) ∧ (c = false → Φ .next m σ₁))) : Ex1 prog C A env (.While t b [] pos) m σ Φ := fun s S => by
  refine wpAny_While (codeAny_whileLoop (fun n s' => ∃ m' σ', I n m' σ' ∧ St prog C env m' σ' s' ∧ Ext env.locals σ s.heap σ' s'.heap) ?_ n ⟨m, σ, h0, S, Ext.refl σ S.hL⟩)
  rintro n s' ⟨m', σ', hI, S', y⟩
  refine Go.bind (step n m' σ' hI s' S') (fun c s₁ c' σ₁ r S₁ z p => ?_)
  cases r
  cases c with
  | true =>
    refine GoS.bind (p.1 rfl s₁ S₁) (fun f s₂ F m₂ σ₂ r S₂ z₂ p₂ => ?_)
    cases f <;> cases F <;> first
      | exact r.elim
      | (obtain ⟨n', hn, hI'⟩ := p₂; exact ⟨n', hn, m₂, σ₂, hI', S₂, (y.trans z).trans z₂⟩)
      | exact ⟨.next, m₂, σ₂, trivial, S₂, (y.trans z).trans z₂, p₂⟩
      | exact ⟨_, m₂, σ₂, r, S₂, (y.trans z).trans z₂, p₂⟩
  | false => exact wpAny_execs_nil ⟨.next, m', σ₁, trivial, S₁, y.trans z, p.2 rfl⟩

/-- a for, item by item -/
noncomputable def ForL (prog : Program) (C : Cx) (A : Around) (env : Env) (P : SH → Prop) (x : Str) (b : List Stmt) : List V → Loc → SH → (SF → Loc → SH → Prop) → Prop
  | [], m, σ, Φ => P σ ∧ Φ .next m σ
  | X :: r, m, σ, Φ => P σ ∧ Exs prog C A env b (m.set x X) σ (fun F m' σ' => match F with
      | .next => ForL prog C A env P x b r m' σ' Φ
      | .cont => ForL prog C A env P x b r m' σ' Φ
      | .brk => Φ .next m' σ'
      | .ret Y => Φ (.ret Y) m' σ')
theorem ForL.p {P : SH → Prop} {b : List Stmt} {xs : List V} (h : ForL prog C A env P x b xs m σ Φ) : P σ := by
  cases xs with
  | nil => exact h.1
  | cons _ _ => exact h.1

/-- an iterator at it, rest to come -/
structure IterK (prog : Program) (C : Cx) (A : Around) (it : Addr) (P : SH → Prop) (J : List V → Heap → Prop) : Prop where
  step : ∀ {X r σ s}, St0 prog C σ s → P σ → J (X :: r) s.heap → wpAny (model prog C.w) A (pyNext (.ref it)) (fun o s' => ∃ v h' tk, o = some v ∧ s' = { s with heap := h', toks := tk } ∧ RepV h' v X ∧ Heap.SameBut it s.heap h' ∧ J r h') (fun _ _ => False) s
  fin : ∀ {σ s}, St0 prog C σ s → P σ → J [] s.heap → wpAny (model prog C.w) A (pyNext (.ref it)) (fun o s' => o = none ∧ ∃ h', s' = { s with heap := h' } ∧ Heap.ExtBut it s.heap h') (fun _ _ => False) s
  stable : ∀ {r h h'}, J r h → h'.get? it = h.get? it → KeepT h h' → J r h'
  noT : ∀ {r h o}, J r h → h.get? it = some o → o.cls ≠ .type "tuple"
  noC : ∀ {r h o}, J r h → h.get? it = some o → ∀ v, o.data ≠ .cell v
  here : ∀ {r h}, J r h → ∃ o, h.get? it = some o

/-- only the object at it is another -/
theorem St.but {it : Addr} {h' : Heap} {tk : Nat} (S : St prog C env m σ s) (hs : Heap.ExtBut it s.heap h') (h1 : σ it = none) (h2 : it ≠ env.locals) (h3 : C.h₀.get? it = none)
    (h4 : ∀ o, s.heap.get? it = some o → o.cls ≠ .type "tuple") (h5 : ∀ o, s.heap.get? it = some o → ∀ v, o.data ≠ .cell v) : St prog C env m σ { s with heap := h', toks := tk } := by
  obtain ⟨mp, F, Hm⟩ := S.fr
  have kp : ∀ b o, b ≠ it → s.heap.get? b = some o → h'.get? b = some o := fun b o hb e => hs b o hb e
  have kt : KeepT s.heap h' := fun b o e hc hd => kp b o (fun q => by subst q; exact h4 o e hc) e
  obtain ⟨oL, es, ep, hL, r⟩ := F.ns
  refine ⟨⟨?_, fun b o e => kp b o (fun q => by subst q; rw [h3] at e; cases e) (S.keep b o e), S.new, fun a so e => (S.rep a so e).mono kt fun o e' => kp a o (fun q => by subst q; rw [h1] at e; cases e) e', S.gens, S.drawn, S.os⟩,
    ⟨mp, ⟨⟨oL, es, ep, kp _ _ (Ne.symm h2) hL, r⟩, fun b o e => kp b o (fun q => by subst q; rw [h3] at e; cases e) (S.keep b o e), F.above⟩, fun y Y hy => ?_⟩, S.off⟩
  · exact Nat.le_trans F.above (Nat.le_of_lt (Heap.lt_size (kp _ _ (Ne.symm h2) hL)))
  · have z := Hm y Y hy
    unfold Has at z ⊢
    split
    · rename_i e; rw [e] at z
      obtain ⟨w, e1, e2⟩ := z
      exact ⟨w, e1, e2.keepT kt⟩
    · rename_i c e; rw [e] at z
      obtain ⟨n, w, o, e1, e2, e3⟩ := z
      exact ⟨n, w, o, kp _ _ (fun q => by subst q; exact h5 o e1 _ e2) e1, e2, e3.keepT kt⟩
theorem Ext.but {L it : Addr} {h h₁ h' : Heap} (x : Ext L σ h σ' h₁) (hs : Heap.ExtBut it h₁ h') (hn : h.get? it = none) : Ext L σ h σ' h' :=
  ⟨fun a o h1 h2 e => hs a o (fun q => by subst q; rw [hn] at e; cases e) (x.keep a o h1 h2 e), x.new, x.L⟩

variable {cn : Str} {cs : Scope} {L a : Addr} {ccd : Value} {cl : List (Str × Addr)}
theorem for_loop {it : Addr} {P : SH → Prop} {J : List V → Heap → Prop} {xs : List V} {b : List Stmt} {px : Pos} {s₀ : Shared} {σ₀ : SH} (I : IterK prog C A it P J)
    (S : St prog C (envX cn cs L a ccd cl) m σ s) (y : Ext L σ₀ s₀.heap σ s.heap) (hn : s₀.heap.get? it = none) (hσ : σ it = none) (hL : it ≠ L) (h0 : C.h₀.get? it = none) (hJ : J xs s.heap)
    (h : ForL prog C A (envX cn cs L a ccd cl) P x b xs m σ Φ)
    (hk : cs.kind = .function) (hx : (envX cn cs L a ccd cl).kindOf x = some .local) (hc : cl.lookup x = none) :
    codeAny (model prog C.w) A (.forLoop (.Name x px) (.ref it) b [] (envX cn cs L a ccd cl)) (fun r s' => match r with | .ok f => GoSQ prog C (envX cn cs L a ccd cl) σ₀ s₀ Φ f s' | .error e => cameBackBy (model prog C.w) A (envX cn cs L a ccd cl) (fun _ _ => False) e s') s := by
  refine codeAny_forLoop (fun n s' => ∃ xs m' σ', n = xs.length ∧ St prog C (envX cn cs L a ccd cl) m' σ' s' ∧ Ext L σ₀ s₀.heap σ' s'.heap ∧ σ' it = none ∧ J xs s'.heap ∧ ForL prog C A (envX cn cs L a ccd cl) P x b xs m' σ' Φ) ?_ xs.length ⟨xs, m, σ, rfl, S, y, hσ, hJ, h⟩ (by intro v; rfl)
  rintro n s' ⟨xs, m', σ', rfl, S', y', hσ', hJ', hF⟩
  cases xs with
  | nil =>
    refine wpAny_mono (I.fin S'.toSt0 hF.1 hJ') (fun o s₁ ⟨e, h', e', hs⟩ => ?_) fun _ _ e => e.elim
    subst e; subst e'
    have S₁ := S'.but (tk := s'.toks) hs hσ' hL h0 (fun o e => I.noT hJ' e) (fun o e => I.noC hJ' e)
    exact wpAny_execs_nil ⟨.next, m', σ', trivial, S₁, y'.but hs hn, hF.2⟩
  | cons X r =>
    refine wpAny_mono (I.step S'.toSt0 hF.1 hJ') (fun o s₁ ⟨v, h', tk, e, e', rv, hs, hJ₁⟩ => ?_) fun _ _ e => e.elim
    subst e; subst e'
    have S₁ := S'.but (tk := tk) (fun b o hb e => (hs.2 b hb).trans e) hσ' hL h0 (fun o e => I.noT hJ' e) (fun o e => I.noC hJ' e)
    have y₁ := y'.but (fun b o hb e => (hs.2 b hb).trans e) hn
    refine wpAny_assign_Name (store_go S₁ rv hk hx hc fun s₂ S₂ z₂ => ?_)
    have itk : ∀ {σ₁ : SH} {h₁ : Heap}, Ext L σ' h' σ₁ h₁ → σ₁ it = none ∧ h₁.get? it = h'.get? it := fun {σ₁ h₁} x => by
      obtain ⟨o, e⟩ := I.here hJ₁
      refine ⟨?_, (x.keep it o hL hσ' e).trans e.symm⟩
      cases q : σ₁ it with
      | none => rfl
      | some so =>
        rcases x.new it (by rw [q]; simp) with u | u
        · exact absurd hσ' u
        · rw [e] at u; cases u
    refine GoS.bind (hF.2 s₂ S₂) (fun f s₃ F m₃ σ₃ r S₃ z₃ p => ?_)
    have hb := itk (z₂.trans z₃)
    have hJ₃ := I.stable hJ₁ hb.2 (S₁.keepT (z₂.trans z₃))
    cases f <;> cases F <;> first
      | exact r.elim
      | exact ⟨_, Nat.lt_succ_self _, _, m₃, σ₃, rfl, S₃, (y₁.trans z₂).trans z₃, hb.1, hJ₃, p⟩
      | exact ⟨.next, m₃, σ₃, trivial, S₃, (y₁.trans z₂).trans z₃, p⟩
      | exact ⟨_, m₃, σ₃, r, S₃, (y₁.trans z₂).trans z₃, p⟩

-- tuples
theorem iter_tuple {t it : Addr} {vs : Array Value} {n : Nat} (hR : Room A k) : IterK prog C A it (fun _ => True) (fun r h => ∃ i xs, h.IsTupleIter it t i ∧ (∃ o, h.get? t = some o ∧ o.cls = .type "tuple" ∧ o.data = .seq vs n) ∧ RepVs h vs.toList xs ∧ r = xs.drop i) where
  step := fun {X r σ s} S _ jj9 => by
    obtain ⟨i, xs, h1, ⟨o, e1, e2, e3⟩, rs, e⟩ := jj9
    have hx : xs[i]? = some X := by
      have := congrArg (fun l : List V => l[0]?) e
      simpa using this.symm
    obtain ⟨v, e4, rv⟩ := rs.get hx
    refine wpAny_pyNext_tuple_item h1 ⟨o, e1, e2, n, e3⟩ (by simpa using e4) fun h' h1' hs => ⟨v, h', s.toks, rfl, rfl, ?_⟩
    have kt : KeepT s.heap h' := fun b o' e' hc hd => by
      rw [hs.2 b (fun q => ?_)]; exact e'
      subst q
      obtain ⟨o2, f1, f2, _⟩ := h1
      rw [e'] at f1; cases f1; rw [hc] at f2; simp at f2
    refine ⟨rv.keepT kt, hs, i + 1, xs, h1', ⟨o, kt _ _ e1 e2 ⟨_, _, e3⟩, e2, e3⟩, rs.keepT kt, ?_⟩
    have := congrArg List.tail e
    simpa using this
  fin := fun {σ s} S _ jj9 => by
    obtain ⟨i, xs, h1, ⟨o, e1, e2, e3⟩, rs, e⟩ := jj9
    refine wpAny_pyNext_tuple_end hR.1 h1 ⟨o, e1, e2, n, e3⟩ ?_ fun h' hs => ⟨rfl, h', rfl, hs⟩
    have := List.drop_eq_nil_iff.mp e.symm
    rw [Array.getElem?_eq_none]
    rw [← Array.length_toList, rs.length]
    exact this
  stable := fun {r h h'} ⟨i, xs, jj9, ⟨o, e1, e2, e3⟩, rs, e⟩ hi kt => by obtain ⟨o2, f1, f2, f3⟩ := jj9; exact ⟨i, xs, ⟨o2, hi.trans f1, f2, f3⟩, ⟨o, kt _ _ e1 e2 ⟨_, _, e3⟩, e2, e3⟩, rs.keepT kt, e⟩
  noT := fun {r h o'} ⟨i, xs, jj9, _⟩ e => by obtain ⟨o2, f1, f2, f3⟩ := jj9; rw [e] at f1; cases f1; rw [f2]; simp
  noC := fun {r h o'} ⟨i, xs, jj9, _⟩ e => by obtain ⟨o2, f1, f2, f3⟩ := jj9; rw [e] at f1; cases f1; rw [f3]; simp
  here := fun {r h} ⟨i, xs, jj9, _⟩ => by obtain ⟨o2, f1, _⟩ := jj9; exact ⟨o2, f1⟩
theorem for_from {c : Code} {σ₁ : SH} {s₁ s' : Shared} (y : Ext env.locals σ s.heap σ₁ s₁.heap)
    (h : codeAny (model prog C.w) A c (fun r s' => match r with | .ok f => GoSQ prog C env σ₁ s₁ Φ f s' | .error e => cameBackBy (model prog C.w) A env (fun _ _ => False) e s') s') :
    codeAny (model prog C.w) A c (fun r s' => match r with | .ok f => GoSQ prog C env σ s Φ f s' | .error e => cameBackBy (model prog C.w) A env (fun _ _ => False) e s') s' :=
  codeAny_mono h fun r s'' q => by
    cases r with
    | ok f => exact GoSQ.from y q
    | error e => exact q
theorem St.pushT (S : St prog C env m σ s) (o : Obj) : St prog C env m σ { s with heap := s.heap.push o } ∧ Ext env.locals σ s.heap σ (s.heap.push o) :=
  S.keepsTo (tk := s.toks) fun b o' e => Heap.get?_push_of_some _ e
theorem St0.size_ne (S : St prog C env m σ s) : s.heap.objs.size ≠ env.locals := fun q => by
  obtain ⟨o, e⟩ := S.hL
  exact absurd (Heap.lt_size e) (by rw [q]; exact Nat.lt_irrefl _)
theorem st_for_tuple {iter : Expr} {b : List Stmt} {px : Pos} (hR : Room A k) (h : Ev prog C A (envX cn cs L a ccd cl) iter m σ (fun X σ₁ => ∃ ds, X = .d (.tuple ds) ∧ ForL prog C A (envX cn cs L a ccd cl) (fun _ => True) x b (ds.map V.d) m σ₁ Φ))
    (hk : cs.kind = .function := by rfl) (hx : (envX cn cs L a ccd cl).kindOf x = some .local := by rfl) (hc : cl.lookup x = none := by rfl)
    (hf : ∀ v, foldedSetIterable iter (envX cn cs L a ccd cl) v = pure v := by intro _; rfl) :
    Ex1 prog C A (envX cn cs L a ccd cl) (.For (.Name x px) iter b [] pos) m σ Φ := fun s S => by
  refine wpAny_For (Go.bind (h s S) (fun v s₁ X σ₁ r S₁ y pp9 => ?_)) hf
  obtain ⟨ds, e, p⟩ := pp9
  subst e
  obtain ⟨t, vs, rfl, ⟨o, e1, e2, n, e3⟩, rs⟩ := r.tup
  refine wpAny_pyIter_tuple ⟨o, e1, e2, n, e3⟩ ?_
  obtain ⟨S₂, z₂⟩ := S₁.pushT { cls := .type "tuple_iterator", data := .fields #[.ref t, .int 0 0] }
  have kp : Keeps s₁.heap (s₁.heap.push { cls := .type "tuple_iterator", data := .fields #[.ref t, .int 0 0] }) := fun b o' e => Heap.get?_push_of_some _ e
  exact for_from y (for_loop (s₀ := s₁) (σ₀ := σ₁) (iter_tuple (t := t) (vs := vs) (n := n) hR) S₂ z₂ (get?_size _) S₁.toSt0.freshNone (St0.size_ne S₁) (S₁.toSt0.h₀none (get?_size _)) ⟨0, _, ⟨_, Heap.get?_push_size _ rfl, rfl, rfl⟩, ⟨o, kp _ _ e1, e2, e3⟩, rs.keepT (Keeps.t kp), rfl⟩ p hk hx hc)

-- ranges
noncomputable def rangeL (a c : Int) : Nat → List Int
  | 0 => []
  | n + 1 => a :: rangeL (a + c) c n
theorem iter_range {it : Addr} {c : Int} (hR : Room A k) : IterK prog C A it (fun _ => True) (fun r h => ∃ x n, IsRangeIter h it x (n : Nat) c ∧ r = (rangeL x c n).map fun i => V.d (.int i)) where
  step := fun {X r σ s} S _ jj9 => by
    obtain ⟨x, n, h1, e⟩ := jj9
    cases n with
    | zero => cases e
    | succ n =>
      obtain ⟨e1, e2⟩ := List.cons.inj e
      refine wpAny_pyNext_range_item h1 (by (first | lia | omega)) fun h' h1' hs => ⟨_, h', _, rfl, rfl, ?_, hs, x + c, n, ?_, e2⟩
      · rw [e1]; exact repI _ _
      · have : ((n + 1 : Nat) : Int) - 1 = (n : Int) := by (first | lia | omega)
        rw [this] at h1'; exact h1'
  fin := fun {σ s} S _ jj9 => by
    obtain ⟨x, n, h1, e⟩ := jj9
    cases n with
    | zero => exact wpAny_pyNext_range_end hR.1 h1 (by (first | lia | omega)) fun h' hs => ⟨rfl, h', rfl, hs⟩
    | succ n => cases e
  stable := fun {r h h'} jj9 hi kt => by obtain ⟨x, n, h1, e⟩ := jj9; exact ⟨x, n, hi.trans h1, e⟩
  noT := fun {r h o'} jj9 e => by obtain ⟨x, n, h1, _⟩ := jj9; rw [h1] at e; cases e; simp
  noC := fun {r h o'} jj9 e => by obtain ⟨x, n, h1, _⟩ := jj9; rw [h1] at e; cases e; simp
  here := fun {r h} jj9 => by obtain ⟨x, n, h1, _⟩ := jj9; exact ⟨_, h1⟩
theorem st_for_range {nm : Str} {iter : Expr} {b : List Stmt} {px : Pos} (hR : Room A k) (h : Ev prog C A (envX cn cs L a ccd cl) iter m σ (fun X σ₁ => ∃ d x y z n, X = .c (.ref d) ∧ σ₁ d = some (.range x y z) ∧ Builtin.Range.small x y z = true ∧ Builtin.Range.rangeSize x y z = (n : Nat) ∧
      ForL prog C A (envX cn cs L a ccd cl) (fun _ => True) nm b ((rangeL x z n).map fun i => V.d (.int i)) m σ₁ Φ))
    (hk : cs.kind = .function := by rfl) (hx : (envX cn cs L a ccd cl).kindOf nm = some .local := by rfl) (hc : cl.lookup nm = none := by rfl)
    (hf : ∀ v, foldedSetIterable iter (envX cn cs L a ccd cl) v = pure v := by intro _; rfl) :
    Ex1 prog C A (envX cn cs L a ccd cl) (.For (.Name nm px) iter b [] pos) m σ Φ := fun s S => by
  refine wpAny_For (Go.bind (h s S) (fun v s₁ X σ₁ r S₁ y pp9 => ?_)) hf
  obtain ⟨d, x1, y1, z1, n, e, ed, hs, hn, p⟩ := pp9
  subst e
  cases r.ref
  obtain ⟨t, u, w, hr⟩ := S₁.rep d _ ed
  refine wpAny_pyIter_range hr hs ?_
  obtain ⟨S₂, z₂⟩ := S₁.pushT { cls := .type "range_iterator", data := .fields #[rawInt x1, rawInt (Builtin.Range.rangeSize x1 y1 z1), rawInt z1] }
  refine for_from y (for_loop (s₀ := s₁) (σ₀ := σ₁) (iter_range (c := z1) hR) S₂ z₂ (get?_size _) S₁.toSt0.freshNone (St0.size_ne S₁) (S₁.toSt0.h₀none (get?_size _)) ⟨x1, n, ?_, rfl⟩ p hk hx hc)
  show Heap.get? _ _ = _
  rw [← hn]
  exact Heap.get?_push_size _ rfl

-- lists that stay as they are
theorem iter_list {l it : Addr} {xs : List V} (hR : Room A k) : IterK prog C A it (fun σ => σ l = some (.list xs)) (fun r h => ∃ i, h.IsListIter it l i ∧ r = xs.drop i) where
  step := fun {X r σ s} S hP jj9 => by
    obtain ⟨i, h1, e⟩ := jj9
    have hx : xs[i]? = some X := by
      have := congrArg (fun l : List V => l[0]?) e
      simpa using this.symm
    obtain ⟨vs, n, p, rs⟩ := S.list hP
    obtain ⟨v, e4, rv⟩ := rs.get hx
    refine wpAny_pyNext_list_item h1 (items := vs.toArray) ⟨_, p, rfl, n, rfl⟩ (by simpa using e4) fun h' h1' hs => ⟨v, h', s.toks, rfl, rfl, ?_⟩
    have kt : KeepT s.heap h' := fun b o' e' hc hd => by
      rw [hs.2 b (fun q => ?_)]; exact e'
      subst q
      obtain ⟨o2, f1, f2, _⟩ := h1
      rw [e'] at f1; cases f1; rw [hc] at f2; simp at f2
    refine ⟨rv.keepT kt, hs, i + 1, h1', ?_⟩
    have := congrArg List.tail e
    simpa using this
  fin := fun {σ s} S hP jj9 => by
    obtain ⟨i, h1, e⟩ := jj9
    obtain ⟨vs, n, p, rs⟩ := S.list hP
    refine wpAny_pyNext_list_end hR.1 h1 (items := vs.toArray) ⟨_, p, rfl, n, rfl⟩ ?_ fun h' hs => ⟨rfl, h', rfl, hs⟩
    have := List.drop_eq_nil_iff.mp e.symm
    rw [Array.getElem?_eq_none]
    rw [List.size_toArray, rs.length]
    exact this
  stable := fun {r h h'} jj9 hi kt => by obtain ⟨i, ⟨o2, f1, f2, f3⟩, e⟩ := jj9; exact ⟨i, ⟨o2, hi.trans f1, f2, f3⟩, e⟩
  noT := fun {r h o'} jj9 e => by obtain ⟨i, ⟨o2, f1, f2, f3⟩, _⟩ := jj9; rw [e] at f1; cases f1; rw [f2]; simp
  noC := fun {r h o'} jj9 e => by obtain ⟨i, ⟨o2, f1, f2, f3⟩, _⟩ := jj9; rw [e] at f1; cases f1; rw [f3]; simp
  here := fun {r h} jj9 => by obtain ⟨i, ⟨o2, f1, _⟩, _⟩ := jj9; exact ⟨o2, f1⟩
theorem st_for_list {iter : Expr} {b : List Stmt} {px : Pos} (hR : Room A k) (h : Ev prog C A (envX cn cs L a ccd cl) iter m σ (fun X σ₁ => ∃ l xs, X = .c (.ref l) ∧
      ForL prog C A (envX cn cs L a ccd cl) (fun σ => σ l = some (.list xs)) x b xs m σ₁ Φ))
    (hk : cs.kind = .function := by rfl) (hx : (envX cn cs L a ccd cl).kindOf x = some .local := by rfl) (hc : cl.lookup x = none := by rfl)
    (hf : ∀ v, foldedSetIterable iter (envX cn cs L a ccd cl) v = pure v := by intro _; rfl) :
    Ex1 prog C A (envX cn cs L a ccd cl) (.For (.Name x px) iter b [] pos) m σ Φ := fun s S => by
  refine wpAny_For (Go.bind (h s S) (fun v s₁ X σ₁ r S₁ y pp9 => ?_)) hf
  obtain ⟨l, xs, e, p⟩ := pp9
  subst e
  cases r.ref
  obtain ⟨vs, n, q, rs⟩ := S₁.toSt0.list p.p
  refine wpAny_pyIter_list (items := vs.toArray) ⟨_, q, rfl, n, rfl⟩ ?_
  obtain ⟨S₂, z₂⟩ := S₁.pushT { cls := .type "list_iterator", data := .fields #[.ref l, .int 0 0] }
  exact for_from y (for_loop (s₀ := s₁) (σ₀ := σ₁) (iter_list (l := l) (xs := xs) hR) S₂ z₂ (get?_size _) S₁.toSt0.freshNone (St0.size_ne S₁) (S₁.toSt0.h₀none (get?_size _)) ⟨0, ⟨_, Heap.get?_push_size _ rfl, rfl, rfl⟩, rfl⟩ p hk hx hc)
end
end Mine
namespace Mine
section
variable {prog : Program} {K : Frag} {C : Cx} {A : Around} {env : Env} {m : Loc} {σ σ' : SH} {s : Shared} {Φ : V → SH → Prop} {Ψ : SF → Loc → SH → Prop} {k : Nat} {pos np apos : Pos} {x : Str}

theorem RepVs.drop {h : Heap} {vs : List Value} {xs : List V} (r : RepVs h vs xs) : ∀ k, RepVs h (vs.drop k) (xs.drop k) := by
  induction r with
  | nil => intro k; simp; exact .nil
  | cons a b ih =>
    intro k
    cases k with
    | zero => exact .cons a b
    | succ k => exact ih k
theorem RepVs.take {h : Heap} {vs : List Value} {xs : List V} (r : RepVs h vs xs) : ∀ k, RepVs h (vs.take k) (xs.take k) := by
  induction r with
  | nil => intro k; simp; exact .nil
  | cons a b ih =>
    intro k
    cases k with
    | zero => exact .nil
    | succ k => exact .cons a (ih k)
/-- xs[k:] -/
theorem ev_sliceFrom {e i : Expr} {p : Pos} (W : Wd prog K C) (h : Ev prog C A env e m σ (fun X σ₁ => Ev prog C A env i m σ₁ (fun Y σ₂ => ∃ l xs k, X = .c (.ref l) ∧ Y = .d (.int (k : Nat)) ∧ σ₂ l = some (.list xs) ∧ xs.length ≤ 1000 ∧
      ∀ b, σ₂ b = none → Φ (.c (.ref b)) (σ₂.set b (.list (xs.drop k))))))
    (ht : ∀ o r, letTemporaryGo e o r = pure () := by intro _ _; rfl) : Ev prog C A env (.Subscript e (.Slice (some i) none none p) pos) m σ Φ := fun s S => by
  refine wpAny_Subscript_list_slice (Go.bind (h s S) (fun v s₁ X σ₁ r S₁ y q => ?_)) ht
  refine wpAny_evalPart_some (Go.bind (q s₁ S₁) (fun u s₂ Y σ₂ r' S₂ z pp9 => ?_))
  obtain ⟨l, xs, k, eX, eY, el, hn, hΦ⟩ := pp9
  refine wpAny_evalPart_none ?_
  subst eX; subst eY
  cases r.ref
  obtain ⟨t, rfl⟩ := r'.int
  obtain ⟨vs, n, p, rs⟩ := S₂.toSt0.list el
  refine ⟨l, vs.toArray, some k, none, rfl, ⟨_, p, rfl, n, rfl⟩, by rw [List.size_toArray, rs.length, sizeLine_eq]; (first | lia | omega), .int _ _, .none, ?_⟩
  rw [slicePick_from']
  obtain ⟨S₃, z₃⟩ := S₂.pushT { cls := .type "slice", data := .fields #[.int k t, .none, .none] }
  have kp : Keeps s₂.heap (s₂.heap.push { cls := .type "slice", data := .fields #[.int k t, .none, .none] }) := fun b o e => Heap.get?_push_of_some _ e
  have kp' : Keeps (s₂.heap.push { cls := .type "slice", data := .fields #[.int k t, .none, .none] }) ((s₂.heap.push { cls := .type "slice", data := .fields #[.int k t, .none, .none] }).push { cls := .type "list", data := .seq (vs.drop k).toArray }) := fun b o e => Heap.get?_push_of_some _ e
  obtain ⟨T, x⟩ := S₃.toSt0.add (s' := { s₂ with heap := (s₂.heap.push { cls := .type "slice", data := .fields #[.int k t, .none, .none] }).push { cls := .type "list", data := .seq (vs.drop k).toArray } })
    (so := .list (xs.drop k)) kp' (get?_size _) (S₃.toSt0.fresh W) (by rw [Heap.size_push (h := _) (o := { cls := .type "list", data := .seq (vs.drop k).toArray })]; exact Nat.le_succ _) ⟨vs.drop k, ⟨0, Heap.get?_push_size _ rfl⟩, ((rs.drop k).keepT (Keeps.t kp)).keepT (Keeps.t kp')⟩ rfl rfl rfl
  have hb := hΦ _ S₃.toSt0.freshNone
  have e : (s₂.heap.push { cls := .type "slice", data := .fields #[.int k t, .none, .none] }).objs.size = s₂.heap.objs.size + 1 := Heap.size_push _ _
  simp only [e] at T x hb
  exact ⟨_, _, repR _, S₃.after T x, ((y.trans z).trans z₃).trans (x.to S₃.hL), hb⟩
theorem ints_rep {h : Heap} {vs : List Value} {is : List Int} (hi : IntsAre vs is) : RepVs h vs (is.map fun i => V.d (.int i)) := by
  induction hi with
  | nil => exact .nil
  | cons i t _ ih => exact .cons (repI _ _) ih
/-- script[:80], a list of the base -/
theorem ev_slice80 {e : Expr} {p p' : Pos} {n : Nat} {l : Addr} {vs : List Value} {is : List Int} (W : Wd prog K C) (hl : C.h₀.IsList l vs.toArray) (hi : IntsAre vs is) (hn : is.length ≤ 63)
    (h : Ev prog C A env e m σ (fun X σ₁ => X = .c (.ref l) ∧ ∀ b, σ₁ b = none → Φ (.c (.ref b)) (σ₁.set b (.list (is.map fun i => .d (.int i))))))
    (ht : ∀ o r, letTemporaryGo e o r = pure () := by intro _ _; rfl) : Ev prog C A env (.Subscript e (.Slice none (some (.Constant (.int 80) n p')) none p) pos) m σ Φ := fun s S => by
  refine wpAny_Subscript_list_slice (Go.bind (h s S) (fun v s₁ X σ₁ r S₁ y pp9 => ?_)) ht
  obtain ⟨eX, hΦ⟩ := pp9
  refine wpAny_evalPart_none (wpAny_evalPart_some (wpAny_Constant_int ?_))
  subst eX
  cases r.ref
  have S₂ := S₁.toks (s₁.toks + 1)
  have hlen : vs.length = is.length := by rw [← IntsAre.length hi]
  have hl' : s₁.heap.IsList l vs.toArray := let ⟨o, ho, r⟩ := hl; ⟨o, S₁.keep _ _ ho, r⟩
  refine ⟨l, vs.toArray, none, some 80, rfl, hl', by rw [List.size_toArray, sizeLine_eq]; (first | lia | omega), .none, .int _ _, ?_⟩
  have ep : slicePick vs.toArray none (some 80) none = vs.toArray := by
    have := slicePick_upto' vs.toArray 80
    rw [show ((80 : Nat) : Int) = 80 from rfl] at this
    rw [this]
    simp only [List.toList_toArray]
    rw [List.take_of_length_le (by (first | lia | omega))]
  rw [ep]
  have rs : ∀ h : Heap, RepVs h vs (is.map fun i => V.d (.int i)) := fun h => ints_rep hi
  obtain ⟨S₃, z₃⟩ := S₂.pushT { cls := .type "slice", data := .fields #[.none, .int 80 s₁.toks, .none] }
  have kp' : Keeps (s₁.heap.push { cls := .type "slice", data := .fields #[.none, .int 80 s₁.toks, .none] }) ((s₁.heap.push { cls := .type "slice", data := .fields #[.none, .int 80 s₁.toks, .none] }).push { cls := .type "list", data := .seq vs.toArray }) := fun b o e => Heap.get?_push_of_some _ e
  obtain ⟨T, x⟩ := S₃.toSt0.add (s' := { s₁ with toks := s₁.toks + 1, heap := (s₁.heap.push { cls := .type "slice", data := .fields #[.none, .int 80 s₁.toks, .none] }).push { cls := .type "list", data := .seq vs.toArray } })
    (so := .list (is.map fun i => V.d (.int i))) kp' (get?_size _) (S₃.toSt0.fresh W) (by rw [Heap.size_push (h := _) (o := { cls := .type "list", data := .seq vs.toArray })]; exact Nat.le_succ _) ⟨vs, ⟨0, Heap.get?_push_size _ rfl⟩, rs _⟩ rfl rfl rfl
  have hb := hΦ _ S₃.toSt0.freshNone
  have e : (s₁.heap.push { cls := .type "slice", data := .fields #[.none, .int 80 s₁.toks, .none] }).objs.size = s₁.heap.objs.size + 1 := Heap.size_push _ _
  simp only [e] at T x hb
  exact ⟨_, _, repR _, S₃.after T x, (y.trans z₃).trans (x.to S₃.hL), hb⟩

-- del xs[k:]
noncomputable def mySel (start stop step : Int) (i : Nat) : Bool :=
  if step > 0 then start ≤ i && i < stop && (i - start) % step == 0
  else stop < i && i ≤ start && (start - i) % (-step) == 0
theorem cut_from {α : Type} (k : Nat) : ∀ (l : List α) (j : Nat) , (l.zipIdx j).filterMap (fun p => if mySel (k : Nat) ((j + l.length : Nat) : Int) 1 p.2 then none else some p.1) = l.take (k - j)
  | [], j => by simp
  | x :: l, j => by
    have ih := cut_from k l (j + 1)
    have e : j + (x :: l).length = j + 1 + l.length := (Nat.add_right_comm j 1 l.length).symm
    rw [List.zipIdx_cons, List.filterMap_cons, e, ih]
    have hs : mySel (k : Nat) ((j + 1 + l.length : Nat) : Int) 1 j = decide (k ≤ j) := by
      unfold mySel
      rw [if_pos (by decide)]
      have h2 : ((j : Int) < ((j + 1 + l.length : Nat) : Int)) := Int.ofNat_lt.mpr (Nat.lt_of_lt_of_le (Nat.lt_succ_self j) (Nat.le_add_right _ _))
      have h3 : (((j : Int) - (k : Nat)) % 1 == 0) = true := by rw [Int.emod_one]; rfl
      rw [h3, Bool.and_true, decide_eq_true h2, Bool.and_true]
      rw [Bool.eq_iff_iff, decide_eq_true_eq, decide_eq_true_eq]
      exact Int.ofNat_le
    dsimp only
    rw [hs]
    by_cases c : k ≤ j
    · rw [if_pos (by simpa using c)]
      dsimp only
      rw [show k - (j + 1) = 0 from Nat.sub_eq_zero_of_le (Nat.le_succ_of_le c), show k - j = 0 from Nat.sub_eq_zero_of_le c]
      simp
    · rw [if_neg (by simpa using c)]
      dsimp only
      rw [show k - j = (k - (j + 1)) + 1 from (Nat.succ_pred_eq_of_pos (Nat.sub_pos_of_lt (Nat.lt_of_not_le c))).symm, List.take_succ_cons]
theorem cut_arr (vs : List Value) (kk : Nat) : ((vs.toArray.toList.zipIdx).filterMap (fun p => if mySel (kk : Nat) (vs.length : Nat) 1 p.2 then none else some p.1)).toArray = (vs.take kk).toArray := by
  have := cut_from kk vs 0
  rw [Nat.zero_add, Nat.sub_zero] at this
  rw [← this]
theorem bounds_from (k n : Nat) (h : k ≤ n) : sliceBounds (some (k : Int)) none none n = ((k : Int), (n : Int), 1) := by
  simp only [sliceBounds, Option.getD_none]
  have h1 : ¬ ((k : Int) < 0) := Int.not_lt.mpr (Int.natCast_nonneg k)
  simp only [h1, if_false, show (1 : Int) > 0 by decide, if_true]
  congr 1
  rw [Int.min_eq_left (Int.ofNat_le.mpr h), Int.max_eq_right (Int.natCast_nonneg k)]
set_option maxHeartbeats 1000000 in
theorem del_from {l sl : Addr} {vs : List Value} {n kk : Nat} {t : Tok} {Q : Unit → Shared → Prop} {E : Value → Shared → Prop} (ho : s.heap.get? l = some (listOf vs.toArray n)) (hs : s.heap.IsSliceOf sl (.int kk t) .none .none) (hk : kk ≤ vs.length) (hsz : vs.length ≤ 1000)
    (h : ∀ f : Array Value → Array Value, f vs.toArray = (vs.take kk).toArray → Q () { s with heap := s.heap.update l (Obj.mapSeq f) }) : wpAny (model prog C.w) A (delItem (.ref l) (.ref sl)) Q E s := by
  obtain ⟨os, hos, hcs, hds⟩ := id hs
  have hTs : s.TypeIs (.ref sl) "slice" := ⟨os, hos, hcs⟩
  have hT : s.TypeIs (.ref l) "list" := ⟨_, ho, rfl⟩
  refine wpAny_delItem_slot hT (by decide) PySem.F.slot_list_delitem (wpAny_call_entry PySem.F.slot_list_delitem hT PySem.F.entry_list_delitem ?_ (PySem.F.args_list_delitem_2 _ _))
  show wpAny _ _ (Builtin.List.listSubscript? (.ref sl) >>= _) _ _ s
  refine wpAny_bind ?_
  unfold Builtin.List.listSubscript?
  refine wpAny_bind (wpAny_specialOf hTs slice_no_index ?_)
  simp only [Option.isNone_none, if_true]
  refine wpAny_pure ?_
  show wpAny _ _ (typeOf (.ref sl) >>= _) _ _ s
  refine wpAny_bind (wpAny_typeOf hTs ?_)
  rw [if_neg (by decide)]
  rw [listSliceParts_eq]
  refine wpAny_bind (wpAny_bind (wpAny_field hos hds (x := .none) rfl (wpAny_bind (wpAny_listPart .none ?_))))
  rw [if_neg (by decide)]
  refine wpAny_bind (wpAny_field hos hds (x := .int kk t) rfl (wpAny_bind (wpAny_listPart (.int _ _) ?_)))
  refine wpAny_bind (wpAny_field hos hds (x := .none) rfl (wpAny_bind (wpAny_listPart .none (wpAny_pure ?_))))
  refine wpAny_bind (m := Builtin.List.listItems (.ref l)) ?_
  unfold Builtin.List.listItems
  refine wpAny_bind (wpAny_seqItems ho rfl (wpAny_pure ?_))
  refine wpAny_bind (wpAny_of_eq (sliceIndices_raw (some (kk : Int)) none none _ (by simp)) ?_)
  rw [List.size_toArray, bounds_from kk vs.length hk]
  refine wpAny_bind (wpAny_rule ?_)
  have e : ∀ f : Array Value → Array Value, Builtin.List.listUpdate (.ref l) f = updateSeq l f := fun _ => rfl
  refine wpAny_bind ?_
  rw [e]
  have ef := cut_arr vs kk
  have hsz' : vs.toArray.size ≤ sizeLine := by rw [List.size_toArray, sizeLine_eq]; (first | lia | omega)
  refine wpAny_updateSeq ho rfl (wpAny_bind (wpAny_letGo ?_)) hsz' (Nat.le_trans (Nat.le_of_eq (congrArg Array.size ef)) ?_)
  · exact wpAny_pure ⟨_, rfl, h _ ef⟩
  · rw [List.size_toArray, List.length_take, sizeLine_eq]; (first | lia | omega)
theorem St.delFrom {a : Addr} {xs : List V} {kk : Nat} {Q : Unit → Shared → Prop} {E : Value → Shared → Prop} {sl : Addr} {t : Tok} (S : St prog C env m σ s) (ea : σ a = some (.list xs)) (hs : s.heap.IsSliceOf sl (.int kk t) .none .none) (hk : kk ≤ xs.length) (hn : xs.length ≤ 1000)
    (h : ∀ h', St prog C env m (σ.set a (.list (xs.take kk))) { s with heap := h' } → Ext env.locals σ s.heap (σ.set a (.list (xs.take kk))) h' → Q () { s with heap := h' }) : wpAny (model prog C.w) A (delItem (.ref a) (.ref sl)) Q E s := by
  obtain ⟨vs, n, p, rs⟩ := S.toSt0.list ea
  refine del_from p hs (by rw [rs.length]; exact hk) (by rw [rs.length]; exact hn) fun f ef => ?_
  obtain ⟨n', e'⟩ := update_list p ef
  obtain ⟨T, x⟩ := S.toSt0.setList ea (Heap.SameBut.update s.heap a (Obj.mapSeq f)) e' (rs.take kk) s.toks
  exact h _ (S.after T x) (x.to S.hL)
/-- del xs[k:] -/
theorem st_delFrom {e i : Expr} {p p' : Pos} (h : Ev prog C A env e m σ (fun X σ₁ => Ev prog C A env i m σ₁ (fun Y σ₂ => ∃ l xs k, X = .c (.ref l) ∧ Y = .d (.int (k : Nat)) ∧ σ₂ l = some (.list xs) ∧ xs.length ≤ 1000 ∧ k ≤ xs.length ∧ Ψ .next m (σ₂.set l (.list (xs.take k)))))) :
    Ex1 prog C A env (.Delete [.Subscript e (.Slice (some i) none none p) p'] pos) m σ Ψ := fun s S => by
  refine wpAny_Delete (wpAny_deleteEach_cons (wpAny_delete_Subscript (Go.bind (h s S) (fun v s₁ X σ₁ r S₁ y q => ?_))))
  refine wpAny_Slice (wpAny_evalPart_some (Go.bind (q s₁ S₁) (fun u s₂ Y σ₂ r' S₂ z pp9 => ?_)))
  obtain ⟨l, xs, k, eX, eY, el, hn, hk, hΨ⟩ := pp9
  refine wpAny_evalPart_none (wpAny_evalPart_none ?_)
  subst eX; subst eY
  cases r.ref
  obtain ⟨t, rfl⟩ := r'.int
  obtain ⟨S₃, z₃⟩ := S₂.pushT { cls := .type "slice", data := .fields #[.int k t, .none, .none] }
  refine S₃.delFrom el (Heap.IsSliceOf.new ..) hk hn fun h' S₄ z₄ => wpAny_deleteEach_nil ?_
  exact ⟨.next, m, _, trivial, S₄, ((y.trans z).trans z₃).trans z₄, hΨ⟩
end
end Mine
namespace Mine
section
variable {prog : Program} {K : Frag} {C : Cx} {A : Around} {env : Env} {m : Loc} {σ σ' σ₁ σ₂ : SH} {s : Shared} {Φ : V → SH → Prop} {k : Nat} {pos np apos : Pos} {x : Str}

theorem ExtC.thenL {L : Addr} {h h₁ h₂ : Heap} (x : ExtC σ h σ₁ h₁) (y : Ext L σ₁ h₁ σ₂ h₂) (hL : h.get? L = none) : ExtC σ h σ₂ h₂ := by
  refine ⟨fun a o hσ e => ?_, fun a ha => ?_⟩
  · refine y.keep a o (fun q => by subst q; rw [hL] at e; cases e) ?_ (x.keep a o hσ e)
    cases q : σ₁ a with
    | none => rfl
    | some so =>
      rcases x.new a (by rw [q]; simp) with r | r
      · exact absurd hσ r
      · rw [e] at r; cases r
  · rcases y.new a ha with r | r
    · exact x.new a r
    · by_cases hσ : σ a = none
      · refine .inr ?_
        cases q : h.get? a with
        | none => rfl
        | some o => rw [x.keep a o hσ q] at r; cases r
      · exact .inl hσ
theorem ExtC.but {it : Addr} {h h₁ h' : Heap} (x : ExtC σ h σ' h₁) (hs : Heap.ExtBut it h₁ h') (hn : h.get? it = none) : ExtC σ h σ' h' :=
  ⟨fun a o h2 e => hs a o (fun q => by subst q; rw [hn] at e; cases e) (x.keep a o h2 e), x.new⟩

/-- the names that a comprehension's block sees of the block around it -/
noncomputable def capt (cl : List (Str × Addr)) (m : Loc) : Loc := fun y => if (cl.lookup y).isSome then m y else none
theorem Loc.set_set (m : Loc) (x : Str) (X Y : V) : (m.set x X).set x Y = m.set x Y := by
  funext y; unfold Loc.set; split <;> rfl
theorem St.comp {scope : Scope} {cl : List (Str × Addr)} {h₁ : Heap} {tk : Nat} {Ca : Addr} {mp : Str → Option Value} (S : St prog C env m σ s) (k : Keeps s.heap h₁) (hn : h₁.Ns Ca mp) (hC : s.heap.objs.size ≤ Ca) (hcl : ∀ y c, cl.lookup y = some c → env.cells.lookup y = some c) :
    St prog C (compEnvC scope cl Ca env) (capt cl m) σ { s with heap := h₁, toks := tk } := by
  obtain ⟨mp', F, Hm⟩ := S.fr
  have hz : C.h₀.objs.size ≤ Ca := Nat.le_trans S.size hC
  have fr : s.heap.get? Ca = none := by
    cases q : s.heap.get? Ca with
    | none => rfl
    | some o => exact absurd (Nat.lt_of_lt_of_le (Heap.lt_size q) hC) (Nat.lt_irrefl _)
  obtain ⟨T, _⟩ := S.toSt0.keepsTo (tk := tk) k (Nat.le_trans hz (Nat.le_of_lt hn.lt))
  refine ⟨T, ⟨mp, ⟨hn, T.keep, hz⟩, fun y Y hy => ?_⟩, ?_⟩
  · unfold capt at hy
    split at hy
    · rename_i q
      obtain ⟨c, ec⟩ := Option.isSome_iff_exists.mp q
      have z := Hm y Y hy
      unfold Has at z ⊢
      rw [hcl y c ec] at z
      show match cl.lookup y with | none => _ | some c => _
      rw [ec]
      obtain ⟨n, w, o, e1, e2, e3⟩ := z
      have hne : c ≠ Ca := fun q => by rw [q, fr] at e1; cases e1
      exact ⟨hne, w, o, k _ _ e1, e2, e3.keepT (Keeps.t k)⟩
    · cases hy
  · show σ Ca = none
    cases q : σ Ca with
    | none => rfl
    | some so => obtain ⟨o, e, _⟩ := (S.rep Ca so q).obj; rw [fr] at e; cases e
theorem storeC_go {scope : Scope} {cl : List (Str × Addr)} {Ca : Addr} {v : Value} {X : V} {Q : Unit → Shared → Prop} {E : Value → Shared → Prop} {m : Loc} (S : St prog C (compEnvC scope cl Ca env) m σ s) (r : RepV s.heap v X)
    (hk : scope.kind = .function) (hx : scope.names.lookup x = some .local) (hc : cl.lookup x = none)
    (h : ∀ s', St prog C (compEnvC scope cl Ca env) (m.set x X) σ s' → Ext Ca σ s.heap σ s'.heap → Q () s') : wpAny (model prog C.w) A (storeName (compEnvC scope cl Ca env) x v) Q E s := by
  obtain ⟨mp, F, Hm⟩ := S.fr
  refine wpAny_storeName_local (lookup_relabel_local hx) F.ns (fun h' hn hs => ?_) (by simp [compEnvC, relabel, hk])
  obtain ⟨T, y⟩ := S.store (tk := s.toks + 1) F Hm hc r hn hs
  exact h _ T y

/-- the items of a comprehension, one by one -/
noncomputable def CompL (prog : Program) (C : Cx) (A : Around) (env : Env) (scope : Scope) (cl : List (Str × Addr)) (x : Str) (elt : Expr) (mB : Loc) (Φ : V → SH → Prop) : List V → List V → SH → Prop
  | [], ys, σ => ys.length ≤ 1000 ∧ ∀ D, σ D = none → Φ (.c (.ref D)) (σ.set D (.list ys))
  | X :: r, ys, σ => ys.length ≤ 1000 ∧ ∀ Ca, Ev prog C A (compEnvC scope cl Ca env) elt (mB.set x X) σ (fun Y σ' => CompL prog C A env scope cl x elt mB Φ r (ys ++ [Y]) σ')
theorem CompL.len {scope : Scope} {cl : List (Str × Addr)} {elt : Expr} {mB : Loc} {xs ys : List V} (h : CompL prog C A env scope cl x elt mB Φ xs ys σ) : ys.length ≤ 1000 := by
  cases xs with
  | nil => exact h.1
  | cons _ _ => exact h.1
theorem tupiter_self {t it : Addr} {vs : Array Value} {n : Nat} {r : List V} {Q : Value → Shared → Prop} {E : Value → Shared → Prop} (h : ∃ i xs, s.heap.IsTupleIter it t i ∧ (∃ o, s.heap.get? t = some o ∧ o.cls = .type "tuple" ∧ o.data = .seq vs n) ∧ RepVs s.heap vs.toList xs ∧ r = xs.drop i) (q : Q (.ref it) s) :
    wpAny (model prog C.w) A (pyIter (.ref it)) Q E s := by
  obtain ⟨i, xs, h1, _⟩ := h
  exact wpAny_pyIter_tupleiter h1 q
theorem noTD {D : Addr} {us : List Value} {n : Nat} {h : Heap} (e : h.get? D = some (listOf us.toArray n)) : (∀ o, h.get? D = some o → o.cls ≠ .type "tuple") ∧ ∀ o, h.get? D = some o → ∀ v, o.data ≠ .cell v :=
  ⟨fun o e' => by rw [e] at e'; cases e'; simp, fun o e' => by rw [e] at e'; cases e'; simp⟩
theorem keepT_but {D : Addr} {h h' : Heap} (hs : Heap.SameBut D h h') (h4 : ∀ o, h.get? D = some o → o.cls ≠ .type "tuple") : KeepT h h' := fun b o e hc _ => by
  rw [hs.2 b (fun q => ?_)]; exact e
  subst q; exact h4 o e hc

theorem St.weaken {m₁ : Loc} (S : St prog C env m σ s) (h : ∀ y Y, m₁ y = some Y → m y = some Y) : St prog C env m₁ σ s := by
  obtain ⟨mp, F, Hm⟩ := S.fr
  exact ⟨S.toSt0, ⟨mp, F, fun y Y e => Hm y Y (h y Y e)⟩, S.off⟩
theorem capt_set {cl : List (Str × Addr)} {X : V} (hx : cl.lookup x = none) : ∀ y Y, capt cl m y = some Y → (capt cl m).set x X y = some Y := fun y Y e => by
  unfold Loc.set; split
  · rename_i q
    have : y = x := by simpa using q
    subst this; unfold capt at e; rw [hx] at e; simp at e
  · exact e


noncomputable def TI (it t : Addr) (vs : Array Value) (n : Nat) (r : List V) (h : Heap) : Prop :=
  ∃ i xs, h.IsTupleIter it t i ∧ (∃ o, h.get? t = some o ∧ o.cls = .type "tuple" ∧ o.data = .seq vs n) ∧ RepVs h vs.toList xs ∧ r = xs.drop i
/-- the addresses of a comprehension: iterator, list, block -/
structure CSet (prog : Program) (C : Cx) (A : Around) (env : Env) (m : Loc) (σB : SH) (sB : Shared) (I D Ca t : Addr) (vs : Array Value) (n : Nat) : Prop where
  SB : St prog C env m σB sB
  fI : sB.heap.get? I = none
  fD : sB.heap.get? D = none
  fC : sB.heap.get? Ca = none
  nDC : D ≠ Ca
  nIC : I ≠ Ca
  nID : I ≠ D
  sys : (D == sysModules) = false
  IT : IterK prog C A I (fun _ => True) (TI I t vs n)
  fr : ∀ a, I < a → sB.heap.get? a = none
/-- a turn of a comprehension begins -/
inductive CI (prog : Program) (C : Cx) (E : Env) (mm : Loc) (σB : SH) (hB : Heap) (I D t : Addr) (vs : Array Value) (n : Nat) (xs ys : List V) (σ' : SH) (s' : Shared) : Prop
  | mk (us : List Value) (n' : Nat) (S : St prog C E mm σ' s') (x : ExtC σB hB σ' s'.heap) (eD : s'.heap.get? D = some (listOf us.toArray n')) (ru : RepVs s'.heap us ys)
      (sD : σ' D = none) (sI : σ' I = none) (J : TI I t vs n xs s'.heap)
/-- the loop of a comprehension: what is left, what is made -/
inductive CJ (prog : Program) (C : Cx) (E : Env) (mm : Loc) (F : List V → List V → SH → Prop) (σB : SH) (hB : Heap) (I D t : Addr) (vs : Array Value) (n : Nat) (nn : Nat) (s' : Shared) : Prop
  | mk (xs ys : List V) (σ' : SH) (h1 : nn = xs.length) (h2 : CI prog C E mm σB hB I D t vs n xs ys σ' s') (h3 : F xs ys σ')
section
variable {mm mw m₃ : Loc} {σB σ₃ : SH} {sB s' s₃ : Shared} {I D Ca t F : Addr} {vs : Array Value} {n : Nat} {scope : Scope} {cl : List (Str × Addr)} {xs ys : List V} {X Y : V} {h' : Heap} {tk : Nat} {Q : Option Value → Shared → Prop} {Er : Value → Shared → Prop}
theorem CI.ext (G : CSet prog C A env m σB sB I D Ca t vs n) (j : CI prog C (compEnvC scope cl Ca env) mm σB sB.heap I D t vs n xs ys σ' s') (S₃ : St prog C (compEnvC scope cl Ca env) m₃ σ₃ s₃) (z : Ext Ca σ' s'.heap σ₃ s₃.heap) :
    CI prog C (compEnvC scope cl Ca env) m₃ σB sB.heap I D t vs n xs ys σ₃ s₃ := by
  obtain ⟨us, n', S, x, eD, ru, sD, sI, J⟩ := j
  have hk : ∀ {a : Addr} {ob : Obj}, a ≠ Ca → σ' a = none → s'.heap.get? a = some ob → σ₃ a = none ∧ s₃.heap.get? a = some ob := fun {a ob} h1 h2 h3 => by
    refine ⟨?_, z.keep a ob h1 h2 h3⟩
    cases q : σ₃ a with
    | none => rfl
    | some so =>
      rcases z.new a (by rw [q]; simp) with u | u
      · exact absurd h2 u
      · rw [h3] at u; cases u
  obtain ⟨sD₃, eD₃⟩ := hk G.nDC sD eD
  obtain ⟨oI, eoI⟩ := G.IT.here J
  obtain ⟨sI₃, eI₃⟩ := hk G.nIC sI eoI
  have kt : KeepT s'.heap s₃.heap := S.keepT z
  exact ⟨us, n', S₃, x.thenL z G.fC, eD₃, ru.keepT kt, sD₃, sI₃, G.IT.stable J (eI₃.trans eoI.symm) kt⟩
theorem CI.but (G : CSet prog C A env m σB sB I D Ca t vs n) (j : CI prog C (compEnvC scope cl Ca env) mm σB sB.heap I D t vs n xs ys σ' s') (hs : Heap.ExtBut F s'.heap h') (f : σ' F = none) (nC : F ≠ Ca) (nD : F ≠ D) (nI : F ≠ I)
    (fB : sB.heap.get? F = none) (hT : ∀ o, s'.heap.get? F = some o → o.cls ≠ .type "tuple") (hC : ∀ o, s'.heap.get? F = some o → ∀ v, o.data ≠ .cell v) :
    CI prog C (compEnvC scope cl Ca env) mm σB sB.heap I D t vs n xs ys σ' { s' with heap := h', toks := tk } := by
  obtain ⟨us, n', S, x, eD, ru, sD, sI, J⟩ := j
  have kt : KeepT s'.heap h' := fun b o e hc _ => hs b o (fun q => by subst q; exact hT o e hc) e
  obtain ⟨oI, eoI⟩ := G.IT.here J
  exact ⟨us, n', S.but (tk := tk) hs f nC (G.SB.toSt0.h₀none fB) hT hC, x.but hs fB, hs _ _ (Ne.symm nD) eD, ru.keepT kt, sD, sI, G.IT.stable J ((hs _ _ (Ne.symm nI) eoI).trans eoI.symm) kt⟩
theorem comp_push (G : CSet prog C A env m σB sB I D Ca t vs n) (j : CI prog C (compEnvC scope cl Ca env) mm σB sB.heap I D t vs n xs ys σ' s') {y : Value} (ry : RepV s'.heap y Y) (hl : ys.length < 1000) (w : ∀ y Y, mw y = some Y → mm y = some Y)
    {Q : Value → Shared → Prop} (q : ∀ h', Heap.SameBut D s'.heap h' → KeepT s'.heap h' → CI prog C (compEnvC scope cl Ca env) mw σB sB.heap I D t vs n xs (ys ++ [Y]) σ' { s' with heap := h' } → Q .none { s' with heap := h' }) :
    wpAny (model prog C.w) A (call (.builtin "list.append") [.ref D, y]) Q Er s' := by
  obtain ⟨us, n', S, x, eD, ru, sD, sI, J⟩ := j
  refine wpAny_list_append_plain (items := us.toArray) ⟨n', eD⟩ (fun h₄ hl₄ hs₄ => ?_) (by rw [List.size_toArray, ru.length, sizeLine_eq]; (first | lia | omega))
  obtain ⟨n₄, e₄⟩ := hl₄
  have nT := noTD eD
  have kt₄ := keepT_but hs₄ nT.1
  exact q _ hs₄ kt₄ ⟨us ++ [y], n₄, (S.weaken w).but (tk := s'.toks) (fun b o hb e => (hs₄.2 b hb).trans e) sD G.nDC (G.SB.toSt0.h₀none G.fD) nT.1 nT.2, x.but (fun b o hb e => (hs₄.2 b hb).trans e) G.fD, by rw [e₄]; simp,
    (ru.append (.cons ry .nil)).keepT kt₄, sD, sI, G.IT.stable J (hs₄.2 _ G.nID) kt₄⟩
theorem comp_turn (G : CSet prog C A env m σB sB I D Ca t vs n) (j : CI prog C (compEnvC scope cl Ca env) mm σB sB.heap I D t vs n (X :: xs) ys σ' s') (hkind : scope.kind = .function) (hx : scope.names.lookup x = some .local) (hxc : cl.lookup x = none)
    {e : Expr} {px : Pos} {Ψ : V → SH → Prop} (hev : Ev prog C A (compEnvC scope cl Ca env) e (mm.set x X) σ' Ψ) {K' : Value → Shared → Prop} {E1 E2 : Value → Shared → Prop}
    (hQ : ∀ v s₁, wpAny (model prog C.w) A (assign (.Name x px) (compEnvC scope cl Ca env) v) (fun _ s₂ => wpAny (model prog C.w) A (eval e (compEnvC scope cl Ca env)) K' E1 s₂) E2 s₁ → Q (some v) s₁)
    (kk : ∀ y Y σ₃ s₃, RepV s₃.heap y Y → CI prog C (compEnvC scope cl Ca env) (mm.set x X) σB sB.heap I D t vs n xs ys σ₃ s₃ → Ψ Y σ₃ → K' y s₃) :
    wpAny (model prog C.w) A (pyNext (.ref I)) Q Er s' := by
  obtain ⟨us, n', S', x', eD', ru, sD, sI, J'⟩ := j
  refine wpAny_mono (G.IT.step S'.toSt0 trivial J') (fun o s₁ ⟨v, h', tk, e, e', rv, hs, J₁⟩ => ?_) fun _ _ e => e.elim
  subst e; subst e'
  have kt₁ := keepT_but hs fun o e => G.IT.noT J' e
  have S₁ := S'.but (tk := tk) (fun b o hb e => (hs.2 b hb).trans e) sI G.nIC (G.SB.toSt0.h₀none G.fI) (fun o e => G.IT.noT J' e) (fun o e => G.IT.noC J' e)
  have j₁ : CI prog C (compEnvC scope cl Ca env) mm σB sB.heap I D t vs n xs ys σ' { s' with heap := h', toks := tk } :=
    ⟨us, n', S₁, x'.but (fun b o hb e => (hs.2 b hb).trans e) G.fI, (hs.2 _ (Ne.symm G.nID)).trans eD', ru.keepT kt₁, sD, sI, J₁⟩
  refine hQ _ _ (wpAny_assign_Name (storeC_go S₁ rv hkind hx hxc fun s₂ S₂ z₂ => ?_))
  exact Go.bind (hev s₂ S₂) (fun y s₃ Y σ₃ rY S₃ z₃ p₃ => kk _ _ _ _ rY (j₁.ext G S₃ (z₂.trans z₃)) p₃)
theorem comp_fin (G : CSet prog C A env m σB sB I D Ca t vs n) (yB : Ext env.locals σ s.heap σB sB.heap) (j : CI prog C (compEnvC scope cl Ca env) mm σB sB.heap I D t vs n [] ys σ' s')
    (hF : ∀ D, σ' D = none → Φ (.c (.ref D)) (σ'.set D (.list ys)))
    (hQ : ∀ s₁, compPost (model prog C.w) A (fun _ _ => False) none (GoQ prog C env RepV m σ s Φ) (.ref D) Ca (.ok .next) s₁ → Q none s₁) :
    wpAny (model prog C.w) A (pyNext (.ref I)) Q Er s' := by
  obtain ⟨us, n', S', x', eD', ru, sD, sI, J'⟩ := j
  refine wpAny_mono (G.IT.fin S'.toSt0 trivial J') (fun o s₁ ⟨e, h', e', hs⟩ => ?_) fun _ _ e => e.elim
  subst e; subst e'
  have S₁ := S'.but (tk := s'.toks) hs sI G.nIC (G.SB.toSt0.h₀none G.fI) (fun o e => G.IT.noT J' e) (fun o e => G.IT.noC J' e)
  have kt₁ : KeepT s'.heap h' := fun b o e hc _ => hs b o (fun q => by subst q; exact G.IT.noT J' e hc) e
  obtain ⟨mp, F, _⟩ := S₁.fr
  refine hQ _ ⟨mp, F.ns, fun h₂ hs₂ => ?_⟩
  have S₂ := S₁.toSt0
  have kt₂ : KeepT h' h₂ := fun b o e hc hd => by
    refine (hs₂.2 b (fun q => ?_)).trans e
    rw [q] at e
    obtain ⟨oL, es, ep, hL, hLd, _⟩ := F.ns
    obtain ⟨vs, n, hd⟩ := hd
    have hL' : h'.get? Ca = some oL := hL
    rw [hL'] at e; cases e
    rw [hLd] at hd; cases hd
  have eD₂ : h₂.get? D = some (listOf us.toArray n') := (hs₂.2 _ G.nDC).trans (hs _ _ (Ne.symm G.nID) eD')
  have T₃ : St0 prog C (σ'.set D (.list ys)) { s' with heap := h₂ } := by
    refine ⟨by rw [hs₂.1]; exact S₂.size, fun b o e => (hs₂.2 b (fun q => ?_)).trans (S₂.keep b o e), fun b so e => ?_, fun b so e => ?_, S₂.gens, S₂.drawn, S₂.os⟩
    · rw [q, G.SB.toSt0.h₀none G.fC] at e; cases e
    · unfold SH.set at e; split at e
      · rename_i q; subst q; exact ⟨G.SB.toSt0.h₀none G.fD, G.sys⟩
      · exact S₂.new b so e
    · unfold SH.set at e; split at e
      · rename_i q; subst q; cases e; exact ⟨us, ⟨n', eD₂⟩, (ru.keepT kt₁).keepT kt₂⟩
      · refine (S₂.rep b so e).mono kt₂ fun o e' => (hs₂.2 b (fun q => ?_)).trans e'
        rw [q, show σ' Ca = none from S₁.off] at e; cases e
  have x₂ : ExtC σB sB.heap σ' h₂ := (x'.but hs G.fI).but (fun b o hb e => (hs₂.2 b hb).trans e) G.fC
  have x₃ : ExtC σB sB.heap (σ'.set D (.list ys)) h₂ := by
    refine ⟨x₂.keep, fun a ha => ?_⟩
    unfold SH.set at ha; split at ha
    · rename_i q; subst q; exact .inr G.fD
    · exact x₂.new a ha
  exact ⟨_, _, repR _, G.SB.after T₃ x₃, yB.trans (x₃.to G.SB.hL), hF _ sD⟩
theorem comp_open {elt iter tgt : Expr} {gs : List Comprehension} (W : Wd prog K C) (hR : Room A k) (hcl : ∀ y c, cl.lookup y = some c → env.cells.lookup y = some c) {Fx : List V → SH → Prop}
    (h : Ev prog C A env iter m σ (fun X σ₁ => ∃ ds, X = .d (.tuple ds) ∧ Fx (ds.map V.d) σ₁))
    (hclos : closureFor scope env = pure cl) (hcell : ∀ y ∈ scope.names, y.2 ≠ .cell) (hkind : scope.kind = .function)
    (hnames : ∀ y ∈ scope.names, y.2 = .local → scope.names.lookup y.1 = some .local)
    (hs : ∀ x, foldedSetIterable iter env x = pure x)
    (loop : ∀ s σB sB I D Ca t vs n s' xs, CSet prog C A env m σB sB I D Ca t vs n → Ext env.locals σ s.heap σB sB.heap → CI prog C (compEnvC scope cl Ca env) (capt cl m) σB sB.heap I D t vs n xs [] σB s' → Fx xs σB →
      codeAny (model prog C.w) A (.compLoop (.ListComp elt (⟨tgt, iter, [], 0⟩ :: gs) scope pos) 0 (.ref I) (.ref D) (compEnvC scope cl Ca env)) (compPost (model prog C.w) A (fun _ _ => False) none (GoQ prog C env RepV m σ s Φ) (.ref D) Ca) s') :
    Ev prog C A env (.ListComp elt (⟨tgt, iter, [], 0⟩ :: gs) scope pos) m σ Φ := fun s S => by
  rw [eval_ListComp]
  refine wpAny_comprehension_free (use := none) rfl hs hclos hkind hnames (Go.bind (h s S) (fun v sB X σB r SB yB pp9 => ?_))
  obtain ⟨ds, e, p⟩ := pp9
  subst e
  obtain ⟨t, vs, rfl, ⟨o, e1, e2, n, e3⟩, rs⟩ := r.tup
  refine wpAny_pyIter_tuple ⟨o, e1, e2, n, e3⟩ ?_
  refine wpAny_newObj_type (wpAny_newFunctionEnv hcell (by intro y hy; simp at hy) (fun h₁ hns₁ hsb₁ => ?_) hkind)
  dsimp only at hns₁ hsb₁ ⊢
  generalize hH1 : sB.heap.push { cls := .type "tuple_iterator", dict := none, data := .fields #[.ref t, .int 0 0] } = H1 at hns₁ hsb₁ ⊢
  have z1 : H1.objs.size = sB.heap.objs.size + 1 := by rw [← hH1, Heap.size_push]
  generalize hH2 : H1.push { cls := .type "list", dict := none, data := .seq ([] : List Value).toArray } = H2 at hns₁ hsb₁ ⊢
  have z2 : H2.objs.size = sB.heap.objs.size + 2 := by rw [← hH2, Heap.size_push, z1]
  have old : Keeps sB.heap h₁ := fun b o e => by
    have hb := Heap.lt_size e
    exact hsb₁.extBut b o (by rw [z2]; exact Nat.ne_of_lt (Nat.lt_of_lt_of_le hb (Nat.le_add_right _ _))) (Heap.get?_push_of_some _ (hH2 ▸ Heap.get?_push_of_some _ (hH1 ▸ Heap.get?_push_of_some _ e)))
  have eI : h₁.get? sB.heap.objs.size = some { cls := .type "tuple_iterator", data := .fields #[.ref t, .int 0 0] } :=
    hsb₁.extBut _ _ (by rw [z2]; exact Nat.ne_of_lt (Nat.lt_add_of_pos_right (by decide))) (Heap.get?_push_of_some _ (hH2 ▸ Heap.get?_push_of_some _ (hH1 ▸ Heap.get?_push_size _ rfl)))
  have eD : h₁.get? H1.objs.size = some (listOf ([] : List Value).toArray 0) :=
    hsb₁.extBut _ _ (by rw [z2, z1]; exact Nat.ne_of_lt (Nat.lt_succ_self _)) (Heap.get?_push_of_some _ (hH2 ▸ Heap.get?_push_size _ rfl))
  have fresh : ∀ a, sB.heap.objs.size ≤ a → sB.heap.get? a = none := fun a ha => by
    cases e : sB.heap.get? a with
    | none => rfl
    | some o' => exact absurd (Heap.lt_size e) (Nat.not_lt.mpr ha)
  have σn : ∀ a, sB.heap.get? a = none → σB a = none := fun a ha => by
    cases q : σB a with
    | none => rfl
    | some so => obtain ⟨o, e, _⟩ := (SB.rep a so q).obj; rw [ha] at e; cases e
  have G : CSet prog C A env m σB sB sB.heap.objs.size H1.objs.size H2.objs.size t vs n :=
    ⟨SB, fresh _ (Nat.le_refl _), fresh _ (by rw [z1]; exact Nat.le_succ _), fresh _ (by rw [z2]; exact Nat.le_add_right _ _), by rw [z1, z2]; exact Nat.ne_of_lt (Nat.lt_succ_self _),
      by rw [z2]; exact Nat.ne_of_lt (Nat.lt_add_of_pos_right (by decide)), by rw [z1]; exact Nat.ne_of_lt (Nat.lt_succ_self _), by
        have := SB.toSt0.fresh W
        have h1 : sB.heap.objs.size ≠ 1 := by simpa [sysModules] using this
        have : 0 < sB.heap.objs.size := by
          obtain ⟨o, e⟩ := SB.hL
          exact Nat.lt_of_le_of_lt (Nat.zero_le _) (Heap.lt_size e)
        exact beq_eq_false_iff_ne.mpr (by rw [z1]; show _ ≠ 1; (first | lia | omega)), iter_tuple (k := k) hR, fun a h => fresh a (Nat.le_of_lt h)⟩
  have SC := SB.comp (scope := scope) (cl := cl) (tk := sB.toks + ([] : List (Str × Value)).length) old hns₁ (by rw [z2]; exact Nat.le_add_right _ _) hcl
  have J0 : TI sB.heap.objs.size t vs n (ds.map V.d) h₁ :=
    ⟨0, _, ⟨_, eI, rfl, rfl⟩, ⟨o, old _ _ e1, e2, e3⟩, rs.keepT (Keeps.t old), rfl⟩
  have lp := loop s σB sB _ _ _ t vs n _ _ G yB ⟨[], 0, SC, ⟨fun a o _ e => old _ _ e, fun _ e => .inl e⟩, eD, .nil, σn _ G.fD, σn _ G.fI, J0⟩ p
  exact codeAny_compStart_list lp (tupiter_self J0 lp)
end
theorem ev_comp1 {elt iter : Expr} {scope : Scope} {cl : List (Str × Addr)} {px : Pos} (W : Wd prog K C) (hR : Room A k) (hcl : ∀ y c, cl.lookup y = some c → env.cells.lookup y = some c)
    (h : Ev prog C A env iter m σ (fun X σ₁ => ∃ ds, X = .d (.tuple ds) ∧ CompL prog C A env scope cl x elt (capt cl m) Φ (ds.map V.d) [] σ₁))
    (hclos : closureFor scope env = pure cl) (hcell : ∀ y ∈ scope.names, y.2 ≠ .cell) (hkind : scope.kind = .function)
    (hnames : ∀ y ∈ scope.names, y.2 = .local → scope.names.lookup y.1 = some .local) (hx : scope.names.lookup x = some .local) (hxc : cl.lookup x = none)
    (hs : ∀ x, foldedSetIterable iter env x = pure x := by intro _; rfl) : Ev prog C A env (.ListComp elt [⟨.Name x px, iter, [], 0⟩] scope pos) m σ Φ :=
  comp_open W hR hcl (Fx := fun xs σ₁ => CompL prog C A env scope cl x elt (capt cl m) Φ xs [] σ₁) h hclos hcell hkind hnames hs fun s σB sB I D Ca t vs n s' xs G y j p => by
    refine codeAny_compLoop_list (CJ prog C (compEnvC scope cl Ca env) (capt cl m) (CompL prog C A env scope cl x elt (capt cl m) Φ) σB sB.heap I D t vs n) ?_ xs.length
      ⟨_, [], σB, rfl, j, p⟩ (by intro v; rfl)
    rintro nn s' ⟨xs, ys, σ', rfl, j, hF⟩
    cases xs with
    | nil => exact comp_fin G y j hF.2 fun _ q => q
    | cons X r =>
      exact comp_turn G j hkind hx hxc (hF.2 Ca) (fun _ _ q => q) fun v Y σ₃ s₃ rY j₃ p₃ =>
        comp_push G j₃ rY (by have := p₃.len; rw [List.length_append] at this; exact this) (capt_set hxc) fun h' _ _ j₄ => ⟨r.length, Nat.lt_succ_self _, r, _, σ₃, rfl, j₄, p₃⟩
end
end Mine
namespace Mine
section
variable {prog : Program} {K : Frag} {C : Cx} {A : Around} {env : Env} {m : Loc} {σ σ' σ₁ σ₂ : SH} {s : Shared} {Φ : V → SH → Prop} {k : Nat} {pos np apos : Pos} {x y : Str}

-- names in any block of a function's
theorem evg_local {X : V} (hm : m x = some X) (h : Φ X σ) (hc : env.cells.lookup x = none := by rfl)
    (hk : env.scope.kind = .function := by rfl) (hx : env.kindOf x = some .local := by rfl) (hd : (x == ("__debug__" : Str)) = false := by decide) :
    Ev prog C A env (.Name x pos) m σ Φ := fun s S => by
  obtain ⟨mp, F, H⟩ := S.fr
  have q := H x X hm
  unfold Has at q
  rw [hc] at q
  obtain ⟨v, e, r⟩ := q
  exact wpAny_Name (wpAny_loadName_local hk hx F.ns e (Go.now S r h)) hd
theorem evg_cell {X : V} {c : Addr} (hm : m x = some X) (h : Φ X σ) (hc : env.cells.lookup x = some c)
    (hk : env.scope.kind = .function := by rfl) (hx : env.kindOf x = some .cell := by rfl) (hd : (x == ("__debug__" : Str)) = false := by decide) :
    Ev prog C A env (.Name x pos) m σ Φ := fun s S => by
  obtain ⟨mp, F, H⟩ := S.fr
  have q := H x X hm
  unfold Has at q
  rw [hc] at q
  obtain ⟨_, v, o, e, e', r⟩ := q
  exact wpAny_Name (wpAny_loadName_cell hk hx hc ⟨o, e, e'⟩ (Go.now S r h)) hd
theorem evg_glob {v : Value} {X : V} (W : Wd prog K C) (e : nsIn K mainGlobals x = some (some v)) (r : ∀ h, K.In h → RepV h v X) (h : Φ X σ) (hg : env.globals = mainGlobals := by rfl)
    (hk : env.scope.kind = .function := by rfl) (hx : env.kindOf x = some .globalImplicit := by rfl) (hd : (x == ("__debug__" : Str)) = false := by decide) :
    Ev prog C A env (.Name x pos) m σ Φ := fun s S => by
  obtain ⟨mp, F, H⟩ := S.fr
  obtain ⟨p, lo, mg, mb, T⟩ := W.top
  exact Name_function_global hk hx (loadGlobal_global (hg ▸ T.g.keeps F.keep) (mg_of W.kin T.g e) (Go.now S (r _ (W.kin.keeps S.keep)) h)) hd
-- a comprehension of two clauses, its element the second clause's name
theorem compTurn_two0 (elt t1 t2 iter iter2 : Expr) (scope : Scope) (pos : Pos) (it acc : Value) (env : Env) :
    compTurn (.ListComp elt [⟨t1, iter, [], 0⟩, ⟨t2, iter2, [], 0⟩] scope pos) 0 it acc env = (standAt iter.pos >>= fun _ => pyNext it >>= fun r => match r with
      | none => pure (.done .next)
      | some v => letOwnedTupleGo t1 it v >>= fun _ => assign t1 env v >>= fun _ =>
        eval iter2 env >>= fun x => standAt iter2.pos >>= fun _ => foldedSetIterable iter2 env x >>= fun x => holding [x] (pyIter x) >>= fun j =>
          runOwn (.compStart (.ListComp elt [⟨t1, iter, [], 0⟩, ⟨t2, iter2, [], 0⟩] scope pos) 1 j acc env) env >>= fun _ =>
          again (.compLoop (.ListComp elt [⟨t1, iter, [], 0⟩, ⟨t2, iter2, [], 0⟩] scope pos) 0 it acc env)) := by rfl
theorem compTurn_two1 (elt t1 t2 iter iter2 : Expr) (scope : Scope) (pos : Pos) (it acc : Value) (env : Env) :
    compTurn (.ListComp elt [⟨t1, iter, [], 0⟩, ⟨t2, iter2, [], 0⟩] scope pos) 1 it acc env = (standAt iter2.pos >>= fun _ => pyNext it >>= fun r => match r with
      | none => pure (.done .next)
      | some v => letOwnedTupleGo t2 it v >>= fun _ => assign t2 env v >>= fun _ =>
        (eval elt env >>= fun x => call (.builtin "list.append") [acc, x] >>= fun _ => pure ()) >>= fun _ =>
          again (.compLoop (.ListComp elt [⟨t1, iter, [], 0⟩, ⟨t2, iter2, [], 0⟩] scope pos) 1 it acc env)) := by rfl
section
variable {w : World} {R : Result → Shared → Prop} {elt t1 t2 iter iter2 : Expr} {scope : Scope} {it acc : Value}
theorem compLoop_two1 (I : Nat → Shared → Prop)
    (turn : ∀ n s, I n s → wpAny (model prog w) A (pyNext it) (fun r s₁ => match r with
      | none => R (.ok .next) s₁
      | some v => wpAny (model prog w) A (assign t2 env v) (fun _ s₂ => wpAny (model prog w) A (eval elt env) (fun x s₃ =>
          wpAny (model prog w) A (call (.builtin "list.append") [acc, x]) (fun _ s₄ => ∃ m, m < n ∧ I m s₄) (fun _ _ => False) s₃) (fun _ _ => False) s₂) (fun _ _ => False) s₁) (fun _ _ => False) s)
    (n : Nat) (h : I n s) (ht : ∀ v, letOwnedTupleGo t2 it v = pure () := by intro _; rfl) :
    codeAny (model prog w) A (.compLoop (.ListComp elt [⟨t1, iter, [], 0⟩, ⟨t2, iter2, [], 0⟩] scope pos) 1 it acc env) R s := by
  refine codeAny_loop rfl I (fun n s hI => ?_) n h
  show wpAny _ _ ((compTurn (.ListComp elt [⟨t1, iter, [], 0⟩, ⟨t2, iter2, [], 0⟩] scope pos) 1 it acc env).onRaise (fun x => do noteFrame x env; theTreesLotGoes x)) _ _ s
  refine wpAny_noted ?_
  rw [compTurn_two1]
  refine wpAny_bind (wpAny_standAt (wpAny_bind (wpAny_mono (turn n s hI) (fun r s₁ h₁ => ?_) fun _ _ h' => h'.elim)))
  cases r with
  | none => exact wpAny_pure h₁
  | some v =>
    refine wpAny_bind (wpAny_of_eq (ht v) ?_)
    exact wpAny_bind (wpAny_mono h₁ (fun _ s₂ h₂ => wpAny_bind (wpAny_bind (wpAny_mono h₂ (fun x s₃ h₃ => wpAny_bind (wpAny_mono h₃
      (fun _ s₄ h₄ => wpAny_pure (wpAny_pure ⟨rfl, h₄⟩)) fun _ _ h' => h'.elim)) fun _ _ h' => h'.elim))) fun _ _ h' => h'.elim)
theorem compLoop_two0 (I : Nat → Shared → Prop)
    (turn : ∀ n s, I n s → wpAny (model prog w) A (pyNext it) (fun r s₁ => match r with
      | none => R (.ok .next) s₁
      | some v => wpAny (model prog w) A (assign t1 env v) (fun _ s₂ => wpAny (model prog w) A (eval iter2 env) (fun x s₃ => wpAny (model prog w) A (pyIter x) (fun j s₄ =>
          codeAny (model prog w) A (.compStart (.ListComp elt [⟨t1, iter, [], 0⟩, ⟨t2, iter2, [], 0⟩] scope pos) 1 j acc env) (fun r s₅ => match r with | .ok _ => ∃ m, m < n ∧ I m s₅ | .error _ => False) s₄)
            (fun _ _ => False) s₃) (fun _ _ => False) s₂) (fun _ _ => False) s₁) (fun _ _ => False) s)
    (n : Nat) (h : I n s) (hs : ∀ x, foldedSetIterable iter2 env x = pure x := by intro _; rfl) (ht : ∀ v, letOwnedTupleGo t1 it v = pure () := by intro _; rfl) :
    codeAny (model prog w) A (.compLoop (.ListComp elt [⟨t1, iter, [], 0⟩, ⟨t2, iter2, [], 0⟩] scope pos) 0 it acc env) R s := by
  refine codeAny_loop rfl I (fun n s hI => ?_) n h
  show wpAny _ _ ((compTurn (.ListComp elt [⟨t1, iter, [], 0⟩, ⟨t2, iter2, [], 0⟩] scope pos) 0 it acc env).onRaise (fun x => do noteFrame x env; theTreesLotGoes x)) _ _ s
  refine wpAny_noted ?_
  rw [compTurn_two0]
  refine wpAny_bind (wpAny_standAt (wpAny_bind (wpAny_mono (turn n s hI) (fun r s₁ h₁ => ?_) fun _ _ h' => h'.elim)))
  cases r with
  | none => exact wpAny_pure h₁
  | some v =>
    refine wpAny_bind (wpAny_of_eq (ht v) ?_)
    refine wpAny_bind (wpAny_mono h₁ (fun _ s₂ h₂ => ?_) fun _ _ h' => h'.elim)
    refine wpAny_bind (wpAny_mono h₂ (fun x s₃ h₃ => ?_) fun _ _ h' => h'.elim)
    refine wpAny_bind (wpAny_standAt (wpAny_bind (wpAny_of_eq (hs x) ?_)))
    refine wpAny_bind (wpAny_holding (wpAny_mono h₃ (fun j s₄ h₄ => ?_) fun _ _ h' => h'.elim))
    refine wpAny_bind (wpAny_runOwn (codeAny_mono h₄ fun r s₅ q => ?_))
    cases r with
    | ok f => exact wpAny_pure ⟨rfl, q⟩
    | error e => exact q.elim
theorem compStart_two1 (h0 : codeAny (model prog w) A (.compLoop (.ListComp elt [⟨t1, iter, [], 0⟩, ⟨t2, iter2, [], 0⟩] scope pos) 1 it acc env) R s)
    (h : wpAny (model prog w) A (pyIter it) (fun it' s' => codeAny (model prog w) A (.compLoop (.ListComp elt [⟨t1, iter, [], 0⟩, ⟨t2, iter2, [], 0⟩] scope pos) 1 it' acc env) R s') (fun _ _ => False) s) :
    codeAny (model prog w) A (.compStart (.ListComp elt [⟨t1, iter, [], 0⟩, ⟨t2, iter2, [], 0⟩] scope pos) 1 it acc env) R s := by
  refine codeAny_of_tree ?_
  show wpAny _ _ ((compStart (.ListComp elt [⟨t1, iter, [], 0⟩, ⟨t2, iter2, [], 0⟩] scope pos) 1 it acc env).onRaise (fun x => do noteFrame x env; standAt theWindowsPlace)) _ _ s
  refine wpAny_notedAt ?_
  unfold compStart
  show wpAny _ _ (ask >>= _) _ _ s
  refine wpAny_bind (wpAny_askSetting (wpAny_ite ?_))
  split
  · first
      | exact wpAny_bind (wpAny_pure (wpAny_pure (And.intro rfl h0)))
      | exact wpAny_pure (And.intro rfl h0)
  · first
      | exact wpAny_bind (wpAny_rule (wpAny_bind (wpAny_standAt (wpAny_bind (wpAny_mono h (fun it' s' h' => wpAny_pure (And.intro rfl h')) fun _ _ x => x.elim)))))
      | (refine wpAny_bind (wpAny_rule ?_); show wpAny _ _ (standAt iter2.pos >>= _) _ _ s; exact wpAny_bind (wpAny_standAt (wpAny_bind (wpAny_mono h (fun it' s' h' => wpAny_pure (And.intro rfl h')) fun _ _ x => x.elim))))
end
end
end Mine
namespace Mine
section
variable {prog : Program} {K : Frag} {C : Cx} {A : Around} {env : Env} {m : Loc} {σ σ' σ₁ σ₂ : SH} {s : Shared} {Φ : V → SH → Prop} {k : Nat} {pos np apos : Pos} {x y : Str}

/-- the items of a comprehension of two clauses -/
noncomputable def CompL2 (prog : Program) (C : Cx) (A : Around) (env : Env) (scope : Scope) (cl : List (Str × Addr)) (x : Str) (iter2 : Expr) (mB : Loc) (Φ : V → SH → Prop) : List V → List V → SH → Prop
  | [], ys, σ => ys.length ≤ 1000 ∧ ∀ D, σ D = none → Φ (.c (.ref D)) (σ.set D (.list ys))
  | X :: r, ys, σ => ys.length ≤ 1000 ∧ ∀ Ca, Ev prog C A (compEnvC scope cl Ca env) iter2 (mB.set x X) σ (fun Y σ' => ∃ l xs, Y = .c (.ref l) ∧ σ' l = some (.list xs) ∧ CompL2 prog C A env scope cl x iter2 mB Φ r (ys ++ xs) σ')
theorem CompL2.len {scope : Scope} {cl : List (Str × Addr)} {iter2 : Expr} {mB : Loc} {xs ys : List V} (h : CompL2 prog C A env scope cl x iter2 mB Φ xs ys σ) : ys.length ≤ 1000 := by
  cases xs with
  | nil => exact h.1
  | cons _ _ => exact h.1

inductive CK2 (prog : Program) (C : Cx) (E : Env) (mm : Loc) (σB : SH) (hB : Heap) (I D t : Addr) (vs : Array Value) (n : Nat) (r ys ls : List V) (σ' : SH) (F l : Addr) (nn : Nat) (s' : Shared) : Prop
  | mk (qs ps : List V) (h1 : nn = qs.length) (h2 : ps ++ qs = ls) (h3 : CI prog C E mm σB hB I D t vs n r (ys ++ ps) σ' s') (h4 : ∃ i, s'.heap.IsListIter F l i ∧ qs = ls.drop i)
theorem ev_comp2 {iter iter2 : Expr} {scope : Scope} {cl : List (Str × Addr)} {px py pe : Pos} (W : Wd prog K C) (hR : Room A k) (hcl : ∀ y c, cl.lookup y = some c → env.cells.lookup y = some c)
    (h : Ev prog C A env iter m σ (fun X σ₁ => ∃ ds, X = .d (.tuple ds) ∧ CompL2 prog C A env scope cl x iter2 (capt cl m) Φ (ds.map V.d) [] σ₁))
    (hclos : closureFor scope env = pure cl) (hcell : ∀ y ∈ scope.names, y.2 ≠ .cell) (hkind : scope.kind = .function)
    (hnames : ∀ y ∈ scope.names, y.2 = .local → scope.names.lookup y.1 = some .local) (hx : scope.names.lookup x = some .local) (hxc : cl.lookup x = none)
    (hy : scope.names.lookup y = some .local) (hyc : cl.lookup y = none) (hxy : y ≠ x) (hyd : (y == ("__debug__" : Str)) = false := by decide)
    (hs : ∀ x, foldedSetIterable iter env x = pure x := by intro _; rfl) (hs2 : ∀ e x, foldedSetIterable iter2 e x = pure x := by intro _ _; rfl) : Ev prog C A env (.ListComp (.Name y pe) [⟨.Name x px, iter, [], 0⟩, ⟨.Name y py, iter2, [], 0⟩] scope pos) m σ Φ :=
  comp_open W hR hcl (Fx := fun xs σ₁ => CompL2 prog C A env scope cl x iter2 (capt cl m) Φ xs [] σ₁) h hclos hcell hkind hnames hs fun s σB sB I D Ca t vs n s' xs G yB j p => by
    refine compLoop_two0 (CJ prog C (compEnvC scope cl Ca env) (capt cl m) (CompL2 prog C A env scope cl x iter2 (capt cl m) Φ) σB sB.heap I D t vs n) ?_ xs.length
      ⟨_, [], σB, rfl, j, p⟩ (by intro _; exact hs2 _ _) (by intro v; rfl)
    rintro nn s' ⟨xs, ys, σ', rfl, j, hF⟩
    cases xs with
    | nil => exact comp_fin G yB j hF.2 fun _ q => q
    | cons X r =>
      refine comp_turn G j hkind hx hxc (hF.2 Ca) (fun _ _ q => q) fun yv Y σ₃ s₃ rY j₃ pp => ?_
      obtain ⟨l, ls, eY, el, p₃⟩ := pp
      subst eY
      cases rY.ref
      obtain ⟨us, n', S₃, _, eD₃, _, _, sI₃, J₃⟩ := id j₃
      obtain ⟨lvs, ln, lq, lrs⟩ := S₃.toSt0.list el
      refine wpAny_pyIter_list (items := lvs.toArray) ⟨_, lq, rfl, ln, rfl⟩ ?_
      obtain ⟨S₄, z₄⟩ := S₃.pushT { cls := .type "list_iterator", data := .fields #[.ref l, .int 0 0] }
      have IL := iter_list (prog := prog) (C := C) (A := A) (k := k) (l := l) (it := s₃.heap.objs.size) (xs := ls) hR
      have nfL : s₃.heap.objs.size ≠ Ca := St0.size_ne S₃
      have nfD : s₃.heap.objs.size ≠ D := fun q => absurd (Heap.lt_size eD₃) (by rw [← q]; exact Nat.lt_irrefl _)
      obtain ⟨oI, eI₃⟩ := G.IT.here J₃
      have nfI : s₃.heap.objs.size ≠ I := fun q => absurd (Heap.lt_size eI₃) (by rw [← q]; exact Nat.lt_irrefl _)
      have f₃ : σ₃ s₃.heap.objs.size = none := S₃.toSt0.freshNone
      have fB : sB.heap.get? s₃.heap.objs.size = none := G.fr _ (Heap.lt_size eI₃)
      have j₄ := j₃.ext G (S₄.weaken (capt_set hxc)) z₄
      have inner : codeAny (model prog C.w) A (.compLoop (.ListComp (.Name y pe) [⟨.Name x px, iter, [], 0⟩, ⟨.Name y py, iter2, [], 0⟩] scope pos) 1 (.ref s₃.heap.objs.size) (.ref D) (compEnvC scope cl Ca env))
          (fun q s₅ => match q with | .ok _ => (∃ mm, mm < (X :: r).length ∧ CJ prog C (compEnvC scope cl Ca env) (capt cl m) (CompL2 prog C A env scope cl x iter2 (capt cl m) Φ) σB sB.heap I D t vs n mm s₅) | .error _ => False)
          { s₃ with heap := s₃.heap.push { cls := .type "list_iterator", data := .fields #[.ref l, .int 0 0] } } := by
        refine compLoop_two1 (CK2 prog C (compEnvC scope cl Ca env) (capt cl m) σB sB.heap I D t vs n r ys ls σ₃ s₃.heap.objs.size l) ?_ ls.length
          ⟨ls, [], rfl, rfl, by rw [List.append_nil]; exact j₄, ⟨0, ⟨_, Heap.get?_push_size _ rfl, rfl, rfl⟩, rfl⟩⟩ (by intro v; rfl)
        rintro nn s' ⟨qs, ps, rfl, eps, j', JL⟩
        obtain ⟨us, n', S', _, _, _, _, sI', J'⟩ := id j'
        cases qs with
        | nil =>
          refine wpAny_mono (IL.fin S'.toSt0 el JL) (fun o s₁ ⟨e, h', e', hs⟩ => ?_) fun _ _ e => e.elim
          subst e; subst e'
          refine ⟨r.length, Nat.lt_succ_self _, r, ys ++ ls, σ₃, rfl, ?_, p₃⟩
          rw [← eps, List.append_nil]
          exact j'.but G hs f₃ nfL nfD nfI fB (fun o e => IL.noT JL e) (fun o e => IL.noC JL e)
        | cons Q qs =>
          refine wpAny_mono (IL.step S'.toSt0 el JL) (fun o s₁ ⟨v, h', tk, e, e', rv, hs, J₁⟩ => ?_) fun _ _ e => e.elim
          subst e; subst e'
          have j₁ := j'.but (tk := tk) G (fun b o hb e => (hs.2 b hb).trans e) f₃ nfL nfD nfI fB (fun o e => IL.noT JL e) (fun o e => IL.noC JL e)
          obtain ⟨_, _, S₁, _⟩ := id j₁
          refine wpAny_assign_Name (storeC_go S₁ rv hkind hy hyc fun s₂ S₂ z₂ => ?_)
          obtain ⟨oF, eoF⟩ := IL.here J₁
          have eF₂ := z₂.keep _ _ nfL f₃ eoF
          have JL₂ := IL.stable J₁ (eF₂.trans eoF.symm) (S₁.keepT z₂)
          obtain ⟨mp, F, Hm⟩ := S₂.fr
          have hq := Hm y Q (by unfold Loc.set; simp)
          unfold Has at hq
          rw [show (compEnvC scope cl Ca env).cells.lookup y = none from hyc] at hq
          obtain ⟨vq, eq, rq⟩ := hq
          refine wpAny_Name (wpAny_loadName_local (by simp [compEnvC, relabel, hkind]) (lookup_relabel_local hy) F.ns eq ?_) hyd
          have hlen : (ys ++ ps).length < 1000 := by
            have := p₃.len
            rw [← eps] at this
            simp only [List.length_append, List.length_cons] at this ⊢
            (first | lia | omega)
          refine comp_push G (j₁.ext G S₂ z₂) rq hlen (capt_set hyc) fun h₄ hs₄ kt₄ j₅ => ?_
          refine ⟨qs.length, Nat.lt_succ_self _, qs, ps ++ [Q], rfl, by rw [← eps]; simp, ?_, IL.stable JL₂ (hs₄.2 _ nfD) kt₄⟩
          rw [← List.append_assoc]
          exact j₅
      exact compStart_two1 inner (wpAny_pyIter_listiter (i := 0) (l := l) ⟨_, Heap.get?_push_size _ rfl, rfl, rfl⟩ inner)
end
end Mine
namespace Mine
section
variable {prog : Program} {K : Frag} {C : Cx} {A : Around} {env : Env} {m : Loc} {σ σ' σ₁ σ₂ : SH} {s : Shared} {Φ : V → SH → Prop} {k : Nat} {pos np apos : Pos} {x y : Str}

theorem bindL_lookup {kindOf : Str → Option NameKind} {y : Str} (hy : kindOf y = some .local) : ∀ (l : List (Str × Value)) (m : Str → Option Value), bindL kindOf l m y = (l.reverse.lookup y).or (m y)
  | [], m => by simp [bindL]
  | (n, v) :: r, m => by
    rw [bindL, bindL_lookup hy r, List.reverse_cons, List.lookup_append]
    by_cases q : y = n
    · subst q; rw [if_pos hy]; simp [List.lookup]
    · have : (y == n) = false := by simpa using q
      have e : (if kindOf n = some .local then fun z => if z = n then some v else m z else m) y = m y := by split <;> simp [q]
      rw [e]; simp [List.lookup, this]
theorem bindC_lookup {kindOf : Str → Option NameKind} {y : Str} (hy : kindOf y ≠ some .local) : ∀ (l : List (Str × Value)) (m : Str → Option Value), bindC kindOf l m y = (l.reverse.lookup y).or (m y)
  | [], m => by simp [bindC]
  | (n, v) :: r, m => by
    rw [bindC, bindC_lookup hy r, List.reverse_cons, List.lookup_append]
    by_cases q : y = n
    · subst q; rw [if_neg hy]; simp [List.lookup]
    · have : (y == n) = false := by simpa using q
      have e : (if kindOf n = some .local then m else fun z => if z = n then some v else m z) y = m y := by split <;> simp [q]
      rw [e]; simp [List.lookup, this]
theorem lookup_mem' {α : Type} {y : Str} {v : α} : ∀ {l : List (Str × α)}, l.lookup y = some v → (y, v) ∈ l
  | (n, w) :: r, h => by
    rw [List.lookup_cons] at h
    cases c : (y == n) with
    | true => rw [c] at h; cases h; have : y = n := by simpa using c
              subst this; exact .head _
    | false => rw [c] at h; exact .tail _ (lookup_mem' h)

theorem callC_defC {f : Addr} {oc : Value} {od an : Option Addr} {osl : Array (Option Value)} {name qual : Str} {params : Arguments} {body : List Stmt} {scope : Scope} {dV kV doc pm cdv ct : Value} {Xs : List V} (names : List Str)
    (W : Wd prog K C) (ho : K.lookup f = some ⟨oc, od, .func (fnOf name qual params body scope dV kV doc pm an cdv ct), osl⟩) (hcd : codeIn K cdv qual = true)
    (hb : ∀ s : Shared, K.In s.heap → ∀ vs, vs.length = Xs.length → BindsTo s (fnOf name qual params body scope dV kV doc pm an cdv ct) ⟨vs, []⟩ (names.zip vs))
    (hkind : ∀ n, (names.all fun y => (scope.names.lookup y == some .local && ((cellsFrom n scope.names []).lookup y).isNone) || (scope.names.lookup y == some .cell && ((cellsFrom n scope.names []).lookup y).isSome)) = true)
    (hco : scope.isCoroutine = false) (hgen : scope.isGenerator = false) (hk : scope.kind = .function)
    (h : ∀ A L, Room A k → Ex prog C A (envX qual scope L f cdv (cellsFrom (L + 1) scope.names [])) (execs body (envX qual scope L f cdv (cellsFrom (L + 1) scope.names []))) (Loc.of names Xs) σ (RetK Φ)) : CallC prog C (k + 1) (.ref f) Xs σ Φ := fun A s vs hR S rs => by
  obtain ⟨p, lo, mg, mb, T⟩ := W.top
  have X := W.kin.keeps S.keep
  have hz : ∀ n, ∀ y ∈ names, (scope.names.lookup y = some .local ∧ (cellsFrom n scope.names []).lookup y = none) ∨ (scope.names.lookup y = some .cell ∧ ((cellsFrom n scope.names []).lookup y).isSome = true) := fun n y hy => by
    simpa using List.all_eq_true.mp (hkind n) y hy
  refine codeAny_call_function (fd := fnOf name qual params body scope dV kV doc pm an cdv ct) (body := body) hR.hd (X _ _ ho) rfl hco hgen rfl (codeRec_of X hcd) (hb s X vs rs.length _ _ _ _ ?_)
  refine wpAny_newFunctionEnv_cells hk (fun y hy => ?_) fun env' he s' x => ?_
  · rcases hz _ y.1 (List.of_mem_zip hy).1 with q | q
    · exact .inl q.1
    · exact .inr q
  subst he
  refine ⟨(T.nolimit.keeps S.keep).keeps x.toInCall.keep, codeAny_func ?_⟩
  obtain ⟨h₁, tk, rfl, kp⟩ := x.done
  have S₁ : St prog C (envX qual scope s.heap.objs.size f cdv (cellsFrom (s.heap.objs.size + 1) scope.names [])) (Loc.of names Xs) σ { s with heap := h₁, toks := tk } := by
    refine ⟨⟨?_, fun b o e => kp _ _ (S.keep b o e), S.new, fun a so e => (S.rep a so e).mono (Keeps.t kp) fun o e => kp _ _ e, S.gens, S.drawn, S.os⟩, ⟨_, ⟨x.toInCall.ns, fun b o e => kp _ _ (S.keep b o e), S.size⟩, fun y Y e => ?_⟩, ?_⟩
    · exact Nat.le_trans S.size (Nat.le_of_lt x.toInCall.ns.lt)
    · obtain ⟨v, e', r⟩ := zip_rep rs names [] [] (fun _ _ e => by cases e) y Y (by rw [List.append_nil]; exact e)
      rw [List.append_nil] at e'
      have hy : y ∈ names := (List.of_mem_zip (List.mem_reverse.mp (lookup_mem' e'))).1
      rcases hz (s.heap.objs.size + 1) y hy with ⟨q1, q2⟩ | ⟨q1, q2⟩
      · unfold Has
        rw [show (envX qual scope s.heap.objs.size f cdv (cellsFrom (s.heap.objs.size + 1) scope.names [])).cells.lookup y = none from q2]
        refine ⟨v, ?_, r.keepT (Keeps.t kp)⟩
        exact (bindL_lookup (kindOf := (envX qual scope s.heap.objs.size f cdv (cellsFrom (s.heap.objs.size + 1) scope.names [])).kindOf) (y := y) q1 (names.zip vs) (fun _ => none)).trans (by simp [e'])
      · obtain ⟨c, ec⟩ := Option.isSome_iff_exists.mp q2
        unfold Has
        rw [show (envX qual scope s.heap.objs.size f cdv (cellsFrom (s.heap.objs.size + 1) scope.names [])).cells.lookup y = some c from ec]
        obtain ⟨o, eo, ed⟩ := x.cell y c ec
        have ed' := ed.trans (congrArg Data.cell ((bindC_lookup (kindOf := (envX qual scope s.heap.objs.size f cdv (cellsFrom (s.heap.objs.size + 1) scope.names [])).kindOf) (y := y)
          (fun z => by have z' : scope.names.lookup y = some .local := z
                       rw [q1] at z'; cases z') (names.zip vs) (fun _ => none)).trans (by rw [e'])))
        exact ⟨Nat.ne_of_gt (x.above y c (lookup_mem' ec)), v, o, eo, ed', r.keepT (Keeps.t kp)⟩
    · exact S.freshNone
  refine wpAny_mono (h (A.deeper (envX qual scope s.heap.objs.size f cdv (cellsFrom (s.heap.objs.size + 1) scope.names []))) s.heap.objs.size (hR.deeper _) _ S₁) (fun fl s' q => ?_) fun _ _ e => e.elim
  obtain ⟨F, m', σ', r, S', x, p⟩ := q
  have xC : ExtC σ s.heap σ' s'.heap := by
    refine ⟨fun b o hb e => x.keep b o (fun q => ?_) hb (kp _ _ e), fun b hb => ?_⟩
    · subst q
      exact absurd (Heap.lt_size e) (Nat.lt_irrefl _)
    · rcases x.new b hb with y | y
      · exact .inl y
      · refine .inr ?_
        cases q : s.heap.get? b with
        | none => rfl
        | some o => rw [kp _ _ q] at y; cases y
  cases fl with
  | ret v =>
    cases F with
    | ret X => exact ⟨X, σ', r, S'.toSt0, xC, p⟩
    | _ => exact r.elim
  | _ => cases F <;> first | exact r.elim | exact ⟨_, σ', repN, S'.toSt0, xC, p⟩
end
end Mine
namespace Mine
section
variable {prog : Program} {K : Frag} {C : Cx} {A : Around} {env : Env} {m : Loc} {σ σ' σ₁ σ₂ : SH} {s : Shared} {Φ : V → SH → Prop} {Ψ : SF → Loc → SH → Prop} {k : Nat} {pos np apos : Pos} {x y : Str}

/-- a while, turn by turn -/
noncomputable def LoopC (prog : Program) (C : Cx) (A : Around) (env : Env) (t : Expr) (b : List Stmt) (m : Loc) (σ : SH) (Ψ : SF → Loc → SH → Prop) : Prop :=
  ∀ s, St prog C env m σ s → codeAny (model prog C.w) A (.whileLoop t b [] env) (fun r s' => match r with | .ok f => GoSQ prog C env σ s Ψ f s' | .error _ => False) s
theorem st_loop {t : Expr} {b : List Stmt} (h : LoopC prog C A env t b m σ Ψ) : Ex1 prog C A env (.While t b [] pos) m σ Ψ := fun s S =>
  wpAny_While (codeAny_mono (h s S) fun r s' q => by
    cases r with
    | ok f => exact q
    | error e => exact q.elim)
/-- behind a turn -/
noncomputable def LoopK (prog : Program) (C : Cx) (A : Around) (env : Env) (t : Expr) (b : List Stmt) (Ψ : SF → Loc → SH → Prop) (F : SF) (m : Loc) (σ : SH) : Prop := match F with
  | .next => LoopC prog C A env t b m σ Ψ
  | .cont => LoopC prog C A env t b m σ Ψ
  | .brk => Ψ .next m σ
  | .ret X => Ψ (.ret X) m σ
theorem loop_turn {t : Expr} {b : List Stmt} (h : Ts prog C A env t m σ (fun c σ₁ => (c = true → Exs prog C A env b m σ₁ (LoopK prog C A env t b Ψ)) ∧ (c = false → Ψ .next m σ₁))) : LoopC prog C A env t b m σ Ψ := fun s S => by
  refine codeAny_of_tree ?_
  show wpAny _ A ((whileTurn t b [] env).onRaise (fun x => do noteFrame x env; theTreesLotGoes x)) _ _ s
  refine wpAny_noted ?_
  simp only [whileTurn]
  refine wpAny_bind (Go.bind (h s S) (fun c s₁ c' σ₁ r S₁ z p => ?_))
  cases r
  cases c with
  | false =>
    simp only [Bool.false_eq_true, if_false]
    exact wpAny_bind (wpAny_execs_nil (wpAny_pure ⟨.next, m, σ₁, trivial, S₁, z, p.2 rfl⟩))
  | true =>
    simp only [if_true]
    refine wpAny_bind (GoS.bind (p.1 rfl s₁ S₁) (fun f s₂ F m₂ σ₂ r S₂ z₂ p₂ => ?_))
    have again : LoopC prog C A env t b m₂ σ₂ Ψ → codeAny (model prog C.w) A (.whileLoop t b [] env) (fun r s' => match r with | .ok f => GoSQ prog C env σ s Ψ f s' | .error _ => False) s₂ := fun hL =>
      codeAny_mono (hL s₂ S₂) fun r s' q => by
        cases r with
        | ok f => exact GoSQ.from (z.trans z₂) q
        | error e => exact q.elim
    cases f <;> cases F <;> first
      | exact r.elim
      | exact wpAny_pure ⟨rfl, again p₂⟩
      | exact wpAny_pure ⟨.next, m₂, σ₂, trivial, S₂, z.trans z₂, p₂⟩
      | exact wpAny_pure ⟨_, m₂, σ₂, r, S₂, z.trans z₂, p₂⟩

-- small rules
theorem ev_neg {i : Int} {n : Nat} {p : Pos} (h : Φ (.d (.int (-i))) σ) : Ev prog C A env (.UnaryOp .USub (.Constant (.int i) n p) pos) m σ Φ := fun s S =>
  UnaryOp_ (wpAny_Constant_int (neg_int (by
    obtain ⟨S', x⟩ := S.keepsTo (tk := s.toks + 1 + 1) (h' := s.heap) fun _ _ e => e
    exact ⟨.d (.int (-i)), σ, repI _ _, S', x, h⟩)))
theorem op_gitem {a : Addr} {xs : List V} {i : Int} {X : V} (ea : σ a = some (.list xs)) (h0 : 0 ≤ i) (h1 : i < 2 ^ 63) (hx : xs[i.toNat]? = some X) (h : Φ X σ) :
    Op2 prog C A env RepV getItem (.c (.ref a)) (.d (.int i)) m σ Φ := fun s v u S r q => by
  cases r.ref
  obtain ⟨t, rfl⟩ := q.int
  obtain ⟨vs, n, p, rs⟩ := S.toSt0.list ea
  obtain ⟨w, e1, e2⟩ := rs.get hx
  exact wpAny_getItem_list ⟨_, p, rfl, n, rfl⟩ h0 h1 (by simpa using e1) (Go.now S e2 h)
theorem seq_next {rest : List Stmt} (h : Exs prog C A env rest m σ Ψ) : SeqK prog C A env rest Ψ .next m σ := h
theorem seq_ret {rest : List Stmt} {X : V} (h : Ψ (.ret X) m σ) : SeqK prog C A env rest Ψ (.ret X) m σ := h
theorem seq_cont {rest : List Stmt} (h : Ψ .cont m σ) : SeqK prog C A env rest Ψ .cont m σ := h
theorem retk_ret {X : V} (h : Φ X σ) : RetK Φ (.ret X) m σ := h
theorem retk_next (h : Φ (.d .none) σ) : RetK Φ .next m σ := h
theorem loop_next {t : Expr} {b : List Stmt} (h : LoopC prog C A env t b m σ Ψ) : LoopK prog C A env t b Ψ .next m σ := h
theorem loop_cont {t : Expr} {b : List Stmt} (h : LoopC prog C A env t b m σ Ψ) : LoopK prog C A env t b Ψ .cont m σ := h
theorem loop_ret {t : Expr} {b : List Stmt} {X : V} (h : Ψ (.ret X) m σ) : LoopK prog C A env t b Ψ (.ret X) m σ := h

-- equality of ints, strings, cells
theorem ieq (a b : Int) : (a == b) = decide (a = b) := by
  by_cases h : a = b <;> simp [h]
theorem op_eqI {a b : Int} (hR : Room A k) (h : Φ (.d (.bool (decide (a = b)))) σ) : Op2 prog C A env RepV (compareOp .Eq) (.d (.int a)) (.d (.int b)) m σ Φ :=
  op_eq hR rfl rfl (by simpa [PyData.eqv, ieq] using h)
theorem op_neI {a b : Int} (hR : Room A k) (h : Φ (.d (.bool (!decide (a = b)))) σ) : Op2 prog C A env RepV (compareOp .NotEq) (.d (.int a)) (.d (.int b)) m σ Φ :=
  op_ne hR rfl rfl (by simpa [PyData.eqv, ieq] using h)
theorem op_eqS {a b : Str} (hR : Room A k) (ha : SeqAt.shaped (.str a) = true) (hb : SeqAt.shaped (.str b) = true) (h : Φ (.d (.bool (a == b))) σ) : Op2 prog C A env RepV (compareOp .Eq) (.d (.str a)) (.d (.str b)) m σ Φ :=
  op_eq hR ha hb (by simpa [PyData.eqv] using h)
theorem op_neS {a b : Str} (hR : Room A k) (ha : SeqAt.shaped (.str a) = true) (hb : SeqAt.shaped (.str b) = true) (h : Φ (.d (.bool (!(a == b)))) σ) : Op2 prog C A env RepV (compareOp .NotEq) (.d (.str a)) (.d (.str b)) m σ Φ :=
  op_ne hR ha hb (by simpa [PyData.eqv] using h)
/-- a cell of the store -/
abbrev Cell := Nat × Nat
noncomputable def ec (c : Cell) : PyData := .tuple [.int (c.1 : Int), .int (c.2 : Int)]
theorem op_eqC {a b : Cell} (hR : Room A k) (h : Φ (.d (.bool (decide (a = b)))) σ) : Op2 prog C A env RepV (compareOp .Eq) (.d (ec a)) (.d (ec b)) m σ Φ :=
  op_eq hR rfl rfl (by
    have : (ec a).eqv (ec b) = decide (a = b) := by
      obtain ⟨a1, a2⟩ := a; obtain ⟨b1, b2⟩ := b
      by_cases h1 : a1 = b1 <;> by_cases h2 : a2 = b2 <;> simp [ec, PyData.eqv, PyData.eqvAll, h1, h2] <;> (first | lia | omega)
    rw [this]; exact h)
theorem op_neC {a b : Cell} (hR : Room A k) (h : Φ (.d (.bool (!decide (a = b)))) σ) : Op2 prog C A env RepV (compareOp .NotEq) (.d (ec a)) (.d (ec b)) m σ Φ :=
  op_ne hR rfl rfl (by
    have : (ec a).eqv (ec b) = decide (a = b) := by
      obtain ⟨a1, a2⟩ := a; obtain ⟨b1, b2⟩ := b
      by_cases h1 : a1 = b1 <;> by_cases h2 : a2 = b2 <;> simp [ec, PyData.eqv, PyData.eqvAll, h1, h2] <;> (first | lia | omega)
    rw [this]; exact h)
/-- the address's item of a cell -/
theorem op_cell0 {c : Cell} {e sl : Expr} (h : Φ (.d (.int (c.1 : Int))) σ)
    (hs : ∀ a u, subscripted sl false (.ref a) (.int 0 u) = operate [.ref a, .int 0 u] (getItem (.ref a) (.int 0 u)) := by intro _ _; with_unfolding_all rfl) :
    Op2 prog C A env RepV (subscriptTail e sl) (.d (ec c)) (.d (.int 0)) m σ Φ := op_tupIdx (by decide) (by decide) rfl h hs
theorem op_cell1 {c : Cell} {e sl : Expr} (h : Φ (.d (.int (c.2 : Int))) σ)
    (hs : ∀ a u, subscripted sl false (.ref a) (.int 1 u) = operate [.ref a, .int 1 u] (getItem (.ref a) (.int 1 u)) := by intro _ _; with_unfolding_all rfl) :
    Op2 prog C A env RepV (subscriptTail e sl) (.d (ec c)) (.d (.int 1)) m σ Φ := op_tupIdx (by decide) (by decide) rfl h hs
theorem op_listN {a : Addr} {xs : List V} {n : Nat} {X : V} {e sl : Expr} (ea : σ a = some (.list xs)) (hx : xs[n]? = some X) (hn : xs.length ≤ 100000) (h : Φ X σ)
    (hs : ∀ a u, subscripted sl false (.ref a) (.int (n : Int) u) = operate [.ref a, .int (n : Int) u] (getItem (.ref a) (.int (n : Int) u)) := by intro _ _; with_unfolding_all rfl) :
    Op2 prog C A env RepV (subscriptTail e sl) (.c (.ref a)) (.d (.int (n : Int))) m σ Φ := by
  have hl : n < xs.length := by
    rcases Nat.lt_or_ge n xs.length with q | q
    · exact q
    · rw [List.getElem?_eq_none q] at hx; cases hx
  exact op_listIdx ea (Int.natCast_nonneg n) (by (first | lia | omega)) (by simpa using hx) h hs
theorem set_listN {a : Addr} {xs : List V} {n : Nat} {X : V} {Φ : SH → Prop} (ea : σ a = some (.list xs)) (hn : n < xs.length) (hl : xs.length ≤ 100000) (h : Φ (σ.set a (.list (xs.set n X)))) :
    OpSet prog C A env (.c (.ref a)) (.d (.int (n : Int))) X m σ Φ := set_list ea (Int.natCast_nonneg n) (by (first | lia | omega)) (by (first | lia | omega)) (by simpa using h)
end
end Mine
namespace Mine
/-- what stands outside M stays -/
noncomputable def Fw (M : Addr → Prop) (σ σ' : SH) : Prop := ∀ a so, σ a = some so → ¬ M a → σ' a = some so
theorem Fw.refl {M : Addr → Prop} {σ : SH} : Fw M σ σ := fun _ _ e _ => e
theorem Fw.trans {M : Addr → Prop} {σ σ₁ σ₂ : SH} (x : Fw M σ σ₁) (y : Fw M σ₁ σ₂) : Fw M σ σ₂ := fun a so e h => y a so (x a so e h) h
theorem Fw.mono {M N : Addr → Prop} {σ σ' : SH} (x : Fw M σ σ') (h : ∀ a, M a → N a) : Fw N σ σ' := fun a so e hn => x a so e fun q => hn (h a q)
theorem Fw.set {M : Addr → Prop} {σ σ' : SH} {a : Addr} {so : SObj} (x : Fw M σ σ') (h : M a) : Fw M σ (σ'.set a so) := fun b o e hn => by
  rw [SH.set_ne _ _ (fun q : b = a => hn (by rw [q]; exact h))]; exact x b o e hn
theorem Fw.new {M : Addr → Prop} {σ σ' : SH} {a : Addr} {so : SObj} (x : Fw M σ σ') (h : σ a = none) : Fw M σ (σ'.set a so) := fun b o e hn => by
  rw [SH.set_ne _ _ (fun q : b = a => by rw [q, h] at e; cases e)]; exact x b o e hn
theorem ne_new {σ : SH} {a b : Addr} {so : SObj} (h : σ b = none) (e : σ a = some so) : a ≠ b := fun q => by rw [q, h] at e; cases e

/-- the table of names -/
structure Sy where
  T : List Str
  F : List (Nat × Nat)
structure SymA where
  (a d t n f g : Addr)
noncomputable def tv (T : List Str) : SObj := .list (T.map fun x => V.d (.str x))
noncomputable def tn (T : List Str) : SObj := .sdict (T.zipIdx.map fun p => (p.1, V.d (.int (p.2 : Nat))))
noncomputable def fv (F : List (Nat × Nat)) : SObj := .list (F.map fun c => V.d (ec c))
noncomputable def fn (F : List (Nat × Nat)) : SObj := .tdict (F.zipIdx.map fun p => ([(p.1.1 : Int), (p.1.2 : Int)], V.d (.int (p.2 : Nat))))
noncomputable def symF (Y : SymA) : List (Str × V) := [("texts", .c (.ref Y.t)), ("atom_numbers", .c (.ref Y.n)), ("functors", .c (.ref Y.f)), ("functor_numbers", .c (.ref Y.g))]
structure SymAt (σ : SH) (Y : SymA) (S : Sy) : Prop where
  a : σ Y.a = some (.inst 154 Y.d)
  d : σ Y.d = some (.ns (symF Y))
  t : σ Y.t = some (tv S.T)
  n : σ Y.n = some (tn S.T)
  f : σ Y.f = some (fv S.F)
  g : σ Y.g = some (fn S.F)
  ne : Y.t ≠ Y.f
  nT : S.T.Nodup
  nF : S.F.Nodup
noncomputable def SymM (Y : SymA) (a : Addr) : Prop := a = Y.t ∨ a = Y.n ∨ a = Y.f ∨ a = Y.g
noncomputable def ixOf {α : Type} [DecidableEq α] : List α → α → Nat
  | [], _ => 0
  | y :: r, x => if y = x then 0 else ixOf r x + 1
noncomputable def atomP (T : List Str) (x : Str) : Nat × List Str := if x ∈ T then (ixOf T x, T) else (T.length, T ++ [x])
noncomputable def funP (F : List (Nat × Nat)) (x : Nat × Nat) : Nat × List (Nat × Nat) := if x ∈ F then (ixOf F x, F) else (F.length, F ++ [x])

theorem find_zip {α : Type} [DecidableEq α] (x : α) : ∀ (T : List α) (j : Nat), (T.zipIdx j).find? (fun p => decide (p.1 = x)) = if x ∈ T then some (x, ixOf T x + j) else none
  | [], j => by simp
  | y :: r, j => by
    rw [List.zipIdx_cons, List.find?_cons, find_zip x r]
    by_cases h : y = x
    · subst h; simp [ixOf]
    · have h' : ¬ x = y := fun q => h q.symm
      simp only [h, decide_false, List.mem_cons, h', false_or, ixOf, if_false]
      split
      · simp; (first | lia | omega)
      · rfl
theorem vat_tn (T : List Str) (x : Str) : vat (T.zipIdx.map fun p => (p.1, V.d (.int (p.2 : Nat)))) x = if x ∈ T then some (V.d (.int (ixOf T x : Nat))) else none := by
  unfold vat
  rw [List.find?_map]
  have := find_zip x T 0
  rw [show ((fun kv : Str × V => decide (kv.1 = x)) ∘ fun p : Str × Nat => (p.1, V.d (.int (p.2 : Nat)))) = fun p : Str × Nat => decide (p.1 = x) from rfl, this]
  split <;> simp
theorem vput_new {κ : Type} [DecidableEq κ] (kvs : List (κ × V)) (x : κ) (v : V) (h : vat kvs x = none) : vput kvs x v = kvs ++ [(x, v)] := by
  unfold vat at h
  unfold vput
  simp at h
  rw [if_neg]
  simp only [List.any_eq_true, decide_eq_true_eq, not_exists, not_and]
  rintro ⟨a, b⟩ hm e
  exact h a b hm e
theorem vat_fn (F : List (Nat × Nat)) (x : Nat × Nat) : vat (F.zipIdx.map fun p => ([(p.1.1 : Int), (p.1.2 : Int)], V.d (.int (p.2 : Nat)))) [(x.1 : Int), (x.2 : Int)] = if x ∈ F then some (V.d (.int (ixOf F x : Nat))) else none := by
  unfold vat
  rw [List.find?_map]
  have := find_zip x F 0
  have e : ((fun kv : List Int × V => decide (kv.1 = [(x.1 : Int), (x.2 : Int)])) ∘ fun p : (Nat × Nat) × Nat => ([(p.1.1 : Int), (p.1.2 : Int)], V.d (.int (p.2 : Nat)))) = fun p : (Nat × Nat) × Nat => decide (p.1 = x) := by
    funext p
    obtain ⟨⟨a, b⟩, c⟩ := p
    obtain ⟨u, v⟩ := x
    by_cases h1 : a = u <;> by_cases h2 : b = v <;> simp [h1, h2] <;> (first | lia | omega)
  rw [e, this]
  split <;> simp
section
variable {prog : Program} {K : Frag} {C : Cx} {A : Around} {env : Env} {m : Loc} {σ σ' σ₁ σ₂ : SH} {s : Shared} {Φ : V → SH → Prop} {Ψ : SH → Prop} {k : Nat} {X : V}
theorem op_get_tn {a : Addr} {T : List Str} {x : Str} (ea : σ a = some (tn T)) (h : (x ∈ T → Φ (.d (.int (ixOf T x : Nat))) σ) ∧ (x ∉ T → Φ X σ)) :
    OpL prog C A env (.builtin "dict.get") [.c (.ref a), .d (.str x), X] m σ Φ := op_get_sdict ea (by
  rw [vat_tn]
  split
  · exact h.1 ‹_›
  · exact h.2 ‹_›)
theorem set_tn {a : Addr} {T : List Str} {x : Str} (ea : σ a = some (tn T)) (hx : x ∉ T) (hn : T.length ≤ 1000) (h : Ψ (σ.set a (tn (T ++ [x])))) :
    OpSet prog C A env (.c (.ref a)) (.d (.str x)) (.d (.int (T.length : Nat))) m σ Ψ := set_sdict ea (by simpa using hn) (by
  rw [vput_new _ _ _ (by rw [vat_tn, if_neg hx])]
  unfold tn at h
  rw [List.zipIdx_append] at h
  simpa using h)
theorem op_get_fn {a : Addr} {F : List (Nat × Nat)} {c : Cell} (hR : Room A k) (ea : σ a = some (fn F)) (h : (c ∈ F → Φ (.d (.int (ixOf F c : Nat))) σ) ∧ (c ∉ F → Φ X σ)) :
    OpL prog C A env (.builtin "dict.get") [.c (.ref a), .d (ec c), X] m σ Φ := op_get_tdict (is := [(c.1 : Int), (c.2 : Int)]) hR ea (by
  rw [vat_fn F c]
  split
  · exact h.1 ‹_›
  · exact h.2 ‹_›)
theorem set_fn {a : Addr} {F : List (Nat × Nat)} {c : Cell} (hR : Room A k) (ea : σ a = some (fn F)) (hx : c ∉ F) (hn : F.length ≤ 1000) (h : Ψ (σ.set a (fn (F ++ [c])))) :
    OpSet prog C A env (.c (.ref a)) (.d (ec c)) (.d (.int (F.length : Nat))) m σ Ψ := set_tdict (is := [(c.1 : Int), (c.2 : Int)]) hR ea (by simpa using hn) (by
  rw [vput_new _ _ _ (by rw [vat_fn F c, if_neg hx])]
  unfold fn at h
  rw [List.zipIdx_append] at h
  simpa using h)
theorem op_append_tv {a : Addr} {T : List Str} {x : Str} (ea : σ a = some (tv T)) (hn : T.length ≤ 1000) (h : Φ (.d .none) (σ.set a (tv (T ++ [x])))) :
    OpL prog C A env (.builtin "list.append") [.c (.ref a), .d (.str x)] m σ Φ := op_append ea (by simpa using hn) (by simpa [tv] using h)
theorem op_append_fvc {a : Addr} {F : List Cell} {c : Cell} (ea : σ a = some (fv F)) (hn : F.length ≤ 1000) (h : Φ (.d .none) (σ.set a (fv (F ++ [c])))) :
    OpL prog C A env (.builtin "list.append") [.c (.ref a), .d (ec c)] m σ Φ := op_append ea (by simpa using hn) (by simpa [fv] using h)
theorem op_addN {a b : Nat} {i j : Int} (hi : i = (a : Int)) (hj : j = (b : Int)) (h : Φ (.d (.int ((a + b : Nat) : Int))) σ) : Op2 prog C A env RepV (binaryOp .Add) (.d (.int i)) (.d (.int j)) m σ Φ := by
  subst hi; subst hj; exact op_add (by simpa using h)
theorem tupk_ec {i j : Int} {a b : Nat} (hi : i = (a : Int)) (hj : j = (b : Int)) (h : Φ (.d (ec (a, b))) σ) : TupK [.d (.int i), .d (.int j)] σ Φ := by
  subst hi; subst hj; exact ⟨by simp, _, rfl, h⟩
theorem tupk_gen {Xs : List V} {ds : List PyData} (hl : Xs.length ≤ 1000) (hd : unD Xs = some ds) (h : Φ (.d (.tuple ds)) σ) : TupK Xs σ Φ := ⟨hl, ds, hd, h⟩
theorem opl_len_tv {a : Addr} {T : List Str} (ea : σ a = some (tv T)) (hn : T.length ≤ 1000) (h : Φ (.d (.int (T.length : Nat))) σ) : OpL prog C A env (.builtin "len") [.c (.ref a)] m σ Φ :=
  opl_len_list ea (by simp; (first | lia | omega)) (by simpa using h)
theorem opl_len_fv {a : Addr} {T : List Cell} (ea : σ a = some (fv T)) (hn : T.length ≤ 1000) (h : Φ (.d (.int (T.length : Nat))) σ) : OpL prog C A env (.builtin "len") [.c (.ref a)] m σ Φ :=
  opl_len_list ea (by simp; (first | lia | omega)) (by simpa using h)
end
noncomputable def SObj.kind : SObj → Nat
  | .list _ => 0 | .idict _ => 1 | .sdict _ => 2 | .tdict _ => 3 | .iset _ _ => 4 | .inst _ _ => 5 | .ns _ => 6 | .range _ _ _ => 7
theorem ne_k {σ : SH} {a b : Addr} {x y : SObj} (h1 : σ a = some x) (h2 : σ b = some y) (h : (x.kind == y.kind) = false) : a ≠ b := fun q => by
  rw [q, h2] at h1; cases h1; simp at h
end Mine
namespace Mine
theorem Loc.set_self (m : Loc) (x : Str) (X : V) : m.set x X x = some X := by unfold Loc.set; simp
theorem Loc.set_ne (m : Loc) {x y : Str} (X : V) (h : (y == x) = false) : m.set x X y = m y := by
  unfold Loc.set
  rw [if_neg]
  simpa using h

/-- the machine: its areas and its store -/
structure Mch where
  H : List Cell
  X : List Cell
  w : Bool
  s : Nat
  g : Cell
structure MchA where
  (m md st sd h x cd sk tr ro bg : Addr)
noncomputable def modeS (w : Bool) : Str := if w then "write" else "read"
noncomputable def areaF (Y : SymA) (B : MchA) (M : Mch) : List (Str × V) := [("symbols", .c (.ref Y.a)), ("code", .c (.ref B.cd)), ("max_heap", .d (.int 100000)), ("occurs", .d (.bool true)), ("max_bits", .d (.int 4096)),
  ("store", .c (.ref B.st)), ("x", .c (.ref B.x)), ("p", .d (.int 0)), ("cp", .d (.int 0)), ("e", .d (.int (-1))), ("b", .d (.int (-1))), ("b0", .d (.int (-1))), ("mode", .d (.str (modeS M.w))), ("s", .d (.int (M.s : Nat))),
  ("guard", .d (ec M.g)), ("roots", .c (.ref B.ro)), ("bags", .c (.ref B.bg)), ("collect_wanted", .d (.bool false))]
noncomputable def storeF (Y : SymA) (B : MchA) : List (Str × V) := [("symbols", .c (.ref Y.a)), ("max_heap", .d (.int 100000)), ("heap", .c (.ref B.h)), ("stack", .c (.ref B.sk)), ("trail", .c (.ref B.tr)), ("hb", .d (.int 0)), ("bb", .d (.int 0))]
structure MchAt (σ : SH) (Y : SymA) (B : MchA) (S : Sy) (M : Mch) : Prop where
  y : SymAt σ Y S
  m : σ B.m = some (.inst 625 B.md)
  md : σ B.md = some (.ns (areaF Y B M))
  st : σ B.st = some (.inst 381 B.sd)
  sd : σ B.sd = some (.ns (storeF Y B))
  h : σ B.h = some (fv M.H)
  x : σ B.x = some (fv M.X)
  hx : B.h ≠ B.x
  ht : B.h ≠ Y.t
  hf : B.h ≠ Y.f
  xt : B.x ≠ Y.t
  xf : B.x ≠ Y.f
  ms : B.md ≠ B.sd
  my : B.md ≠ Y.d
noncomputable def MchM (B : MchA) (a : Addr) : Prop := a = B.h ∨ a = B.x ∨ a = B.md
noncomputable def SymFoot (Y : SymA) (a : Addr) : Prop := a = Y.a ∨ a = Y.d ∨ a = Y.t ∨ a = Y.n ∨ a = Y.f ∨ a = Y.g
noncomputable def Foot (Y : SymA) (B : MchA) (a : Addr) : Prop := SymFoot Y a ∨ a = B.m ∨ a = B.md ∨ a = B.st ∨ a = B.sd ∨ a = B.h ∨ a = B.x
section
variable {σ σ' : SH} {Y : SymA} {B : MchA} {S : Sy} {M : Mch} {N : Addr → Prop}
theorem SymAt.fw (x : SymAt σ Y S) (h : Fw N σ σ') (hn : ∀ a, SymFoot Y a → ¬ N a) : SymAt σ' Y S :=
  ⟨h _ _ x.a (hn _ (.inl rfl)), h _ _ x.d (hn _ (.inr (.inl rfl))), h _ _ x.t (hn _ (.inr (.inr (.inl rfl)))), h _ _ x.n (hn _ (.inr (.inr (.inr (.inl rfl))))),
    h _ _ x.f (hn _ (.inr (.inr (.inr (.inr (.inl rfl)))))), h _ _ x.g (hn _ (.inr (.inr (.inr (.inr (.inr rfl)))))), x.ne, x.nT, x.nF⟩
theorem MchAt.fw (x : MchAt σ Y B S M) (h : Fw N σ σ') (hn : ∀ a, Foot Y B a → ¬ N a) : MchAt σ' Y B S M :=
  ⟨x.y.fw h fun a ha => hn a (.inl ha), h _ _ x.m (hn _ (by simp [Foot])), h _ _ x.md (hn _ (by simp [Foot])), h _ _ x.st (hn _ (by simp [Foot])), h _ _ x.sd (hn _ (by simp [Foot])), h _ _ x.h (hn _ (by simp [Foot])), h _ _ x.x (hn _ (by simp [Foot])),
    x.hx, x.ht, x.hf, x.xt, x.xf, x.ms, x.my⟩
theorem SymAt.has (x : SymAt σ Y S) {a : Addr} (h : SymFoot Y a) : σ a ≠ none := by
  rcases h with rfl | rfl | rfl | rfl | rfl | rfl <;> simp [x.a, x.d, x.t, x.n, x.f, x.g]
theorem MchAt.has (x : MchAt σ Y B S M) {a : Addr} (h : Foot Y B a) : σ a ≠ none := by
  rcases h with h | rfl | rfl | rfl | rfl | rfl | rfl
  · exact x.y.has h
  all_goals simp [x.m, x.md, x.st, x.sd, x.h, x.x]
theorem MchAt.set (x : MchAt σ Y B S M) {a : Addr} {so : SObj} (h : ¬ Foot Y B a) : MchAt (σ.set a so) Y B S M :=
  x.fw (N := fun b => b = a) (Fw.refl.set rfl) fun b hb q => h (by have q' : b = a := q; rw [← q']; exact hb)
theorem MchAt.nfoot (x : MchAt σ Y B S M) {a : Addr} (h : σ a = none) : ¬ Foot Y B a := fun q => x.has q h
theorem SymAt.set (x : SymAt σ Y S) {a : Addr} {so : SObj} (h : ¬ SymFoot Y a) : SymAt (σ.set a so) Y S :=
  x.fw (N := fun b => b = a) (Fw.refl.set rfl) fun b hb q => h (by have q' : b = a := q; rw [← q']; exact hb)
theorem SymAt.nfoot (x : SymAt σ Y S) {a : Addr} (h : σ a = none) : ¬ SymFoot Y a := fun q => x.has q h
theorem MchAt.hfoot (x : MchAt σ Y B S M) : ¬ SymFoot Y B.h := by
  rintro (q | q | q | q | q | q)
  · have e := x.h; rw [q, x.y.a] at e; cases e
  · have e := x.h; rw [q, x.y.d] at e; cases e
  · exact x.ht q
  · have e := x.h; rw [q, x.y.n] at e; cases e
  · exact x.hf q
  · have e := x.h; rw [q, x.y.g] at e; cases e
theorem MchAt.xfoot (x : MchAt σ Y B S M) : ¬ SymFoot Y B.x := by
  rintro (q | q | q | q | q | q)
  · have e := x.x; rw [q, x.y.a] at e; cases e
  · have e := x.x; rw [q, x.y.d] at e; cases e
  · exact x.xt q
  · have e := x.x; rw [q, x.y.n] at e; cases e
  · exact x.xf q
  · have e := x.x; rw [q, x.y.g] at e; cases e
theorem MchAt.mdfoot (x : MchAt σ Y B S M) : ¬ SymFoot Y B.md := by
  rintro (q | q | q | q | q | q)
  · have e := x.md; rw [q, x.y.a] at e; cases e
  · exact x.my q
  · have e := x.md; rw [q, x.y.t] at e; cases e
  · have e := x.md; rw [q, x.y.n] at e; cases e
  · have e := x.md; rw [q, x.y.f] at e; cases e
  · have e := x.md; rw [q, x.y.g] at e; cases e
theorem MchAt.setH (x : MchAt σ Y B S M) (H' : List Cell) : MchAt (σ.set B.h (fv H')) Y B S { M with H := H' } := by
  refine ⟨x.y.set x.hfoot, ?_, ?_, ?_, ?_, SH.set_self _ _ _, ?_, x.hx, x.ht, x.hf, x.xt, x.xf, x.ms, x.my⟩
  · rw [SH.set_ne _ _ (ne_k x.m x.h rfl)]; exact x.m
  · rw [SH.set_ne _ _ (ne_k x.md x.h rfl)]; exact x.md
  · rw [SH.set_ne _ _ (ne_k x.st x.h rfl)]; exact x.st
  · rw [SH.set_ne _ _ (ne_k x.sd x.h rfl)]; exact x.sd
  · rw [SH.set_ne _ _ (Ne.symm x.hx)]; exact x.x
theorem MchAt.setX (x : MchAt σ Y B S M) (X' : List Cell) : MchAt (σ.set B.x (fv X')) Y B S { M with X := X' } := by
  refine ⟨x.y.set x.xfoot, ?_, ?_, ?_, ?_, ?_, SH.set_self _ _ _, x.hx, x.ht, x.hf, x.xt, x.xf, x.ms, x.my⟩
  · rw [SH.set_ne _ _ (ne_k x.m x.x rfl)]; exact x.m
  · rw [SH.set_ne _ _ (ne_k x.md x.x rfl)]; exact x.md
  · rw [SH.set_ne _ _ (ne_k x.st x.x rfl)]; exact x.st
  · rw [SH.set_ne _ _ (ne_k x.sd x.x rfl)]; exact x.sd
  · rw [SH.set_ne _ _ x.hx]; exact x.h
theorem MchAt.setMd (x : MchAt σ Y B S M) (M' : Mch) (hH : M'.H = M.H) (hX : M'.X = M.X) : MchAt (σ.set B.md (.ns (areaF Y B M'))) Y B S M' := by
  refine ⟨x.y.set x.mdfoot, ?_, SH.set_self _ _ _, ?_, ?_, ?_, ?_, x.hx, x.ht, x.hf, x.xt, x.xf, x.ms, x.my⟩
  · rw [SH.set_ne _ _ (ne_k x.m x.md rfl)]; exact x.m
  · rw [SH.set_ne _ _ (ne_k x.st x.md rfl)]; exact x.st
  · rw [SH.set_ne _ _ (Ne.symm x.ms)]; exact x.sd
  · rw [SH.set_ne _ _ (ne_k x.h x.md rfl), hH]; exact x.h
  · rw [SH.set_ne _ _ (ne_k x.x x.md rfl), hX]; exact x.x
end

section
variable {prog : Program} {K : Frag} {C : Cx} {A : Around} {env : Env} {m : Loc} {σ σ' σ₁ σ₂ : SH} {s : Shared} {Φ : V → SH → Prop} {Ψ : SH → Prop} {k : Nat} {X : V}
theorem op_fv {a : Addr} {H : List Cell} {n : Nat} {c : Cell} {e sl : Expr} (ea : σ a = some (fv H)) (hx : H[n]? = some c) (hn : H.length ≤ 1000) (h : Φ (.d (ec c)) σ)
    (hs : ∀ a u, subscripted sl false (.ref a) (.int (n : Int) u) = operate [.ref a, .int (n : Int) u] (getItem (.ref a) (.int (n : Int) u)) := by intro _ _; with_unfolding_all rfl) :
    Op2 prog C A env RepV (subscriptTail e sl) (.c (.ref a)) (.d (.int (n : Int))) m σ Φ := op_listN ea (by rw [List.getElem?_map, hx]; rfl) (by simp; (first | lia | omega)) h hs
theorem set_fv {a : Addr} {H : List Cell} {n : Nat} {c : Cell} (ea : σ a = some (fv H)) (hx : n < H.length) (hn : H.length ≤ 1000) (h : Ψ (σ.set a (fv (H.set n c)))) :
    OpSet prog C A env (.c (.ref a)) (.d (.int (n : Int))) (.d (ec c)) m σ Ψ := set_listN ea (by simpa using hx) (by simp; (first | lia | omega)) (by
  have : (fv (H.set n c)) = .list ((H.map fun c => V.d (ec c)).set n (.d (ec c))) := by simp [fv, List.map_set]
  rw [← this]; exact h)
theorem op_eq_read {w : Bool} (hR : Room A k) (h : Φ (.d (.bool (!w))) σ) : Op2 prog C A env RepV (compareOp .Eq) (.d (.str (modeS w))) (.d (.str "read")) m σ Φ := by
  cases w
  · exact op_eqS hR (by decide +kernel) (by decide +kernel) h
  · exact op_eqS hR (by decide +kernel) (by decide +kernel) h
theorem op_ne_read {w : Bool} (hR : Room A k) (h : Φ (.d (.bool w)) σ) : Op2 prog C A env RepV (compareOp .NotEq) (.d (.str (modeS w))) (.d (.str "read")) m σ Φ := by
  cases w
  · exact op_neS hR (by decide +kernel) (by decide +kernel) h
  · exact op_neS hR (by decide +kernel) (by decide +kernel) h
theorem op_ne_write {w : Bool} (hR : Room A k) (h : Φ (.d (.bool (!w))) σ) : Op2 prog C A env RepV (compareOp .NotEq) (.d (.str (modeS w))) (.d (.str "write")) m σ Φ := by
  cases w
  · exact op_neS hR (by decide +kernel) (by decide +kernel) h
  · exact op_neS hR (by decide +kernel) (by decide +kernel) h
end
/-- what deref comes to -/
inductive Der (H : List Cell) : Cell → Cell → Prop
  | tag {c} : c.1 ≠ 0 → c.1 ≠ 1 → Der H c c
  | self {c} : c.1 = 0 → H[c.2]? = some c → Der H c c
  | step {c d e} : c.1 = 0 → H[c.2]? = some d → d ≠ c → Der H d e → Der H c e
end Mine
namespace Mine
/-- terms -/
inductive Tm where
  | v (n : Nat)
  | a (n : Nat)
  | i (n : Nat)
  | s1 (f : Nat) (x : Tm)
  | s2 (f : Nat) (x y : Tm)
namespace Tm
noncomputable def enc : Tm → PyData
  | v n => .tuple [.str "v", .int (n : Int)]
  | a n => .tuple [.str "a", .int (n : Int)]
  | i n => .tuple [.str "i", .int (n : Int)]
  | s1 f x => .tuple [.str "s", .int (f : Int), .tuple [enc x]]
  | s2 f x y => .tuple [.str "s", .int (f : Int), .tuple [enc x, enc y]]
noncomputable def args : Tm → List Tm
  | s1 _ x => [x]
  | s2 _ x y => [x, y]
  | _ => []
noncomputable def fn : Tm → Nat
  | s1 f _ => f
  | s2 f _ _ => f
  | _ => 0
noncomputable def size : Tm → Nat
  | s1 _ x => 1 + size x
  | s2 _ x y => 1 + (size x + size y)
  | _ => 1
noncomputable def isS : Tm → Bool
  | s1 _ _ => true
  | s2 _ _ _ => true
  | _ => false
noncomputable def ground : Tm → Bool
  | v _ => false
  | s1 _ x => ground x
  | s2 _ x y => ground x && ground y
  | _ => true
noncomputable def vars : Tm → List Nat
  | v n => [n]
  | s1 _ x => vars x
  | s2 _ x y => vars x ++ vars y
  | _ => []
noncomputable def depth : Tm → Nat
  | s1 _ x => 1 + depth x
  | s2 _ x y => 1 + max (depth x) (depth y)
  | _ => 0
theorem enc_s {t : Tm} (h : t.isS = true) : t.enc = .tuple [.str "s", .int (t.fn : Int), .tuple (t.args.map enc)] := by
  cases t <;> simp [isS] at h <;> rfl
end Tm
/-- a cell that stands for a compound: its functor, its width, the place of its first argument -/
noncomputable def Comp (F H : List Cell) (c : Cell) (f n b : Nat) : Prop :=
  (c.1 = 3 ∧ f = 0 ∧ n = 2 ∧ b = c.2) ∨ (c.1 = 2 ∧ f ≠ 0 ∧ H[c.2]? = some (6, f) ∧ (∃ u, F[f]? = some (u, n)) ∧ b = c.2 + 1)
noncomputable def Den (F H : List Cell) (β : Nat → Nat) : Tm → Cell → List Nat → Prop
  | .v n, c, l => l = [] ∧ Der H c (0, β n) ∧ H[β n]? = some (0, β n)
  | .a n, c, l => l = [] ∧ Der H c (4, n)
  | .i n, c, l => l = [] ∧ Der H c (5, n)
  | .s1 f x, c, l => ∃ e b d lx, Der H c e ∧ Comp F H e f 1 b ∧ H[b]? = some d ∧ Den F H β x d lx ∧ l = e.2 :: lx
  | .s2 f x y, c, l => ∃ e b d1 d2 lx ly, Der H c e ∧ Comp F H e f 2 b ∧ H[b]? = some d1 ∧ H[b + 1]? = some d2 ∧ Den F H β x d1 lx ∧ Den F H β y d2 ly ∧ l = e.2 :: (lx ++ ly)
theorem Comp.is {F H : List Cell} {c : Cell} {f n b : Nat} (h : Comp F H c f n b) : c.1 = 2 ∨ c.1 = 3 := by
  rcases h with h | h
  · exact .inr h.1
  · exact .inl h.1
theorem Comp.self {F H : List Cell} {c : Cell} {f n b : Nat} (h : Comp F H c f n b) : Der H c c := by
  rcases h.is with h | h <;> exact .tag (by (first | lia | omega)) (by (first | lia | omega))
/-- the terms of a row of numbers: numbered by first occurrence -/
noncomputable def numT : Tm → List Nat → Tm × List Nat
  | .v n, T => if n ∈ T then (.v (ixOf T n), T) else (.v T.length, T ++ [n])
  | .s1 f x, T => (.s1 f (numT x T).1, (numT x T).2)
  | .s2 f x y, T => (.s2 f (numT x T).1 (numT y (numT x T).2).1, (numT y (numT x T).2).2)
  | t, T => (t, T)
section
variable {prog : Program} {K : Frag} {C : Cx} {A : Around} {env : Env} {m : Loc} {σ σ' σ₁ σ₂ : SH} {s : Shared} {Φ : V → SH → Prop} {Ψ : SF → Loc → SH → Prop} {k : Nat} {X : V}
theorem bits_small {b : Nat} (h : b ≤ 100000) : Builtin.Int.intBits (b : Int) ≤ 64 := by
  unfold Builtin.Int.intBits
  split
  · (first | lia | omega)
  · have h0 : (b : Int).natAbs ≠ 0 := by
      intro q; simp_all
    have := (Nat.log2_lt h0 (k := 60)).mpr (show b < 2 ^ 60 from Nat.lt_of_le_of_lt h (by decide))
    (first | lia | omega)
theorem op_mulN {a b : Nat} {i j : Int} (hi : i = (a : Int)) (hj : j = (b : Int)) (hb : b ≤ 100000) (h : ∀ c : Nat, Φ (.d (.int (c : Int))) σ) : Op2 prog C A env RepV (binaryOp .Mult) (.d (.int i)) (.d (.int j)) m σ Φ := fun s v u S r q => by
  subst hi; subst hj
  obtain ⟨t, rfl⟩ := r.int; obtain ⟨t', rfl⟩ := q.int
  have h' := h (a * b)
  rw [show (((a * b : Nat)) : Int) = (a : Int) * (b : Int) from Int.natCast_mul a b] at h'
  exact mul_int (Go.nowT S (repI _ _) h') (.of_right (bits_small hb))
/-- ranges -/
noncomputable def RngK (prog : Program) (C : Cx) (A : Around) (env : Env) (nm : Str) (b : List Stmt) (m : Loc) (Ψ : SF → Loc → SH → Prop) (X : V) (σ₁ : SH) : Prop :=
  ∃ d x y z n, X = .c (.ref d) ∧ σ₁ d = some (.range x y z) ∧ Builtin.Range.small x y z = true ∧ Builtin.Range.rangeSize x y z = (n : Nat) ∧ ForL prog C A env (fun _ => True) nm b ((rangeL x z n).map fun i => V.d (.int i)) m σ₁ Ψ
/-- behind a turn of a for -/
noncomputable def ForK (prog : Program) (C : Cx) (A : Around) (env : Env) (P : SH → Prop) (x : Str) (b : List Stmt) (r : List V) (Ψ : SF → Loc → SH → Prop) (F : SF) (m : Loc) (σ : SH) : Prop := match F with
  | .next => ForL prog C A env P x b r m σ Ψ
  | .cont => ForL prog C A env P x b r m σ Ψ
  | .brk => Ψ .next m σ
  | .ret X => Ψ (.ret X) m σ
theorem forL_nil {P : SH → Prop} {x : Str} {b : List Stmt} (hp : P σ) (h : Ψ .next m σ) : ForL prog C A env P x b [] m σ Ψ := ⟨hp, h⟩
theorem forL_cons {P : SH → Prop} {x : Str} {b : List Stmt} {Y : V} {r : List V} (hp : P σ) (h : Exs prog C A env b (m.set x Y) σ (ForK prog C A env P x b r Ψ)) : ForL prog C A env P x b (Y :: r) m σ Ψ :=
  ⟨hp, Ex.mono h fun F m' σ' q => by cases F <;> exact q⟩
theorem forK_next {P : SH → Prop} {x : Str} {b : List Stmt} {r : List V} (h : ForL prog C A env P x b r m σ Ψ) : ForK prog C A env P x b r Ψ .next m σ := h
theorem forK_ret {P : SH → Prop} {x : Str} {b : List Stmt} {r : List V} (h : Ψ (.ret X) m σ) : ForK prog C A env P x b r Ψ (.ret X) m σ := h
theorem rs_down (w : Nat) : Builtin.Range.rangeSize ((w : Int) - 1) (-1) (-1) = (w : Int) := by
  simp only [Builtin.Range.rangeSize]
  rw [if_neg (by decide)]
  rw [show (- (-1 : Int)) = 1 from rfl, Int.ediv_one]
  split <;> (first | lia | omega)
theorem rs_up (w : Nat) : Builtin.Range.rangeSize 0 (w : Int) 1 = (w : Int) := by
  simp only [Builtin.Range.rangeSize]
  rw [if_pos (by decide), Int.ediv_one]
  split <;> (first | lia | omega)
theorem fits_small {a : Int} (h : -2000 ≤ a ∧ a ≤ 2000) : Builtin.Range.rangeFitsLong a = true := by
  simp only [Builtin.Range.rangeFitsLong, Bool.and_eq_true, decide_eq_true_eq]
  (first | lia | omega)
theorem sm_down {w : Nat} (hw : w ≤ 1000) : Builtin.Range.small ((w : Int) - 1) (-1) (-1) = true := by
  simp only [Builtin.Range.small, rs_down]
  rw [fits_small (by (first | lia | omega)), fits_small (by (first | lia | omega)), fits_small (by (first | lia | omega)), if_neg (by decide), fits_small (by (first | lia | omega))]
  simp
theorem sm_up {w : Nat} (hw : w ≤ 1000) : Builtin.Range.small 0 (w : Int) 1 = true := by
  simp only [Builtin.Range.small, rs_up]
  rw [fits_small (by (first | lia | omega)), fits_small (by (first | lia | omega)), fits_small (by (first | lia | omega)), if_pos (by decide), fits_small (by (first | lia | omega))]
  simp
theorem rng_down {nm : Str} {b : List Stmt} {w : Nat} {i : Int} (W : Wd prog K C) (hi : i + 1 = (w : Int)) (hw : w ≤ 1000) (h : ∀ d, σ d = none → ForL prog C A env (fun _ => True) nm b ((rangeL ((w : Int) - 1) (-1) w).map fun i => V.d (.int i)) m (σ.set d (.range ((w : Int) - 1) (-1) (-1))) Ψ) :
    OpL prog C A env (.type "range") [.d (.int i), .d (.int (-1)), .d (.int (-1))] m σ (RngK prog C A env nm b m Ψ) := by
  obtain rfl : i = (w : Int) - 1 := by (first | lia | omega)
  exact opl_range3 W (by decide) (by decide) fun d hd => ⟨d, _, _, _, w, rfl, SH.set_self _ _ _, sm_down hw, rs_down w, h d hd⟩
theorem rng_up {nm : Str} {b : List Stmt} {w : Nat} (W : Wd prog K C) (hw : w ≤ 1000) (h : ∀ d, σ d = none → ForL prog C A env (fun _ => True) nm b ((rangeL 0 1 w).map fun i => V.d (.int i)) m (σ.set d (.range 0 (w : Int) 1)) Ψ) :
    OpL prog C A env (.type "range") [.d (.int (w : Int))] m σ (RngK prog C A env nm b m Ψ) :=
  opl_range1 W fun d hd => ⟨d, _, _, _, w, rfl, SH.set_self _ _ _, sm_up hw, rs_up w, h d hd⟩
end
end Mine
namespace Mine
noncomputable def resL (a : Nat) : Nat → List Cell
  | 0 => []
  | n + 1 => (0, a) :: resL (a + 1) n
theorem resL_len (a n : Nat) : (resL a n).length = n := by
  induction n generalizing a with
  | zero => rfl
  | succ n ih => simp [resL, ih]
theorem resL_snoc (a n : Nat) : resL a (n + 1) = resL a n ++ [(0, a + n)] := by
  induction n generalizing a with
  | zero => rfl
  | succ n ih => rw [show resL a (n + 1 + 1) = (0, a) :: resL (a + 1) (n + 1) from rfl, ih (a + 1)]; simp only [resL, List.cons_append]; congr 3; simp; (first | lia | omega)
noncomputable def pr (c d : Cell) : V := .d (.tuple [ec c, ec d])
structure US (σ : SH) (Y : SymA) (B : MchA) (S : Sy) (M : Mch) (pm pd ps wk : Addr) (w : List V) (n : Nat) : Prop where
  y : MchAt σ Y B S M
  em : σ pm = some (.inst 407 pd)
  ed : σ pd = some (.ns [("span", .d (.int ((M.H.length + 1 : Nat) : Int))), ("met", .c (.ref ps))])
  es : ∃ T, σ ps = some (.iset T n)
  ew : σ wk = some (.list w)
  nps : ¬ Foot Y B ps
  nwk : ¬ Foot Y B wk
structure UL (m : Loc) (B : MchA) (pm wk : Addr) : Prop where
  store : m "store" = some (.c (.ref B.st))
  met : m "met" = some (.c (.ref pm))
  work : m "work" = some (.c (.ref wk))
noncomputable def PPX (H : List Cell) (b b' n : Nat) (w X : List V) : Prop :=
  (n = 1 ∧ ∃ d1 d2, H[b]? = some d1 ∧ H[b']? = some d2 ∧ X = w ++ [pr d1 d2]) ∨ (n = 2 ∧ ∃ d1 d2 g1 g2, H[b]? = some d1 ∧ H[b']? = some d2 ∧ H[b + 1]? = some g1 ∧ H[b' + 1]? = some g2 ∧ X = (w ++ [pr g1 g2]) ++ [pr d1 d2])
theorem unify_ind {Y : SymA} {B : MchA} {S : Sy} {M : Mch} {pm pd ps wk : Addr} {β β' : Nat → Nat} {G : Loc → SH → Prop}
    (s0 : ∀ σ m w n c1 c2 e, US σ Y B S M pm pd ps wk (w ++ [pr c1 c2]) n → UL m B pm wk → w.length ≤ 900 → Der M.H c1 e → Der M.H c2 e →
      (∀ σ' m', US σ' Y B S M pm pd ps wk w n → UL m' B pm wk → Fw (fun a => a = wk ∨ a = ps) σ σ' → G m' σ') → G m σ)
    (s1 : ∀ σ m w n c1 c2 e1 e2 f b b' i X, US σ Y B S M pm pd ps wk (w ++ [pr c1 c2]) n → UL m B pm wk → w.length ≤ 900 → n ≤ 900 → Der M.H c1 e1 → Der M.H c2 e2 → e1 ≠ e2 → Comp S.F M.H e1 f i b → Comp S.F M.H e2 f i b' → PPX M.H b b' i w X →
      (∀ σ' m', US σ' Y B S M pm pd ps wk w n → UL m' B pm wk → Fw (fun a => a = wk ∨ a = ps) σ σ' → G m' σ') →
      (∀ σ' m', US σ' Y B S M pm pd ps wk X (n + 1) → UL m' B pm wk → Fw (fun a => a = wk ∨ a = ps) σ σ' → G m' σ') → G m σ) :
    ∀ (t : Tm) σ m w n c1 c2 l1 l2, t.ground = true → Den S.F M.H β t c1 l1 → Den S.F M.H β' t c2 l2 → US σ Y B S M pm pd ps wk (w ++ [pr c1 c2]) n → UL m B pm wk → w.length + t.size ≤ 900 → n + t.size ≤ 900 →
      (∀ σ' m' n', US σ' Y B S M pm pd ps wk w n' → UL m' B pm wk → Fw (fun a => a = wk ∨ a = ps) σ σ' → n' ≤ n + t.size → G m' σ') → G m σ := by
  intro t
  induction t with
  | v k => intro _ _ _ _ _ _ _ _ h; cases h
  | a k => intro σ m w n c1 c2 l1 l2 _ D1 D2 hU hL hw hn q; exact s0 σ m w n c1 c2 _ hU hL (by (first | lia | omega)) D1.2 D2.2 fun σ' m' u l f => q σ' m' n u l f (by (first | lia | omega))
  | i k => intro σ m w n c1 c2 l1 l2 _ D1 D2 hU hL hw hn q; exact s0 σ m w n c1 c2 _ hU hL (by (first | lia | omega)) D1.2 D2.2 fun σ' m' u l f => q σ' m' n u l f (by (first | lia | omega))
  | s1 f x ih =>
    intro σ m w n c1 c2 l1 l2 hg ⟨e1, b1, d1, lx, D1, C1, g1, X1, _⟩ ⟨e2, b2, d2, ly, D2, C2, g2, X2, _⟩ hU hL hw hn q
    simp only [Tm.size] at hw hn q
    by_cases he : e1 = e2
    · subst he
      exact s0 σ m w n c1 c2 _ hU hL (by (first | lia | omega)) D1 D2 fun σ' m' u l f => q σ' m' n u l f (by (first | lia | omega))
    · refine s1 σ m w n c1 c2 e1 e2 f b1 b2 1 _ hU hL (by (first | lia | omega)) (by (first | lia | omega)) D1 D2 he C1 C2 (.inl ⟨rfl, d1, d2, g1, g2, rfl⟩) (fun σ' m' u l f => q σ' m' n u l f (by (first | lia | omega))) fun σ' m' u l f => ?_
      exact ih σ' m' w (n + 1) d1 d2 lx ly hg X1 X2 u l (by (first | lia | omega)) (by (first | lia | omega)) fun σ'' m'' n'' u' l' f' hn' => q σ'' m'' n'' u' l' (f.trans f') (by (first | lia | omega))
  | s2 f x y ihx ihy =>
    intro σ m w n c1 c2 l1 l2 hg ⟨e1, b1, d1, g1, lx, ly, D1, C1, h1, h2, X1, Y1, _⟩ ⟨e2, b2, d2, g2, lx', ly', D2, C2, h3, h4, X2, Y2, _⟩ hU hL hw hn q
    simp only [Tm.size] at hw hn q
    simp only [Tm.ground, Bool.and_eq_true] at hg
    by_cases he : e1 = e2
    · subst he
      exact s0 σ m w n c1 c2 _ hU hL (by (first | lia | omega)) D1 D2 fun σ' m' u l f => q σ' m' n u l f (by (first | lia | omega))
    · refine s1 σ m w n c1 c2 e1 e2 f b1 b2 2 _ hU hL (by (first | lia | omega)) (by (first | lia | omega)) D1 D2 he C1 C2 (.inr ⟨rfl, d1, d2, g1, g2, h1, h3, h2, h4, rfl⟩) (fun σ' m' u l f => q σ' m' n u l f (by (first | lia | omega))) fun σ' m' u l f => ?_
      have := ihy
      refine ihx σ' m' (w ++ [pr g1 g2]) (n + 1) d1 d2 lx lx' hg.1 X1 X2 u l (by simp; have : 0 < y.size := by cases y <;> simp [Tm.size] <;> (first | lia | omega)
                                                                                 (first | lia | omega)) (by (first | lia | omega)) fun σ'' m'' n'' u' l' f' hn' => ?_
      exact ihy σ'' m'' w n'' g1 g2 ly ly' hg.2 Y1 Y2 u' l' (by (first | lia | omega)) (by (first | lia | omega)) fun σ3 m3 n3 u3 l3 f3 hn3 => q σ3 m3 n3 u3 l3 ((f.trans f').trans f3) (by (first | lia | omega))
section
variable {prog : Program} {K : Frag} {C : Cx} {A : Around} {env : Env} {m : Loc} {σ : SH} {s : Shared} {Φ : V → SH → Prop} {k : Nat}
theorem op_iaddN {a b : Nat} {i j : Int} (hi : i = (a : Int)) (hj : j = (b : Int)) (h : Φ (.d (.int ((a + b : Nat) : Int))) σ) : Op2 prog C A env RepV (inplaceOp .Add) (.d (.int i)) (.d (.int j)) m σ Φ := by
  subst hi; subst hj; exact op_iadd (by simpa using h)
end
section
variable {prog : Program} {C : Cx} {A : Around} {env : Env} {Ψ : SF → Loc → SH → Prop} {P : SH → Prop} {x : Str} {b : List Stmt}
theorem forL_ind {α : Type} (f : α → V) (I : List α → Loc → SH → Prop)
    (step : ∀ y r m σ, I (y :: r) m σ → (∀ m' σ', I r m' σ' → ForL prog C A env P x b (r.map f) m' σ' Ψ) → ForL prog C A env P x b (f y :: r.map f) m σ Ψ)
    (fin : ∀ m σ, I [] m σ → ForL prog C A env P x b [] m σ Ψ) : ∀ (xs : List α) (m : Loc) (σ : SH), I xs m σ → ForL prog C A env P x b (xs.map f) m σ Ψ
  | [], m, σ, h => fin m σ h
  | y :: r, m, σ, h => step y r m σ h fun m' σ' h' => forL_ind f I step fin r m' σ' h'
theorem forL_up {n : Nat} (I : Nat → Loc → SH → Prop)
    (step : ∀ i r m σ, i < n → I i m σ → (∀ m' σ', I (i + 1) m' σ' → ForL prog C A env P x b r m' σ' Ψ) → ForL prog C A env P x b (V.d (.int (i : Nat)) :: r) m σ Ψ)
    (fin : ∀ m σ, I n m σ → ForL prog C A env P x b [] m σ Ψ) (m : Loc) (σ : SH) (h : I 0 m σ) : ForL prog C A env P x b ((rangeL 0 1 n).map fun i => V.d (.int i)) m σ Ψ := by
  have key : ∀ (d i : Nat), i + d = n → ∀ m σ, I i m σ → ForL prog C A env P x b ((rangeL (i : Int) 1 d).map fun i => V.d (.int i)) m σ Ψ := by
    intro d
    induction d with
    | zero => intro i hi m σ h; obtain rfl : i = n := by (first | lia | omega)
              exact fin m σ h
    | succ d ih =>
      intro i hi m σ h
      refine step i _ m σ (by (first | lia | omega)) h fun m' σ' h' => ?_
      have := ih (i + 1) (by (first | lia | omega)) m' σ' h'
      rw [show ((i + 1 : Nat) : Int) = (i : Int) + 1 by (first | lia | omega)] at this
      exact this
  exact key n 0 (by (first | lia | omega)) m σ h
end
theorem forL_cons' {prog : Program} {C : Cx} {A : Around} {env : Env} {Ψ : SF → Loc → SH → Prop} {m : Loc} {σ : SH} {P : SH → Prop} {x : Str} {b : List Stmt} {Y Y' : V} {r : List V} (e : Y' = Y) (hp : P σ) (h : Exs prog C A env b (m.set x Y) σ (ForK prog C A env P x b r Ψ)) : ForL prog C A env P x b (Y' :: r) m σ Ψ :=
  e ▸ forL_cons hp h
theorem whileK_next {I : Nat → Loc → SH → Prop} {n n' : Nat} {Ψ : SF → Loc → SH → Prop} {m : Loc} {σ : SH} (hn : n' < n) (h : I n' m σ) : WhileK I n Ψ .next m σ := ⟨n', hn, h⟩
-- guards of the step line
section
variable {α β : Type} {prog : Program} {K : Frag} {C : Cx} {A : Around} {env : Env} {m : Loc} {σ : SH} {pos : Pos} {x : Str} {X Y Z : V} {Φ : V → SH → Prop} {Ψ : SF → Loc → SH → Prop} {Θ : Bool → SH → Prop} {Λ : List V → SH → Prop} {Ξ : SH → Prop}
end
end Mine
namespace Mine
theorem getlt' {α : Type} {l : List α} {n : Nat} {x : α} (h : l[n]? = some x) : n < l.length := by
  rcases Nat.lt_or_ge n l.length with z | z
  · exact z
  · rw [List.getElem?_eq_none z] at h; cases h
/-- terms in a row, at places one behind the other -/
noncomputable def DenL (F H : List Cell) (β : Nat → Nat) : List Tm → Nat → List Nat → Prop
  | [], _, l => l = []
  | x :: r, b, l => ∃ d l1 l2, H[b]? = some d ∧ Den F H β x d l1 ∧ DenL F H β r (b + 1) l2 ∧ l = l1 ++ l2
/-- a compound's functor is known, with its width; the first functor is the list's -/
noncomputable def Tm.wf (F : List Cell) : Tm → Prop
  | .s1 f x => (f ≠ 0 ∧ ∃ u, F[f]? = some (u, 1)) ∧ x.wf F
  | .s2 f x y => (f = 0 ∨ ∃ u, F[f]? = some (u, 2)) ∧ x.wf F ∧ y.wf F
  | _ => True
noncomputable def Fok (F : List Cell) (f n : Nat) : Prop := (f = 0 ∧ n = 2) ∨ (f ≠ 0 ∧ ∃ u, F[f]? = some (u, n))
theorem Fok.n2 {F : List Cell} {f n : Nat} (h : Fok F f n) (q : f = 0) : n = 2 := by
  rcases h with ⟨_, z⟩ | ⟨z, _⟩
  · exact z
  · exact absurd q z
theorem Tm.wf_args {F : List Cell} {t : Tm} (h : t.wf F) : ∀ x ∈ t.args, x.wf F := by
  cases t with
  | s1 f x => intro z hz; simp [Tm.args] at hz; subst hz; exact h.2
  | s2 f x y => intro z hz; simp [Tm.args] at hz; rcases hz with rfl | rfl <;> simp [h.2.1, h.2.2]
  | _ => intro z hz; simp [Tm.args] at hz
theorem Tm.wf_fok {F : List Cell} {t : Tm} (h : t.wf F) (hs : t.isS = true) : Fok F t.fn t.args.length := by
  cases t with
  | s1 f x => exact .inr h.1
  | s2 f x y =>
    rcases h.1 with q | q
    · exact .inl ⟨q, rfl⟩
    · by_cases z : f = 0
      · exact .inl ⟨z, rfl⟩
      · exact .inr ⟨z, q⟩
  | _ => cases hs
theorem Tm.ground_args {t : Tm} (h : t.ground = true) : ∀ x ∈ t.args, x.ground = true := by
  cases t with
  | s1 f x => intro z hz; simp [Tm.args] at hz; subst hz; exact h
  | s2 f x y => intro z hz; simp [Tm.ground] at h; simp [Tm.args] at hz; rcases hz with rfl | rfl <;> simp [h.1, h.2]
  | _ => intro z hz; simp [Tm.args] at hz
noncomputable def sizes (as : List Tm) : Nat := (as.map Tm.size).sum
theorem Tm.size_pos (t : Tm) : 0 < t.size := by cases t <;> simp [Tm.size] <;> (first | lia | omega)
theorem Tm.size_args {t : Tm} (h : t.isS = true) : t.size = 1 + sizes t.args := by
  cases t <;> simp [Tm.isS] at h <;> simp [Tm.size, Tm.args, sizes]
theorem Tm.args_len {t : Tm} (h : t.isS = true) : t.args.length = 1 ∨ t.args.length = 2 := by
  cases t <;> simp [Tm.isS] at h <;> simp [Tm.args]
/-- a compound of a cell, when its arguments stand at their places -/
theorem den_comp {F H : List Cell} {β : Nat → Nat} {t : Tm} {c e : Cell} {b : Nat} {l : List Nat} (hs : t.isS = true) (D : Der H c e) (hc : Comp F H e t.fn t.args.length b) (h : DenL F H β t.args b l) : Den F H β t c (e.2 :: l) := by
  cases t with
  | s1 f x =>
    obtain ⟨d, l1, l2, h1, h2, rfl, rfl⟩ := h
    exact ⟨e, b, d, l1, D, hc, h1, h2, by simp⟩
  | s2 f x y =>
    obtain ⟨d, l1, l2, h1, h2, ⟨d', l1', l2', h3, h4, rfl, rfl⟩, rfl⟩ := h
    exact ⟨e, b, d, d', l1, l1', D, hc, h1, h3, h2, h4, by simp⟩
  | _ => cases hs
theorem comp_den {F H : List Cell} {β : Nat → Nat} {t : Tm} {c : Cell} {l : List Nat} (hs : t.isS = true) (h : Den F H β t c l) : ∃ e b l', Der H c e ∧ Comp F H e t.fn t.args.length b ∧ DenL F H β t.args b l' ∧ l = e.2 :: l' := by
  cases t with
  | s1 f x =>
    obtain ⟨e, b, d, lx, D, hc, h1, h2, rfl⟩ := h
    exact ⟨e, b, lx, D, hc, ⟨d, lx, [], h1, h2, rfl, by simp⟩, rfl⟩
  | s2 f x y =>
    obtain ⟨e, b, d, d', lx, ly, D, hc, h1, h3, h2, h4, rfl⟩ := h
    exact ⟨e, b, lx ++ ly, D, hc, ⟨d, lx, ly, h1, h2, ⟨d', ly, [], h3, h4, rfl, by simp⟩, rfl⟩, rfl⟩
  | _ => cases hs

-- building a block
noncomputable def blkC (H : List Cell) (f : Nat) : Cell := (if f = 0 then 3 else 2, H.length)
noncomputable def blkH (H : List Cell) (f n : Nat) : List Cell := if f = 0 then H ++ resL H.length 2 else (H ++ resL H.length (n + 1)).set H.length (6, f)
noncomputable def blkB (H : List Cell) (f : Nat) : Nat := if f = 0 then H.length else H.length + 1
theorem blk_len (H : List Cell) (f n : Nat) (h : f = 0 → n = 2) : (blkH H f n).length = blkB H f + n := by
  unfold blkH blkB
  split
  · rename_i z; simp [resL_len, h z]
  · simp [resL_len]; (first | lia | omega)
theorem blk_old {H : List Cell} {f n q : Nat} (h : q < H.length) : (blkH H f n)[q]? = H[q]? := by
  unfold blkH
  split
  · rw [List.getElem?_append_left h]
  · rw [List.getElem?_set_ne (by (first | lia | omega)), List.getElem?_append_left h]
theorem blk_le (H : List Cell) (f : Nat) : H.length ≤ blkB H f ∧ blkB H f ≤ H.length + 1 := by unfold blkB; split <;> (first | lia | omega)
/-- the block's cell, in every heap that keeps the block's head -/
theorem blk_comp {F H H' : List Cell} {f n : Nat} (h : Fok F f n) (e : ∀ q, H.length ≤ q → q < blkB H f → H'[q]? = (blkH H f n)[q]?) : Comp F H' (blkC H f) f n (blkB H f) := by
  unfold blkC blkB
  rcases h with ⟨rfl, rfl⟩ | ⟨h0, hu⟩
  · exact .inl ⟨rfl, rfl, rfl, rfl⟩
  · rw [if_neg h0, if_neg h0]
    refine .inr ⟨rfl, h0, ?_, hu, rfl⟩
    show H'[H.length]? = _
    rw [e H.length (Nat.le_refl _) (by unfold blkB; rw [if_neg h0]; (first | lia | omega))]
    unfold blkH
    rw [if_neg h0, List.getElem?_set_self]
    simp [resL_len]

-- a term that is put on the heap, block by block
abbrev Pd := Nat × List Tm
noncomputable def inP (p : Pd) (q : Nat) : Prop := p.1 ≤ q ∧ q < p.1 + p.2.length
structure PI (F : List Cell) (T : Tm) (c0 : Cell) (H : List Cell) (pend : List Pd) (cl : List Nat) : Prop where
  rng : ∀ p ∈ pend, p.1 + p.2.length ≤ H.length
  dis : pend.Pairwise fun p q => p.1 + p.2.length ≤ q.1 ∨ q.1 + q.2.length ≤ p.1
  nd : cl.Nodup
  lt : ∀ a ∈ cl, a < H.length
  wf : ∀ p ∈ pend, ∀ x ∈ p.2, x.wf F ∧ x.ground = true
  sz : H.length + 3 * (pend.map fun p => sizes p.2).sum ≤ 800
  cpl : ∀ H' : List Cell, (∀ q, q < H.length → (∀ p ∈ pend, ¬ inP p q) → H'[q]? = H[q]?) → ∀ (G : Pd → List Nat), (∀ p ∈ pend, DenL F H' (fun _ => 0) p.2 p.1 (G p)) →
    ∃ l, Den F H' (fun _ => 0) T c0 l ∧ l.Perm (cl ++ (pend.map G).flatten)
theorem PI.done {F : List Cell} {T : Tm} {c0 : Cell} {H : List Cell} {cl : List Nat} (h : PI F T c0 H [] cl) : ∃ l, Den F H (fun _ => 0) T c0 l ∧ l.Nodup := by
  obtain ⟨l, D, p⟩ := h.cpl H (fun _ _ _ => rfl) (fun _ => []) (fun p hp => by cases hp)
  refine ⟨l, D, ?_⟩
  have : l.Perm cl := by simpa using p
  exact this.nodup_iff.mpr h.nd
theorem PI.drop {F : List Cell} {T : Tm} {c0 : Cell} {H : List Cell} {cl : List Nat} {b : Nat} {r : List Pd} (h : PI F T c0 H ((b, []) :: r) cl) : PI F T c0 H r cl := by
  refine ⟨fun p hp => h.rng p (.tail _ hp), (List.pairwise_cons.mp h.dis).2, h.nd, h.lt, fun p hp => h.wf p (.tail _ hp), ?_, fun H' e G hG => ?_⟩
  · have := h.sz; simp [sizes] at this ⊢; (first | lia | omega)
  · obtain ⟨l, D, p⟩ := h.cpl H' (fun q hq hn => e q hq fun p hp => hn p (.tail _ hp)) (fun p => if p.2 = [] then [] else G p) (fun p hp => by
      rcases List.mem_cons.mp hp with rfl | hp
      · exact rfl
      · by_cases z : p.2 = []
        · rw [if_pos z, z]; rfl
        · rw [if_neg z]; exact hG p hp)
    refine ⟨l, D, p.trans ?_⟩
    have e : r.map (fun p => if p.2 = [] then [] else G p) = r.map G := by
      apply List.map_congr_left
      intro p hp
      split
      · rename_i z
        have := hG p hp
        rw [z] at this
        exact (show G p = [] from this).symm
      · rfl
    simp only [List.map_cons, List.flatten_cons, if_true, List.nil_append, e]
    exact .refl _

noncomputable def Tm.cell : Tm → Cell
  | .a n => (4, n)
  | .i n => (5, n)
  | _ => (5, 0)
theorem den_const {F H : List Cell} {β : Nat → Nat} {t : Tm} (hs : t.isS = false) (hg : t.ground = true) : Den F H β t t.cell [] := by
  cases t with
  | a n => exact ⟨rfl, .tag (by simp [Tm.cell]) (by simp [Tm.cell])⟩
  | i n => exact ⟨rfl, .tag (by simp [Tm.cell]) (by simp [Tm.cell])⟩
  | v n => cases hg
  | s1 f x => cases hs
  | s2 f x y => cases hs
theorem PI.const {F : List Cell} {T : Tm} {c0 : Cell} {H : List Cell} {cl : List Nat} {b : Nat} {x : Tm} {r : List Tm} {rest : List Pd} (h : PI F T c0 H ((b, x :: r) :: rest) cl) (hs : x.isS = false) :
    PI F T c0 (H.set b x.cell) ((b + 1, r) :: rest) cl := by
  classical
  have hr := h.rng _ (.head _)
  simp only [List.length_cons] at hr
  obtain ⟨d1, d2⟩ := List.pairwise_cons.mp h.dis
  have hx := h.wf _ (.head _) x (.head _)
  refine ⟨fun p hp => ?_, List.pairwise_cons.mpr ⟨fun p hp => ?_, d2⟩, h.nd, by simpa using h.lt, fun p hp => ?_, ?_, fun H' e G hG => ?_⟩
  · rw [List.length_set]
    rcases List.mem_cons.mp hp with rfl | hp
    · show b + 1 + r.length ≤ _; (first | lia | omega)
    · exact h.rng p (.tail _ hp)
  · have := d1 p hp; simp only [List.length_cons] at this ⊢; (first | lia | omega)
  · rcases List.mem_cons.mp hp with rfl | hp
    · exact fun z hz => h.wf _ (.head _) z (.tail _ hz)
    · exact h.wf p (.tail _ hp)
  · have := h.sz; simp [sizes] at this ⊢; (first | lia | omega)
  · have hb : H'[b]? = some x.cell := by
      rw [e b (by rw [List.length_set]; (first | lia | omega)) ?_, List.getElem?_set_self (by (first | lia | omega))]
      intro p hp hin
      rcases List.mem_cons.mp hp with rfl | hp
      · have := hin.1; simp at this; (first | lia | omega)
      · have := d1 p hp; have h1 := hin.1; have h2 := hin.2; simp only [List.length_cons] at this; (first | lia | omega)
    refine Exists.elim (h.cpl H' ?hA (fun p => if p = (b, x :: r) then G (b + 1, r) else G p) ?hB) ?hC
    case hC =>
      rintro l ⟨D, p⟩
      refine ⟨l, D, p.trans ?_⟩
      have e2 : rest.map (fun p => if p = (b, x :: r) then G (b + 1, r) else G p) = rest.map G := by
        apply List.map_congr_left
        intro p hp
        rw [if_neg]
        rintro rfl
        have := d1 _ hp; simp only [List.length_cons] at this; (first | lia | omega)
      simp only [List.map_cons, List.flatten_cons, if_true, e2]
      exact .refl _
    case hA =>
      intro q hq hn
      refine (e q (by rw [List.length_set]; exact hq) ?_).trans (List.getElem?_set_ne fun z => ?_)
      · intro p hp hin
        rcases List.mem_cons.mp hp with rfl | hp
        · exact hn _ (.head _) ⟨by have := hin.1; simp at this ⊢; (first | lia | omega), by have := hin.2; simp at this ⊢; (first | lia | omega)⟩
        · exact hn p (.tail _ hp) hin
      · subst z
        exact hn _ (.head _) ⟨Nat.le_refl _, by simp⟩
    case hB =>
      intro p hp
      rcases List.mem_cons.mp hp with rfl | hp
      · rw [if_pos rfl]
        exact ⟨x.cell, [], _, hb, den_const hs hx.2, hG _ (.head _), rfl⟩
      · rw [if_neg]
        · exact hG p (.tail _ hp)
        · rintro rfl
          have := d1 _ hp; simp only [List.length_cons] at this; (first | lia | omega)
theorem PI.comp {F : List Cell} {T : Tm} {c0 : Cell} {H : List Cell} {cl : List Nat} {b : Nat} {x : Tm} {r : List Tm} {rest : List Pd} (h : PI F T c0 H ((b, x :: r) :: rest) cl) (hs : x.isS = true) :
    PI F T c0 ((blkH H x.fn x.args.length).set b (blkC H x.fn)) ((b + 1, r) :: (rest ++ [(blkB H x.fn, x.args)])) (H.length :: cl) := by
  classical
  have hr := h.rng _ (.head _)
  simp only [List.length_cons] at hr
  obtain ⟨d1, d2⟩ := List.pairwise_cons.mp h.dis
  have hx := h.wf _ (.head _) x (.head _)
  have ok := Tm.wf_fok hx.1 hs
  have hlen := blk_len H x.fn x.args.length ok.n2
  have hle := blk_le H x.fn
  have ha := Tm.args_len hs
  have hsz := Tm.size_args hs
  refine ⟨fun p hp => ?_, List.pairwise_cons.mpr ⟨fun p hp => ?_, List.pairwise_append.mpr ⟨d2, by simp, fun p hp q hq => ?_⟩⟩, List.nodup_cons.mpr ⟨fun q => absurd (h.lt _ q) (Nat.lt_irrefl _), h.nd⟩, fun a ha => ?_, fun p hp => ?_, ?_, fun H' e G hG => ?_⟩
  · rw [List.length_set, hlen]
    rcases List.mem_cons.mp hp with rfl | hp
    · show b + 1 + r.length ≤ _; (first | lia | omega)
    · rcases List.mem_append.mp hp with hp | hp
      · have := h.rng p (.tail _ hp); (first | lia | omega)
      · simp at hp; subst hp; simp
  · rcases List.mem_append.mp hp with hp | hp
    · have := d1 p hp; simp only [List.length_cons] at this ⊢; (first | lia | omega)
    · simp at hp; subst hp; simp; (first | lia | omega)
  · simp at hq; subst hq
    have := h.rng p (.tail _ hp); simp; (first | lia | omega)
  · rw [List.length_set, hlen]
    rcases List.mem_cons.mp ha with rfl | ha
    · (first | lia | omega)
    · have := h.lt a ha; (first | lia | omega)
  · rcases List.mem_cons.mp hp with rfl | hp
    · exact fun z hz => h.wf _ (.head _) z (.tail _ hz)
    · rcases List.mem_append.mp hp with hp | hp
      · exact h.wf p (.tail _ hp)
      · simp at hp; subst hp
        exact fun z hz => ⟨Tm.wf_args hx.1 z hz, Tm.ground_args hx.2 z hz⟩
  · have := h.sz
    rw [List.length_set, hlen]
    simp [sizes] at this hsz ⊢; (first | lia | omega)
  · have hout : ∀ p ∈ ((b + 1, r) :: (rest ++ [(blkB H x.fn, x.args)]) : List Pd), ¬ inP p b := by
      intro p hp hin
      have h1 := hin.1; have h2 := hin.2
      rcases List.mem_cons.mp hp with rfl | hp
      · simp at h1; (first | lia | omega)
      · rcases List.mem_append.mp hp with hp | hp
        · have := d1 p hp; simp only [List.length_cons] at this; (first | lia | omega)
        · simp at hp; subst hp; simp at h1; (first | lia | omega)
    have hb : H'[b]? = some (blkC H x.fn) := by
      rw [e b (by rw [List.length_set, hlen]; (first | lia | omega)) hout, List.getElem?_set_self (by rw [hlen]; (first | lia | omega))]
    have hc : Comp F H' (blkC H x.fn) x.fn x.args.length (blkB H x.fn) := blk_comp ok fun q h1 h2 => by
      rw [e q (by rw [List.length_set, hlen]; (first | lia | omega)) ?_, List.getElem?_set_ne (by (first | lia | omega))]
      intro p hp hin
      have h3 := hin.1; have h4 := hin.2
      rcases List.mem_cons.mp hp with rfl | hp
      · simp at h3 h4; (first | lia | omega)
      · rcases List.mem_append.mp hp with hp | hp
        · have := h.rng p (.tail _ hp); (first | lia | omega)
        · simp at hp; subst hp; simp at h3; (first | lia | omega)
    refine Exists.elim (h.cpl H' ?hA (fun p => if p = (b, x :: r) then (H.length :: G (blkB H x.fn, x.args)) ++ G (b + 1, r) else G p) ?hB) ?hC
    case hC =>
      rintro l ⟨D, p⟩
      refine ⟨l, D, p.trans ?_⟩
      have e2 : rest.map (fun p => if p = (b, x :: r) then (H.length :: G (blkB H x.fn, x.args)) ++ G (b + 1, r) else G p) = rest.map G := by
        apply List.map_congr_left
        intro p hp
        rw [if_neg]
        rintro rfl
        have := d1 _ hp; simp only [List.length_cons] at this; (first | lia | omega)
      simp only [List.map_cons, List.flatten_cons, if_true, e2, List.map_append, List.flatten_append, List.map_nil, List.flatten_nil, List.append_nil]
      generalize G (blkB H x.fn, x.args) = g1
      generalize G (b + 1, r) = g2
      generalize (rest.map G).flatten = g3
      -- cl ++ (H.length :: g1 ++ g2 ++ g3) ~ H.length :: cl ++ (g2 ++ (g3 ++ g1))
      have q1 : (cl ++ (H.length :: g1 ++ g2 ++ g3)).Perm (H.length :: (cl ++ (g1 ++ g2 ++ g3))) := by
        simp only [List.cons_append]
        exact List.perm_middle
      refine q1.trans ?_
      rw [List.cons_append]
      refine List.Perm.cons _ (List.Perm.append_left _ ?_)
      rw [← List.append_assoc, List.append_assoc]
      exact List.perm_append_comm
    case hA =>
      intro q hq hn
      refine (e q (by rw [List.length_set, hlen]; (first | lia | omega)) ?_).trans ((List.getElem?_set_ne fun z => ?_).trans (blk_old hq))
      · intro p hp hin
        rcases List.mem_cons.mp hp with rfl | hp
        · exact hn _ (.head _) ⟨by have := hin.1; simp at this ⊢; (first | lia | omega), by have := hin.2; simp at this ⊢; (first | lia | omega)⟩
        · rcases List.mem_append.mp hp with hp | hp
          · exact hn p (.tail _ hp) hin
          · simp at hp; subst hp
            have := hin.1; simp at this; (first | lia | omega)
      · subst z
        exact hn _ (.head _) ⟨Nat.le_refl _, by simp⟩
    case hB =>
      intro p hp
      rcases List.mem_cons.mp hp with rfl | hp
      · rw [if_pos rfl]
        exact ⟨blkC H x.fn, H.length :: G (blkB H x.fn, x.args), _, hb, den_comp hs hc.self hc (hG _ (.tail _ (List.mem_append_right _ (.head _)))), hG _ (.head _), by simp⟩
      · rw [if_neg]
        · exact hG p (.tail _ (List.mem_append_left _ hp))
        · rintro rfl
          have := d1 _ hp; simp only [List.length_cons] at this; (first | lia | omega)
/-- the beginning: the root's block -/
theorem PI.init {F : List Cell} {T : Tm} {H : List Cell} (hs : T.isS = true) (hw : T.wf F) (hg : T.ground = true) (hz : H.length + 3 * T.size ≤ 800) :
    PI F T (blkC H T.fn) (blkH H T.fn T.args.length) [(blkB H T.fn, T.args)] [H.length] := by
  have ok := Tm.wf_fok hw hs
  have hlen := blk_len H T.fn T.args.length ok.n2
  have hle := blk_le H T.fn
  have ha := Tm.args_len hs
  have hsz := Tm.size_args hs
  refine ⟨fun p hp => ?_, by simp, by simp, fun a ha => ?_, fun p hp => ?_, ?_, fun H' e G hG => ?_⟩
  · simp at hp; subst hp; simp [hlen]
  · simp at ha; subst ha; (first | lia | omega)
  · simp at hp; subst hp
    exact fun z hz => ⟨Tm.wf_args hw z hz, Tm.ground_args hg z hz⟩
  · simp; (first | lia | omega)
  · have hc : Comp F H' (blkC H T.fn) T.fn T.args.length (blkB H T.fn) := blk_comp ok fun q h1 h2 => by
      refine e q (by (first | lia | omega)) fun p hp hin => ?_
      simp at hp; subst hp
      have := hin.1; simp at this; (first | lia | omega)
    refine ⟨_, den_comp hs hc.self hc (hG _ (.head _)), ?_⟩
    simp [blkC]
end Mine
namespace Mine
theorem vat_put {κ : Type} [DecidableEq κ] (kvs : List (κ × V)) (k : κ) (v : V) (a : κ) : vat (vput kvs k v) a = if a = k then some v else vat kvs a := by
  unfold vput
  split
  · rename_i h
    unfold vat
    induction kvs with
    | nil => simp at h
    | cons p r ih =>
      by_cases hp : p.1 = k
      · by_cases ha : a = k
        · subst ha; simp [hp]
        · have hap : ¬ p.1 = a := fun q => ha (q.symm.trans hp)
          by_cases hr : r.any (fun kv => decide (kv.1 = k)) = true
          · have := ih hr
            simp only [List.map_cons, List.find?_cons, if_pos hp]
            have h0 : decide (p.1 = a) = false := by simpa using hap
            simp only [h0, if_neg ha] at this ⊢
            exact this
          · have e : r.map (fun kv => if kv.1 = k then (kv.1, v) else kv) = r := by
              conv => rhs; rw [← List.map_id r]
              apply List.map_congr_left
              intro q hq
              rw [if_neg]
              · rfl
              · intro z; exact hr (List.any_eq_true.mpr ⟨q, hq, by simpa using z⟩)
            have h0 : decide (p.1 = a) = false := by simpa using hap
            simp only [List.map_cons, List.find?_cons, if_pos hp, h0, if_neg ha, e]
      · have hr : r.any (fun kv => decide (kv.1 = k)) = true := by simpa [hp] using h
        have := ih hr
        simp only [List.map_cons, if_neg hp, List.find?_cons]
        by_cases h0 : p.1 = a
        · have : ¬ a = k := fun q => hp (h0.trans q)
          simp [h0, this]
        · simp only [h0, decide_false]
          exact this
  · rename_i h
    unfold vat
    simp only [List.find?_append]
    by_cases ha : a = k
    · subst ha
      have : kvs.find? (fun kv => decide (kv.1 = a)) = none := by
        rw [List.find?_eq_none]
        intro q hq z
        exact h (List.any_eq_true.mpr ⟨q, hq, z⟩)
      simp [this]
    · have hk : ¬ k = a := fun q => ha q.symm
      cases e : kvs.find? (fun kv => decide (kv.1 = a)) <;> simp [hk, ha]
theorem vput_len {κ : Type} [DecidableEq κ] (kvs : List (κ × V)) (k : κ) (v : V) : (vput kvs k v).length ≤ kvs.length + 1 := by
  unfold vput; split <;> simp

noncomputable def vis (c : Cell) : V := .d (.tuple [.int 0, ec c])
noncomputable def bld (c : Cell) : V := .d (.tuple [.int 1, ec c])
noncomputable def tbl (β : Nat → Nat) (T : List Nat) : List (Int × V) := T.zipIdx.map fun p => ((β p.1 : Nat), V.d (.int (p.2 : Nat)))
theorem vat_tbl {β : Nat → Nat} {n : Nat} : ∀ (T : List Nat) (_ : ∀ m ∈ T, β m = β n → m = n), vat (tbl β T) (β n : Nat) = if n ∈ T then some (V.d (.int (ixOf T n : Nat))) else none := by
  have key : ∀ (T : List Nat) (j : Nat) (_ : ∀ m ∈ T, β m = β n → m = n), vat ((T.zipIdx j).map fun p => (((β p.1 : Nat) : Int), V.d (.int (p.2 : Nat)))) (β n : Nat) = if n ∈ T then some (V.d (.int (ixOf T n + j : Nat))) else none := by
    intro T
    induction T with
    | nil => intro j _; simp [vat]
    | cons y r ih =>
      intro j h
      have := ih (j + 1) fun m hm => h m (.tail _ hm)
      rw [List.zipIdx_cons, List.map_cons]
      unfold vat at this ⊢
      rw [List.find?_cons]
      by_cases q : y = n
      · subst q; simp [ixOf]
      · have q' : ¬ ((β y : Nat) : Int) = (β n : Nat) := fun z => q (h y (.head _) (by (first | lia | omega)))
        have q'' : ¬ n = y := fun z => q z.symm
        simp only [q', decide_false, List.mem_cons, q'', false_or, ixOf, q, if_false]
        rw [this]
        split
        · simp; (first | lia | omega)
        · rfl
  intro T h
  have := key T 0 h
  simpa [tbl] using this
theorem tbl_put {β : Nat → Nat} {n : Nat} {T : List Nat} (h : ∀ m ∈ T, β m = β n → m = n) (hn : n ∉ T) : vput (tbl β T) (β n : Nat) (V.d (.int (T.length : Nat))) = tbl β (T ++ [n]) := by
  rw [vput_new _ _ _ (by rw [vat_tbl T h, if_neg hn])]
  simp [tbl, List.zipIdx_append]
theorem tbl_len (β : Nat → Nat) (T : List Nat) : (tbl β T).length = T.length := by simp [tbl]
/-- the size of what stands at a cell is known -/
noncomputable def PS (sv : List (Int × V)) (H : List Cell) (d : Cell) (s : Nat) (l : List Nat) : Prop :=
  ∃ e, Der H d e ∧ (((e.1 = 2 ∨ e.1 = 3) ∧ e.2 ∈ l ∧ vat sv (e.2 : Nat) = some (.d (.int (s : Nat)))) ∨ (e.1 ≠ 2 ∧ e.1 ≠ 3 ∧ s = 1))
theorem PS.keep {sv sv' : List (Int × V)} {H : List Cell} {d : Cell} {s : Nat} {l l' : List Nat} (h : PS sv H d s l) (k : ∀ a ∈ l, vat sv' (a : Nat) = vat sv (a : Nat)) (m : ∀ a ∈ l, a ∈ l') : PS sv' H d s l' := by
  obtain ⟨e, D, h | h⟩ := h
  · exact ⟨e, D, .inl ⟨h.1, m _ h.2.1, by rw [k _ h.2.1]; exact h.2.2⟩⟩
  · exact ⟨e, D, .inr h⟩
theorem numT_sub {Vs : List Nat} : ∀ (t : Tm) (T : List Nat), (∀ n ∈ t.vars, n ∈ Vs) → (∀ n ∈ T, n ∈ Vs) → ∀ n ∈ (numT t T).2, n ∈ Vs := by
  intro t
  induction t with
  | v k => intro T h1 h2 n hn; unfold numT at hn; split at hn; exact h2 n hn; (rcases List.mem_append.mp hn with q | q; exact h2 n q; exact h1 n (by simpa [Tm.vars] using q))
  | a k => intro T h1 h2; exact h2
  | i k => intro T h1 h2; exact h2
  | s1 f x ih => intro T h1 h2; exact ih T h1 h2
  | s2 f x y ihx ihy => intro T h1 h2; exact ihy _ (fun n hn => h1 n (List.mem_append_right _ hn)) (ihx T (fun n hn => h1 n (List.mem_append_left _ hn)) h2)
theorem numT_len : ∀ (t : Tm) (T : List Nat), (numT t T).2.length ≤ T.length + t.size := by
  intro t
  induction t with
  | v k => intro T; unfold numT; split <;> simp [Tm.size]
  | a k => intro T; simp [numT]
  | i k => intro T; simp [numT]
  | s1 f x ih => intro T; have := ih T; simp only [numT, Tm.size]; (first | lia | omega)
  | s2 f x y ihx ihy => intro T; have := ihx T; have := ihy (numT x T).2; simp only [numT, Tm.size]; (first | lia | omega)
theorem numT_size : ∀ (t : Tm) (T : List Nat), (numT t T).1.size = t.size := by
  intro t
  induction t with
  | v k => intro T; unfold numT; split <;> rfl
  | a k => intro T; rfl
  | i k => intro T; rfl
  | s1 f x ih => intro T; simp only [numT, Tm.size, ih]
  | s2 f x y ihx ihy => intro T; simp only [numT, Tm.size, ihx, ihy]

structure TA where
  (kn sz rs wk tb : Addr)
structure TS (σ : SH) (Y : SymA) (B : MchA) (S : Sy) (M : Mch) (A : TA) (β : Nat → Nat) (w : List V) (r : List Tm) (kv sv : List (Int × V)) (T : List Nat) : Prop where
  y : MchAt σ Y B S M
  kn : σ A.kn = some (.idict kv)
  sz : σ A.sz = some (.idict sv)
  rs : σ A.rs = some (.list (r.map fun t => V.d t.enc))
  wk : σ A.wk = some (.list w)
  tb : σ A.tb = some (.idict (tbl β T))
  n1 : A.kn ≠ A.sz
  n2 : A.kn ≠ A.tb
  n3 : A.sz ≠ A.tb
  n4 : A.rs ≠ A.wk
  f1 : ¬ Foot Y B A.kn
  f2 : ¬ Foot Y B A.sz
  f3 : ¬ Foot Y B A.rs
  f4 : ¬ Foot Y B A.wk
  f5 : ¬ Foot Y B A.tb
structure TL (m : Loc) (B : MchA) (A : TA) : Prop where
  self : m "self" = some (.c (.ref B.st))
  known : m "known" = some (.c (.ref A.kn))
  sizes : m "sizes" = some (.c (.ref A.sz))
  results : m "results" = some (.c (.ref A.rs))
  work : m "work" = some (.c (.ref A.wk))
  table : m "table" = some (.c (.ref A.tb))
noncomputable def TN (A : TA) (a : Addr) : Prop := a = A.kn ∨ a = A.sz ∨ a = A.rs ∨ a = A.wk ∨ a = A.tb

section
variable {σ : SH} {Y : SymA} {B : MchA} {S : Sy} {M : Mch} {A : TA} {β : Nat → Nat} {w : List V} {r : List Tm} {kv sv : List (Int × V)} {T : List Nat}
theorem TS.setW (h : TS σ Y B S M A β w r kv sv T) (w' : List V) : TS (σ.set A.wk (.list w')) Y B S M A β w' r kv sv T := by
  refine ⟨h.y.set h.f4, ?_, ?_, ?_, SH.set_self _ _ _, ?_, h.n1, h.n2, h.n3, h.n4, h.f1, h.f2, h.f3, h.f4, h.f5⟩
  · rw [SH.set_ne _ _ (ne_k h.kn h.wk rfl)]; exact h.kn
  · rw [SH.set_ne _ _ (ne_k h.sz h.wk rfl)]; exact h.sz
  · rw [SH.set_ne _ _ h.n4]; exact h.rs
  · rw [SH.set_ne _ _ (ne_k h.tb h.wk rfl)]; exact h.tb
theorem TS.setR (h : TS σ Y B S M A β w r kv sv T) (r' : List Tm) : TS (σ.set A.rs (.list (r'.map fun t => V.d t.enc))) Y B S M A β w r' kv sv T := by
  refine ⟨h.y.set h.f3, ?_, ?_, SH.set_self _ _ _, ?_, ?_, h.n1, h.n2, h.n3, h.n4, h.f1, h.f2, h.f3, h.f4, h.f5⟩
  · rw [SH.set_ne _ _ (ne_k h.kn h.rs rfl)]; exact h.kn
  · rw [SH.set_ne _ _ (ne_k h.sz h.rs rfl)]; exact h.sz
  · rw [SH.set_ne _ _ h.n4.symm]; exact h.wk
  · rw [SH.set_ne _ _ (ne_k h.tb h.rs rfl)]; exact h.tb
theorem TS.setK (h : TS σ Y B S M A β w r kv sv T) (kv' : List (Int × V)) : TS (σ.set A.kn (.idict kv')) Y B S M A β w r kv' sv T := by
  refine ⟨h.y.set h.f1, SH.set_self _ _ _, ?_, ?_, ?_, ?_, h.n1, h.n2, h.n3, h.n4, h.f1, h.f2, h.f3, h.f4, h.f5⟩
  · rw [SH.set_ne _ _ h.n1.symm]; exact h.sz
  · rw [SH.set_ne _ _ (ne_k h.rs h.kn rfl)]; exact h.rs
  · rw [SH.set_ne _ _ (ne_k h.wk h.kn rfl)]; exact h.wk
  · rw [SH.set_ne _ _ h.n2.symm]; exact h.tb
theorem TS.setS (h : TS σ Y B S M A β w r kv sv T) (sv' : List (Int × V)) : TS (σ.set A.sz (.idict sv')) Y B S M A β w r kv sv' T := by
  refine ⟨h.y.set h.f2, ?_, SH.set_self _ _ _, ?_, ?_, ?_, h.n1, h.n2, h.n3, h.n4, h.f1, h.f2, h.f3, h.f4, h.f5⟩
  · rw [SH.set_ne _ _ h.n1]; exact h.kn
  · rw [SH.set_ne _ _ (ne_k h.rs h.sz rfl)]; exact h.rs
  · rw [SH.set_ne _ _ (ne_k h.wk h.sz rfl)]; exact h.wk
  · rw [SH.set_ne _ _ h.n3.symm]; exact h.tb
theorem TS.setT (h : TS σ Y B S M A β w r kv sv T) (T' : List Nat) : TS (σ.set A.tb (.idict (tbl β T'))) Y B S M A β w r kv sv T' := by
  refine ⟨h.y.set h.f5, ?_, ?_, ?_, ?_, SH.set_self _ _ _, h.n1, h.n2, h.n3, h.n4, h.f1, h.f2, h.f3, h.f4, h.f5⟩
  · rw [SH.set_ne _ _ h.n2]; exact h.kn
  · rw [SH.set_ne _ _ h.n3]; exact h.sz
  · rw [SH.set_ne _ _ (ne_k h.rs h.tb rfl)]; exact h.rs
  · rw [SH.set_ne _ _ (ne_k h.wk h.tb rfl)]; exact h.wk
theorem TS.fw {σ' : SH} {N : Addr → Prop} (h : TS σ Y B S M A β w r kv sv T) (f : Fw N σ σ') (hn : ∀ a, Foot Y B a ∨ TN A a → ¬ N a) : TS σ' Y B S M A β w r kv sv T :=
  ⟨h.y.fw f fun a q => hn a (.inl q), f _ _ h.kn (hn _ (.inr (.inl rfl))), f _ _ h.sz (hn _ (.inr (.inr (.inl rfl)))), f _ _ h.rs (hn _ (.inr (.inr (.inr (.inl rfl))))), f _ _ h.wk (hn _ (.inr (.inr (.inr (.inr (.inl rfl)))))),
    f _ _ h.tb (hn _ (.inr (.inr (.inr (.inr (.inr rfl)))))), h.n1, h.n2, h.n3, h.n4, h.f1, h.f2, h.f3, h.f4, h.f5⟩
end
theorem Den.deref {F H : List Cell} {β : Nat → Nat} {t : Tm} {c : Cell} {l : List Nat} (h : Den F H β t c l) : ∃ e, Der H c e ∧ e.1 ≠ 1 ∧ Den F H β t e l := by
  cases t with
  | v n => exact ⟨_, h.2.1, by simp, h.1, .self rfl h.2.2, h.2.2⟩
  | a n => exact ⟨_, h.2, by simp, h.1, .tag (by simp) (by simp)⟩
  | i n => exact ⟨_, h.2, by simp, h.1, .tag (by simp) (by simp)⟩
  | s1 f x =>
    obtain ⟨e, b, d, lx, D, C, r⟩ := h
    exact ⟨e, D, by have := C.is; (first | lia | omega), e, b, d, lx, C.self, C, r⟩
  | s2 f x y =>
    obtain ⟨e, b, d, d', lx, ly, D, C, r⟩ := h
    exact ⟨e, D, by have := C.is; (first | lia | omega), e, b, d, d', lx, ly, C.self, C, r⟩
noncomputable def sumTo (ss : Nat → Nat) : Nat → Nat
  | 0 => 0
  | n + 1 => sumTo ss n + ss n
section
variable {Y : SymA} {B : MchA} {S : Sy} {M : Mch} {A : TA} {β : Nat → Nat} {Vs : List Nat} {G : Loc → SH → Prop}
inductive VisC (Fs H : List Cell) (β : Nat → Nat) (kv : List (Int × V)) (T : List Nat) (w : List V) (r : List Tm) (K : List V → List Tm → List (Int × V) → List Nat → Prop) : Cell → Prop
  | v (n : Nat) (hi : ∀ j ∈ T, β j = β n → j = n) (q : K w (r ++ [(numT (.v n) T).1]) kv (numT (.v n) T).2) : VisC Fs H β kv T w r K (0, β n)
  | leaf (t : Tm) (ht : t.isS = false) (hg : t.ground = true) (q : K w (r ++ [t]) kv T) : VisC Fs H β kv T w r K t.cell
  | s (e : Cell) (f n b : Nat) (C : Comp Fs H e f n b) (hk0 : vat kv (e.2 : Nat) = none)
    (q : (n = 1 ∧ ∃ d, H[b]? = some d ∧ K ((w ++ [bld e]) ++ [vis d]) r (vput kv (e.2 : Nat) (.d .none)) T) ∨ (n = 2 ∧ ∃ d d', H[b]? = some d ∧ H[b + 1]? = some d' ∧ K (((w ++ [bld e]) ++ [vis d']) ++ [vis d]) r (vput kv (e.2 : Nat) (.d .none)) T)) :
    VisC Fs H β kv T w r K e
theorem take_ind (hβ : ∀ n ∈ Vs, ∀ m ∈ Vs, β n = β m → n = m)
    (s0 : ∀ σ m w r (kv sv : List (Int × V)) T c e, TS σ Y B S M A β (w ++ [vis c]) r kv sv T → TL m B A → w.length ≤ 900 → r.length ≤ 900 → kv.length ≤ 900 → T.length ≤ 900 → Der M.H c e →
      VisC S.F M.H β kv T w r (fun w' r' kv' T' => ∀ σ' m', TS σ' Y B S M A β w' r' kv' sv T' → TL m' B A → Fw (TN A) σ σ' → G m' σ') e → G m σ)
    (s4 : ∀ σ m w r (kv sv : List (Int × V)) T (X : Tm) e f n b (ss : Nat → Nat), TS σ Y B S M A β (w ++ [bld e]) (r ++ X.args) kv sv T → TL m B A → w.length ≤ 900 → r.length ≤ 900 → kv.length ≤ 900 → sv.length ≤ 900 →
      X.isS = true → X.fn = f → X.args.length = n → n ≤ 2 → X.size ≤ 901 → Comp S.F M.H e f n b → (∀ i < n, ∃ d l, M.H[b + i]? = some d ∧ PS sv M.H d (ss i) l) → 1 + sumTo ss n = X.size →
      (∀ σ' m', TS σ' Y B S M A β w (r ++ [X]) (vput kv (e.2 : Nat) (.d X.enc)) (vput sv (e.2 : Nat) (.d (.int (X.size : Nat)))) T → TL m' B A → Fw (TN A) σ σ' → G m' σ') → G m σ) :
    ∀ (t : Tm) σ m w r (kv sv : List (Int × V)) T c l, Den S.F M.H β t c l → l.Nodup → (∀ a ∈ l, vat kv (a : Nat) = none) → TS σ Y B S M A β (w ++ [vis c]) r kv sv T → TL m B A → (∀ n ∈ t.vars, n ∈ Vs) → (∀ n ∈ T, n ∈ Vs) →
      w.length + 3 * t.size ≤ 900 → r.length + t.size ≤ 900 → kv.length + 2 * t.size ≤ 900 → sv.length + t.size ≤ 900 → T.length + t.size ≤ 900 →
      (∀ σ' m' (kv' sv' : List (Int × V)), TS σ' Y B S M A β w (r ++ [(numT t T).1]) kv' sv' (numT t T).2 → TL m' B A → Fw (TN A) σ σ' → (∀ a : Nat, a ∉ l → vat kv' (a : Nat) = vat kv (a : Nat)) → (∀ a : Nat, a ∉ l → vat sv' (a : Nat) = vat sv (a : Nat)) →
        PS sv' M.H c t.size l → kv'.length ≤ kv.length + 2 * t.size → sv'.length ≤ sv.length + t.size → G m' σ') → G m σ := by
  intro t
  induction t with
  | v k =>
    intro σ m w r kv sv T c l D nd hk hS hL hv hT b1 b2 b3 b4 b5 q
    simp only [Tm.size] at b1 b2 b3 b4 b5
    have hD : Der M.H c (0, β k) := D.2.1
    refine s0 σ m w r kv sv T c _ hS hL (by (first | lia | omega)) (by (first | lia | omega)) (by (first | lia | omega)) (by (first | lia | omega)) hD (.v k (fun j hj e => hβ j (hT j hj) k (hv k (by simp [Tm.vars])) e) fun σ' m' u v f => ?_)
    exact q σ' m' kv sv u v f (fun _ _ => rfl) (fun _ _ => rfl) ⟨_, hD, .inr ⟨by simp, by simp, rfl⟩⟩ (by (first | lia | omega)) (by (first | lia | omega))
  | a k =>
    intro σ m w r kv sv T c l D nd hk hS hL hv hT b1 b2 b3 b4 b5 q
    simp only [Tm.size] at b1 b2 b3 b4 b5
    refine s0 σ m w r kv sv T c _ hS hL (by (first | lia | omega)) (by (first | lia | omega)) (by (first | lia | omega)) (by (first | lia | omega)) D.2 (.leaf (.a k) rfl rfl fun σ' m' u v f => ?_)
    exact q σ' m' kv sv u v f (fun _ _ => rfl) (fun _ _ => rfl) ⟨_, D.2, .inr ⟨by simp, by simp, rfl⟩⟩ (by (first | lia | omega)) (by (first | lia | omega))
  | i k =>
    intro σ m w r kv sv T c l D nd hk hS hL hv hT b1 b2 b3 b4 b5 q
    simp only [Tm.size] at b1 b2 b3 b4 b5
    refine s0 σ m w r kv sv T c _ hS hL (by (first | lia | omega)) (by (first | lia | omega)) (by (first | lia | omega)) (by (first | lia | omega)) D.2 (.leaf (.i k) rfl rfl fun σ' m' u v f => ?_)
    exact q σ' m' kv sv u v f (fun _ _ => rfl) (fun _ _ => rfl) ⟨_, D.2, .inr ⟨by simp, by simp, rfl⟩⟩ (by (first | lia | omega)) (by (first | lia | omega))
  | s1 f x ih =>
    intro σ m w r kv sv T c l ⟨e, b, d, lx, D, C, g, X, hl⟩ nd hk hS hL hv hT b1 b2 b3 b4 b5 q
    subst hl
    simp only [Tm.size] at b1 b2 b3 b4 b5 q
    have hx := Tm.size_pos x
    obtain ⟨nx, ndx⟩ := List.nodup_cons.mp nd
    refine s0 σ m w r kv sv T c e hS hL (by (first | lia | omega)) (by (first | lia | omega)) (by (first | lia | omega)) (by (first | lia | omega)) D (.s e f 1 b C (hk _ (.head _)) (.inl ⟨rfl, d, g, fun σ1 m1 u1 v1 f1 => ?_⟩))
    have vl := vput_len kv (e.2 : Nat) (V.d .none)
    refine ih σ1 m1 (w ++ [bld e]) r _ sv T d lx X ndx (fun a ha => ?_) u1 v1 hv hT (by simp; (first | lia | omega)) (by (first | lia | omega)) (by (first | lia | omega)) (by (first | lia | omega)) (by (first | lia | omega)) fun σ2 m2 kv2 sv2 u2 v2 f2 k2 p2 ps2 l2 l3 => ?_
    · rw [vat_put, if_neg]
      · exact hk a (.tail _ ha)
      · intro z; have : a = e.2 := by (first | lia | omega)
        subst this; exact nx ha
    have sx := numT_size x T
    refine s4 σ2 m2 w r kv2 sv2 _ (.s1 f (numT x T).1) e f 1 b (fun _ => x.size) u2 v2 (by (first | lia | omega)) (by (first | lia | omega)) (by (first | lia | omega)) (by (first | lia | omega)) rfl rfl rfl (by decide) (by simp only [Tm.size, sx]; (first | lia | omega)) C (fun i hi => ?_) (by simp [sumTo, Tm.size, sx]) fun σ3 m3 u3 v3 f3 => ?_
    · obtain rfl : i = 0 := Nat.lt_one_iff.mp hi
      exact ⟨d, _, g, ps2⟩
    have vl2 := vput_len kv2 (e.2 : Nat) (V.d (Tm.s1 f (numT x T).1).enc)
    have vl3 := vput_len sv2 (e.2 : Nat) (V.d (.int ((Tm.s1 f (numT x T).1).size : Nat)))
    refine q σ3 m3 _ _ u3 v3 ((f1.trans f2).trans f3) (fun a ha => ?_) (fun a ha => ?_) ⟨e, D, .inl ⟨C.is, .head _, ?_⟩⟩ (by (first | lia | omega)) (by (first | lia | omega))
    · have h1 : ¬ a = e.2 := fun z => ha (z ▸ .head _)
      have h2 : a ∉ lx := fun z => ha (.tail _ z)
      rw [vat_put, if_neg (by (first | lia | omega)), k2 a h2, vat_put, if_neg (by (first | lia | omega))]
    · have h1 : ¬ a = e.2 := fun z => ha (z ▸ .head _)
      have h2 : a ∉ lx := fun z => ha (.tail _ z)
      rw [vat_put, if_neg (by (first | lia | omega)), p2 a h2]
    · rw [vat_put, if_pos rfl]; simp only [Tm.size, sx]
  | s2 f x y ihx ihy =>
    intro σ m w r kv sv T c l ⟨e, b, d, d', lx, ly, D, C, g, g', X, X', hl⟩ nd hk hS hL hv hT b1 b2 b3 b4 b5 q
    subst hl
    simp only [Tm.size] at b1 b2 b3 b4 b5 q
    have hx := Tm.size_pos x
    have hy := Tm.size_pos y
    obtain ⟨nx, ndxy⟩ := List.nodup_cons.mp nd
    obtain ⟨ndx, ndy, dis⟩ := List.nodup_append.mp ndxy
    refine s0 σ m w r kv sv T c e hS hL (by (first | lia | omega)) (by (first | lia | omega)) (by (first | lia | omega)) (by (first | lia | omega)) D (.s e f 2 b C (hk _ (.head _)) (.inr ⟨rfl, d, d', g, g', fun σ1 m1 u1 v1 f1 => ?_⟩))
    have vl := vput_len kv (e.2 : Nat) (V.d .none)
    have nk : ∀ a ∈ lx ++ ly, vat (vput kv ((e.2 : Nat) : Int) (V.d .none)) ((a : Nat) : Int) = none := fun a ha => by
      rw [vat_put, if_neg]
      · exact hk a (.tail _ ha)
      · intro z; have : a = e.2 := by (first | lia | omega)
        subst this; exact nx ha
    refine ihx σ1 m1 ((w ++ [bld e]) ++ [vis d']) r _ sv T d lx X ndx (fun a ha => nk a (List.mem_append_left _ ha)) u1 v1 (fun n hn => hv n (List.mem_append_left _ hn)) hT (by simp; (first | lia | omega)) (by (first | lia | omega)) (by (first | lia | omega)) (by (first | lia | omega)) (by (first | lia | omega))
      fun σ2 m2 kv2 sv2 u2 v2 f2 k2 p2 ps2 l2 l3 => ?_
    have nl := numT_len x T
    have sub := numT_sub x T (fun n hn => hv n (List.mem_append_left _ hn)) hT
    refine ihy σ2 m2 (w ++ [bld e]) _ kv2 sv2 _ d' ly X' ndy (fun a ha => ?_) u2 v2 (fun n hn => hv n (List.mem_append_right _ hn)) sub (by simp; (first | lia | omega)) (by simp; (first | lia | omega)) (by (first | lia | omega)) (by (first | lia | omega)) (by (first | lia | omega))
      fun σ3 m3 kv3 sv3 u3 v3 f3 k3 p3 ps3 l4 l5 => ?_
    · rw [k2 a fun z => dis a z a ha rfl]
      exact nk a (List.mem_append_right _ ha)
    have sx := numT_size x T
    have sy := numT_size y (numT x T).2
    refine s4 σ3 m3 w r kv3 sv3 _ (.s2 f (numT x T).1 (numT y (numT x T).2).1) e f 2 b (fun i => if i = 0 then x.size else y.size) (by have := u3; rw [List.append_assoc] at this; exact this) v3 (by (first | lia | omega)) (by (first | lia | omega)) (by (first | lia | omega)) (by (first | lia | omega)) rfl rfl rfl (by decide) (by simp only [Tm.size, sx, sy]; (first | lia | omega)) C
      (fun i hi => ?_) (by simp [sumTo, Tm.size, sx, sy]) fun σ4 m4 u4 v4 f4 => ?_
    · by_cases i0 : i = 0
      · subst i0; exact ⟨d, _, g, by simpa using ps2.keep (fun a ha => p3 a fun z => dis a ha a z rfl) fun a ha => ha⟩
      · obtain rfl : i = 1 := by (first | lia | omega)
        exact ⟨d', _, g', by simpa using ps3⟩
    have vl2 := vput_len kv3 (e.2 : Nat) (V.d (Tm.s2 f (numT x T).1 (numT y (numT x T).2).1).enc)
    have vl3 := vput_len sv3 (e.2 : Nat) (V.d (.int ((Tm.s2 f (numT x T).1 (numT y (numT x T).2).1).size : Nat)))
    refine q σ4 m4 _ _ u4 v4 (((f1.trans f2).trans f3).trans f4) (fun a ha => ?_) (fun a ha => ?_) ⟨e, D, .inl ⟨C.is, .head _, ?_⟩⟩ (by (first | lia | omega)) (by (first | lia | omega))
    · have h1 : ¬ a = e.2 := fun z => ha (z ▸ .head _)
      have h2 : a ∉ lx := fun z => ha (.tail _ (List.mem_append_left _ z))
      have h3 : a ∉ ly := fun z => ha (.tail _ (List.mem_append_right _ z))
      rw [vat_put, if_neg (by (first | lia | omega)), k3 a h3, k2 a h2, vat_put, if_neg (by (first | lia | omega))]
    · have h1 : ¬ a = e.2 := fun z => ha (z ▸ .head _)
      have h2 : a ∉ lx := fun z => ha (.tail _ (List.mem_append_left _ z))
      have h3 : a ∉ ly := fun z => ha (.tail _ (List.mem_append_right _ z))
      rw [vat_put, if_neg (by (first | lia | omega)), p3 a h3, p2 a h2]
    · rw [vat_put, if_pos rfl]; simp only [Tm.size, sx, sy]
end
theorem TS.addR {σ : SH} {Y : SymA} {B : MchA} {S : Sy} {M : Mch} {A : TA} {β : Nat → Nat} {w : List V} {r : List Tm} {kv sv : List (Int × V)} {T : List Nat} (h : TS σ Y B S M A β w r kv sv T) (t : Tm) :
    TS (σ.set A.rs (.list ((r.map fun t => V.d t.enc) ++ [V.d t.enc]))) Y B S M A β w (r ++ [t]) kv sv T := by
  have := h.setR (r ++ [t])
  rw [List.map_append] at this
  exact this
-- membership in a dict, decided; tables
section
variable {prog : Program} {C : Cx} {A : Around} {env : Env} {m : Loc} {σ : SH} {Φ : V → SH → Prop} {Ξ : SH → Prop} {a : Addr} {kvs : List (Int × V)} {i : Int} {β : Nat → Nat} {T : List Nat} {n : Nat} {X : V}
theorem op_in_no (ea : σ a = some (.idict kvs)) (hx : vat kvs i = none) (h : Φ (.d (.bool false)) σ) : Op2 prog C A env RepV (compareOp .In) (.d (.int i)) (.c (.ref a)) m σ Φ := op_in_idict ea (by rw [hx]; exact h)
theorem op_nin_no (ea : σ a = some (.idict kvs)) (hx : vat kvs i = none) (h : Φ (.d (.bool true)) σ) : Op2 prog C A env RepV (compareOp .NotIn) (.d (.int i)) (.c (.ref a)) m σ Φ := op_notin_idict ea (by rw [hx]; exact h)
theorem op_nin_yes (ea : σ a = some (.idict kvs)) (hx : vat kvs i = some X) (h : Φ (.d (.bool false)) σ) : Op2 prog C A env RepV (compareOp .NotIn) (.d (.int i)) (.c (.ref a)) m σ Φ := op_notin_idict ea (by rw [hx]; exact h)
theorem opl_len_tbl (ea : σ a = some (.idict (tbl β T))) (hn : T.length ≤ 1000) (h : Φ (.d (.int (T.length : Nat))) σ) : OpL prog C A env (.builtin "len") [.c (.ref a)] m σ Φ :=
  opl_len_idict ea (by rw [tbl_len]; (first | lia | omega)) (by rw [tbl_len]; exact h)
theorem set_tbl (ea : σ a = some (.idict (tbl β T))) (hi : ∀ j ∈ T, β j = β n → j = n) (hn : n ∉ T) (hl : T.length ≤ 1000) (h : Ξ (σ.set a (.idict (tbl β (T ++ [n]))))) : OpSet prog C A env (.c (.ref a)) (.d (.int (β n : Nat))) (.d (.int (T.length : Nat))) m σ Ξ :=
  set_idict ea (by rw [tbl_len]; exact hl) (by rw [tbl_put hi hn]; exact h)
end
theorem unD_map : ∀ ds : List PyData, unD (ds.map V.d) = some ds
  | [] => rfl
  | d :: ds => by simp [unD, unD_map ds]
end Mine
namespace Mine
section
variable {prog : Program} {K : Frag} {C : Cx} {A : Around} {env : Env} {m : Loc} {σ σ' σ₁ σ₂ : SH} {s : Shared} {Φ : V → SH → Prop} {k : Nat} {pos np apos : Pos} {x y : Str}
theorem callC_defD {f : Addr} {oc : Value} {od an : Option Addr} {osl : Array (Option Value)} {name qual : Str} {params : Arguments} {body : List Stmt} {scope : Scope} {dV kV doc pm cdv ct : Value} {Xs dXs : List V} {dvs : List Value} (names : List Str)
    (W : Wd prog K C) (ho : K.lookup f = some ⟨oc, od, .func (fnOf name qual params body scope dV kV doc pm an cdv ct), osl⟩) (hcd : codeIn K cdv qual = true)
    (hb : ∀ s : Shared, K.In s.heap → ∀ vs, vs.length = Xs.length → BindsTo s (fnOf name qual params body scope dV kV doc pm an cdv ct) ⟨vs, []⟩ (names.zip (vs ++ dvs))) (hd : ∀ h, RepVs h dvs dXs)
    (hloc : (names.all fun y => scope.names.lookup y == some .local) = true) (hcell : (scope.names.all fun y => y.2 != .cell) = true)
    (hco : scope.isCoroutine = false) (hgen : scope.isGenerator = false) (hk : scope.kind = .function)
    (h : ∀ A L, Room A k → Ex prog C A (envX qual scope L f cdv []) (execs body (envX qual scope L f cdv [])) (Loc.of names (Xs ++ dXs)) σ (RetK Φ)) : CallC prog C (k + 1) (.ref f) Xs σ Φ := fun A s vs hR S rs => by
  obtain ⟨p, lo, mg, mb, T⟩ := W.top
  have X := W.kin.keeps S.keep
  refine codeAny_call_def (fd := fnOf name qual params body scope dV kV doc pm an cdv ct) (body := body) (binds := names.zip (vs ++ dvs)) hR.hd (X _ _ ho) rfl (T.nolimit.keeps S.keep) (codeRec_of X hcd) rfl (hb s X vs rs.length)
    (fun y hy => by simpa using List.all_eq_true.mp hcell y hy) (fun y hy => ?_) (fun h₁ hns kp => ?_) hco hgen hk
  · have := List.all_eq_true.mp hloc y.1 (List.of_mem_zip hy).1
    simpa using this
  · have S₁ : St prog C (envX qual scope s.heap.objs.size f cdv []) (Loc.of names (Xs ++ dXs)) σ { s with heap := h₁, toks := s.toks + (names.zip (vs ++ dvs)).length } := by
      refine ⟨⟨?_, fun b o e => kp _ _ (S.keep b o e), S.new, fun a so e => (S.rep a so e).mono (Keeps.t kp) fun o e => kp _ _ e, S.gens, S.drawn, S.os⟩, ⟨_, ⟨hns, fun b o e => kp _ _ (S.keep b o e), S.size⟩, fun y Y e => ?_⟩, ?_⟩
      · exact Nat.le_trans S.size (Nat.le_of_lt hns.lt)
      · obtain ⟨v, e', r⟩ := zip_rep (rs.append (hd _)) names [] [] (fun _ _ e => by cases e) y Y (by rw [List.append_nil]; exact e)
        rw [List.append_nil] at e'
        exact ⟨v, e', r.keepT (Keeps.t kp)⟩
      · exact S.freshNone
    refine wpAny_mono (h (A.deeper (callEnv (fnOf name qual params body scope dV kV doc pm an cdv ct) s.heap.objs.size f)) s.heap.objs.size (hR.deeper _) _ S₁) (fun fl s' q => ?_) fun _ _ e => e.elim
    obtain ⟨F, m', σ', r, S', x, p⟩ := q
    have xC : ExtC σ s.heap σ' s'.heap := by
      refine ⟨fun b o hb e => x.keep b o (fun q => ?_) hb (kp _ _ e), fun b hb => ?_⟩
      · subst q
        exact absurd (Heap.lt_size e) (Nat.lt_irrefl _)
      · rcases x.new b hb with y | y
        · exact .inl y
        · refine .inr ?_
          cases q : s.heap.get? b with
          | none => rfl
          | some o => rw [kp _ _ q] at y; cases y
    cases fl with
    | ret v =>
      cases F with
      | ret X => exact ⟨X, σ', r, S'.toSt0, xC, p⟩
      | _ => exact r.elim
    | _ => cases F <;> first | exact r.elim | exact ⟨_, σ', repN, S'.toSt0, xC, p⟩
theorem none_set {σ : SH} {a b : Addr} {o : SObj} (h : (σ.set a o) b = none) : σ b = none ∧ b ≠ a := by
  have hne : b ≠ a := fun q => by rw [q, SH.set_self] at h; cases h
  rw [SH.set_ne _ _ hne] at h
  exact ⟨h, hne⟩
noncomputable def Kp (σ σ' : SH) : Prop := ∀ a so, σ a = some so → σ' a = some so
theorem Kp.fw {σ σ' : SH} (h : Kp σ σ') : Fw (fun _ => False) σ σ' := fun a so e _ => h a so e
theorem listK_abs {Xs : List V} {Φ : V → SH → Prop} (hl : Xs.length ≤ 1000) (h : ∀ b σ', σ b = none → Kp σ σ' → σ' b = some (.list Xs) → Φ (.c (.ref b)) σ') : ListK Xs σ Φ :=
  ⟨hl, fun b hb => h b _ hb (fun a so e => by rw [SH.set_ne _ _ (ne_new hb e)]; exact e) (SH.set_self _ _ _)⟩
theorem dict_abs {env : Env} {K : Frag} (so : SObj) (hso : so = .idict [] ∨ so = .sdict [] ∨ so = .tdict []) (W : Wd prog K C) (h : ∀ b σ', σ b = none → Kp σ σ' → σ' b = some so → Φ (.c (.ref b)) σ') : Ev prog C A env (.Dict [] [] pos) m σ Φ :=
  ev_dict so hso W fun b hb => h b _ hb (fun a so e => by rw [SH.set_ne _ _ (ne_new hb e)]; exact e) (SH.set_self _ _ _)
end
-- small steps of the walk
theorem br_l {p q P Q : Prop} (h : P) (n : q → Q) : (p → P) ∧ (q → Q) := ⟨fun _ => h, n⟩
theorem br_r {p q P Q : Prop} (n : p → P) (h : Q) : (p → P) ∧ (q → Q) := ⟨n, fun _ => h⟩
theorem lo_step {m : Loc} {x y : Str} {X : V} {v : Option V} (hn : (y == x) = false) (h : m y = v) : (m.set x X) y = v := (Loc.set_ne _ _ hn).trans h
theorem sh_step {σ : SH} {a b : Addr} {o : SObj} {v : Option SObj} (hn : b ≠ a) (h : σ b = v) : (σ.set a o) b = v := (SH.set_ne _ _ hn).trans h
theorem kk {a b k : Nat} (h : b ≤ k + 1) (e : Nat.ble (a + 1) b = true) : a ≤ k := Nat.le_of_succ_le_succ (Nat.le_trans (Nat.le_of_ble_eq_true e) h)
theorem kle {a b k : Nat} (h : b ≤ k) (e : Nat.ble a b = true) : a ≤ k := Nat.le_trans (Nat.le_of_ble_eq_true e) h
theorem keg {a b k : Nat} (h : a ≤ b) (e : Nat.ble b k = true) : a ≤ k := Nat.le_trans h (Nat.le_of_ble_eq_true e)
theorem kpred {k : Nat} (h : 1 ≤ k) : ∃ j, k = j + 1 := ⟨k - 1, (Nat.sub_add_cancel h).symm⟩
theorem kpred2 {k : Nat} (h : 2 ≤ k) : ∃ j, k = j + 2 := ⟨k - 2, (Nat.sub_add_cancel h).symm⟩
theorem bnd0 {P : List Value → Prop} (h : P []) : ∀ vs : List Value, vs.length = 0 → P vs := fun vs e => by
  cases vs with
  | nil => exact h
  | cons a r => cases e
theorem bndS {P : List Value → Prop} {n : Nat} (h : ∀ a vs, vs.length = n → P (a :: vs)) : ∀ vs : List Value, vs.length = n + 1 → P vs := fun vs e => by
  cases vs with
  | nil => cases e
  | cons a r => exact h a r (Nat.succ.inj e)
theorem bnd1 {P : List Value → Prop} (h : ∀ a, P [a]) : ∀ vs : List Value, vs.length = 1 → P vs := bndS fun a => bnd0 (P := fun r => P (a :: r)) (h a)
theorem bnd2 {P : List Value → Prop} (h : ∀ a b, P [a, b]) : ∀ vs : List Value, vs.length = 2 → P vs := bndS fun a => bnd1 (P := fun r => P (a :: r)) (h a)
theorem bnd3 {P : List Value → Prop} (h : ∀ a b c, P [a, b, c]) : ∀ vs : List Value, vs.length = 3 → P vs := bndS fun a => bnd2 (P := fun r => P (a :: r)) (h a)
theorem bnd4 {P : List Value → Prop} (h : ∀ a b c d, P [a, b, c, d]) : ∀ vs : List Value, vs.length = 4 → P vs := bndS fun a => bnd3 (P := fun r => P (a :: r)) (h a)
theorem bnd5 {P : List Value → Prop} (h : ∀ a b c d e, P [a, b, c, d, e]) : ∀ vs : List Value, vs.length = 5 → P vs := bndS fun a => bnd4 (P := fun r => P (a :: r)) (h a)
end Mine
namespace Mine
theorem Der.mono {H H' : List Cell} (k : ∀ (q : Nat) c, H[q]? = some c → H'[q]? = some c) : ∀ {c e : Cell}, Der H c e → Der H' c e := by
  intro c e h
  induction h with
  | tag h0 h1 => exact .tag h0 h1
  | self h0 h1 => exact .self h0 (k _ _ h1)
  | step h0 h1 h2 _ ih => exact .step h0 (k _ _ h1) h2 ih
theorem Comp.mono {F H H' : List Cell} (k : ∀ (q : Nat) c, H[q]? = some c → H'[q]? = some c) {c : Cell} {f n b : Nat} (h : Comp F H c f n b) : Comp F H' c f n b := by
  rcases h with h | ⟨h1, h2, h3, h4, h5⟩
  · exact .inl h
  · exact .inr ⟨h1, h2, k _ _ h3, h4, h5⟩
theorem Den.keep {F H H' : List Cell} {β β' : Nat → Nat} (k : ∀ (q : Nat) c, H[q]? = some c → H'[q]? = some c) (t : Tm) : ∀ (c : Cell) (l : List Nat), Den F H β t c l → (∀ n ∈ t.vars, β n = β' n) → Den F H' β' t c l := by
  induction t with
  | v n =>
    intro c l h e
    have q := e n (.head _)
    exact ⟨h.1, q ▸ h.2.1.mono k, q ▸ k _ _ h.2.2⟩
  | a n => exact fun c l h _ => ⟨h.1, h.2.mono k⟩
  | i n => exact fun c l h _ => ⟨h.1, h.2.mono k⟩
  | s1 f x ih =>
    intro c l h q
    obtain ⟨e, b, d, lx, h1, h2, h3, h4, h5⟩ := h
    exact ⟨e, b, d, lx, h1.mono k, h2.mono k, k _ _ h3, ih _ _ h4 q, h5⟩
  | s2 f x y ihx ihy =>
    intro c l h q
    obtain ⟨e, b, d, d', lx, ly, h1, h2, h3, h3', h4, h4', h5⟩ := h
    exact ⟨e, b, d, d', lx, ly, h1.mono k, h2.mono k, k _ _ h3, k _ _ h3', ihx _ _ h4 fun n hn => q n (List.mem_append_left _ hn), ihy _ _ h4' fun n hn => q n (List.mem_append_right _ hn), h5⟩
theorem Den.mono {F H H' : List Cell} {β : Nat → Nat} (k : ∀ (q : Nat) c, H[q]? = some c → H'[q]? = some c) {t : Tm} {c : Cell} {l : List Nat} (h : Den F H β t c l) : Den F H' β t c l := Den.keep k t c l h fun _ _ => rfl
theorem Den.congr {F H : List Cell} {β β' : Nat → Nat} {t : Tm} {c : Cell} {l : List Nat} (h : Den F H β t c l) (e : ∀ n ∈ t.vars, β n = β' n) : Den F H β' t c l := Den.keep (fun _ _ h => h) t c l h e
noncomputable def setXp (X : List Cell) (n : Nat) (c : Cell) : List Cell := (X ++ List.replicate (n + 1 - X.length) (5, 0)).set n c
theorem Tm.lay : ∀ t : Tm, t.enc.canLay0 = true ∧ t.enc.depth ≤ 2 * t.depth + 2 := by
  have hv : PyData.strOk "v" = true := by decide +kernel
  have ha : PyData.strOk "a" = true := by decide +kernel
  have hi : PyData.strOk "i" = true := by decide +kernel
  have hs : PyData.strOk "s" = true := by decide +kernel
  intro t
  induction t with
  | v n => exact ⟨by simp [Tm.enc, PyData.canLay0, PyData.canLayAll0, hv], by simp [Tm.enc, PyData.depth, PyData.depthAll]⟩
  | a n => exact ⟨by simp [Tm.enc, PyData.canLay0, PyData.canLayAll0, ha], by simp [Tm.enc, PyData.depth, PyData.depthAll]⟩
  | i n => exact ⟨by simp [Tm.enc, PyData.canLay0, PyData.canLayAll0, hi], by simp [Tm.enc, PyData.depth, PyData.depthAll]⟩
  | s1 f x ih => exact ⟨by simp [Tm.enc, PyData.canLay0, PyData.canLayAll0, hs, ih.1], by have := ih.2; simp [Tm.enc, PyData.depth, PyData.depthAll, Tm.depth]; (first | lia | omega)⟩
  | s2 f x y ihx ihy => exact ⟨by simp [Tm.enc, PyData.canLay0, PyData.canLayAll0, hs, ihx.1, ihy.1], by simp [Tm.enc, PyData.depth, PyData.depthAll, Tm.depth]; exact Nat.max_le.mpr ⟨nx2 ihx.2 (Nat.le_max_left _ _), nx2 ihy.2 (Nat.le_max_right _ _)⟩⟩
theorem Tm.shaped {t : Tm} (h : t.depth ≤ 20) : SeqAt.shaped t.enc = true := by
  have := t.lay
  simp only [SeqAt.shaped, this.1, Bool.true_and, decide_eq_true_eq]
  (first | lia | omega)
end Mine
namespace Mine
theorem add_sub_max {a b : Nat} : a + (b - a) = max a b :=
  (Nat.le_total a b).elim (fun h => by rw [Nat.add_sub_cancel' h, Nat.max_eq_right h]) (fun h => by rw [Nat.sub_eq_zero_of_le h, Nat.max_eq_left h, Nat.add_zero])
theorem setXp_len (X : List Cell) (n : Nat) (c : Cell) : (setXp X n c).length = max X.length (n + 1) := by
  unfold setXp; simp; exact add_sub_max
theorem setXp_self (X : List Cell) (n : Nat) (c : Cell) : (setXp X n c)[n]? = some c := by
  unfold setXp; rw [List.getElem?_set_self (by simp; rw [add_sub_max]; exact Nat.lt_of_lt_of_le (Nat.lt_succ_self n) (Nat.le_max_right _ _))]
theorem setXp_ne {X : List Cell} {n j : Nat} {c d : Cell} (h : j ≠ n) (e : X[j]? = some d) : (setXp X n c)[j]? = some d := by
  unfold setXp
  rw [List.getElem?_set_ne (by (first | lia | omega)), List.getElem?_append_left (getlt' e)]; exact e
theorem denL_cons {F H : List Cell} {β : Nat → Nat} {x : Tm} {r : List Tm} {b : Nat} {l1 l2 : List Nat} (h1 : DenL F H β [x] b l1) (h2 : DenL F H β r (b + 1) l2) : DenL F H β (x :: r) b (l1 ++ l2) := by
  obtain ⟨d, l, l', e1, e2, e3, e4⟩ := h1
  cases e3
  exact ⟨d, l, l2, e1, e2, h2, by rw [e4]; simp⟩
theorem denL_one {F H : List Cell} {β : Nat → Nat} {x : Tm} {b : Nat} {d : Cell} {l : List Nat} (h : H[b]? = some d) (h1 : Den F H β x d l) : DenL F H β [x] b l := ⟨d, l, [], h, h1, rfl, by simp⟩
theorem Tm.vars_args {t : Tm} (h : t.isS = true) {n : Nat} : n ∈ t.vars ↔ ∃ x ∈ t.args, n ∈ x.vars := by
  cases t <;> simp [Tm.isS] at h <;> simp [Tm.vars, Tm.args]
/-- a block that a compound's place begins -/
noncomputable def oH (H : List Cell) (f a : Nat) : List Cell := if f = 0 then H.set a (3, H.length) else (H ++ [(6, f)]).set a (2, H.length)
theorem oH_len (H : List Cell) (f a : Nat) : (oH H f a).length = blkB H f := by
  unfold oH blkB; split <;> simp
theorem oH_old {H : List Cell} {f a q : Nat} (h : q < H.length) (hn : q ≠ a) : (oH H f a)[q]? = H[q]? := by
  unfold oH; split
  · rw [List.getElem?_set_ne (Ne.symm hn)]
  · rw [List.getElem?_set_ne (Ne.symm hn), List.getElem?_append_left h]
theorem oH_at {H : List Cell} {f a : Nat} (h : a < H.length) : (oH H f a)[a]? = some (blkC H f) := by
  unfold oH blkC; split
  · rw [List.getElem?_set_self h]
  · rw [List.getElem?_set_self (by simp; (first | lia | omega))]
theorem oH_comp {F H H' : List Cell} {f a n : Nat} (h : Fok F f n) (ha : a < H.length) (e : ∀ q, H.length ≤ q → q < blkB H f → H'[q]? = (oH H f a)[q]?) : Comp F H' (blkC H f) f n (blkB H f) := by
  rcases h with ⟨h1, h2⟩ | ⟨h1, h2⟩
  · subst h1; exact .inl ⟨by simp [blkC], rfl, h2, by simp [blkB, blkC]⟩
  · refine .inr ⟨by simp [blkC, h1], h1, ?_, h2, by simp [blkB, blkC, h1]⟩
    have := e H.length (Nat.le_refl _) (by simp [blkB, h1])
    simp only [blkC]
    rw [this]
    unfold oH
    rw [if_neg h1, List.getElem?_set_ne (by (first | lia | omega))]
    simp

abbrev Pn := Tm × Nat × Nat
noncomputable def psz (pd : List Pn) : Nat := (pd.map fun p => p.1.size).sum
/-- the head as it writes -/
structure PW (F : List Cell) (T : Tm) (M : Mch) (β : Nat → Nat) (sn : List Nat) (fr : Nat) (pd : List Pn) (as : List Tm) (cl : List Nat) : Prop where
  rt : M.X[1]? = some (0, 0)
  reg : ∀ p ∈ pd, M.X[p.2.1]? = some (0, p.2.2) ∧ M.H[p.2.2]? = some (0, p.2.2)
  hom : ∀ p ∈ pd, p.2.1 ≤ fr ∧ (p.2.1 < 10 ∨ 14 ≤ p.2.1)
  f30 : 30 ≤ fr
  dis : pd.Pairwise fun p q => p.2.2 ≠ q.2.2
  var : ∀ n ∈ sn, M.X[10 + n]? = some (0, β n) ∧ M.H[β n]? = some (0, β n) ∧ ∀ p ∈ pd, p.2.2 ≠ β n
  s4 : ∀ n ∈ sn, n < 4
  inj : ∀ n ∈ sn, ∀ m ∈ sn, β n = β m → n = m
  nd : cl.Nodup
  lt : ∀ a ∈ cl, a < M.H.length + as.length
  wfp : ∀ p ∈ pd, p.1.wf F ∧ (∀ n ∈ p.1.vars, n < 4) ∧ p.1.isS = true
  wfa : ∀ x ∈ as, x.wf F ∧ ∀ n ∈ x.vars, n < 4
  cov : ∀ n ∈ T.vars, n ∈ sn ∨ (∃ p ∈ pd, n ∈ p.1.vars) ∨ ∃ x ∈ as, n ∈ x.vars
  szH : M.H.length + 3 * (psz pd + sizes as) ≤ 700 + pd.length
  szf : fr + psz pd + sizes as ≤ 300 + pd.length
  szX : M.X.length ≤ fr + 1
  md : M.w = true ∨ (as = [] ∧ pd ≠ [])
  cpl : ∀ (H' : List Cell) (β' : Nat → Nat), (∀ q, q < M.H.length → (∀ p ∈ pd, q ≠ p.2.2) → H'[q]? = M.H[q]?) → (∀ n ∈ sn, β' n = β n) → ∀ (G : Nat → List Nat), (∀ p ∈ pd, DenL F H' β' [p.1] p.2.2 (G p.2.2)) →
    ∀ lr, DenL F H' β' as M.H.length lr → ∃ l, Den F H' β' T (0, 0) l ∧ l.Perm (cl ++ (lr ++ (pd.map fun p => G p.2.2).flatten))

section
variable {F : List Cell} {T : Tm} {M M' : Mch} {β : Nat → Nat} {sn : List Nat} {fr : Nat} {pd : List Pn} {as : List Tm} {cl : List Nat}
theorem PW.init (hs : T.isS = true) (hw : T.wf F) (hv : ∀ n ∈ T.vars, n < 4) (hz : T.size ≤ 80) (hH : M.H = [(0, 0)]) (hX1 : M.X[1]? = some (0, 0)) (hX : M.X.length ≤ 31) : PW F T M β [] 30 [(T, 1, 0)] [] [] := by
  refine ⟨hX1, fun p hp => ?_, fun p hp => ?_, Nat.le_refl _, by simp, by simp, by simp, by simp, by simp, by simp, fun p hp => ?_, by simp, fun n hn => .inr (.inl ⟨_, .head _, hn⟩), ?_, ?_, hX, .inr ⟨rfl, by simp⟩, fun H' β' e eb G hG lr hr => ?_⟩
  · simp at hp; subst hp; exact ⟨hX1, by rw [hH]; rfl⟩
  · simp at hp; subst hp; simp
  · simp at hp; subst hp; exact ⟨hw, hv, hs⟩
  · rw [hH]; simp [psz, sizes]; (first | lia | omega)
  · simp [psz, sizes]; (first | lia | omega)
  · obtain ⟨d, l1, l2, e1, e2, e3, e4⟩ := hG _ (.head _)
    cases e3
    cases hr
    obtain ⟨e, b, l', D, hc, hl, el⟩ := comp_den hs e2
    have D0 : Der H' (0, 0) e := by
      by_cases z : d = (0, 0)
      · rw [← z]; exact D
      · exact .step rfl e1 z D
    refine ⟨l1, el ▸ den_comp hs D0 hc hl, ?_⟩
    simp [e4]
theorem PW.done (h : PW F T M β sn fr [] [] cl) : (∃ l, Den F M.H β T (0, 0) l ∧ l.Nodup) ∧ M.X[1]? = some (0, 0) ∧ (∀ n ∈ T.vars, ∀ m ∈ T.vars, β n = β m → n = m) ∧ M.w = true ∧ M.H.length ≤ 700 ∧ M.X.length ≤ 400 := by
  obtain ⟨l, D, p⟩ := h.cpl M.H β (fun _ _ _ => rfl) (fun _ _ => rfl) (fun _ => []) (by simp) [] rfl
  have hs : ∀ n ∈ T.vars, n ∈ sn := fun n hn => by
    rcases h.cov n hn with q | ⟨p, hp, _⟩ | ⟨p, hp, _⟩
    · exact q
    · cases hp
    · cases hp
  refine ⟨⟨l, D, p.nodup_iff.mpr (by simpa using h.nd)⟩, h.rt, fun n hn m hm => h.inj n (hs n hn) m (hs m hm), h.md.resolve_right (by simp), ?_, ?_⟩
  · have := h.szH; simp at this; (first | lia | omega)
  · have := h.szX; have := h.szf; simp at this; (first | lia | omega)
theorem psz_len (hp : ∀ p ∈ pd, 0 < p.1.size) : pd.length ≤ psz pd := by
  induction pd with
  | nil => simp
  | cons p r ih =>
    have := hp p (.head _)
    have := ih fun q hq => hp q (.tail _ hq)
    simp [psz] at this ⊢; (first | lia | omega)
theorem PW.bnd (h : PW F T M β sn fr pd as cl) : M.H.length ≤ 700 ∧ fr ≤ 300 ∧ M.X.length ≤ 301 := by
  have hp := psz_len (pd := pd) fun p _ => Tm.size_pos _
  have hf := nx1 hp h.szf
  exact ⟨nx3 hp h.szH, hf, Nat.le_trans h.szX (Nat.succ_le_succ hf)⟩
theorem PW.open {t : Tm} {hm a : Nat} (h : PW F T M β sn fr ((t, hm, a) :: pd) [] cl) (hH : M'.H = oH M.H t.fn a) (hX : M'.X = M.X) (hw : M'.w = true) : PW F T M' β sn fr pd t.args (M.H.length :: cl) := by
  obtain ⟨d1, d2⟩ := List.pairwise_cons.mp h.dis
  obtain ⟨w1, w2, w3⟩ := h.wfp _ (.head _)
  obtain ⟨r1, r2⟩ := h.reg _ (.head _)
  have ha : a < M.H.length := getlt' r2
  have ok := Tm.wf_fok w1 w3
  have hle := blk_le M.H t.fn
  have hlen : M'.H.length = blkB M.H t.fn := by rw [hH, oH_len]
  have hsz : t.size = 1 + sizes t.args := Tm.size_args w3
  have hal : t.args.length = 1 ∨ t.args.length = 2 := Tm.args_len w3
  refine ⟨hX ▸ h.rt, fun p hp => ⟨hX ▸ (h.reg p (.tail _ hp)).1, ?_⟩, fun p hp => h.hom p (.tail _ hp), h.f30, d2, fun n hn => ?_, h.s4, h.inj, List.nodup_cons.mpr ⟨fun q => absurd (h.lt _ q) (Nat.lt_irrefl _), h.nd⟩, fun b hb => ?_, fun p hp => h.wfp p (.tail _ hp), fun x hx => ⟨Tm.wf_args w1 x hx, fun n hn => w2 n ((Tm.vars_args w3).mpr ⟨x, hx, hn⟩)⟩, fun n hn => ?_, ?_, ?_, hX ▸ h.szX, .inl hw, fun H' β' e eb G hG lr hr => ?_⟩
  · have q := (h.reg p (.tail _ hp)).2
    rw [hH, oH_old (getlt' q) (fun z => d1 p hp z.symm)]; exact q
  · obtain ⟨v1, v2, v3⟩ := h.var n hn
    exact ⟨hX ▸ v1, by rw [hH, oH_old (getlt' v2) (fun z => v3 _ (.head _) z.symm)]; exact v2, fun p hp => v3 p (.tail _ hp)⟩
  · rw [hlen]
    rcases List.mem_cons.mp hb with rfl | hb
    · (first | lia | omega)
    · have := h.lt b hb; simp only [List.length_nil] at this; (first | lia | omega)
  · rcases h.cov n hn with q | ⟨p, hp, q⟩ | ⟨x, hx, q⟩
    · exact .inl q
    · rcases List.mem_cons.mp hp with rfl | hp
      · exact .inr (.inr ((Tm.vars_args w3).mp q))
      · exact .inr (.inl ⟨p, hp, q⟩)
    · cases hx
  · have := h.szH; rw [hlen]; simp [psz, sizes] at this hsz ⊢; (first | lia | omega)
  · have := h.szf; simp [psz, sizes] at this hsz ⊢; (first | lia | omega)
  · have hb : H'[a]? = some (blkC M.H t.fn) := by
      rw [e a (by (first | lia | omega)) (fun p hp => d1 p hp), hH, oH_at ha]
    have hc : Comp F H' (blkC M.H t.fn) t.fn t.args.length (blkB M.H t.fn) := oH_comp ok ha fun q h1 h2 => by
      rw [e q (by (first | lia | omega)) (fun p hp => ?_), hH]
      have := getlt' (h.reg p (.tail _ hp)).2
      (first | lia | omega)
    rw [hlen] at hr
    obtain ⟨l, D, p⟩ := h.cpl H' β' (fun q hq hn => by
      rw [e q (by (first | lia | omega)) (fun p hp => hn p (.tail _ hp)), hH, oH_old hq (hn _ (.head _))]) eb (fun b => if b = a then M.H.length :: lr else G b) (fun p hp => by
        rcases List.mem_cons.mp hp with rfl | hp
        · simp only [if_true]
          exact denL_one hb (den_comp w3 hc.self hc hr)
        · rw [if_neg (fun z => d1 p hp z.symm)]; exact hG p hp) [] rfl
    refine ⟨l, D, p.trans ?_⟩
    have e2 : pd.map (fun p => if p.2.2 = a then M.H.length :: lr else G p.2.2) = pd.map fun p => G p.2.2 := by
      apply List.map_congr_left
      intro p hp
      rw [if_neg (fun z => d1 p hp z.symm)]
    simp only [List.map_cons, List.flatten_cons, if_true, e2, List.nil_append]
    rw [List.cons_append, List.cons_append]
    exact List.perm_middle
/-- the heap has one cell more -/
theorem snoc_old {H : List Cell} {c : Cell} {q : Nat} {d : Cell} (h : H[q]? = some d) : (H ++ [c])[q]? = some d := by
  rw [List.getElem?_append_left (getlt' h)]; exact h
theorem PW.const {x : Tm} {r : List Tm} (h : PW F T M β sn fr pd (x :: r) cl) (hs : x.isS = false) (hv : ∀ n, x ≠ .v n) (hH : M'.H = M.H ++ [x.cell]) (hX : M'.X = M.X) (hw : M'.w = true) : PW F T M' β sn fr pd r cl := by
  have hlen : M'.H.length = M.H.length + 1 := by rw [hH]; simp
  have hg : x.ground = true := by cases x <;> first | rfl | (exact absurd rfl (hv _)) | cases hs
  refine ⟨hX ▸ h.rt, fun p hp => ⟨hX ▸ (h.reg p hp).1, hH ▸ snoc_old (h.reg p hp).2⟩, h.hom, h.f30, h.dis, fun n hn => ?_, h.s4, h.inj, h.nd, fun b hb => ?_, h.wfp, fun y hy => h.wfa y (.tail _ hy), fun n hn => ?_, ?_, ?_, hX ▸ h.szX, .inl hw, fun H' β' e eb G hG lr hr => ?_⟩
  · obtain ⟨v1, v2, v3⟩ := h.var n hn
    exact ⟨hX ▸ v1, hH ▸ snoc_old v2, v3⟩
  · have := h.lt b hb; simp only [List.length_cons] at this; (first | lia | omega)
  · rcases h.cov n hn with q | q | ⟨y, hy, q⟩
    · exact .inl q
    · exact .inr (.inl q)
    · rcases List.mem_cons.mp hy with rfl | hy
      · cases y <;> first | (exact absurd rfl (hv _)) | (simp [Tm.vars] at q; done) | cases hs
      · exact .inr (.inr ⟨y, hy, q⟩)
  · have := h.szH; have := Tm.size_pos x; rw [hlen]; simp [sizes] at *; (first | lia | omega)
  · have := h.szf; simp [sizes] at this ⊢; (first | lia | omega)
  · rw [hlen] at hr
    refine h.cpl H' β' (fun q hq hn => ?_) eb G hG lr ?_
    · rw [e q (by (first | lia | omega)) hn, hH, List.getElem?_append_left hq]
    · have hc : H'[M.H.length]? = some x.cell := by
        rw [e _ (by (first | lia | omega)) (fun p hp => by have := getlt' (h.reg p hp).2; (first | lia | omega)), hH]; simp
      exact denL_cons (l1 := []) (denL_one hc (den_const hs hg)) hr
theorem PW.seen {n : Nat} {r : List Tm} (h : PW F T M β sn fr pd (.v n :: r) cl) (hn : n ∈ sn) (hH : M'.H = M.H ++ [(0, β n)]) (hX : M'.X = M.X) (hw : M'.w = true) : PW F T M' β sn fr pd r cl := by
  have hlen : M'.H.length = M.H.length + 1 := by rw [hH]; simp
  refine ⟨hX ▸ h.rt, fun p hp => ⟨hX ▸ (h.reg p hp).1, hH ▸ snoc_old (h.reg p hp).2⟩, h.hom, h.f30, h.dis, fun n hn => ?_, h.s4, h.inj, h.nd, fun b hb => ?_, h.wfp, fun y hy => h.wfa y (.tail _ hy), fun n hn => ?_, ?_, ?_, hX ▸ h.szX, .inl hw, fun H' β' e eb G hG lr hr => ?_⟩
  · obtain ⟨v1, v2, v3⟩ := h.var n hn
    exact ⟨hX ▸ v1, hH ▸ snoc_old v2, v3⟩
  · have := h.lt b hb; simp only [List.length_cons] at this; (first | lia | omega)
  · rcases h.cov n hn with q | q | ⟨y, hy, q⟩
    · exact .inl q
    · exact .inr (.inl q)
    · rcases List.mem_cons.mp hy with rfl | hy
      · simp [Tm.vars] at q; subst q; exact .inl ‹_›
      · exact .inr (.inr ⟨y, hy, q⟩)
  · have := h.szH; rw [hlen]; simp [sizes, Tm.size] at *; (first | lia | omega)
  · have := h.szf; simp [sizes] at this ⊢; (first | lia | omega)
  · rw [hlen] at hr
    obtain ⟨v1, v2, v3⟩ := h.var n hn
    refine h.cpl H' β' (fun q hq hn => ?_) eb G hG lr ?_
    · rw [e q (by (first | lia | omega)) hn, hH, List.getElem?_append_left hq]
    · have hc : H'[M.H.length]? = some (0, β n) := by
        rw [e _ (by (first | lia | omega)) (fun p hp => by have := getlt' (h.reg p hp).2; (first | lia | omega)), hH]; simp
      have hb : H'[β n]? = some (0, β n) := by
        have := getlt' v2
        rw [e _ (by (first | lia | omega)) (fun p hp z => v3 p hp z.symm), hH]; exact snoc_old v2
      exact denL_cons (l1 := []) (denL_one hc ⟨rfl, by rw [eb n hn]; exact .self rfl hb, by rw [eb n hn]; exact hb⟩) hr
noncomputable def upd (β : Nat → Nat) (n a : Nat) : Nat → Nat := fun j => if j = n then a else β j
theorem PW.new {n : Nat} {r : List Tm} (h : PW F T M β sn fr pd (.v n :: r) cl) (hn : n ∉ sn) (hH : M'.H = M.H ++ [(0, M.H.length)]) (hX : M'.X = setXp M.X (10 + n) (0, M.H.length)) (hw : M'.w = true) : PW F T M' (upd β n M.H.length) (sn ++ [n]) fr pd r cl := by
  have hlen : M'.H.length = M.H.length + 1 := by rw [hH]; simp
  have n4 : n < 4 := (h.wfa _ (.head _)).2 n (.head _)
  have f30 := h.f30
  have hat : M'.H[M.H.length]? = some (0, M.H.length) := by rw [hH]; simp
  refine ⟨?_, fun p hp => ⟨?_, hH ▸ snoc_old (h.reg p hp).2⟩, h.hom, h.f30, h.dis, fun j hj => ?_, fun j hj => ?_, fun i hi j hj q => ?_, h.nd, fun b hb => ?_, h.wfp, fun y hy => h.wfa y (.tail _ hy), fun j hj => ?_, ?_, ?_, ?_, .inl hw, fun H' β' e eb G hG lr hr => ?_⟩
  · rw [hX]; exact setXp_ne (by (first | lia | omega)) h.rt
  · rw [hX]; have := h.hom p hp; exact setXp_ne (by (first | lia | omega)) (h.reg p hp).1
  · rcases List.mem_append.mp hj with hj | hj
    · obtain ⟨v1, v2, v3⟩ := h.var j hj
      have hne : j ≠ n := fun z => hn (z ▸ hj)
      unfold upd; rw [if_neg hne]
      exact ⟨by rw [hX]; exact setXp_ne (by (first | lia | omega)) v1, hH ▸ snoc_old v2, v3⟩
    · simp at hj; subst hj
      unfold upd; rw [if_pos rfl]
      exact ⟨by rw [hX]; exact setXp_self _ _ _, hat, fun p hp => by have := getlt' (h.reg p hp).2; (first | lia | omega)⟩
  · rcases List.mem_append.mp hj with hj | hj
    · exact h.s4 j hj
    · simp at hj; subst hj; exact n4
  · have key : ∀ j ∈ sn, β j < M.H.length := fun j hj => getlt' (h.var j hj).2.1
    unfold upd at q
    by_cases z1 : i = n
    · by_cases z2 : j = n
      · (first | lia | omega)
      · rw [if_pos z1, if_neg z2] at q
        have : j ∈ sn := by simpa [z2] using hj
        have := key j this; (first | lia | omega)
    · have hi' : i ∈ sn := by simpa [z1] using hi
      by_cases z2 : j = n
      · rw [if_neg z1, if_pos z2] at q
        have := key i hi'; (first | lia | omega)
      · rw [if_neg z1, if_neg z2] at q
        exact h.inj i hi' j (by simpa [z2] using hj) q
  · have := h.lt b hb; simp only [List.length_cons] at this; (first | lia | omega)
  · rcases h.cov j hj with q | q | ⟨y, hy, q⟩
    · exact .inl (List.mem_append_left _ q)
    · exact .inr (.inl q)
    · rcases List.mem_cons.mp hy with rfl | hy
      · simp [Tm.vars] at q; subst q; exact .inl (List.mem_append_right _ (.head _))
      · exact .inr (.inr ⟨y, hy, q⟩)
  · have := h.szH; rw [hlen]; simp [sizes, Tm.size] at *; (first | lia | omega)
  · have := h.szf; simp [sizes] at this ⊢; (first | lia | omega)
  · rw [hX, setXp_len]; exact nx14 n4 h.f30 h.szX
  · rw [hlen] at hr
    have hnh : ∀ p ∈ pd, M.H.length ≠ p.2.2 := fun p hp => by have := getlt' (h.reg p hp).2; (first | lia | omega)
    have eb' : ∀ j ∈ sn, β' j = β j := fun j hj => by
      rw [eb j (List.mem_append_left _ hj)]; unfold upd; rw [if_neg (fun z : j = n => hn (z ▸ hj))]
    have ebn : β' n = M.H.length := by
      rw [eb n (List.mem_append_right _ (.head _))]; unfold upd; rw [if_pos rfl]
    refine h.cpl H' β' (fun q hq hn => ?_) eb' G hG lr ?_
    · rw [e q (by (first | lia | omega)) hn, hH, List.getElem?_append_left hq]
    · have hc : H'[M.H.length]? = some (0, M.H.length) := by
        rw [e _ (by (first | lia | omega)) hnh]; exact hat
      exact denL_cons (l1 := []) (denL_one hc ⟨rfl, by rw [ebn]; exact .self rfl hc, by rw [ebn]; exact hc⟩) hr
theorem PW.comp {x : Tm} {r : List Tm} (h : PW F T M β sn fr pd (x :: r) cl) (hs : x.isS = true) (hH : M'.H = M.H ++ [(0, M.H.length)]) (hX : M'.X = setXp M.X (fr + 1) (0, M.H.length)) (hw : M'.w = true) : PW F T M' β sn (fr + 1) (pd ++ [(x, fr + 1, M.H.length)]) r cl := by
  have hlen : M'.H.length = M.H.length + 1 := by rw [hH]; simp
  obtain ⟨w1, w2⟩ := h.wfa _ (.head _)
  have f30 := h.f30
  have hat : M'.H[M.H.length]? = some (0, M.H.length) := by rw [hH]; simp
  have hnh : ∀ p ∈ pd, M.H.length ≠ p.2.2 := fun p hp => by have := getlt' (h.reg p hp).2; (first | lia | omega)
  refine ⟨?_, fun p hp => ?_, fun p hp => ?_, by (first | lia | omega), List.pairwise_append.mpr ⟨h.dis, by simp, fun p hp q hq => ?_⟩, fun n hn => ?_, h.s4, h.inj, h.nd, fun b hb => ?_, fun p hp => ?_, fun y hy => h.wfa y (.tail _ hy), fun n hn => ?_, ?_, ?_, ?_, .inl hw, fun H' β' e eb G hG lr hr => ?_⟩
  · rw [hX]; exact setXp_ne (by (first | lia | omega)) h.rt
  · rcases List.mem_append.mp hp with hp | hp
    · have := h.hom p hp
      exact ⟨by rw [hX]; exact setXp_ne (by (first | lia | omega)) (h.reg p hp).1, hH ▸ snoc_old (h.reg p hp).2⟩
    · simp at hp; subst hp
      exact ⟨by rw [hX]; exact setXp_self _ _ _, hat⟩
  · rcases List.mem_append.mp hp with hp | hp
    · exact ⟨Nat.le_succ_of_le (h.hom p hp).1, (h.hom p hp).2⟩
    · simp at hp; subst hp; exact ⟨Nat.le_refl _, .inr (by simp; (first | lia | omega))⟩
  · simp at hq; subst hq; exact (hnh p hp).symm
  · obtain ⟨v1, v2, v3⟩ := h.var n hn
    have hb := getlt' v2
    refine ⟨by rw [hX]; exact setXp_ne (by have := h.s4 n hn; (first | lia | omega)) v1, hH ▸ snoc_old v2, fun p hp => ?_⟩
    rcases List.mem_append.mp hp with hp | hp
    · exact v3 p hp
    · simp at hp; subst hp; simp; (first | lia | omega)
  · have := h.lt b hb; simp only [List.length_cons] at this; (first | lia | omega)
  · rcases List.mem_append.mp hp with hp | hp
    · exact h.wfp p hp
    · simp at hp; subst hp; exact ⟨w1, w2, hs⟩
  · rcases h.cov n hn with q | ⟨p, hp, q⟩ | ⟨y, hy, q⟩
    · exact .inl q
    · exact .inr (.inl ⟨p, List.mem_append_left _ hp, q⟩)
    · rcases List.mem_cons.mp hy with rfl | hy
      · exact .inr (.inl ⟨_, List.mem_append_right _ (.head _), q⟩)
      · exact .inr (.inr ⟨y, hy, q⟩)
  · have z1 := h.szH; have z2 := Tm.size_pos x; rw [hlen]; simp [sizes, psz] at z1 ⊢; (first | lia | omega)
  · have z1 := h.szf; have z2 := Tm.size_pos x; simp [sizes, psz] at z1 ⊢; (first | lia | omega)
  · rw [hX, setXp_len]; exact Nat.max_le.mpr ⟨Nat.le_succ_of_le h.szX, Nat.le_refl _⟩
  · rw [hlen] at hr
    have hx := hG _ (List.mem_append_right _ (.head _))
    obtain ⟨l, D, p⟩ := h.cpl H' β' (fun q hq hn => by
      rw [e q (by (first | lia | omega)) (fun p hp => ?_), hH, List.getElem?_append_left hq]
      rcases List.mem_append.mp hp with hp | hp
      · exact hn p hp
      · simp at hp; subst hp; simp; (first | lia | omega)) eb G (fun p hp => hG p (List.mem_append_left _ hp)) (G M.H.length ++ lr) (denL_cons hx hr)
    refine ⟨l, D, p.trans (List.Perm.append_left _ ?_)⟩
    simp only [List.map_append, List.map_cons, List.map_nil, List.flatten_append, List.flatten_cons, List.flatten_nil, List.append_nil]
    rw [List.append_assoc]
    refine List.perm_append_comm.trans ?_
    rw [List.append_assoc]
end
end Mine
namespace Mine
/-- a term with values for its variables, k of its constants altered -/
noncomputable def Nr (vs : List Tm) : Tm → Tm → Nat → Prop
  | .v n, u, k => vs[n]? = some u ∧ k = 0
  | .a n, u, k => (u = .a n ∧ k = 0) ∨ (u = .i 77 ∧ k = 1)
  | .i n, u, k => (u = .i n ∧ k = 0) ∨ (u = .i 77 ∧ k = 1 ∧ n ≠ 77)
  | .s1 f x, u, k => ∃ x', u = .s1 f x' ∧ Nr vs x x' k
  | .s2 f x y, u, k => ∃ x' y' k1 k2, u = .s2 f x' y' ∧ Nr vs x x' k1 ∧ Nr vs y y' k2 ∧ k = k1 + k2
abbrev b0 : Nat → Nat := fun _ => 0
noncomputable def DN (F H : List Cell) (vs : List Tm) (t : Tm) (c : Cell) (k : Nat) : Prop := ∃ u l, Nr vs t u k ∧ Den F H b0 u c l
noncomputable def ArN (F H : List Cell) (vs : List Tm) : List Tm → Nat → Nat → Prop
  | [], _, k => k = 0
  | x :: r, s, k => ∃ d k1 k2, H[s]? = some d ∧ DN F H vs x d k1 ∧ ArN F H vs r (s + 1) k2 ∧ k = k1 + k2
theorem DN.open {F H : List Cell} {vs : List Tm} {t : Tm} {c : Cell} {k : Nat} (h : DN F H vs t c k) (hs : t.isS = true) : ∃ e b, Der H c e ∧ Comp F H e t.fn t.args.length b ∧ ArN F H vs t.args b k := by
  obtain ⟨u, l, hn, D⟩ := h
  cases t with
  | s1 f x =>
    obtain ⟨x', rfl, n1⟩ := hn
    obtain ⟨e, b, d, lx, h1, h2, h3, h4, h5⟩ := D
    exact ⟨e, b, h1, h2, d, k, 0, h3, ⟨_, _, n1, h4⟩, rfl, by simp⟩
  | s2 f x y =>
    obtain ⟨x', y', k1, k2, rfl, n1, n2, rfl⟩ := hn
    obtain ⟨e, b, d, d', lx, ly, h1, h2, h3, h3', h4, h4', h5⟩ := D
    exact ⟨e, b, h1, h2, d, k1, k2, h3, ⟨_, _, n1, h4⟩, ⟨d', k2, 0, h3', ⟨_, _, n2, h4'⟩, rfl, by simp⟩, rfl⟩
  | v n => cases hs
  | a n => cases hs
  | i n => cases hs
theorem DN.const {F H : List Cell} {vs : List Tm} {t : Tm} {c : Cell} {k : Nat} (h : DN F H vs t c k) (hs : t.isS = false) (hv : ∀ n, t ≠ .v n) : ∃ d, Der H c d ∧ d.1 ≠ 0 ∧ d.1 ≠ 1 ∧ (d = t.cell → k = 0) ∧ (d ≠ t.cell → k ≠ 0) := by
  obtain ⟨u, l, hn, D⟩ := h
  cases t with
  | a n =>
    rcases hn with ⟨rfl, rfl⟩ | ⟨rfl, rfl⟩
    · exact ⟨(4, n), D.2, by simp, by simp, fun _ => rfl, fun q => absurd rfl q⟩
    · exact ⟨(5, 77), D.2, by simp, by simp, fun q => by simp [Tm.cell] at q, fun _ => by simp⟩
  | i n =>
    rcases hn with ⟨rfl, rfl⟩ | ⟨rfl, rfl, h77⟩
    · exact ⟨(5, n), D.2, by simp, by simp, fun _ => rfl, fun q => absurd rfl q⟩
    · exact ⟨(5, 77), D.2, by simp, by simp, fun q => by simp [Tm.cell] at q; exact absurd q.symm h77, fun _ => by simp⟩
  | v n => exact absurd rfl (hv n)
  | s1 f x => cases hs
  | s2 f x y => cases hs
noncomputable def pk (pd : List Pn) : Nat := (pd.map fun p => p.2.2).sum
/-- the head as it reads -/
structure PR (F : List Cell) (T : Tm) (H : List Cell) (vs : List Tm) (K : Nat) (M : Mch) (sn : List Nat) (fr : Nat) (pd : List Pn) (as : List Tm) (ka : Nat) : Prop where
  hH : M.H = H
  reg : ∀ p ∈ pd, ∃ c, M.X[p.2.1]? = some c ∧ DN F H vs p.1 c p.2.2
  hom : ∀ p ∈ pd, p.2.1 ≤ fr ∧ (p.2.1 < 10 ∨ 14 ≤ p.2.1)
  f30 : 30 ≤ fr
  var : ∀ n ∈ sn, ∃ c u l, M.X[10 + n]? = some c ∧ vs[n]? = some u ∧ Den F H b0 u c l
  s4 : ∀ n ∈ sn, n < 4
  wfp : ∀ p ∈ pd, (∀ n ∈ p.1.vars, n < 4) ∧ p.1.isS = true
  wfa : ∀ x ∈ as, ∀ n ∈ x.vars, n < 4
  cov : ∀ n ∈ T.vars, n ∈ sn ∨ (∃ p ∈ pd, n ∈ p.1.vars) ∨ ∃ x ∈ as, n ∈ x.vars
  ars : ArN F H vs as M.s ka
  sum : pk pd + ka = K
  szf : fr + psz pd + sizes as ≤ 300 + pd.length
  szX : M.X.length ≤ fr + 1
  md : M.w = false
section
variable {F H : List Cell} {T : Tm} {vs : List Tm} {K : Nat} {M M' : Mch} {sn : List Nat} {fr : Nat} {pd : List Pn} {as : List Tm} {ka : Nat}
theorem PR.bnd (h : PR F T H vs K M sn fr pd as ka) : fr ≤ 300 ∧ M.X.length ≤ 301 := by
  have hp := psz_len (pd := pd) fun p _ => Tm.size_pos _
  have hf := nx1 hp h.szf
  exact ⟨hf, Nat.le_trans h.szX (Nat.succ_le_succ hf)⟩
theorem PR.init {u : Tm} {c : Cell} {l : List Nat} (hs : T.isS = true) (hv : ∀ n ∈ T.vars, n < 4) (hz : T.size ≤ 80) (hH : M.H = H) (hn : Nr vs T u K) (D : Den F H b0 u c l) (hX1 : M.X[1]? = some c) (hX : M.X.length ≤ 31) (hw : M.w = false) : PR F T H vs K M [] 30 [(T, 1, K)] [] 0 := by
  refine ⟨hH, fun p hp => ?_, fun p hp => ?_, Nat.le_refl _, by simp, by simp, fun p hp => ?_, by simp, fun n hn => .inr (.inl ⟨_, .head _, hn⟩), rfl, by simp [pk], by simp [psz, sizes]; (first | lia | omega), hX, hw⟩
  · simp at hp; subst hp; exact ⟨c, hX1, u, l, hn, D⟩
  · simp at hp; subst hp; simp
  · simp at hp; subst hp; exact ⟨hv, hs⟩
theorem PR.done (h : PR F T H vs K M sn fr [] [] ka) : K = 0 ∧ M.H = H ∧ M.w = false ∧ M.X.length ≤ 400 ∧ ∀ n ∈ T.vars, ∃ c u l, M.X[10 + n]? = some c ∧ vs[n]? = some u ∧ Den F H b0 u c l := by
  have hs : ∀ n ∈ T.vars, n ∈ sn := fun n hn => by
    rcases h.cov n hn with q | ⟨p, hp, _⟩ | ⟨p, hp, _⟩
    · exact q
    · cases hp
    · cases hp
  have ka : ka = 0 := h.ars
  have := h.sum
  exact ⟨by simp [pk] at this; (first | lia | omega), h.hH, h.md, by have := h.bnd.2; (first | lia | omega), fun n hn => h.var n (hs n hn)⟩
theorem PR.open {t : Tm} {hm k : Nat} (h : PR F T H vs K M sn fr ((t, hm, k) :: pd) [] ka) : ∃ c e b, M.X[hm]? = some c ∧ Der M.H c e ∧ Comp F M.H e t.fn t.args.length b ∧ ∀ M', M'.H = M.H → M'.X = M.X → M'.w = false → M'.s = b → PR F T H vs K M' sn fr pd t.args k := by
  obtain ⟨w2, w3⟩ := h.wfp _ (.head _)
  obtain ⟨c, hc, D⟩ := h.reg _ (.head _)
  obtain ⟨e, b, d1, d2, d3⟩ := D.open w3
  have hsz : t.size = 1 + sizes t.args := Tm.size_args w3
  refine ⟨c, e, b, hc, h.hH ▸ d1, h.hH ▸ d2, fun M' hH hX hw hs => ?_⟩
  have ka : ka = 0 := h.ars
  refine ⟨hH.trans h.hH, fun p hp => hX ▸ h.reg p (.tail _ hp), fun p hp => h.hom p (.tail _ hp), h.f30, hX ▸ h.var, h.s4, fun p hp => h.wfp p (.tail _ hp), fun x hx n hn => w2 n ((Tm.vars_args w3).mpr ⟨x, hx, hn⟩), fun n hn => ?_, hs ▸ d3, ?_, ?_, hX ▸ h.szX, hw⟩
  · rcases h.cov n hn with q | ⟨p, hp, q⟩ | ⟨x, hx, q⟩
    · exact .inl q
    · rcases List.mem_cons.mp hp with rfl | hp
      · exact .inr (.inr ((Tm.vars_args w3).mp q))
      · exact .inr (.inl ⟨p, hp, q⟩)
    · cases hx
  · have := h.sum; simp [pk] at this ⊢; (first | lia | omega)
  · have z := h.szf; simp [psz, sizes] at z hsz ⊢; (first | lia | omega)
theorem PR.seen {n : Nat} {r : List Tm} (h : PR F T H vs K M sn fr pd (.v n :: r) ka) (hn : n ∈ sn) : ∃ c d u l l', M.X[10 + n]? = some c ∧ M.H[M.s]? = some d ∧ vs[n]? = some u ∧ Den F M.H b0 u c l ∧ Den F M.H b0 u d l' ∧ ∀ M', M'.H = M.H → M'.X = M.X → M'.w = false → M'.s = M.s + 1 → PR F T H vs K M' sn fr pd r ka := by
  obtain ⟨d, k1, k2, a1, ⟨u, l, ⟨a2, rfl⟩, a3⟩, a4, rfl⟩ := h.ars
  obtain ⟨c, u', l', b1, b2, b3⟩ := h.var n hn
  rw [a2] at b2; cases b2
  refine ⟨c, d, u, l', l, b1, h.hH ▸ a1, a2, h.hH ▸ b3, h.hH ▸ a3, fun M' hH hX hw hs => ?_⟩
  refine ⟨hH.trans h.hH, hX ▸ h.reg, h.hom, h.f30, hX ▸ h.var, h.s4, h.wfp, fun y hy => h.wfa y (.tail _ hy), fun j hj => ?_, ?_, h.sum, ?_, hX ▸ h.szX, hw⟩
  · rcases h.cov j hj with q | q | ⟨y, hy, q⟩
    · exact .inl q
    · exact .inr (.inl q)
    · rcases List.mem_cons.mp hy with rfl | hy
      · simp [Tm.vars] at q; subst q; exact .inl hn
      · exact .inr (.inr ⟨y, hy, q⟩)
  · rw [hs, Nat.zero_add]; exact a4
  · have := h.szf; simp [sizes] at this ⊢; (first | lia | omega)
theorem PR.new {n : Nat} {r : List Tm} (h : PR F T H vs K M sn fr pd (.v n :: r) ka) (hn : n ∉ sn) : n < 4 ∧ ∃ d, M.H[M.s]? = some d ∧ ∀ M', M'.H = M.H → M'.X = setXp M.X (10 + n) d → M'.w = false → M'.s = M.s + 1 → PR F T H vs K M' (sn ++ [n]) fr pd r ka := by
  have n4 : n < 4 := h.wfa _ (.head _) n (.head _)
  have f30 := h.f30
  obtain ⟨d, k1, k2, a1, ⟨u, l, ⟨a2, rfl⟩, a3⟩, a4, rfl⟩ := h.ars
  refine ⟨n4, d, h.hH ▸ a1, fun M' hH hX hw hs => ?_⟩
  refine ⟨hH.trans h.hH, fun p hp => ?_, h.hom, h.f30, fun j hj => ?_, fun j hj => ?_, h.wfp, fun y hy => h.wfa y (.tail _ hy), fun j hj => ?_, ?_, h.sum, ?_, ?_, hw⟩
  · obtain ⟨c, c1, c2⟩ := h.reg p hp
    have := h.hom p hp
    exact ⟨c, by rw [hX]; exact setXp_ne (by (first | lia | omega)) c1, c2⟩
  · by_cases z : j = n
    · subst z
      exact ⟨d, u, l, by rw [hX]; exact setXp_self _ _ _, a2, a3⟩
    · obtain ⟨c, u', l', b1, b2, b3⟩ := h.var j (by simpa [z] using hj)
      exact ⟨c, u', l', by rw [hX]; exact setXp_ne (by (first | lia | omega)) b1, b2, b3⟩
  · rcases List.mem_append.mp hj with hj | hj
    · exact h.s4 j hj
    · simp at hj; subst hj; exact n4
  · rcases h.cov j hj with q | q | ⟨y, hy, q⟩
    · exact .inl (List.mem_append_left _ q)
    · exact .inr (.inl q)
    · rcases List.mem_cons.mp hy with rfl | hy
      · simp [Tm.vars] at q; subst q; exact .inl (List.mem_append_right _ (.head _))
      · exact .inr (.inr ⟨y, hy, q⟩)
  · rw [hs, Nat.zero_add]; exact a4
  · have := h.szf; simp [sizes] at this ⊢; (first | lia | omega)
  · rw [hX, setXp_len]; exact nx14 n4 h.f30 h.szX
theorem PR.comp {x : Tm} {r : List Tm} (h : PR F T H vs K M sn fr pd (x :: r) ka) (hs : x.isS = true) : ∃ d k1 k2, M.H[M.s]? = some d ∧ ∀ M', M'.H = M.H → M'.X = setXp M.X (fr + 1) d → M'.w = false → M'.s = M.s + 1 → PR F T H vs K M' sn (fr + 1) (pd ++ [(x, fr + 1, k1)]) r k2 := by
  have f30 := h.f30
  obtain ⟨d, k1, k2, a1, a2, a4, rfl⟩ := h.ars
  refine ⟨d, k1, k2, h.hH ▸ a1, fun M' hH hX hw hs' => ?_⟩
  refine ⟨hH.trans h.hH, fun p hp => ?_, fun p hp => ?_, by (first | lia | omega), fun j hj => ?_, h.s4, fun p hp => ?_, fun y hy => h.wfa y (.tail _ hy), fun j hj => ?_, ?_, ?_, ?_, ?_, hw⟩
  · rcases List.mem_append.mp hp with hp | hp
    · obtain ⟨c, c1, c2⟩ := h.reg p hp
      have := h.hom p hp
      exact ⟨c, by rw [hX]; exact setXp_ne (by (first | lia | omega)) c1, c2⟩
    · simp at hp; subst hp
      exact ⟨d, by rw [hX]; exact setXp_self _ _ _, a2⟩
  · rcases List.mem_append.mp hp with hp | hp
    · have := h.hom p hp; (first | lia | omega)
    · simp at hp; subst hp; exact ⟨Nat.le_refl _, .inr (by simp; (first | lia | omega))⟩
  · obtain ⟨c, u', l', b1, b2, b3⟩ := h.var j hj
    exact ⟨c, u', l', by rw [hX]; exact setXp_ne (by have := h.s4 j hj; (first | lia | omega)) b1, b2, b3⟩
  · rcases List.mem_append.mp hp with hp | hp
    · exact h.wfp p hp
    · simp at hp; subst hp; exact ⟨h.wfa _ (.head _), hs⟩
  · rcases h.cov j hj with q | ⟨p, hp, q⟩ | ⟨y, hy, q⟩
    · exact .inl q
    · exact .inr (.inl ⟨p, List.mem_append_left _ hp, q⟩)
    · rcases List.mem_cons.mp hy with rfl | hy
      · exact .inr (.inl ⟨_, List.mem_append_right _ (.head _), q⟩)
      · exact .inr (.inr ⟨y, hy, q⟩)
  · rw [hs']; exact a4
  · have z1 := h.sum; simp [pk] at z1 ⊢; (first | lia | omega)
  · have z1 := h.szf; have z2 := Tm.size_pos x; simp [sizes, psz] at z1 ⊢; (first | lia | omega)
  · rw [hX, setXp_len]; exact Nat.max_le.mpr ⟨Nat.le_succ_of_le h.szX, Nat.le_refl _⟩
theorem PR.const {x : Tm} {r : List Tm} (h : PR F T H vs K M sn fr pd (x :: r) ka) (hs : x.isS = false) (hv : ∀ n, x ≠ .v n) : ∃ c d k2, M.H[M.s]? = some c ∧ Der M.H c d ∧ d.1 ≠ 0 ∧ d.1 ≠ 1 ∧ (d ≠ x.cell → K ≠ 0) ∧ (d = x.cell → ∀ M', M'.H = M.H → M'.X = M.X → M'.w = false → M'.s = M.s + 1 → PR F T H vs K M' sn fr pd r k2) := by
  obtain ⟨c, k1, k2, a1, a2, a4, rfl⟩ := h.ars
  obtain ⟨d, c1, c2, c3, c4, c5⟩ := a2.const hs hv
  refine ⟨c, d, k2, h.hH ▸ a1, h.hH ▸ c1, c2, c3, fun q => ?_, fun q M' hH hX hw hs' => ?_⟩
  · have := c5 q; have := h.sum; (first | lia | omega)
  · have k0 := c4 q
    refine ⟨hH.trans h.hH, hX ▸ h.reg, h.hom, h.f30, hX ▸ h.var, h.s4, h.wfp, fun y hy => h.wfa y (.tail _ hy), fun j hj => ?_, hs' ▸ a4, ?_, ?_, hX ▸ h.szX, hw⟩
    · rcases h.cov j hj with q2 | q2 | ⟨y, hy, q2⟩
      · exact .inl q2
      · exact .inr (.inl q2)
      · rcases List.mem_cons.mp hy with rfl | hy
        · cases y <;> first | (exact absurd rfl (hv _)) | (simp [Tm.vars] at q2; done) | cases hs
        · exact .inr (.inr ⟨y, hy, q2⟩)
    · have := h.sum; (first | lia | omega)
    · have := h.szf; simp [sizes] at this ⊢; (first | lia | omega)
end
end Mine
namespace Mine
theorem Tm.depth_lt : ∀ t : Tm, t.depth < t.size
  | .v _ => by simp [Tm.depth, Tm.size]
  | .a _ => by simp [Tm.depth, Tm.size]
  | .i _ => by simp [Tm.depth, Tm.size]
  | .s1 _ x => by simp only [Tm.depth, Tm.size]; exact Nat.add_lt_add_left (Tm.depth_lt x) 1
  | .s2 _ x y => by simp only [Tm.depth, Tm.size]; exact Nat.add_lt_add_left (Nat.max_lt.mpr ⟨Nat.lt_of_lt_of_le (Tm.depth_lt x) (Nat.le_add_right _ _), Nat.lt_of_lt_of_le (Tm.depth_lt y) (Nat.le_add_left _ _)⟩) 1
noncomputable def wtv (p : Tm × Nat) : PyData := .tuple [p.1.enc, .tuple [.str "x", .int (p.2 : Int)]]
noncomputable def wsz (wt : List (Tm × Nat)) : Nat := (wt.map fun p => p.1.size).sum
theorem wsz_len (wt : List (Tm × Nat)) : wt.length ≤ wsz wt := by
  induction wt with
  | nil => simp
  | cons p r ih =>
    have := Tm.size_pos p.1
    simp [wsz] at ih ⊢; (first | lia | omega)
theorem wt_lay : ∀ {wt : List (Tm × Nat)}, (∀ p ∈ wt, p.1.size ≤ 20) → PyData.canLayAll0 (wt.map wtv) = true ∧ PyData.depthAll (wt.map wtv) ≤ 60
  | [], _ => ⟨rfl, by simp [PyData.depthAll]⟩
  | p :: r, h => by
    have hx : PyData.strOk "x" = true := by decide +kernel
    obtain ⟨h1, h2⟩ := wt_lay (wt := r) fun q hq => h q (.tail _ hq)
    obtain ⟨g1, g2⟩ := p.1.lay
    have dl := p.1.depth_lt
    have sz := h p (.head _)
    refine ⟨by simp [PyData.canLayAll0, PyData.canLay0, wtv, h1, g1, hx], ?_⟩
    simp only [List.map_cons, PyData.depthAll, wtv, PyData.depth]
    exact Nat.max_le.mpr ⟨Nat.succ_le_succ (Nat.max_le.mpr ⟨Nat.le_trans g2 (Nat.le_trans (Nat.add_le_add_right (Nat.mul_le_mul_left 2 (Nat.le_of_lt_succ (n := 19) (Nat.lt_of_lt_of_le dl sz))) 2) (by decide)), by decide⟩), h2⟩
theorem wt_shaped {wt : List (Tm × Nat)} (h : ∀ p ∈ wt, p.1.size ≤ 20) : SeqAt.shaped (.list (wt.map wtv)) = true := by
  obtain ⟨h1, h2⟩ := wt_lay h
  have h3 : (PyData.list (wt.map wtv)).depth ≤ 64 := by simp only [PyData.depth]; (first | lia | omega)
  simp only [SeqAt.shaped, PyData.canLay0, h1, Bool.true_and]
  exact decide_eq_true h3
noncomputable def natsL (l : List Nat) : List V := l.map fun n => V.d (.int ((n : Nat) : Int))
theorem ints_lay : ∀ sn : List Nat, PyData.canLayAll0 (sn.map fun j => PyData.int ((j : Nat) : Int)) = true
  | [] => rfl
  | _ :: r => by simp [PyData.canLayAll0, PyData.canLay0]; simpa using ints_lay r
theorem seen_any (sn : List Nat) (n : Nat) : ((sn.map fun j => PyData.int ((j : Nat) : Int)).any fun y => y.eqv (.int (n : Int))) = decide (n ∈ sn) := by
  rw [Bool.eq_iff_iff]
  simp only [List.any_map, List.any_eq_true, Function.comp, decide_eq_true_eq]
  constructor
  · rintro ⟨x, hx, e⟩
    have : x = n := by simp [PyData.eqv] at e; (first | lia | omega)
    exact this ▸ hx
  · intro h
    exact ⟨n, h, by simp [PyData.eqv]⟩
section
variable {prog : Program} {K : Frag} {C : Cx} {A : Around} {env : Env} {m : Loc} {σ σ' σ₁ σ₂ : SH} {s : Shared} {Φ : V → SH → Prop} {k : Nat} {pos np apos : Pos} {x y : Str}
theorem op_in_seen {a : Addr} {sn : List Nat} {n : Nat} (hR : Room A k) (ea : σ a = some (.list (natsL sn))) (h : Φ (.d (.bool (decide (n ∈ sn)))) σ) : Op2 prog C A env RepV (compareOp .In) (.d (.int (n : Int))) (.c (.ref a)) m σ Φ := by
  refine op_inL (xs := sn.map fun j => PyData.int ((j : Nat) : Int)) hR (by rw [ea, natsL, List.map_map]; rfl) (ints_lay sn) rfl (by simp [PyData.depth]) ?_
  rw [seen_any]; exact h
theorem op_ne_wait {a b : Addr} {wt : List (Tm × Nat)} (hR : Room A k) (ea : σ a = some (.list (wt.map fun p => V.d (wtv p)))) (eb : σ b = some (.list [])) (hz : ∀ p ∈ wt, p.1.size ≤ 20) (h : Φ (.d (.bool (decide (wt ≠ [])))) σ) : Op2 prog C A env RepV (compareOp .NotEq) (.c (.ref a)) (.c (.ref b)) m σ Φ := by
  refine op_neL (xs := wt.map wtv) (ys := []) hR (by rw [ea, List.map_map]; rfl) eb (wt_shaped hz) (by decide +kernel) ?_
  cases wt with
  | nil => simpa [PyData.eqvAll] using h
  | cons p r => simpa [PyData.eqvAll] using h
end
theorem loop_ind {G : Loc → SH → Prop} (J : Nat → Loc → SH → Prop) (step : ∀ n m σ, J n m σ → (∀ n' m' σ', n' < n → J n' m' σ' → G m' σ') → G m σ) : ∀ n m σ, J n m σ → G m σ := by
  intro n
  induction n using Nat.strongRecOn with
  | ind n ih => exact fun m σ h => step n m σ h fun n' m' σ' hn h' => ih n' hn m' σ' h'
theorem sizes_mem {x : Tm} : ∀ {ts : List Tm}, x ∈ ts → x.size ≤ sizes ts
  | y :: r, h => by
    rcases List.mem_cons.mp h with rfl | h
    · simp [sizes]
    · have := sizes_mem h; simp [sizes] at this ⊢; (first | lia | omega)
end Mine
namespace Mine
/-- the body's walk: variables' registers -/
structure SG (M : Mch) (β : Nat → Nat) (sn : List Nat) (cnt : Nat) : Prop where
  var : ∀ n ∈ sn, M.X[10 + n]? = some (0, β n) ∧ M.H[β n]? = some (0, β n)
  s4 : ∀ n ∈ sn, n < 4
  inj : ∀ n ∈ sn, ∀ m ∈ sn, β n = β m → n = m
  c30 : 30 ≤ cnt
  szX : M.X.length ≤ cnt + 1
  zn : sn.length ≤ M.H.length
/-- what a part of the walk keeps -/
structure SX (hm : Nat) (M0 : Mch) (β0 : Nat → Nat) (sn0 : List Nat) (cnt0 : Nat) (M : Mch) (β : Nat → Nat) (sn : List Nat) (cnt : Nat) : Prop where
  g : SG M β sn cnt
  c0 : 30 ≤ cnt0
  kH : ∀ (q : Nat) c, M0.H[q]? = some c → M.H[q]? = some c
  lH : M0.H.length ≤ M.H.length
  kX : ∀ (j : Nat) d, j ≠ hm → (j < 10 ∨ 14 ≤ j) → j ≤ cnt0 → M0.X[j]? = some d → M.X[j]? = some d
  kc : cnt0 ≤ cnt
  ks : ∀ n ∈ sn0, n ∈ sn ∧ β n = β0 n
structure SetP (F : List Cell) (t : Tm) (hm : Nat) (M0 : Mch) (β0 : Nat → Nat) (sn0 : List Nat) (cnt0 : Nat) (M : Mch) (β : Nat → Nat) (sn : List Nat) (cnt : Nat) : Prop where
  x : SX hm M0 β0 sn0 cnt0 M β sn cnt
  cv : ∀ n ∈ t.vars, n ∈ sn
  dn : ∃ c l, M.X[hm]? = some c ∧ Den F M.H β t c l ∧ l.Nodup ∧ ∀ a ∈ l, M0.H.length ≤ a ∧ a < M.H.length
  zH : M.H.length ≤ M0.H.length + 3 * t.size
  zc : cnt + 1 ≤ cnt0 + t.size
noncomputable def HO (F : List Cell) (M : Mch) (β : Nat → Nat) : List (Tm × Nat) → List Nat → Prop
  | [], l => l = []
  | p :: r, l => ∃ c lx l', M.X[p.2]? = some c ∧ Den F M.H β p.1 c lx ∧ HO F M β r l' ∧ l = lx ++ l'
theorem HO.keep {F : List Cell} {M M' : Mch} {β β' : Nat → Nat} (kH : ∀ (q : Nat) c, M.H[q]? = some c → M'.H[q]? = some c) : ∀ {cs : List (Tm × Nat)} {l : List Nat}, (∀ p ∈ cs, ∀ d, M.X[p.2]? = some d → M'.X[p.2]? = some d) → (∀ p ∈ cs, ∀ n ∈ p.1.vars, β n = β' n) → HO F M β cs l → HO F M' β' cs l
  | [], l, _, _, h => h
  | p :: r, l, kX, kb, ⟨c, lx, l', h1, h2, h3, h4⟩ => ⟨c, lx, l', kX p (.head _) c h1, (h2.mono kH).congr (kb p (.head _)), HO.keep kH (fun q hq => kX q (.tail _ hq)) (fun q hq => kb q (.tail _ hq)) h3, h4⟩
theorem HO.snoc {F : List Cell} {M : Mch} {β : Nat → Nat} {x : Tm} {h : Nat} {c : Cell} {lx : List Nat} (h1 : M.X[h]? = some c) (h2 : Den F M.H β x c lx) : ∀ {cs : List (Tm × Nat)} {l : List Nat}, HO F M β cs l → HO F M β (cs ++ [(x, h)]) (l ++ lx)
  | [], l, e => by cases e; exact ⟨c, lx, [], h1, h2, rfl, by simp⟩
  | p :: r, l, ⟨c', lx', l', a1, a2, a3, a4⟩ => ⟨c', lx', l' ++ lx, a1, a2, HO.snoc h1 h2 a3, by rw [a4, List.append_assoc]⟩
theorem DenL.keep {F H H' : List Cell} {β β' : Nat → Nat} (kH : ∀ (q : Nat) c, H[q]? = some c → H'[q]? = some c) : ∀ {ts : List Tm} {b : Nat} {l : List Nat}, (∀ x ∈ ts, ∀ n ∈ x.vars, β n = β' n) → DenL F H β ts b l → DenL F H' β' ts b l
  | [], b, l, _, h => h
  | x :: r, b, l, kb, ⟨d, l1, l2, h1, h2, h3, h4⟩ => ⟨d, l1, l2, kH _ _ h1, (h2.mono kH).congr (kb x (.head _)), DenL.keep kH (fun y hy => kb y (.tail _ hy)) h3, h4⟩
theorem DenL.snoc {F H : List Cell} {β : Nat → Nat} {x : Tm} {d : Cell} {lx : List Nat} (h2 : Den F H β x d lx) : ∀ {ts : List Tm} {b : Nat} {l : List Nat}, H[b + ts.length]? = some d → DenL F H β ts b l → DenL F H β (ts ++ [x]) b (l ++ lx)
  | [], b, l, h1, e => by cases e; exact ⟨d, lx, [], h1, h2, rfl, by simp⟩
  | y :: r, b, l, h1, ⟨d', l1, l2, a1, a2, a3, a4⟩ => ⟨d', l1, l2 ++ lx, a1, a2, DenL.snoc h2 (by rw [← h1]; congr 1; simp; (first | lia | omega)) a3, by rw [a4, List.append_assoc]⟩
/-- the first for: the inner compounds -/
structure L1 (F : List Cell) (hm : Nat) (M0 : Mch) (β0 : Nat → Nat) (sn0 : List Nat) (cnt0 : Nat) (M : Mch) (β : Nat → Nat) (sn : List Nat) (cnt : Nat) (ds : List Tm) (cs : List (Tm × Nat)) (l : List Nat) : Prop where
  x : SX hm M0 β0 sn0 cnt0 M β sn cnt
  ho : HO F M β cs l
  cf : cs.map (·.1) = ds.filter (·.isS)
  hr : ∀ p ∈ cs, cnt0 < p.2 ∧ p.2 ≤ cnt
  vr : ∀ p ∈ cs, ∀ n ∈ p.1.vars, n ∈ sn
  nd : l.Nodup
  rg : ∀ a ∈ l, M0.H.length ≤ a ∧ a < M.H.length
  zH : M.H.length ≤ M0.H.length + 3 * sizes ds
  zc : cnt ≤ cnt0 + sizes ds
/-- the second for: the block's cells -/
structure L2 (F : List Cell) (t : Tm) (hm : Nat) (M0 : Mch) (β0 : Nat → Nat) (sn0 : List Nat) (cnt0 : Nat) (e : Cell) (b : Nat) (M : Mch) (β : Nat → Nat) (sn : List Nat) (cnt : Nat) (ds r : List Tm) (cs : List (Tm × Nat)) (lp l : List Nat) : Prop where
  x : SX hm M0 β0 sn0 cnt0 M β sn cnt
  rt : M.X[hm]? = some e
  cp : Comp F M.H e t.fn t.args.length b
  dl : DenL F M.H β ds b lp
  ln : M.H.length = b + ds.length
  ho : HO F M β cs l
  cf : cs.map (·.1) = r.filter (·.isS)
  hr : ∀ p ∈ cs, cnt0 < p.2 ∧ p.2 ≤ cnt
  vr : ∀ p ∈ cs, ∀ n ∈ p.1.vars, n ∈ sn
  vd : ∀ x ∈ ds, ∀ n ∈ x.vars, n ∈ sn
  nd : (lp ++ l).Nodup
  rg : ∀ a ∈ lp ++ l, M0.H.length ≤ a ∧ a < e.2
  sp : ds ++ r = t.args
  kb : M0.H.length ≤ e.2 ∧ e.2 ≤ b
  zb : b ≤ M0.H.length + 3 * sizes t.args + 1
  zc : cnt ≤ cnt0 + sizes t.args
section
variable {F : List Cell} {t : Tm} {hm : Nat} {M0 : Mch} {β0 : Nat → Nat} {sn0 : List Nat} {cnt0 : Nat} {e : Cell} {b : Nat} {M M' : Mch} {β β' : Nat → Nat} {sn sn' : List Nat} {cnt cnt' : Nat} {ds r : List Tm} {cs : List (Tm × Nat)} {lp l : List Nat} {x : Tm}
theorem SX.refl (g : SG M β sn cnt) : SX hm M β sn cnt M β sn cnt := ⟨g, g.c30, fun _ _ h => h, Nat.le_refl _, fun _ _ _ _ _ h => h, Nat.le_refl _, fun _ h => ⟨h, rfl⟩⟩
theorem L1.init (g : SG M β sn cnt) : L1 F hm M β sn cnt M β sn cnt [] [] [] := ⟨.refl g, rfl, rfl, by simp, by simp, by simp, by simp, by simp [sizes], by simp [sizes]⟩
theorem sizes_snoc (ds : List Tm) (x : Tm) : sizes (ds ++ [x]) = sizes ds + x.size := by simp [sizes]
theorem L1.skip (h : L1 F hm M0 β0 sn0 cnt0 M β sn cnt ds cs l) (hs : x.isS = false) : L1 F hm M0 β0 sn0 cnt0 M β sn cnt (ds ++ [x]) cs l :=
  ⟨h.x, h.ho, by rw [h.cf]; simp [hs], h.hr, h.vr, h.nd, h.rg, by rw [sizes_snoc]; have := h.zH; (first | lia | omega), by rw [sizes_snoc]; have := h.zc; (first | lia | omega)⟩
theorem SG.up (g : SG M β sn cnt) : SG M β sn (cnt + 1) := ⟨g.var, g.s4, g.inj, by have := g.c30; (first | lia | omega), by have := g.szX; (first | lia | omega), g.zn⟩
theorem L1.comp (h : L1 F hm M0 β0 sn0 cnt0 M β sn cnt ds cs l) (hs : x.isS = true) (hhm : hm ≤ cnt0) (p : SetP F x (cnt + 1) M β sn (cnt + 1) M' β' sn' cnt') : ∃ l', L1 F hm M0 β0 sn0 cnt0 M' β' sn' cnt' (ds ++ [x]) (cs ++ [(x, cnt + 1)]) l' := by
  obtain ⟨c, lx, d1, d2, d3, d4⟩ := p.dn
  have c30 := h.x.g.c30
  have k1 := h.x.kc
  have k2 := p.x.kc
  have z1 := h.x.lH
  have z2 := p.x.lH
  have c0 := h.x.c0
  refine ⟨l ++ lx, ⟨p.x.g, h.x.c0, fun q c hq => p.x.kH q c (h.x.kH q c hq), by (first | lia | omega), fun j d j1 j2 j3 hj => p.x.kX j d (by (first | lia | omega)) j2 (by (first | lia | omega)) (h.x.kX j d j1 j2 j3 hj), by (first | lia | omega), fun n hn => ?_⟩, ?_, ?_, fun q hq => ?_, fun q hq n hn => ?_, ?_, fun a ha => ?_, ?_, ?_⟩
  · have := h.x.ks n hn
    have q := p.x.ks n this.1
    exact ⟨q.1, q.2.trans this.2⟩
  · refine HO.snoc d1 d2 (h.ho.keep p.x.kH (fun q hq d hd => ?_) fun q hq n hn => ((p.x.ks n (h.vr q hq n hn)).2).symm)
    have := h.hr q hq
    exact p.x.kX _ d (by (first | lia | omega)) (.inr (by (first | lia | omega))) (by (first | lia | omega)) hd
  · rw [List.map_append, h.cf]; simp [hs]
  · rcases List.mem_append.mp hq with hq | hq
    · have := h.hr q hq; (first | lia | omega)
    · simp at hq; subst hq; simp; (first | lia | omega)
  · rcases List.mem_append.mp hq with hq | hq
    · exact (p.x.ks n (h.vr q hq n hn)).1
    · simp at hq; subst hq; exact p.cv n hn
  · refine List.nodup_append.mpr ⟨h.nd, d3, fun a ha a' ha' => ?_⟩
    have := h.rg a ha; have := d4 a' ha'; (first | lia | omega)
  · rcases List.mem_append.mp ha with ha | ha
    · have := h.rg a ha; (first | lia | omega)
    · have := d4 a ha; (first | lia | omega)
  · rw [sizes_snoc]; have := h.zH; have := p.zH; (first | lia | omega)
  · rw [sizes_snoc]; have := h.zc; have := p.zc; (first | lia | omega)
/-- between the two: the block's cell in its register -/
noncomputable def pH (H : List Cell) (f : Nat) : List Cell := if f = 0 then H else H ++ [(6, f)]
theorem pH_len (H : List Cell) (f : Nat) : (pH H f).length = blkB H f := by unfold pH blkB; split <;> simp
theorem pH_old {H : List Cell} {f q : Nat} {c : Cell} (h : H[q]? = some c) : (pH H f)[q]? = some c := by
  unfold pH; split
  · exact h
  · exact snoc_old h
theorem pH_comp {F H : List Cell} {f n : Nat} (h : Fok F f n) : Comp F (pH H f) (blkC H f) f n (blkB H f) := by
  rcases h with ⟨h1, h2⟩ | ⟨h1, h2⟩
  · subst h1; exact .inl ⟨by simp [blkC], rfl, h2, by simp [blkB, blkC]⟩
  · refine .inr ⟨by simp [blkC, h1], h1, by simp [pH, blkC, h1], h2, by simp [blkB, blkC, h1]⟩
theorem L2.init (h : L1 F hm M0 β0 sn0 cnt0 M β sn cnt t.args cs l) (hs : t.isS = true) (hw : t.wf F) (hhm : hm ≤ cnt0) (hh : hm < 10 ∨ 14 ≤ hm) (hH : M'.H = pH M.H t.fn) (hX : M'.X = setXp M.X hm (blkC M.H t.fn)) : L2 F t hm M0 β0 sn0 cnt0 (blkC M.H t.fn) (blkB M.H t.fn) M' β sn cnt [] t.args cs [] l := by
  have kH : ∀ (q : Nat) c, M.H[q]? = some c → M'.H[q]? = some c := fun q c hq => by rw [hH]; exact pH_old hq
  have hl : M'.H.length = blkB M.H t.fn := by rw [hH, pH_len]
  have hb := blk_le M.H t.fn
  have g := h.x.g
  have k1 := h.x.kc
  refine ⟨⟨⟨fun n hn => ?_, g.s4, g.inj, g.c30, ?_, by have := g.zn; (first | lia | omega)⟩, h.x.c0, fun q c hq => kH q c (h.x.kH q c hq), by have := h.x.lH; (first | lia | omega), fun j d j1 j2 j3 hj => ?_, h.x.kc, h.x.ks⟩, ?_, ?_, rfl, by simpa using hl, ?_, h.cf, h.hr, h.vr, by simp, by simpa using h.nd, fun a ha => ?_, rfl, ?_, ?_, h.zc⟩
  · have := g.s4 n hn
    exact ⟨by rw [hX]; exact setXp_ne (by (first | lia | omega)) (g.var n hn).1, kH _ _ (g.var n hn).2⟩
  · rw [hX, setXp_len]; have := g.szX; (first | lia | omega)
  · rw [hX]; exact setXp_ne j1 (h.x.kX j d j1 j2 j3 hj)
  · rw [hX]; exact setXp_self _ _ _
  · rw [hH]; exact pH_comp (Tm.wf_fok hw hs)
  · refine h.ho.keep kH (fun q hq d hd => ?_) fun _ _ _ _ => rfl
    have := h.hr q hq
    rw [hX]; exact setXp_ne (by (first | lia | omega)) hd
  · exact h.rg a (by simpa using ha)
  · exact ⟨h.x.lH, hb.1⟩
  · have := h.zH; (first | lia | omega)
theorem SX.push {c : Cell} (h : SX hm M0 β0 sn0 cnt0 M β sn cnt) (hH : M'.H = M.H ++ [c]) (hX : M'.X = M.X) : SX hm M0 β0 sn0 cnt0 M' β sn cnt := by
  have kH : ∀ (q : Nat) c, M.H[q]? = some c → M'.H[q]? = some c := fun q c hq => by rw [hH]; exact snoc_old hq
  have hl : M'.H.length = M.H.length + 1 := by rw [hH]; simp
  have g := h.g
  exact ⟨⟨fun n hn => ⟨hX ▸ (g.var n hn).1, kH _ _ (g.var n hn).2⟩, g.s4, g.inj, g.c30, hX ▸ g.szX, by have := g.zn; (first | lia | omega)⟩, h.c0, fun q c hq => kH q c (h.kH q c hq), by have := h.lH; (first | lia | omega), hX ▸ h.kX, h.kc, h.ks⟩
/-- a cell is pushed that denotes the part -/
theorem L2.push {c : Cell} {lx l' : List Nat} {cs' : List (Tm × Nat)} (h : L2 F t hm M0 β0 sn0 cnt0 e b M β sn cnt ds (x :: r) cs lp l) (hH : M'.H = M.H ++ [c]) (hX : M'.X = M.X) (D : Den F M.H β x c lx) (hv : ∀ n ∈ x.vars, n ∈ sn)
    (ho : HO F M β cs' l') (hcs : ∀ p ∈ cs', p ∈ cs) (hl : l = lx ++ l') (cf : cs'.map (·.1) = r.filter (·.isS)) : L2 F t hm M0 β0 sn0 cnt0 e b M' β sn cnt (ds ++ [x]) r cs' (lp ++ lx) l' := by
  have kH : ∀ (q : Nat) c, M.H[q]? = some c → M'.H[q]? = some c := fun q c hq => by rw [hH]; exact snoc_old hq
  have hat : M'.H[b + ds.length]? = some c := by rw [hH, ← h.ln]; simp
  subst hl
  refine ⟨h.x.push hH hX, hX ▸ h.rt, h.cp.mono kH, (h.dl.keep kH fun _ _ _ _ => rfl).snoc (D.mono kH) hat, by rw [hH]; simp [h.ln]; (first | lia | omega), ho.keep kH (fun p hp d hd => hX ▸ hd) (fun _ _ _ _ => rfl), cf, fun p hp => h.hr p (hcs p hp), fun p hp => h.vr p (hcs p hp), fun y hy => ?_, by rw [List.append_assoc]; exact h.nd, fun a ha => h.rg a (by rw [← List.append_assoc]; exact ha), by rw [← h.sp]; simp, h.kb, h.zb, h.zc⟩
  rcases List.mem_append.mp hy with hy | hy
  · exact h.vd y hy
  · simp at hy; subst hy; exact hv
theorem L2.comp (h : L2 F t hm M0 β0 sn0 cnt0 e b M β sn cnt ds (x :: r) cs lp l) (hs : x.isS = true) : ∃ p cs' c, cs = p :: cs' ∧ M.X[p.2]? = some c ∧ ∀ M', M'.H = M.H ++ [c] → M'.X = M.X → ∃ lp' l', L2 F t hm M0 β0 sn0 cnt0 e b M' β sn cnt (ds ++ [x]) r cs' lp' l' := by
  have cf := h.cf
  rw [List.filter_cons, if_pos hs] at cf
  obtain ⟨p, cs', rfl⟩ : ∃ p cs', cs = p :: cs' := by
    cases cs with
    | nil => cases cf
    | cons p cs' => exact ⟨p, cs', rfl⟩
  obtain ⟨e1, e2⟩ := List.cons.inj cf
  have e1 : p.1 = x := e1
  obtain ⟨c, lx, l', h1, h2, h3, h4⟩ := h.ho
  refine ⟨p, cs', c, rfl, h1, fun M' hH hX => ⟨_, _, h.push hH hX (e1 ▸ h2) (fun n hn => h.vr p (.head _) n (by rw [e1]; exact hn)) h3 (fun q hq => .tail _ hq) h4 e2⟩⟩
theorem L2.const (h : L2 F t hm M0 β0 sn0 cnt0 e b M β sn cnt ds (x :: r) cs lp l) (hs : x.isS = false) (hv : ∀ n, x ≠ .v n) (hH : M'.H = M.H ++ [x.cell]) (hX : M'.X = M.X) : ∃ lp' l', L2 F t hm M0 β0 sn0 cnt0 e b M' β sn cnt (ds ++ [x]) r cs lp' l' := by
  have hg : x.ground = true := by cases x <;> first | rfl | (exact absurd rfl (hv _)) | cases hs
  have hv' : ∀ n ∈ x.vars, n ∈ sn := fun n hn => by cases x <;> first | (exact absurd rfl (hv _)) | (simp [Tm.vars] at hn; done) | cases hs
  have cf := h.cf
  rw [List.filter_cons, if_neg (by simp [hs])] at cf
  exact ⟨_, _, h.push hH hX (den_const hs hg) hv' h.ho (fun q hq => hq) rfl cf⟩
theorem L2.seen {n : Nat} (h : L2 F t hm M0 β0 sn0 cnt0 e b M β sn cnt ds (.v n :: r) cs lp l) (hn : n ∈ sn) (hH : M'.H = M.H ++ [(0, β n)]) (hX : M'.X = M.X) : ∃ lp' l', L2 F t hm M0 β0 sn0 cnt0 e b M' β sn cnt (ds ++ [.v n]) r cs lp' l' := by
  have hb := (h.x.g.var n hn).2
  exact ⟨_, _, h.push hH hX (lx := []) ⟨rfl, .self rfl hb, hb⟩ (fun j hj => by simp [Tm.vars] at hj; exact hj ▸ hn) h.ho (fun q hq => hq) rfl h.cf⟩
theorem L2.new {n : Nat} (h : L2 F t hm M0 β0 sn0 cnt0 e b M β sn cnt ds (.v n :: r) cs lp l) (hn : n ∉ sn) (n4 : n < 4) (hh : hm < 10 ∨ 14 ≤ hm) (hH : M'.H = M.H ++ [(0, M.H.length)]) (hX : M'.X = setXp M.X (10 + n) (0, M.H.length)) : ∃ lp' l', L2 F t hm M0 β0 sn0 cnt0 e b M' (upd β n M.H.length) (sn ++ [n]) cnt (ds ++ [.v n]) r cs lp' l' := by
  have kH : ∀ (q : Nat) c, M.H[q]? = some c → M'.H[q]? = some c := fun q c hq => by rw [hH]; exact snoc_old hq
  have hl : M'.H.length = M.H.length + 1 := by rw [hH]; simp
  have hat : M'.H[M.H.length]? = some (0, M.H.length) := by rw [hH]; simp
  have g := h.x.g
  have c30 := g.c30
  have c0 := h.x.c0
  have ub : ∀ j ∈ sn, upd β n M.H.length j = β j := fun j hj => if_neg fun z : j = n => hn (z ▸ hj)
  have un : upd β n M.H.length n = M.H.length := if_pos rfl
  have key : ∀ j ∈ sn, β j < M.H.length := fun j hj => getlt' (g.var j hj).2
  refine ⟨lp, l, ⟨⟨fun j hj => ?_, fun j hj => ?_, fun i hi j hj q => ?_, g.c30, ?_, by have := g.zn; simp; (first | lia | omega)⟩, h.x.c0, fun q c hq => kH q c (h.x.kH q c hq), by have := h.x.lH; (first | lia | omega), fun j d j1 j2 j3 hj => ?_, h.x.kc, fun j hj => ?_⟩, ?_, h.cp.mono kH, ?_, by rw [hl, h.ln]; simp; (first | lia | omega), h.ho.keep kH (fun p hp d hd => ?_) (fun p hp j hj => (ub j (h.vr p hp j hj)).symm), h.cf, h.hr, fun p hp j hj => List.mem_append_left _ (h.vr p hp j hj), fun y hy j hj => ?_, h.nd, h.rg, by rw [← h.sp]; simp, h.kb, h.zb, h.zc⟩
  · rcases List.mem_append.mp hj with hj | hj
    · have hne : j ≠ n := fun z => hn (z ▸ hj)
      rw [ub j hj, hX]
      exact ⟨setXp_ne (by (first | lia | omega)) (g.var j hj).1, kH _ _ (g.var j hj).2⟩
    · simp at hj; subst hj
      rw [un, hX]; exact ⟨setXp_self _ _ _, hat⟩
  · rcases List.mem_append.mp hj with hj | hj
    · exact g.s4 j hj
    · simp at hj; subst hj; exact n4
  · by_cases z1 : i = n
    · by_cases z2 : j = n
      · (first | lia | omega)
      · have hj' : j ∈ sn := by simpa [z2] using hj
        rw [z1, un, ub j hj'] at q
        have := key j hj'; (first | lia | omega)
    · have hi' : i ∈ sn := by simpa [z1] using hi
      by_cases z2 : j = n
      · rw [z2, un, ub i hi'] at q
        have := key i hi'; (first | lia | omega)
      · have hj' : j ∈ sn := by simpa [z2] using hj
        rw [ub i hi', ub j hj'] at q
        exact g.inj i hi' j hj' q
  · rw [hX, setXp_len]; exact nx14 n4 g.c30 g.szX
  · rw [hX]; exact setXp_ne (by (first | lia | omega)) (h.x.kX j d j1 j2 j3 hj)
  · have := h.x.ks j hj
    exact ⟨List.mem_append_left _ this.1, (ub j this.1).trans this.2⟩
  · rw [hX]; exact setXp_ne (by (first | lia | omega)) h.rt
  · have D : DenL F M'.H (upd β n M.H.length) (ds ++ [.v n]) b (lp ++ []) := (h.dl.keep kH fun y hy j hj => (ub j (h.vd y hy j hj)).symm).snoc (x := .v n) (d := (0, M.H.length)) ⟨rfl, by rw [un]; exact .self rfl hat, by rw [un]; exact hat⟩ (by rw [← h.ln]; exact hat)
    rwa [List.append_nil] at D
  · have := h.hr p hp
    rw [hX]; exact setXp_ne (by (first | lia | omega)) hd
  · rcases List.mem_append.mp hy with hy | hy
    · exact List.mem_append_left _ (h.vd y hy j hj)
    · simp at hy; subst hy; simp [Tm.vars] at hj; subst hj; exact List.mem_append_right _ (.head _)
theorem L2.done (h : L2 F t hm M0 β0 sn0 cnt0 e b M β sn cnt ds [] cs lp l) (hs : t.isS = true) (hhm : hm ≤ cnt0) : SetP F t hm M0 β0 sn0 cnt0 M β sn cnt := by
  have sp := h.sp
  rw [List.append_nil] at sp
  subst sp
  have hcs : cs = [] := by have := h.cf; simpa using this
  subst hcs
  have hl : l = [] := h.ho
  subst hl
  have hsz := Tm.size_args hs
  have ha := Tm.args_len hs
  have kb := h.kb
  have ln := h.ln
  have zb := h.zb
  have hn1 : 1 ≤ t.args.length := by rcases ha with q | q <;> rw [q] <;> decide
  have hn2 : t.args.length ≤ 2 := by rcases ha with q | q <;> rw [q] <;> decide
  refine ⟨h.x, fun n hn => ?_, ⟨e, e.2 :: lp, h.rt, den_comp hs h.cp.self h.cp h.dl, List.nodup_cons.mpr ⟨fun q => ?_, by simpa using h.nd⟩, fun a ha => ?_⟩, by rw [ln, hsz, Nat.mul_add, Nat.add_comm (3 * 1)]; exact (Nat.add_le_add zb hn2 : b + t.args.length ≤ M0.H.length + 3 * sizes t.args + 1 + 2), by have := h.zc; (first | lia | omega)⟩
  · obtain ⟨y, hy, q⟩ := (Tm.vars_args hs).mp hn
    exact h.vd y hy n q
  · have := h.rg _ (List.mem_append_left _ q); (first | lia | omega)
  · rcases List.mem_cons.mp ha with rfl | ha
    · exact ⟨kb.1, Nat.lt_of_le_of_lt kb.2 (by rw [ln]; exact Nat.lt_add_of_pos_right hn1)⟩
    · have := h.rg _ (List.mem_append_left _ ha); exact ⟨this.1, Nat.lt_of_lt_of_le this.2 (Nat.le_trans kb.2 (by rw [ln]; exact Nat.le_add_right _ _))⟩
end
end Mine
namespace Mine
/-- an expression without an effect: its value, told without what stands behind it -/
def Sx (prog : Program) (C : Cx) (A : Around) (env : Env) (m : Loc) (σ : SH) (e : Expr) (X : V) : Prop := ∀ Φ : V → SH → Prop, Φ X σ → Ev prog C A env e m σ Φ
def Sxs (prog : Program) (C : Cx) (A : Around) (env : Env) (m : Loc) (σ : SH) (pos : Pos) (es : List Expr) (Xs : List V) : Prop := ∀ Φ : List V → SH → Prop, Φ Xs σ → Evs prog C A env pos es m σ Φ
def So2 (prog : Program) (C : Cx) (A : Around) (env : Env) (m : Loc) (σ : SH) (f : Value → Value → Sem Value) (X Y R : V) : Prop := ∀ Φ : V → SH → Prop, Φ R σ → Op2 prog C A env RepV f X Y m σ Φ
/-- a name's kind, asked at once -/
def okL (env : Env) (x : Str) : Bool := (match env.cells.lookup x with | none => true | _ => false) && ((match env.scope.kind with | .function => true | _ => false) && ((match env.kindOf x with | some .local => true | _ => false) && !(x == ("__debug__" : Str))))
def okG (env : Env) (x : Str) : Bool := Nat.beq env.globals mainGlobals && ((match env.scope.kind with | .function => true | _ => false) && ((match env.kindOf x with | some .globalImplicit => true | _ => false) && !(x == ("__debug__" : Str))))
theorem okL_spec {env : Env} {x : Str} (h : okL env x = true) : env.cells.lookup x = none ∧ env.scope.kind = .function ∧ env.kindOf x = some .local ∧ (x == ("__debug__" : Str)) = false := by
  unfold okL at h
  obtain ⟨h1, h⟩ := Bool.and_eq_true_iff.mp h
  obtain ⟨h2, h⟩ := Bool.and_eq_true_iff.mp h
  obtain ⟨h3, h4⟩ := Bool.and_eq_true_iff.mp h
  refine ⟨?_, ?_, ?_, by simpa using h4⟩
  · split at h1 <;> first | assumption | cases h1
  · split at h2 <;> first | assumption | cases h2
  · split at h3 <;> first | assumption | cases h3
theorem okG_spec {env : Env} {x : Str} (h : okG env x = true) : env.globals = mainGlobals ∧ env.scope.kind = .function ∧ env.kindOf x = some .globalImplicit ∧ (x == ("__debug__" : Str)) = false := by
  unfold okG at h
  obtain ⟨h1, h⟩ := Bool.and_eq_true_iff.mp h
  obtain ⟨h2, h⟩ := Bool.and_eq_true_iff.mp h
  obtain ⟨h3, h4⟩ := Bool.and_eq_true_iff.mp h
  refine ⟨Nat.eq_of_beq_eq_true h1, ?_, ?_, by simpa using h4⟩
  · split at h2 <;> first | assumption | cases h2
  · split at h3 <;> first | assumption | cases h3
inductive GV : Value → V → Prop
  | int {j : Int} {t : Tok} : GV (.int j t) (.d (.int j))
  | str {j : Str} {t : Tok} : GV (.str j t) (.d (.str j))
  | ref {b : Addr} : GV (.ref b) (.c (.ref b))
theorem GV.rep {h : Heap} {v : Value} {X : V} (g : GV v X) : RepV h v X := by
  cases g
  · exact repI _ _
  · exact repS _ _
  · exact repR _
inductive BB : Str → Value → Prop
  | len : BB "len" (.builtin "len")
  | abs : BB "abs" (.builtin "abs")
  | sum : BB "sum" (.builtin "sum")
  | tuple : BB "tuple" (.type "tuple")
  | range : BB "range" (.type "range")
  | list : BB "list" (.type "list")
  | set : BB "set" (.type "set")
theorem BB.is {x : Str} {v : Value} (g : BB x v) : bootBuiltins x = some v ∧ x ≠ "__name__" := by
  cases g <;> exact ⟨by rfl, by decide⟩
section
variable {prog : Program} {K : Frag} {C : Cx} {A : Around} {env : Env} {cn : Str} {cs : Scope} {L a : Addr} {ccd : Value} {cl : List (Str × Addr)} {m : Loc} {σ : SH} {Φ : V → SH → Prop} {pos np : Pos} {x : Str} {X Y R : V} {e i l r : Expr}
theorem ev_sx (h : Sx prog C A env m σ e X) (k : Φ X σ) : Ev prog C A env e m σ Φ := h Φ k
theorem evs_sx {es : List Expr} {Xs : List V} {Ψ : List V → SH → Prop} (h : Sxs prog C A env m σ pos es Xs) (k : Ψ Xs σ) : Evs prog C A env pos es m σ Ψ := h Ψ k
theorem sxs_nil : Sxs prog C A env m σ pos [] [] := fun Φ k => evs_nil k
theorem sxs_cons {es : List Expr} {Xs : List V} (h : Sx prog C A env m σ e X) (t : Sxs prog C A env m σ pos es Xs) (he : starEach (e :: es) env = (false, eval e env) :: starEach es env) : Sxs prog C A env m σ pos (e :: es) (X :: Xs) := fun Φ k => evs_cons (h _ (t _ k)) he
theorem ts_cmp {op : CmpOp} {Ψ : Bool → SH → Prop} (h1 : Sx prog C A env m σ l X) (h2 : Sx prog C A env m σ r Y) (h : Op2 prog C A env RepV (compareOp op) X Y m σ (TruthK prog C A env m Ψ)) (hm : behindInMarks op r = false) : Ts prog C A env (.Compare l [op] [r] pos) m σ Ψ := ts_compare (h1 _ (h2 _ h)) hm
theorem ev_sub2 (h1 : Sx prog C A env m σ e X) (h2 : Sx prog C A env m σ i Y) (h : Op2 prog C A env RepV (subscriptTail e i) X Y m σ Φ) : Ev prog C A env (.Subscript e i pos) m σ Φ := ev_subscript (h1 _ (h2 _ h))
theorem ev_bin2 {op : Operator} (h1 : Sx prog C A env m σ e X) (h2 : Sx prog C A env m σ i Y) (h : Op2 prog C A env RepV (binaryOp op) X Y m σ Φ) : Ev prog C A env (.BinOp e op i pos) m σ Φ := ev_binop (h1 _ (h2 _ h))
theorem ev_meth {o : Expr} {name : Str} {args : List Expr} {pl : Sem Bool} {apos : Pos} (s : Sx prog C A env m σ o X) (h : GM prog C A env pos name pl args m Φ X σ) (he : eval (.Call (.Attribute o name apos) args [] pos) env = (do
    let ov ← eval o env
    standAt apos.atName
    let (f, first) ← holding [ov] (getMethod ov name pl)
    callWith pos f first (backTo pos (starEach args env)) [])) : Ev prog C A env (.Call (.Attribute o name apos) args [] pos) m σ Φ := ev_method (s _ h) he
theorem ev_tup {es : List Expr} {Xs : List V} {n : Nat} (h : Sxs prog C A env m σ pos es Xs) (k : TupK Xs σ Φ) : Ev prog C A env (.Tuple es n pos) m σ Φ := ev_tuple (h _ k)
-- leaves
theorem sx_local (hm : m x = some X) (hz : okL env x = true) : Sx prog C A env m σ (.Name x pos) X := fun Φ h => by
  obtain ⟨h1, h2, h3, h4⟩ := okL_spec hz
  exact evg_local hm h h1 h2 h3 h4
theorem sx_glob {v : Value} (W : Wd prog K C) (e : nsIn K mainGlobals x = some (some v)) (g : GV v X) (hz : okG env x = true) : Sx prog C A env m σ (.Name x pos) X := fun Φ h => by
  obtain ⟨h1, h2, h3, h4⟩ := okG_spec hz
  exact evg_glob W e (fun _ _ => g.rep) h h1 h2 h3 h4
theorem sx_gbuiltin {v : Value} (W : Wd prog K C) (e : nsIn K mainGlobals x = some none) (g : BB x v) (hz : okG (envX cn cs L a ccd cl) x = true) : Sx prog C A (envX cn cs L a ccd cl) m σ (.Name x pos) (.c v) := fun Φ h => by
  obtain ⟨h1, h2, h3, h4⟩ := okG_spec hz
  exact ev_gbuiltin W e g.is.1 g.is.2 h h2 h3 h4
theorem o2_so {f : Value → Value → Sem Value} (s : So2 prog C A env m σ f X Y R) (k : Φ R σ) : Op2 prog C A env RepV f X Y m σ Φ := s Φ k
theorem sx_int {j : Int} {n : Nat} : Sx prog C A env m σ (.Constant (.int j) n pos) (.d (.int j)) := fun Φ h => ev_int h
theorem sx_str {j : Str} {n : Nat} : Sx prog C A env m σ (.Constant (.str j) n pos) (.d (.str j)) := fun Φ h => ev_str h
theorem sx_neg {j : Int} {n : Nat} : Sx prog C A env m σ (.UnaryOp .USub (.Constant (.int j) n np) pos) (.d (.int (-j))) := fun Φ h => ev_neg h
-- nodes
theorem sx_attr {y Cc dx : Addr} {fs : List (Str × V)} {attr : Option Value} (s : Sx prog C A env m σ e (.c (.ref y))) (W : Wd prog K C) (ex : σ y = some (.inst Cc dx)) (ed : σ dx = some (.ns fs)) (g1 : plainGet K Cc x = true) (g2 : hasDictIn K Cc = true) (g3 : findIn K (.ref Cc) x = some attr) (g4 : noGet K attr = true) (hl : fs.lookup x = some X) (ho : okV X)
    (he : eval (.Attribute e x pos) env = (do
      let o ← eval e env
      standAt pos.atName
      let r ← holding [o] (getAttr o x true)
      letTemporaryGo e o r
      pure r)) : Sx prog C A env m σ (.Attribute e x pos) X := fun Φ h => ev_attr (s _ (op_getattr W ex ed g1 g2 g3 g4 hl ho h)) he
theorem sx_sub (h1 : Sx prog C A env m σ e X) (h2 : Sx prog C A env m σ i Y) (o : So2 prog C A env m σ (subscriptTail e i) X Y R) : Sx prog C A env m σ (.Subscript e i pos) R := fun Φ h => ev_subscript (h1 _ (h2 _ (o _ h)))
theorem sx_bin {op : Operator} (h1 : Sx prog C A env m σ e X) (h2 : Sx prog C A env m σ i Y) (o : So2 prog C A env m σ (binaryOp op) X Y R) : Sx prog C A env m σ (.BinOp e op i pos) R := fun Φ h => ev_binop (h1 _ (h2 _ (o _ h)))
theorem so_cell0 {c : Cell} (hs : ∀ a u, subscripted i false (.ref a) (.int 0 u) = operate [.ref a, .int 0 u] (getItem (.ref a) (.int 0 u))) : So2 prog C A env m σ (subscriptTail e i) (.d (ec c)) (.d (.int 0)) (.d (.int (c.1 : Int))) := fun Φ h => op_cell0 h hs
theorem so_cell1 {c : Cell} (hs : ∀ a u, subscripted i false (.ref a) (.int 1 u) = operate [.ref a, .int 1 u] (getItem (.ref a) (.int 1 u))) : So2 prog C A env m σ (subscriptTail e i) (.d (ec c)) (.d (.int 1)) (.d (.int (c.2 : Int))) := fun Φ h => op_cell1 h hs
theorem so_fv {b : Addr} {H : List Cell} {n : Nat} {c : Cell} (ea : σ b = some (fv H)) (hx : H[n]? = some c) (hn : H.length ≤ 1000) (hs : ∀ a u, subscripted i false (.ref a) (.int (n : Int) u) = operate [.ref a, .int (n : Int) u] (getItem (.ref a) (.int (n : Int) u))) : So2 prog C A env m σ (subscriptTail e i) (.c (.ref b)) (.d (.int (n : Int))) (.d (ec c)) := fun Φ h => op_fv ea hx hn h hs
theorem so_tup {ds : List PyData} {j : Int} {z : PyData} (h0 : 0 ≤ j) (h1 : j < 2 ^ 63) (hx : ds[j.toNat]? = some z) (hs : ∀ a u, subscripted i false (.ref a) (.int j u) = operate [.ref a, .int j u] (getItem (.ref a) (.int j u))) : So2 prog C A env m σ (subscriptTail e i) (.d (.tuple ds)) (.d (.int j)) (.d z) := fun Φ h => op_tupIdx h0 h1 hx h hs
theorem so_addN {a b : Nat} {i j : Int} (hi : i = (a : Int)) (hj : j = (b : Int)) : So2 prog C A env m σ (binaryOp .Add) (.d (.int i)) (.d (.int j)) (.d (.int ((a + b : Nat) : Int))) := fun Φ h => op_addN hi hj h
theorem so_sub {i j : Int} : So2 prog C A env m σ (binaryOp .Sub) (.d (.int i)) (.d (.int j)) (.d (.int (i - j))) := fun Φ h => op_sub h
end
/-- a term that is no compound: its tag is compared as a text -/
inductive Lf (x : Tm) : Prop
  | mk (tg : Str) (j : Nat) (he : x.enc = .tuple [.str tg, .int (j : Int)]) (hs : (tg == ("s" : Str)) = false) (hv : (∀ n, x ≠ .v n) → (tg == ("v" : Str)) = false) (h3 : SeqAt.shaped (.str tg) = true)
theorem Tm.lf : ∀ {x : Tm}, x.isS = false → Lf x
  | .v n, _ => ⟨"v", n, rfl, by decide +kernel, fun h => absurd rfl (h n), by decide +kernel⟩
  | .a n, _ => ⟨"a", n, rfl, by decide +kernel, fun _ => by decide +kernel, by decide +kernel⟩
  | .i n, _ => ⟨"i", n, rfl, by decide +kernel, fun _ => by decide +kernel, by decide +kernel⟩
end Mine
namespace Mine
section
local macro_rules | `(tactic| o_head $_) => `(tactic| assumption)
set_option Elab.async true in
theorem h0 : ∃ T : Prop, T → PySem.Challenge.rw_rr0033_01.row.Holds := by
  refine' ⟨_, fun h => ?_⟩
  rotate_left
  k_head
end
section
variable {P : Params} {prog : Program} {C : Cx} {k : Nat} {σ : SH} {Φ : V → SH → Prop}
theorem rep_voidA {K : Frag} {h : Heap} {a : Addr} {o : Obj} {vs : Array Value} {n : Nat} (X : K.In h) (e : K.lookup a = some o) (h1 : o.cls = .type "tuple") (h2 : o.data = .seq vs n) (h3 : ∃ t u, vs.toList = [.int 5 t, .int 0 u]) : RepV h (.ref a) (.d (ec (5, 0))) := by
  obtain ⟨t, u, h3⟩ := h3
  exact Reads.tuple (X _ _ e) h1 h2 (by rw [h3]; exact .cons (.int _ _) (.cons (.int _ _) .nil))
theorem rep_void (P : Params) : ∀ h, (h0.heap_1_1 P).In h → RepV h (.ref 180) (.d (ec (5, 0))) := fun h X => rep_voidA X (by k_is) (by rfl) (by rfl) ⟨_, _, by rfl⟩
theorem ev_void {cn : Str} {cs : Scope} {L a : Addr} {ccd : Value} {cl : List (Str × Addr)} {A : Around} {m : Loc} {pos : Pos} (W : Wd prog (h0.heap_1_1 P) C) (h : Φ (.d (ec (5, 0))) σ)
    (hk : cs.kind = .function) (hx : (envX cn cs L a ccd cl).kindOf "VOID" = some .globalImplicit) : Ev prog C A (envX cn cs L a ccd cl) (.Name "VOID" pos) m σ Φ :=
  ev_glob W (by k_is) (rep_void P) h hk hx (by decide)
theorem sx_void {cn : Str} {cs : Scope} {L a : Addr} {ccd : Value} {cl : List (Str × Addr)} {A : Around} {m : Loc} {pos : Pos} (W : Wd prog (h0.heap_1_1 P) C) (hk : cs.kind = .function) (hx : (envX cn cs L a ccd cl).kindOf "VOID" = some .globalImplicit) : Sx prog C A (envX cn cs L a ccd cl) m σ (.Name "VOID" pos) (.d (ec (5, 0))) := fun Φ h => ev_void W h hk hx
end
set_option compiler.extract_closed false
set_option compiler.reuse false
-- lines of my own for the walk
local macro_rules | `(tactic| k_extra $s:str) => do
  let key := s.getString
  if key == "a" then return ← `(tactic| assumption)
  if key == "r" then return ← `(tactic| rfl)
  if key == "d" then return ← `(tactic| decide)
  if key == "dk" then return ← `(tactic| decide +kernel)
  if key == "k" then return ← `(tactic| k_is)
  if key == "n" || key == "t" then return ← `(tactic| constructor)
  if key == "u" || key == "i" || key == "j" then return ← `(tactic| (intros; with_unfolding_all rfl))
  if key == "li" then return ← `(tactic| lia)
  if key == "mg" then return ← `(tactic| omega)
  if key == "dd" then return ← `(tactic| dsimp only [List.cons_append, List.nil_append])
  if key == "l2" then return ← `(tactic| first | (dsimp only; first | assumption | omega) | (simp only [List.length_append, List.length_cons, List.length_nil, List.length_map, List.length_set]; omega) | (simp; omega))
  let some tab := ([("b", "X Nat.le_of_ble_eq_true r1"), ("f", "W d;W le"), ("s", "W a;W dk"), ("h", "sh"), ("l", "le"), ("x", "sx"), ("z", "sxs"), ("y", "so"), ("o", "lo"), ("q", "ne"), ("c", "nn"), ("nn", "X ne_new a1 h1"), ("lo", "W a;X Loc.set_self _ _ _;X lo_step d1 o1;W r"), ("ne", "W a;X Ne.symm a1;X ne_k a1 a2 r1;X ne_new a1 h1;X Ne.symm c1"), ("sh", "W a;X SH.set_self _ _ _;X sh_step q1 h1"), ("om", "W a;X kk a1 r1;X kle a1 r1;X keg a1 r1;W li;W mg"), ("le", "W a;X keg a1 r1;W li;W mg;W l2"), ("p", "no"), ("e", "ev_sx x1 _"), ("so", "so_cell0 i1;so_cell1 i1;so_fv h1 a1 l1 i1;so_tup d1 d2 r1 i1;so_addN r1 r2;so_sub"), ("sx", "sx_local o1 r1 / r1 o1;sx_void a1 r1 r2;sx_glob a1 k1 n1 r1 / r1 a1 k1 n1;sx_gbuiltin a1 k1 n1 r1 / r1 a1 k1 n1;sx_int;sx_str;sx_neg;sx_attr x1 a1 h1 h2 k1 k2 k3 k4 r1 t1 u1;sx_sub x1 x2 y1;sx_bin x1 x2 y1"), ("sxs", "sxs_nil;sxs_cons x1 z1 r1"), ("m1", "S e Ev 4 PySem.Expr.Attribute 3 3;S e Ev 4 PySem.Expr.Subscript 3 3;S e Ev 4 PySem.Expr.BinOp 4 3;ev_meth x1 _ r1;ev_call _;ev_int _;ev_sliceFrom a1 _ j1;ev_sub2 x1 x2 _;ev_subscript _;ev_tup z1 _;ev_tuple _;ev_str _;ev_bool _;ev_none _;ev_neg _;ev_bin2 x1 x2 _;ev_binop _;ev_compare _ u1;ev_list a1 _;ev_ifexp _;ev_or2 _"), ("m2", "op_eqC a1 _;op_neC a1 _;op_eqI a1 _;op_neI a1 _;op_lt _;op_gt _;op_le _;op_ge _;op_eq_read a1 _;op_ne_read a1 _;op_ne_write a1 _;op_eqS a1 s1 s2 _;op_neS a1 s1 s2 _;op_in_no h1 a1 _;op_nin_no h1 a1 _;op_nin_yes h1 a1 _;op_in_set h1 _"), ("m3", "ck_ref a1 k1 _ r1 r2;ck_ref0 a1 k1 _;ck_builtin _ r1 r2;ck_builtin0 _;ck_type _ r1 r2;ck_type0 _"), ("m4", "S dd OpL 5 HAppend.hAppend 2 3;op_append_fvc h1 l1 _;op_append_tv h1 l1 _;op_append h1 l1 _;opl_len_tv h1 l1 _;opl_len_fv h1 l1 _;opl_len_tbl h1 l1 _;opl_len_list h1 l1 _;op_get_tn h1 _;op_get_fn a1 h1 _;op_add_set h1 l1 _"), ("m5", "gm_inst a1 h1 h2 k1 k2 k3 r1 _;gm_append h1 _;gm_pop h1 _;gm_sget h1 _;gm_tget h1 _;gm_add h1 _"), ("m6", "st_assign _ r1 r2 r3 r4;st_expr _ r1 r2;st_if _;st_return _;st_setattr _ r1;st_setitem _ r1;st_aug o1 _ r1 r2 r3;st_continue _;st_return0 _;st_delFrom _"), ("m7", "seq_next _;seq_ret _;seq_cont _"), ("m8", "ts_cmp x1 x2 _ u1;ts_compare _ u1;ts_boolop _;ts_not _;ts_value _ r1"), ("m9", "al_and_cons _;al_or_cons _;al_and_nil _;al_or_nil _"), ("m10", "set_fv h1 l1 l2 _;set_tn h1 a1 l1 _;set_fn a1 h1 a2 l1 _;set_tbl h1 a1 a2 l1 _;set_idict h1 l1 _"), ("m11", "loop_next _;loop_cont _;loop_ret _"), ("m", "G Ev 4 PySem.Expr.Name 2 3;evg_cell o1 _ r1 r2 r3 d1 / r1 r2 r3 d1 o1;ev_sx x1 _;G Ev 8;W m1;G Evs 9;evs_sx z1 _;evs_cons _ r1;G Op2 5 subscriptTail 2 5;o2_so y1 _;op_idictIdx h1 a1 _ i1;G Op2 5 compareOp 1 5;W m2;G Op2 5 binaryOp 1 5;o2_so y1 _;op_mulN r1 r2 l1 _ / r1 r2 l1 I;G CK 11;W m3;G OpL 9;W m4;G GM 12;W m5;G Ex1 8;W m6;G Exs 8;exs_cons _;exs_nil _;G SeqK 9;W m7;G TupK 3;tupk_ec r1 r2 _;tupk_gen f1 r1 _ / r1 f1;G Ts 8;W m8;G TruthK 8;truth_bool _;G Al 9;W m9;G OpAttr 10;op_setattr a1 h1 h2 k1 k2 k3 k4 b1 _;G OpSet 10;W m10;G Op2 5 inplaceOp 1 5;op_iaddN r1 r2 _;G ForK 12;forK_next _;forK_ret _;G RetK 4;retk_ret _;retk_next _;G LoopK 10;W m11;E;X br_l _ p1;X br_r p1 _")] : List (String × String)).lookup key | Lean.Macro.throwUnsupported
  let at_ (k : String) : Lean.MacroM (Lean.TSyntax `tactic) := `(tactic| k_extra $(Lean.Syntax.mkStrLit k):str)
  if tab.length ≤ 3 then return ← at_ tab
  let h ← `(_)
  let q ← `(?_)
  let pat (l : List String) : Lean.Term := Lean.Syntax.mkApp (Lean.mkIdent (l.headD "").toName) (l.tail.foldl (fun (x : Array Lean.Term × String) a => match a.toNat? with
    | some n => (if x.2 == "" then x.1 ++ Array.replicate n h else x.1.push (Lean.Syntax.mkApp (Lean.mkIdent x.2.toName) (Array.replicate n h)), "")
    | none => (x.1, a)) (#[], "")).1
  let either (a : Lean.TSyntax `tactic) (b : Option (Lean.TSyntax `tactic)) : Lean.MacroM (Lean.TSyntax `tactic) := match b with
    | none => pure a
    | some b => `(tactic| first | $a:tactic | $b:tactic)
  let z ← (tab.splitOn ";").foldrM (fun row (x : Option (Lean.TSyntax `tactic) × Option (Lean.TSyntax `tactic)) => do
    let w := row.splitOn " "
    let k := w.headD ""
    if k == "E" then return (none, x.1)
    let r := w.tail
    if k == "G" then
      let t ← `(tactic| with_reducible show $(pat r))
      let t ← match x.1 with | none => pure t | some c => `(tactic| ($t; $c))
      return (none, some (← either t x.2))
    let t ← if k == "W" then at_ (r.headD "")
      else if k == "S" then `(tactic| ((with_reducible show $(pat r.tail)); $(← at_ (r.headD "")):tactic))
      else do
        let r := if k == "X" then r else w
        let as := r.tail.takeWhile (· != "/")
        let os := r.tail.dropWhile (· != "/")
        let args ← as.mapM fun a => if a == "_" then pure q else do `(?$(Lean.mkIdent (← Lean.MonadQuotation.addMacroScope a.toName)))
        let e := Lean.Syntax.mkApp (Lean.mkIdent (r.headD "").toName) args.toArray
        let t ← if k == "X" then `(tactic| refine' $e) else `(tactic| with_reducible refine' $e)
        (if os.isEmpty then as.filter (· != "_") else os.tail).foldlM (fun t c => if c == "I" then `(tactic| ($t; intro _)) else do `(tactic| ($t; case $(Lean.mkIdent (← Lean.MonadQuotation.addMacroScope c.toName)):ident => $(← at_ (c.take 1).toString):tactic))) t
    return (some (← either t x.1), x.2)) (none, none)
  match z with
  | (some c, some a) => `(tactic| first | $c:tactic | $a:tactic)
  | (some c, none) => return c
  | (none, some a) => return a
  | (none, none) => Lean.Macro.throwUnsupported
local macro_rules | `(tactic| k_extra "no") => `(tactic| (intro hb; first
  | contradiction
  | (exact absurd hb (by decide))
  | ((try simp only [decide_eq_true_eq, decide_eq_false_iff_not, Bool.not_eq_true', Bool.not_eq_false'] at hb); first | contradiction | (exact absurd (Eq.trans (c := false) hb.symm (by assumption)) (by decide)) | (exact absurd (Eq.trans (c := true) hb.symm (by assumption)) (by decide)) | (exfalso; omega) | (exact absurd hb (by decide)))
  | (exfalso; simp at hb; done)))
local macro_rules | `(tactic| k_extra "br") => `(tactic| first
  | (refine ⟨fun hb => ?_, fun hb => ?_⟩ <;> (try simp only [decide_eq_true_eq, decide_eq_false_iff_not, Bool.not_eq_true', Bool.not_eq_false'] at hb) <;> (try (exfalso; first | omega | contradiction | (exact absurd hb (by decide)) | (simp at hb; done))))
  | skip)
local macro_rules | `(tactic| k_extra "bind") => `(tactic| first
  | exact fun s X => bnd1 fun a => BindsTo.of_eq rfl
  | exact fun s X => bnd2 fun a b => BindsTo.of_eq rfl
  | exact fun s X => bnd3 fun a b c => BindsTo.of_eq rfl
  | exact fun s X => bnd4 fun a b c d => BindsTo.of_eq rfl
  | exact fun s X => bnd5 fun a b c d e => BindsTo.of_eq rfl
  | exact fun s X => bnd0 (BindsTo.of_eq rfl))
local macro_rules | `(tactic| k_extra "go") => `(tactic| repeat k_extra "m")
section
variable {P : Params} {prog : Program} {C : Cx} {k : Nat} {σ : SH} {Φ : V → SH → Prop}
theorem c_atom (W : Wd prog (h0.heap_1_1 P) C) {Y : SymA} {S : Sy} (h : SymAt σ Y S) (x : Str) (hk : 1 ≤ k) (hl : S.T.length ≤ 900)
    (q : ∀ σ', SymAt σ' Y ⟨(atomP S.T x).2, S.F⟩ → Fw (SymM Y) σ σ' → Φ (.d (.int ((atomP S.T x).1 : Nat))) σ') : CallC prog C k (.ref 88) [.c (.ref Y.a), .d (.str x)] σ Φ := by
  obtain ⟨k, rfl⟩ := kpred (k := k) (by k_extra "om")
  refine callC_def ["self", "text"] W (by k_is) (by k_is) (by k_extra "bind") (by rfl) (by rfl) (by rfl) (by rfl) (by rfl) ?_
  intro A L hR
  have h' := h
  obtain ⟨h1, h2, h3, h4, h5, h6, ne, nT, nF⟩ := h
  k_extra "go"
  refine ⟨fun hx => ?_, fun hx => ?_⟩
  · k_extra "go"
    k_extra "br"
    k_extra "go"
    have e : atomP S.T x = (ixOf S.T x, S.T) := if_pos hx
    rw [e] at q
    exact q σ h' Fw.refl
  · k_extra "go"
    k_extra "br"
    k_extra "go"
    have e : atomP S.T x = (S.T.length, S.T ++ [x]) := if_neg hx
    rw [e] at q
    refine q _ ⟨by k_extra "sh", by k_extra "sh", by k_extra "sh", by k_extra "sh", by k_extra "sh", by k_extra "sh", ne, ?_, nF⟩ ?_
    · exact List.nodup_append.mpr ⟨nT, by simp, by intro a ha b hb; simp at hb; subst hb; exact fun q => hx (q ▸ ha)⟩
    · exact (Fw.refl.set (.inl rfl)).set (.inr (.inl rfl))
theorem c_functor (W : Wd prog (h0.heap_1_1 P) C) {Y : SymA} {S : Sy} (h : SymAt σ Y S) (a n : Nat) (hk : 1 ≤ k) (hl : S.F.length ≤ 900)
    (q : ∀ σ', SymAt σ' Y ⟨S.T, (funP S.F (a, n)).2⟩ → Fw (SymM Y) σ σ' → Φ (.d (.int ((funP S.F (a, n)).1 : Nat))) σ') : CallC prog C k (.ref 102) [.c (.ref Y.a), .d (.int (a : Int)), .d (.int (n : Int))] σ Φ := by
  obtain ⟨k, rfl⟩ := kpred (k := k) (by k_extra "om")
  refine callC_def ["self", "atom", "arity"] W (by k_is) (by k_is) (by k_extra "bind") (by rfl) (by rfl) (by rfl) (by rfl) (by rfl) ?_
  intro A L hR
  have h' := h
  obtain ⟨h1, h2, h3, h4, h5, h6, ne, nT, nF⟩ := h
  k_extra "go"
  refine ⟨fun hx => ?_, fun hx => ?_⟩
  · k_extra "go"
    k_extra "br"
    k_extra "go"
    have e : funP S.F (a, n) = (ixOf S.F (a, n), S.F) := if_pos hx
    rw [e] at q
    exact q σ h' Fw.refl
  · k_extra "go"
    k_extra "br"
    k_extra "go"
    have e : funP S.F (a, n) = (S.F.length, S.F ++ [(a, n)]) := if_neg hx
    rw [e] at q
    refine q _ ⟨by k_extra "sh", by k_extra "sh", by k_extra "sh", by k_extra "sh", by k_extra "sh", by k_extra "sh", ne, nT, ?_⟩ ?_
    · exact List.nodup_append.mpr ⟨nF, by simp, by intro a ha b hb; simp at hb; subst hb; exact fun q => hx (q ▸ ha)⟩
    · exact (Fw.refl.set (.inr (.inr (.inl rfl)))).set (.inr (.inr (.inr rfl)))
noncomputable def fnP (S : Sy) (x : Str) (n : Nat) : Nat × Sy := ((funP S.F ((atomP S.T x).1, n)).1, ⟨(atomP S.T x).2, (funP S.F ((atomP S.T x).1, n)).2⟩)
theorem c_func (W : Wd prog (h0.heap_1_1 P) C) {Y : SymA} {S : Sy} (h : SymAt σ Y S) (x : Str) (n : Nat) (hk : 2 ≤ k) (hT : S.T.length ≤ 900) (hl : S.F.length ≤ 900)
    (q : ∀ σ', SymAt σ' Y (fnP S x n).2 → Fw (SymM Y) σ σ' → Φ (.d (.int ((fnP S x n).1 : Nat))) σ') : CallC prog C k (.ref 109) [.c (.ref Y.a), .d (.str x), .d (.int (n : Int))] σ Φ := by
  obtain ⟨k, rfl⟩ := kpred (k := k) (by k_extra "om")
  refine callC_def ["self", "text", "arity"] W (by k_is) (by k_is) (by k_extra "bind") (by rfl) (by rfl) (by rfl) (by rfl) (by rfl) ?_
  intro A L hR
  have h' := h
  obtain ⟨h1, h2, h3, h4, h5, h6, ne, nT, nF⟩ := h
  k_extra "go"
  refine opl_call hR (c_atom W h' x (by k_extra "om") hT fun σ₁ y₁ f₁ => ?_)
  k_extra "go"
  refine opl_call hR (c_functor W y₁ _ n (by k_extra "om") hl fun σ₂ y₂ f₂ => ?_)
  k_extra "go"
  exact q σ₂ y₂ (f₁.trans f₂)
theorem c_arity (W : Wd prog (h0.heap_1_1 P) C) {Y : SymA} {S : Sy} (h : SymAt σ Y S) {f : Nat} {c : Cell} (hk : 1 ≤ k) (hl : S.F.length ≤ 1000) (hf : S.F[f]? = some c)
    (q : Φ (.d (.int (c.2 : Int))) σ) : CallC prog C k (.ref 123) [.c (.ref Y.a), .d (.int (f : Int))] σ Φ := by
  obtain ⟨k, rfl⟩ := kpred (k := k) (by k_extra "om")
  refine callC_def ["self", "functor"] W (by k_is) (by k_is) (by k_extra "bind") (by rfl) (by rfl) (by rfl) (by rfl) (by rfl) ?_
  intro A L hR
  obtain ⟨h1, h2, h3, h4, h5, h6, ne, nT, nF⟩ := h
  k_extra "go"
  exact q
end
section
variable {P : Params} {prog : Program} {C : Cx} {k : Nat} {σ : SH} {Φ : V → SH → Prop}
theorem c_push (W : Wd prog (h0.heap_1_1 P) C) {Y : SymA} {B : MchA} {S : Sy} {M : Mch} (h : MchAt σ Y B S M) (c : Cell) (hk : 1 ≤ k) (hl : M.H.length ≤ 900)
    (q : Φ (.d (.int (M.H.length : Nat))) (σ.set B.h (fv (M.H ++ [c])))) : CallC prog C k (.ref 202) [.c (.ref B.st), .d (ec c)] σ Φ := by
  obtain ⟨k, rfl⟩ := kpred (k := k) (by k_extra "om")
  refine callC_def ["self", "cell"] W (by k_is) (by k_is) (by k_extra "bind") (by rfl) (by rfl) (by rfl) (by rfl) (by rfl) ?_
  intro A L hR
  obtain ⟨y, m1, m2, s1, s2, h1, x1, n1, n2, n3, n4, n5, n6, n7⟩ := h
  k_extra "go"
  k_extra "br"
  k_extra "go"
  exact q
theorem c_new_var (W : Wd prog (h0.heap_1_1 P) C) {Y : SymA} {B : MchA} {S : Sy} {M : Mch} (h : MchAt σ Y B S M) (hk : 2 ≤ k) (hl : M.H.length ≤ 900)
    (q : Φ (.d (ec (0, M.H.length))) (σ.set B.h (fv (M.H ++ [(0, M.H.length)])))) : CallC prog C k (.ref 209) [.c (.ref B.st)] σ Φ := by
  obtain ⟨k, rfl⟩ := kpred (k := k) (by k_extra "om")
  refine callC_def ["self"] W (by k_is) (by k_is) (by k_extra "bind") (by rfl) (by rfl) (by rfl) (by rfl) (by rfl) ?_
  intro A L hR
  have h' := h
  obtain ⟨y, m1, m2, s1, s2, h1, x1, n1, n2, n3, n4, n5, n6, n7⟩ := h
  k_extra "go"
  refine opl_call hR (c_push W h' _ (by k_extra "om") hl ?_)
  k_extra "go"
  exact q
theorem c_deref (W : Wd prog (h0.heap_1_1 P) C) {Y : SymA} {B : MchA} {S : Sy} {M : Mch} (h : MchAt σ Y B S M) {c e : Cell} (D : Der M.H c e) (hk : 1 ≤ k) (hl : M.H.length ≤ 1000)
    (q : Φ (.d (ec e)) σ) : CallC prog C k (.ref 230) [.c (.ref B.st), .d (ec c)] σ Φ := by
  obtain ⟨k, rfl⟩ := kpred (k := k) (by k_extra "om")
  refine callC_def ["self", "cell"] W (by k_is) (by k_is) (by k_extra "bind") (by rfl) (by rfl) (by rfl) (by rfl) (by rfl) ?_
  intro A L hR
  have h' := h
  obtain ⟨y, m1, m2, s1, s2, h1, x1, n1, n2, n3, n4, n5, n6, n7⟩ := h
  k_extra "go"
  refine st_loop ?_
  have a1 : Loc.of ["self", "cell"] [.c (.ref B.st), .d (ec c)] "self" = some (.c (.ref B.st)) := rfl
  have a2 : Loc.of ["self", "cell"] [.c (.ref B.st), .d (ec c)] "cell" = some (.d (ec c)) := rfl
  revert a1 a2
  generalize Loc.of ["self", "cell"] [.c (.ref B.st), .d (ec c)] = mm
  induction D generalizing mm with
  | @tag c t0 t1 =>
    intro a1 a2
    refine loop_turn ?_
    k_extra "go"
    k_extra "go"
    k_extra "br"
    k_extra "go"
    k_extra "br"
    k_extra "go"
    exact q
  | @self c t0 t1 =>
    intro a1 a2
    refine loop_turn ?_
    k_extra "go"
    k_extra "go"
    k_extra "br"
    k_extra "go"
    k_extra "br"
    k_extra "go"
    exact q
  | @step c d e t0 t1 t2 D ih =>
    intro a1 a2
    refine loop_turn ?_
    k_extra "go"
    k_extra "go"
    k_extra "br"
    k_extra "go"
    k_extra "br"
    k_extra "go"
    refine ih q _ ?_ ?_
    · k_extra "lo"
    · k_extra "lo"
theorem c_bind (W : Wd prog (h0.heap_1_1 P) C) {Y : SymA} {B : MchA} {S : Sy} {M : Mch} (h : MchAt σ Y B S M) {c e : Cell} (hc : c.1 = 0) (hb : c.2 < M.H.length) (hk : 1 ≤ k) (hl : M.H.length ≤ 1000)
    (q : Φ (.d .none) (σ.set B.h (fv (M.H.set c.2 e)))) : CallC prog C k (.ref 244) [.c (.ref B.st), .d (ec c), .d (ec e)] σ Φ := by
  obtain ⟨k, rfl⟩ := kpred (k := k) (by k_extra "om")
  refine callC_def ["self", "cell", "value"] W (by k_is) (by k_is) (by k_extra "bind") (by rfl) (by rfl) (by rfl) (by rfl) (by rfl) ?_
  intro A L hR
  obtain ⟨y, m1, m2, s1, s2, h1, x1, n1, n2, n3, n4, n5, n6, n7⟩ := h
  k_extra "go"
  k_extra "br"
  k_extra "go"
  k_extra "br"
  k_extra "go"
  exact q
theorem c_globalise (W : Wd prog (h0.heap_1_1 P) C) {Y : SymA} {B : MchA} {S : Sy} {M : Mch} (h : MchAt σ Y B S M) {c e : Cell} (D : Der M.H c e) (he : e.1 ≠ 1) (hk : 2 ≤ k) (hl : M.H.length ≤ 1000)
    (q : Φ (.d (ec e)) σ) : CallC prog C k (.ref 258) [.c (.ref B.st), .d (ec c)] σ Φ := by
  obtain ⟨k, rfl⟩ := kpred (k := k) (by k_extra "om")
  refine callC_def ["self", "cell"] W (by k_is) (by k_is) (by k_extra "bind") (by rfl) (by rfl) (by rfl) (by rfl) (by rfl) ?_
  intro A L hR
  have h' := h
  obtain ⟨y, m1, m2, s1, s2, h1, x1, n1, n2, n3, n4, n5, n6, n7⟩ := h
  k_extra "go"
  refine opl_call hR (c_deref W h' D (by k_extra "om") hl ?_)
  k_extra "go"
  k_extra "br"
  k_extra "go"
  exact q
theorem c_is_compound (W : Wd prog (h0.heap_1_1 P) C) {Y : SymA} {B : MchA} {S : Sy} {M : Mch} (h : MchAt σ Y B S M) {c : Cell} (hk : 1 ≤ k)
    (q : Φ (.d (.bool (decide (c.1 = 2 ∨ c.1 = 3)))) σ) : CallC prog C k (.ref 286) [.c (.ref B.st), .d (ec c)] σ Φ := by
  obtain ⟨k, rfl⟩ := kpred (k := k) (by k_extra "om")
  refine callC_def ["self", "cell"] W (by k_is) (by k_is) (by k_extra "bind") (by rfl) (by rfl) (by rfl) (by rfl) (by rfl) ?_
  intro A L hR
  obtain ⟨y, m1, m2, s1, s2, h1, x1, n1, n2, n3, n4, n5, n6, n7⟩ := h
  k_extra "go"
  refine ⟨fun hb => ?_, fun hb => ?_⟩ <;> simp only [decide_eq_true_eq, decide_eq_false_iff_not] at hb
  · k_extra "go"
    rw [show decide ((c.1 : Int) = 3) = decide (c.1 = 2 ∨ c.1 = 3) from decide_eq_decide.mpr (by k_extra "om")]
    exact q
  · rw [show decide ((c.1 : Int) = 2) = decide (c.1 = 2 ∨ c.1 = 3) from decide_eq_decide.mpr (by k_extra "om")]
    k_extra "go"
    exact q
theorem c_base (W : Wd prog (h0.heap_1_1 P) C) {Y : SymA} {B : MchA} {S : Sy} {M : Mch} (h : MchAt σ Y B S M) {c : Cell} (hk : 1 ≤ k)
    (q : Φ (.d (.int ((if c.1 = 3 then c.2 else c.2 + 1 : Nat) : Int))) σ) : CallC prog C k (.ref 307) [.c (.ref B.st), .d (ec c)] σ Φ := by
  obtain ⟨k, rfl⟩ := kpred (k := k) (by k_extra "om")
  refine callC_def ["self", "cell"] W (by k_is) (by k_is) (by k_extra "bind") (by rfl) (by rfl) (by rfl) (by rfl) (by rfl) ?_
  intro A L hR
  obtain ⟨y, m1, m2, s1, s2, h1, x1, n1, n2, n3, n4, n5, n6, n7⟩ := h
  k_extra "go"
  k_extra "br"
  · k_extra "go"
    rw [if_pos (by k_extra "om")] at q
    exact q
  · k_extra "go"
    rw [if_neg (by k_extra "om")] at q
    exact q
/-- the functor and the width of a cell -/
noncomputable def functorP (H : List Cell) (c : Cell) : Nat := if c.1 = 2 then ((H[c.2]?).getD (0, 0)).2 else 0
theorem c_functor_of (W : Wd prog (h0.heap_1_1 P) C) {Y : SymA} {B : MchA} {S : Sy} {M : Mch} (h : MchAt σ Y B S M) {c d : Cell} (hc : c.1 = 3 ∨ (c.1 = 2 ∧ M.H[c.2]? = some d)) (hk : 1 ≤ k) (hl : M.H.length ≤ 1000)
    (q : Φ (.d (.int ((if c.1 = 3 then 0 else d.2 : Nat) : Int))) σ) : CallC prog C k (.ref 293) [.c (.ref B.st), .d (ec c)] σ Φ := by
  obtain ⟨k, rfl⟩ := kpred (k := k) (by k_extra "om")
  refine callC_def ["self", "cell"] W (by k_is) (by k_is) (by k_extra "bind") (by rfl) (by rfl) (by rfl) (by rfl) (by rfl) ?_
  intro A L hR
  obtain ⟨y, m1, m2, s1, s2, h1, x1, n1, n2, n3, n4, n5, n6, n7⟩ := h
  rcases hc with hc | ⟨hc, hd⟩
  · k_extra "go"
    k_extra "br"
    k_extra "go"
    k_extra "br"
    k_extra "go"
    rw [if_pos (by k_extra "om")] at q
    exact q
  · k_extra "go"
    k_extra "br"
    k_extra "go"
    rw [if_neg (by k_extra "om")] at q
    exact q
theorem c_width (W : Wd prog (h0.heap_1_1 P) C) {Y : SymA} {B : MchA} {S : Sy} {M : Mch} (h : MchAt σ Y B S M) {c d u : Cell} (hc : c.1 = 3 ∨ (c.1 = 2 ∧ M.H[c.2]? = some d ∧ S.F[d.2]? = some u)) (hk : 2 ≤ k) (hl : M.H.length ≤ 1000) (hF : S.F.length ≤ 1000)
    (q : Φ (.d (.int ((if c.1 = 3 then 2 else u.2 : Nat) : Int))) σ) : CallC prog C k (.ref 300) [.c (.ref B.st), .d (ec c)] σ Φ := by
  obtain ⟨k, rfl⟩ := kpred (k := k) (by k_extra "om")
  refine callC_def ["self", "cell"] W (by k_is) (by k_is) (by k_extra "bind") (by rfl) (by rfl) (by rfl) (by rfl) (by rfl) ?_
  intro A L hR
  obtain ⟨y, m1, m2, s1, s2, h1, x1, n1, n2, n3, n4, n5, n6, n7⟩ := h
  have y' := y
  obtain ⟨y1, y2, y3, y4, y5, y6, y7, y8, y9⟩ := y'
  rcases hc with hc | ⟨hc, hd, hu⟩
  · k_extra "go"
    k_extra "br"
    k_extra "go"
    rw [if_pos (by k_extra "om")] at q
    exact q
  · k_extra "go"
    k_extra "br"
    k_extra "go"
    k_extra "br"
    k_extra "go"
    refine opl_call hR (c_arity W y (by k_extra "om") hF hu ?_)
    k_extra "go"
    rw [if_neg (by k_extra "om")] at q
    exact q
end
section
variable {P : Params} {prog : Program} {C : Cx} {k : Nat} {σ : SH} {Φ : V → SH → Prop}
noncomputable def setX (X : List Cell) (n : Nat) (c : Cell) : List Cell := (X ++ List.replicate (n + 1 - X.length) (5, 0)).set n c
theorem setX_len (X : List Cell) (n : Nat) (c : Cell) : (setX X n c).length = max X.length (n + 1) := setXp_len X n c
theorem setX_self (X : List Cell) (n : Nat) (c : Cell) : (setX X n c)[n]? = some c := setXp_self X n c
theorem sub_pred {a b d : Nat} (h : a + 1 - b = d + 1) : a - b = d := by
  show a + 1 - 1 - b = d
  rw [Nat.sub_right_comm, h]; rfl
theorem c_set_x (W : Wd prog (h0.heap_1_1 P) C) {Y : SymA} {B : MchA} {S : Sy} {M : Mch} (h : MchAt σ Y B S M) {n : Nat} {c : Cell} (hk : 1 ≤ k) (hX : M.X.length ≤ 500) (hn : n + 1 ≤ 500)
    (q : ∀ σ', MchAt σ' Y B S { M with X := setX M.X n c } → Fw (MchM B) σ σ' → Φ (.d .none) σ') : CallC prog C k (.ref 496) [.c (.ref B.m), .d (.int (n : Int)), .d (ec c)] σ Φ := by
  obtain ⟨k, rfl⟩ := kpred (k := k) (by k_extra "om")
  refine callC_def ["self", "number", "cell"] W (by k_is) (by k_is) (by k_extra "bind") (by rfl) (by rfl) (by rfl) (by rfl) (by rfl) ?_
  intro A L hR
  k_extra "go"
  refine st_loop ?_
  generalize hd' : n + 1 - M.X.length = d
  induction d generalizing σ M with
  | zero =>
    have h' := h
    obtain ⟨y, m1, m2, s1, s2, h1, x1, n1, n2, n3, n4, n5, n6, n7⟩ := h
    refine loop_turn ?_
    k_extra "go"
    k_extra "br"
    k_extra "go"
    refine q _ (by have e : setX M.X n c = M.X.set n c := by unfold setX; rw [hd']; simp
                   rw [e]; exact h'.setX _) (Fw.refl.set (.inr (.inl rfl)))
  | succ d ih =>
    have h' := h
    obtain ⟨y, m1, m2, s1, s2, h1, x1, n1, n2, n3, n4, n5, n6, n7⟩ := h
    refine loop_turn ?_
    k_extra "go"
    k_extra "br"
    k_extra "go"
    refine ih (h'.setX (M.X ++ [(5, 0)])) (by simp; (first | lia | omega)) (fun σ' y' f' => q σ' ?_ ((Fw.refl.set (.inr (.inl rfl))).trans f')) (by simp; exact sub_pred hd')
    have e : setX (M.X ++ [(5, 0)]) n c = setX M.X n c := by
      unfold setX
      rw [hd', show n + 1 - (M.X ++ [((5, 0) : Cell)]).length = d by simp; exact sub_pred hd', List.append_assoc]
      rfl
    rw [← e]; exact y'

theorem c_read (W : Wd prog (h0.heap_1_1 P) C) {Y : SymA} {B : MchA} {S : Sy} {M : Mch} (h : MchAt σ Y B S M) {n : Nat} {c : Cell} (hk : 1 ≤ k) (hX : M.X.length ≤ 1000) (hn : M.X[n]? = some c)
    (q : Φ (.d (ec c)) σ) : CallC prog C k (.ref 643) [.c (.ref B.m), .d (.tuple [.str "x", .int (n : Int)])] σ Φ := by
  obtain ⟨k, rfl⟩ := kpred (k := k) (by k_extra "om")
  refine callC_def ["m", "operand"] W (by k_is) (by k_is) (by k_extra "bind") (by rfl) (by rfl) (by rfl) (by rfl) (by rfl) ?_
  intro A L hR
  obtain ⟨y, m1, m2, s1, s2, h1, x1, n1, n2, n3, n4, n5, n6, n7⟩ := h
  k_extra "go"
  k_extra "br"
  k_extra "go"
  exact q
theorem c_write (W : Wd prog (h0.heap_1_1 P) C) {Y : SymA} {B : MchA} {S : Sy} {M : Mch} (h : MchAt σ Y B S M) {n : Nat} {c : Cell} (hk : 2 ≤ k) (hX : M.X.length ≤ 500) (hn : n + 1 ≤ 500)
    (q : ∀ σ', MchAt σ' Y B S { M with X := setX M.X n c } → Fw (MchM B) σ σ' → Φ (.d .none) σ') : CallC prog C k (.ref 650) [.c (.ref B.m), .d (.tuple [.str "x", .int (n : Int)]), .d (ec c)] σ Φ := by
  obtain ⟨k, rfl⟩ := kpred (k := k) (by k_extra "om")
  refine callC_def ["m", "operand", "cell"] W (by k_is) (by k_is) (by k_extra "bind") (by rfl) (by rfl) (by rfl) (by rfl) (by rfl) ?_
  intro A L hR
  have h' := h
  obtain ⟨y, m1, m2, s1, s2, h1, x1, n1, n2, n3, n4, n5, n6, n7⟩ := h
  k_extra "go"
  k_extra "br"
  k_extra "go"
  refine opl_call hR (c_set_x W h' (by k_extra "om") hX hn fun σ' y' f' => ?_)
  k_extra "go"
  exact q σ' y' f'
theorem c_match_constant (W : Wd prog (h0.heap_1_1 P) C) {Y : SymA} {B : MchA} {S : Sy} {M : Mch} (h : MchAt σ Y B S M) {c d e : Cell} (D : Der M.H c d) (d0 : d.1 ≠ 0) (d1 : d.1 ≠ 1) (hk : 2 ≤ k) (hl : M.H.length ≤ 1000)
    (q : Φ (.d (.bool (decide (d = e)))) σ) : CallC prog C k (.ref 657) [.c (.ref B.m), .d (ec c), .d (ec e)] σ Φ := by
  obtain ⟨k, rfl⟩ := kpred (k := k) (by k_extra "om")
  refine callC_def ["m", "cell", "constant"] W (by k_is) (by k_is) (by k_extra "bind") (by rfl) (by rfl) (by rfl) (by rfl) (by rfl) ?_
  intro A L hR
  have h' := h
  obtain ⟨y, m1, m2, s1, s2, h1, x1, n1, n2, n3, n4, n5, n6, n7⟩ := h
  k_extra "go"
  refine opl_call hR (c_deref W h' D (by k_extra "om") hl ?_)
  k_extra "go"
  exact q
theorem c_next_argument (W : Wd prog (h0.heap_1_1 P) C) {Y : SymA} {B : MchA} {S : Sy} {M : Mch} (h : MchAt σ Y B S M) {c : Cell} (hk : 1 ≤ k) (hl : M.H.length ≤ 1000) (hs : M.H[M.s]? = some c)
    (q : ∀ σ', MchAt σ' Y B S { M with s := M.s + 1 } → Fw (MchM B) σ σ' → Φ (.d (ec c)) σ') : CallC prog C k (.ref 664) [.c (.ref B.m)] σ Φ := by
  obtain ⟨k, rfl⟩ := kpred (k := k) (by k_extra "om")
  refine callC_def ["m"] W (by k_is) (by k_is) (by k_extra "bind") (by rfl) (by rfl) (by rfl) (by rfl) (by rfl) ?_
  intro A L hR
  have h' := h
  obtain ⟨y, m1, m2, s1, s2, h1, x1, n1, n2, n3, n4, n5, n6, n7⟩ := h
  k_extra "go"
  exact q _ (h'.setMd { M with s := M.s + 1 } rfl rfl) (Fw.refl.set (.inr (.inr rfl)))

theorem c_get_list_w (W : Wd prog (h0.heap_1_1 P) C) {Y : SymA} {B : MchA} {S : Sy} {M : Mch} (h : MchAt σ Y B S M) {n p : Nat} {nm : PyData} (hk : 2 ≤ k) (hl : M.H.length ≤ 900) (hX : M.X.length ≤ 1000) (hn : M.X[n]? = some (0, p)) (hp : M.H[p]? = some (0, p))
    (q : ∀ σ', MchAt σ' Y B S { M with H := M.H.set p (3, M.H.length), w := true, g := (3, M.H.length) } → Fw (MchM B) σ σ' → Φ (.d (.bool true)) σ') :
    CallC prog C k (.ref 678) [.c (.ref B.m), .d (.tuple [nm, .tuple [.str "x", .int (n : Int)]])] σ Φ := by
  obtain ⟨k, rfl⟩ := kpred (k := k) (by k_extra "om")
  refine callC_def ["m", "ins"] W (by k_is) (by k_is) (by k_extra "bind") (by rfl) (by rfl) (by rfl) (by rfl) (by rfl) ?_
  intro A L hR
  have h' := h
  have D : Der M.H (0, p) (0, p) := .self rfl hp
  have hlt : p < M.H.length := by
    rcases Nat.lt_or_ge p M.H.length with z | z
    · exact z
    · rw [List.getElem?_eq_none z] at hp; cases hp
  obtain ⟨y, m1, m2, s1, s2, h1, x1, n1, n2, n3, n4, n5, n6, n7⟩ := h
  k_extra "go"
  refine opl_call hR (c_read W h' (by k_extra "om") hX hn ?_)
  k_extra "go"
  refine opl_call hR (c_deref W h' D (by k_extra "om") (by k_extra "om") ?_)
  k_extra "go"
  refine opl_call hR (c_bind W h' rfl hlt (by k_extra "om") (by k_extra "om") ?_)
  k_extra "go"
  exact q _ (((h'.setH _).setMd { M with H := M.H.set p (3, M.H.length), w := true } rfl rfl).setMd { M with H := M.H.set p (3, M.H.length), w := true, g := (3, M.H.length) } rfl rfl) (((Fw.refl.set (.inl rfl)).set (.inr (.inr rfl))).set (.inr (.inr rfl)))
end
section
variable {P : Params} {prog : Program} {C : Cx} {k : Nat} {σ : SH} {Φ : V → SH → Prop}
theorem getlt {α : Type} {l : List α} {n : Nat} {x : α} (h : l[n]? = some x) : n < l.length := by
  rcases Nat.lt_or_ge n l.length with z | z
  · exact z
  · rw [List.getElem?_eq_none z] at h; cases h
theorem c_get_list_r (W : Wd prog (h0.heap_1_1 P) C) {Y : SymA} {B : MchA} {S : Sy} {M : Mch} (h : MchAt σ Y B S M) {n p : Nat} {c : Cell} {nm : PyData} (hk : 2 ≤ k) (hl : M.H.length ≤ 900) (hX : M.X.length ≤ 1000) (hn : M.X[n]? = some c) (D : Der M.H c (3, p))
    (q : ∀ σ', MchAt σ' Y B S { M with w := false, s := p } → Fw (MchM B) σ σ' → Φ (.d (.bool true)) σ') :
    CallC prog C k (.ref 678) [.c (.ref B.m), .d (.tuple [nm, .tuple [.str "x", .int (n : Int)]])] σ Φ := by
  obtain ⟨k, rfl⟩ := kpred (k := k) (by k_extra "om")
  refine callC_def ["m", "ins"] W (by k_is) (by k_is) (by k_extra "bind") (by rfl) (by rfl) (by rfl) (by rfl) (by rfl) ?_
  intro A L hR
  have h' := h
  obtain ⟨y, m1, m2, s1, s2, h1, x1, n1, n2, n3, n4, n5, n6, n7⟩ := h
  k_extra "go"
  refine opl_call hR (c_read W h' (by k_extra "om") hX hn ?_)
  k_extra "go"
  refine opl_call hR (c_deref W h' D (by k_extra "om") (by k_extra "om") ?_)
  k_extra "go"
  exact q _ ((h'.setMd { M with w := false } rfl rfl).setMd { M with w := false, s := p } rfl rfl) ((Fw.refl.set (.inr (.inr rfl))).set (.inr (.inr rfl)))
theorem c_get_structure_w (W : Wd prog (h0.heap_1_1 P) C) {Y : SymA} {B : MchA} {S : Sy} {M : Mch} (h : MchAt σ Y B S M) {f n p : Nat} {nm : PyData} (hk : 2 ≤ k) (hl : M.H.length ≤ 900) (hX : M.X.length ≤ 1000) (hn : M.X[n]? = some (0, p)) (hp : M.H[p]? = some (0, p))
    (q : ∀ σ', MchAt σ' Y B S { M with H := (M.H ++ [(6, f)]).set p (2, M.H.length), w := true, g := (2, M.H.length) } → Fw (MchM B) σ σ' → Φ (.d (.bool true)) σ') :
    CallC prog C k (.ref 685) [.c (.ref B.m), .d (.tuple [nm, .int (f : Int), .tuple [.str "x", .int (n : Int)]])] σ Φ := by
  obtain ⟨k, rfl⟩ := kpred (k := k) (by k_extra "om")
  refine callC_def ["m", "ins"] W (by k_is) (by k_is) (by k_extra "bind") (by rfl) (by rfl) (by rfl) (by rfl) (by rfl) ?_
  intro A L hR
  have h' := h
  have D : Der M.H (0, p) (0, p) := .self rfl hp
  have hlt : p < M.H.length := getlt hp
  obtain ⟨y, m1, m2, s1, s2, h1, x1, n1, n2, n3, n4, n5, n6, n7⟩ := h
  k_extra "go"
  refine opl_call hR (c_read W h' (by k_extra "om") hX hn ?_)
  k_extra "go"
  refine opl_call hR (c_deref W h' D (by k_extra "om") (by k_extra "om") ?_)
  k_extra "go"
  refine opl_call hR (c_push W h' _ (by k_extra "om") hl ?_)
  k_extra "go"
  refine opl_call hR (c_bind W (h'.setH _) rfl (by simp; (first | lia | omega)) (by k_extra "om") (by simp; (first | lia | omega)) ?_)
  k_extra "go"
  exact q _ ((((h'.setH (M.H ++ [(6, f)])).setH ((M.H ++ [(6, f)]).set p (2, M.H.length))).setMd { M with H := (M.H ++ [(6, f)]).set p (2, M.H.length), w := true } rfl rfl).setMd { M with H := (M.H ++ [(6, f)]).set p (2, M.H.length), w := true, g := (2, M.H.length) } rfl rfl)
    ((((Fw.refl.set (.inl rfl)).set (.inl rfl)).set (.inr (.inr rfl))).set (.inr (.inr rfl)))
theorem c_get_structure_r (W : Wd prog (h0.heap_1_1 P) C) {Y : SymA} {B : MchA} {S : Sy} {M : Mch} (h : MchAt σ Y B S M) {f n p : Nat} {c : Cell} {nm : PyData} (hk : 2 ≤ k) (hl : M.H.length ≤ 900) (hX : M.X.length ≤ 1000) (hn : M.X[n]? = some c) (D : Der M.H c (2, p)) (hp : M.H[p]? = some (6, f))
    (q : ∀ σ', MchAt σ' Y B S { M with w := false, s := p + 1 } → Fw (MchM B) σ σ' → Φ (.d (.bool true)) σ') :
    CallC prog C k (.ref 685) [.c (.ref B.m), .d (.tuple [nm, .int (f : Int), .tuple [.str "x", .int (n : Int)]])] σ Φ := by
  obtain ⟨k, rfl⟩ := kpred (k := k) (by k_extra "om")
  refine callC_def ["m", "ins"] W (by k_is) (by k_is) (by k_extra "bind") (by rfl) (by rfl) (by rfl) (by rfl) (by rfl) ?_
  intro A L hR
  have h' := h
  obtain ⟨y, m1, m2, s1, s2, h1, x1, n1, n2, n3, n4, n5, n6, n7⟩ := h
  k_extra "go"
  refine opl_call hR (c_read W h' (by k_extra "om") hX hn ?_)
  k_extra "go"
  refine opl_call hR (c_deref W h' D (by k_extra "om") (by k_extra "om") ?_)
  k_extra "go"
  exact q _ ((h'.setMd { M with w := false } rfl rfl).setMd { M with w := false, s := p + 1 } rfl rfl) ((Fw.refl.set (.inr (.inr rfl))).set (.inr (.inr rfl)))
theorem c_unify_variable_r (W : Wd prog (h0.heap_1_1 P) C) {Y : SymA} {B : MchA} {S : Sy} {M : Mch} (h : MchAt σ Y B S M) {n : Nat} {c : Cell} {nm : PyData} (hk : 3 ≤ k) (hl : M.H.length ≤ 900) (hX : M.X.length ≤ 500) (hn : n + 1 ≤ 500) (hw : M.w = false) (hs : M.H[M.s]? = some c)
    (q : ∀ σ', MchAt σ' Y B S { M with X := setX M.X n c, s := M.s + 1 } → Fw (MchM B) σ σ' → Φ (.d (.bool true)) σ') :
    CallC prog C k (.ref 692) [.c (.ref B.m), .d (.tuple [nm, .tuple [.str "x", .int (n : Int)]])] σ Φ := by
  obtain ⟨k, rfl⟩ := kpred (k := k) (by k_extra "om")
  refine callC_def ["m", "ins"] W (by k_is) (by k_is) (by k_extra "bind") (by rfl) (by rfl) (by rfl) (by rfl) (by rfl) ?_
  intro A L hR
  have h' := h
  obtain ⟨y, m1, m2, s1, s2, h1, x1, n1, n2, n3, n4, n5, n6, n7⟩ := h
  k_extra "go"
  refine opl_call hR (c_next_argument W h' (by k_extra "om") (by k_extra "om") hs fun σ₁ y₁ f₁ => ?_)
  k_extra "go"
  refine opl_call hR (c_write W y₁ (by k_extra "om") hX hn fun σ₂ y₂ f₂ => ?_)
  k_extra "go"
  exact q _ y₂ (f₁.trans f₂)
theorem c_unify_variable_w (W : Wd prog (h0.heap_1_1 P) C) {Y : SymA} {B : MchA} {S : Sy} {M : Mch} (h : MchAt σ Y B S M) {n : Nat} {nm : PyData} (hk : 3 ≤ k) (hl : M.H.length ≤ 900) (hX : M.X.length ≤ 500) (hn : n + 1 ≤ 500) (hw : M.w = true)
    (q : ∀ σ', MchAt σ' Y B S { M with H := M.H ++ [(0, M.H.length)], X := setX M.X n (0, M.H.length) } → Fw (MchM B) σ σ' → Φ (.d (.bool true)) σ') :
    CallC prog C k (.ref 692) [.c (.ref B.m), .d (.tuple [nm, .tuple [.str "x", .int (n : Int)]])] σ Φ := by
  obtain ⟨k, rfl⟩ := kpred (k := k) (by k_extra "om")
  refine callC_def ["m", "ins"] W (by k_is) (by k_is) (by k_extra "bind") (by rfl) (by rfl) (by rfl) (by rfl) (by rfl) ?_
  intro A L hR
  have h' := h
  obtain ⟨y, m1, m2, s1, s2, h1, x1, n1, n2, n3, n4, n5, n6, n7⟩ := h
  k_extra "go"
  refine opl_call hR (c_new_var W h' (by k_extra "om") hl ?_)
  k_extra "go"
  refine opl_call hR (c_write W (h'.setH _) (by k_extra "om") hX hn fun σ₂ y₂ f₂ => ?_)
  k_extra "go"
  exact q _ y₂ ((Fw.refl.set (.inl rfl)).trans f₂)
theorem c_unify_constant_r (W : Wd prog (h0.heap_1_1 P) C) {Y : SymA} {B : MchA} {S : Sy} {M : Mch} (h : MchAt σ Y B S M) {c d e : Cell} {nm : PyData} (hk : 3 ≤ k) (hl : M.H.length ≤ 900) (hw : M.w = false) (hs : M.H[M.s]? = some c) (D : Der M.H c d) (d0 : d.1 ≠ 0) (d1 : d.1 ≠ 1)
    (q : ∀ σ', MchAt σ' Y B S { M with s := M.s + 1 } → Fw (MchM B) σ σ' → Φ (.d (.bool (decide (d = e)))) σ') :
    CallC prog C k (.ref 706) [.c (.ref B.m), .d (.tuple [nm, ec e])] σ Φ := by
  obtain ⟨k, rfl⟩ := kpred (k := k) (by k_extra "om")
  refine callC_def ["m", "ins"] W (by k_is) (by k_is) (by k_extra "bind") (by rfl) (by rfl) (by rfl) (by rfl) (by rfl) ?_
  intro A L hR
  have h' := h
  obtain ⟨y, m1, m2, s1, s2, h1, x1, n1, n2, n3, n4, n5, n6, n7⟩ := h
  k_extra "go"
  refine opl_call hR (c_next_argument W h' (by k_extra "om") (by k_extra "om") hs fun σ₁ y₁ f₁ => ?_)
  k_extra "go"
  refine opl_call hR (c_match_constant W y₁ D d0 d1 (by k_extra "om") (by dsimp only; (first | lia | omega)) ?_)
  k_extra "go"
  exact q _ y₁ f₁
theorem c_unify_constant_w (W : Wd prog (h0.heap_1_1 P) C) {Y : SymA} {B : MchA} {S : Sy} {M : Mch} (h : MchAt σ Y B S M) {e : Cell} {nm : PyData} (hk : 3 ≤ k) (hl : M.H.length ≤ 900) (hw : M.w = true)
    (q : ∀ σ', MchAt σ' Y B S { M with H := M.H ++ [e] } → Fw (MchM B) σ σ' → Φ (.d (.bool true)) σ') :
    CallC prog C k (.ref 706) [.c (.ref B.m), .d (.tuple [nm, ec e])] σ Φ := by
  obtain ⟨k, rfl⟩ := kpred (k := k) (by k_extra "om")
  refine callC_def ["m", "ins"] W (by k_is) (by k_is) (by k_extra "bind") (by rfl) (by rfl) (by rfl) (by rfl) (by rfl) ?_
  intro A L hR
  have h' := h
  obtain ⟨y, m1, m2, s1, s2, h1, x1, n1, n2, n3, n4, n5, n6, n7⟩ := h
  k_extra "go"
  refine opl_call hR (c_push W h' _ (by k_extra "om") hl ?_)
  k_extra "go"
  exact q _ (h'.setH _) (Fw.refl.set (.inl rfl))
theorem c_put_list (W : Wd prog (h0.heap_1_1 P) C) {Y : SymA} {B : MchA} {S : Sy} {M : Mch} (h : MchAt σ Y B S M) {n : Nat} {nm : PyData} (hk : 3 ≤ k) (hl : M.H.length ≤ 900) (hX : M.X.length ≤ 500) (hn : n + 1 ≤ 500)
    (q : ∀ σ', MchAt σ' Y B S { M with X := setX M.X n (3, M.H.length) } → Fw (MchM B) σ σ' → Φ (.d (.bool true)) σ') :
    CallC prog C k (.ref 713) [.c (.ref B.m), .d (.tuple [nm, .tuple [.str "x", .int (n : Int)]])] σ Φ := by
  obtain ⟨k, rfl⟩ := kpred (k := k) (by k_extra "om")
  refine callC_def ["m", "ins"] W (by k_is) (by k_is) (by k_extra "bind") (by rfl) (by rfl) (by rfl) (by rfl) (by rfl) ?_
  intro A L hR
  have h' := h
  obtain ⟨y, m1, m2, s1, s2, h1, x1, n1, n2, n3, n4, n5, n6, n7⟩ := h
  k_extra "go"
  refine opl_call hR (c_write W h' (by k_extra "om") hX hn fun σ₂ y₂ f₂ => ?_)
  k_extra "go"
  exact q _ y₂ f₂
theorem c_put_structure (W : Wd prog (h0.heap_1_1 P) C) {Y : SymA} {B : MchA} {S : Sy} {M : Mch} (h : MchAt σ Y B S M) {f n : Nat} {nm : PyData} (hk : 3 ≤ k) (hl : M.H.length ≤ 900) (hX : M.X.length ≤ 500) (hn : n + 1 ≤ 500)
    (q : ∀ σ', MchAt σ' Y B S { M with H := M.H ++ [(6, f)], X := setX M.X n (2, M.H.length) } → Fw (MchM B) σ σ' → Φ (.d (.bool true)) σ') :
    CallC prog C k (.ref 720) [.c (.ref B.m), .d (.tuple [nm, .int (f : Int), .tuple [.str "x", .int (n : Int)]])] σ Φ := by
  obtain ⟨k, rfl⟩ := kpred (k := k) (by k_extra "om")
  refine callC_def ["m", "ins"] W (by k_is) (by k_is) (by k_extra "bind") (by rfl) (by rfl) (by rfl) (by rfl) (by rfl) ?_
  intro A L hR
  have h' := h
  obtain ⟨y, m1, m2, s1, s2, h1, x1, n1, n2, n3, n4, n5, n6, n7⟩ := h
  k_extra "go"
  refine opl_call hR (c_push W h' _ (by k_extra "om") hl ?_)
  k_extra "go"
  refine opl_call hR (c_write W (h'.setH _) (by k_extra "om") hX hn fun σ₂ y₂ f₂ => ?_)
  k_extra "go"
  exact q _ y₂ ((Fw.refl.set (.inl rfl)).trans f₂)
theorem c_set_variable (W : Wd prog (h0.heap_1_1 P) C) {Y : SymA} {B : MchA} {S : Sy} {M : Mch} (h : MchAt σ Y B S M) {n : Nat} {nm : PyData} (hk : 3 ≤ k) (hl : M.H.length ≤ 900) (hX : M.X.length ≤ 500) (hn : n + 1 ≤ 500)
    (q : ∀ σ', MchAt σ' Y B S { M with H := M.H ++ [(0, M.H.length)], X := setX M.X n (0, M.H.length) } → Fw (MchM B) σ σ' → Φ (.d (.bool true)) σ') :
    CallC prog C k (.ref 727) [.c (.ref B.m), .d (.tuple [nm, .tuple [.str "x", .int (n : Int)]])] σ Φ := by
  obtain ⟨k, rfl⟩ := kpred (k := k) (by k_extra "om")
  refine callC_def ["m", "ins"] W (by k_is) (by k_is) (by k_extra "bind") (by rfl) (by rfl) (by rfl) (by rfl) (by rfl) ?_
  intro A L hR
  have h' := h
  obtain ⟨y, m1, m2, s1, s2, h1, x1, n1, n2, n3, n4, n5, n6, n7⟩ := h
  k_extra "go"
  refine opl_call hR (c_new_var W h' (by k_extra "om") hl ?_)
  k_extra "go"
  refine opl_call hR (c_write W (h'.setH _) (by k_extra "om") hX hn fun σ₂ y₂ f₂ => ?_)
  k_extra "go"
  exact q _ y₂ ((Fw.refl.set (.inl rfl)).trans f₂)
theorem c_set_value (W : Wd prog (h0.heap_1_1 P) C) {Y : SymA} {B : MchA} {S : Sy} {M : Mch} (h : MchAt σ Y B S M) {n : Nat} {c : Cell} {nm : PyData} (hk : 3 ≤ k) (hl : M.H.length ≤ 900) (hX : M.X.length ≤ 1000) (hn : M.X[n]? = some c)
    (q : ∀ σ', MchAt σ' Y B S { M with H := M.H ++ [c] } → Fw (MchM B) σ σ' → Φ (.d (.bool true)) σ') :
    CallC prog C k (.ref 734) [.c (.ref B.m), .d (.tuple [nm, .tuple [.str "x", .int (n : Int)]])] σ Φ := by
  obtain ⟨k, rfl⟩ := kpred (k := k) (by k_extra "om")
  refine callC_def ["m", "ins"] W (by k_is) (by k_is) (by k_extra "bind") (by rfl) (by rfl) (by rfl) (by rfl) (by rfl) ?_
  intro A L hR
  have h' := h
  obtain ⟨y, m1, m2, s1, s2, h1, x1, n1, n2, n3, n4, n5, n6, n7⟩ := h
  k_extra "go"
  refine opl_call hR (c_read W h' (by k_extra "om") hX hn ?_)
  k_extra "go"
  refine opl_call hR (c_push W h' _ (by k_extra "om") hl ?_)
  k_extra "go"
  exact q _ (h'.setH _) (Fw.refl.set (.inl rfl))
theorem c_set_constant (W : Wd prog (h0.heap_1_1 P) C) {Y : SymA} {B : MchA} {S : Sy} {M : Mch} (h : MchAt σ Y B S M) {c : Cell} {nm : PyData} (hk : 3 ≤ k) (hl : M.H.length ≤ 900)
    (q : ∀ σ', MchAt σ' Y B S { M with H := M.H ++ [c] } → Fw (MchM B) σ σ' → Φ (.d (.bool true)) σ') :
    CallC prog C k (.ref 741) [.c (.ref B.m), .d (.tuple [nm, ec c])] σ Φ := by
  obtain ⟨k, rfl⟩ := kpred (k := k) (by k_extra "om")
  refine callC_def ["m", "ins"] W (by k_is) (by k_is) (by k_extra "bind") (by rfl) (by rfl) (by rfl) (by rfl) (by rfl) ?_
  intro A L hR
  have h' := h
  obtain ⟨y, m1, m2, s1, s2, h1, x1, n1, n2, n3, n4, n5, n6, n7⟩ := h
  k_extra "go"
  refine opl_call hR (c_push W h' _ (by k_extra "om") hl ?_)
  k_extra "go"
  exact q _ (h'.setH _) (Fw.refl.set (.inl rfl))
end
section
variable {P : Params} {prog : Program} {C : Cx} {k : Nat} {σ : SH} {Φ : V → SH → Prop}
theorem c_reaches (W : Wd prog (h0.heap_1_1 P) C) {Y : SymA} {B : MchA} {S : Sy} {M : Mch} (h : MchAt σ Y B S M) {c d g : Cell} (D : Der M.H c d) (d2 : d.1 ≠ 2) (d3 : d.1 ≠ 3) (hk : 2 ≤ k) (hl : M.H.length ≤ 1000)
    (q : ∀ σ', MchAt σ' Y B S M → Fw (fun _ => False) σ σ' → Φ (.d (.bool false)) σ') : CallC prog C k (.ref 467) [.c (.ref B.st), .d (ec c), .d (ec g)] σ Φ := by
  obtain ⟨k, rfl⟩ := kpred (k := k) (by k_extra "om")
  refine callC_def ["store", "cell", "target"] W (by k_is) (by k_is) (by k_extra "bind") (by rfl) (by rfl) (by rfl) (by rfl) (by rfl) ?_
  intro A L hR
  have h' := h
  obtain ⟨y, m1, m2, s1, s2, h1, x1, n1, n2, n3, n4, n5, n6, n7⟩ := h
  k_extra "go"
  refine opl_set W ⟨_, _, m1⟩ fun b hb => ?_
  k_extra "go"
  refine ⟨by simp, fun w hw => ?_⟩
  have y1 := (h'.set (so := .iset (fun _ => false) 0) (h'.nfoot hb))
  have y2 := y1.set (so := .list [.d (ec c)]) (y1.nfoot hw)
  k_extra "go"
  refine st_loop (loop_turn ?_)
  k_extra "go"
  refine op_pop (xs := []) (X := .d (ec c)) (by k_extra "sh") (by simp) ?_
  have y3 := y2.set (so := .list []) (y1.nfoot hw)
  k_extra "go"
  refine opl_call hR (c_deref W y3 D (by k_extra "om") hl ?_)
  k_extra "go"
  refine opl_call hR (c_is_compound W y3 (by k_extra "om") ?_)
  k_extra "go"
  refine loop_turn ?_
  k_extra "go"
  exact q _ y3 ((Fw.refl.new hb).trans ((Fw.refl.new hw).new hw))

theorem c_closes_cycle (W : Wd prog (h0.heap_1_1 P) C) {Y : SymA} {B : MchA} {S : Sy} {M : Mch} (h : MchAt σ Y B S M) {c d : Cell} (D : Der M.H c d) (d2 : d.1 ≠ 2) (d3 : d.1 ≠ 3) (hk : 3 ≤ k) (hl : M.H.length ≤ 1000)
    (q : ∀ σ', MchAt σ' Y B S M → Fw (fun _ => False) σ σ' → Φ (.d (.bool false)) σ') : CallC prog C k (.ref 671) [.c (.ref B.m), .d (ec c)] σ Φ := by
  obtain ⟨k, rfl⟩ := kpred (k := k) (by k_extra "om")
  refine callC_def ["m", "cell"] W (by k_is) (by k_is) (by k_extra "bind") (by rfl) (by rfl) (by rfl) (by rfl) (by rfl) ?_
  intro A L hR
  have h' := h
  obtain ⟨y, m1, m2, s1, s2, h1, x1, n1, n2, n3, n4, n5, n6, n7⟩ := h
  k_extra "go"
  refine opl_call hR (c_reaches W h' D d2 d3 (by k_extra "om") hl fun σ₁ y₁ f₁ => ?_)
  k_extra "go"
  exact q _ y₁ f₁
theorem c_unify_value_w (W : Wd prog (h0.heap_1_1 P) C) {Y : SymA} {B : MchA} {S : Sy} {M : Mch} (h : MchAt σ Y B S M) {n : Nat} {c d : Cell} {nm : PyData} (hk : 4 ≤ k) (hl : M.H.length ≤ 900) (hX : M.X.length ≤ 1000) (hw : M.w = true) (hn : M.X[n]? = some c) (D : Der M.H c d) (d2 : d.1 ≠ 2) (d3 : d.1 ≠ 3)
    (q : ∀ σ', MchAt σ' Y B S { M with H := M.H ++ [c] } → Fw (MchM B) σ σ' → Φ (.d (.bool true)) σ') :
    CallC prog C k (.ref 699) [.c (.ref B.m), .d (.tuple [nm, .tuple [.str "x", .int (n : Int)]])] σ Φ := by
  obtain ⟨k, rfl⟩ := kpred (k := k) (by k_extra "om")
  refine callC_def ["m", "ins"] W (by k_is) (by k_is) (by k_extra "bind") (by rfl) (by rfl) (by rfl) (by rfl) (by rfl) ?_
  intro A L hR
  have h' := h
  obtain ⟨y, m1, m2, s1, s2, h1, x1, n1, n2, n3, n4, n5, n6, n7⟩ := h
  k_extra "go"
  refine opl_call hR (c_read W h' (by k_extra "om") hX hn ?_)
  k_extra "go"
  refine opl_call hR (c_closes_cycle W h' D d2 d3 (by k_extra "om") (by k_extra "om") fun σ₁ y₁ f₁ => ?_)
  obtain ⟨y', m1', m2', s1', s2', h1', x1', -⟩ := id y₁
  k_extra "go"
  refine opl_call hR (c_push W y₁ _ (by k_extra "om") hl ?_)
  k_extra "go"
  exact q _ (y₁.setH _) ((f₁.mono (by intro _ q; exact q.elim)).set (.inl rfl))
theorem c_is_variable (W : Wd prog (h0.heap_1_1 P) C) {c : Cell} (hk : 1 ≤ k) (q : Φ (.d (.bool (decide (c.1 = 0 ∨ c.1 = 1)))) σ) : CallC prog C k (.ref 439) [.d (ec c)] σ Φ := by
  obtain ⟨k, rfl⟩ := kpred (k := k) (by k_extra "om")
  refine callC_def ["cell"] W (by k_is) (by k_is) (by k_extra "bind") (by rfl) (by rfl) (by rfl) (by rfl) (by rfl) ?_
  intro A L hR
  k_extra "go"
  refine ⟨fun hb => ?_, fun hb => ?_⟩ <;> simp only [decide_eq_true_eq, decide_eq_false_iff_not] at hb
  · k_extra "go"
    rw [show decide ((c.1 : Int) = 1) = decide (c.1 = 0 ∨ c.1 = 1) from decide_eq_decide.mpr (by k_extra "om")]
    exact q
  · rw [show decide ((c.1 : Int) = 0) = decide (c.1 = 0 ∨ c.1 = 1) from decide_eq_decide.mpr (by k_extra "om")]
    k_extra "go"
    exact q
theorem c_same_shape (W : Wd prog (h0.heap_1_1 P) C) {Y : SymA} {B : MchA} {S : Sy} {M : Mch} (h : MchAt σ Y B S M) {c d : Cell} {f n b b' : Nat} (hc : Comp S.F M.H c f n b) (hd : Comp S.F M.H d f n b') (hk : 1 ≤ k) (hl : M.H.length ≤ 1000)
    (q : Φ (.d (.bool true)) σ) : CallC prog C k (.ref 432) [.c (.ref B.st), .d (ec c), .d (ec d)] σ Φ := by
  obtain ⟨k, rfl⟩ := kpred (k := k) (by k_extra "om")
  refine callC_def ["store", "left", "right"] W (by k_is) (by k_is) (by k_extra "bind") (by rfl) (by rfl) (by rfl) (by rfl) (by rfl) ?_
  intro A L hR
  obtain ⟨y, m1, m2, s1, s2, h1, x1, n1, n2, n3, n4, n5, n6, n7⟩ := h
  rcases hc with ⟨c1, c2, c3, c4⟩ | ⟨c1, c2, c3, c4⟩ <;> rcases hd with ⟨e1, e2, e3, e4⟩ | ⟨e1, e2, e3, e4⟩
  · k_extra "go"
    exact q
  · (first | lia | omega)
  · (first | lia | omega)
  · k_extra "go"
    rw [show decide (((6, f) : Cell) = (6, f)) = true by simp]
    exact q
theorem c_pairset_init (W : Wd prog (h0.heap_1_1 P) C) {Y : SymA} {B : MchA} {S : Sy} {M : Mch} (h : MchAt σ Y B S M) {pm pd : Addr} (e1 : σ pm = some (.inst 407 pd)) (e2 : σ pd = some (.ns [])) (nf : ¬ Foot Y B pd) (hk : 1 ≤ k) (hl : M.H.length ≤ 900)
    (q : ∀ ps σ', σ ps = none → MchAt σ' Y B S M → Fw (fun a => a = pd) σ σ' → σ' pd = some (.ns [("span", .d (.int ((M.H.length + 1 : Nat) : Int))), ("met", .c (.ref ps))]) → σ' ps = some (.iset (fun _ => false) 0) → Φ (.d .none) σ') :
    CallC prog C k (.ref 397) [.c (.ref pm), .c (.ref B.st)] σ Φ := by
  obtain ⟨k, rfl⟩ := kpred (k := k) (by k_extra "om")
  refine callC_def ["self", "store"] W (by k_is) (by k_is) (by k_extra "bind") (by rfl) (by rfl) (by rfl) (by rfl) (by rfl) ?_
  intro A L hR
  have h' := h
  obtain ⟨y, m1, m2, s1, s2, h1, x1, n1, n2, n3, n4, n5, n6, n7⟩ := h
  have k1 : B.st ≠ pd := ne_k s1 e2 rfl
  have k2 : B.h ≠ pd := ne_k h1 e2 rfl
  have k3 : B.sd ≠ pd := fun q => nf (by rw [← q]; simp [Foot])
  k_extra "go"
  refine opl_set W ⟨_, _, SH.set_self _ _ _⟩ fun b hb => ?_
  k_extra "go"
  have hbp : b ≠ pd := fun q => by rw [q, SH.set_self] at hb; cases hb
  have hb' : σ b = none := by rw [SH.set_ne _ _ hbp] at hb; exact hb
  have nfb := h'.nfoot hb'
  refine q b _ hb' (((h'.set nf).set nfb).set nf) ((((Fw.refl (M := fun a => a = pd)).set rfl).new hb').set rfl) (SH.set_self _ _ _) (by rw [SH.set_ne _ _ hbp, SH.set_self])
theorem o_pairset (W : Wd prog (h0.heap_1_1 P) C) {A : Around} {env : Env} {m : Loc} {Y : SymA} {B : MchA} {S : Sy} {M : Mch} (hR : Room A (k + 1)) (h : MchAt σ Y B S M) (hk : 1 ≤ k) (hl : M.H.length ≤ 900)
    (q : ∀ pm pd ps σ', σ pm = none → σ pd = none → σ ps = none → MchAt σ' Y B S M → Fw (fun _ => False) σ σ' → σ' pm = some (.inst 407 pd) → σ' pd = some (.ns [("span", .d (.int ((M.H.length + 1 : Nat) : Int))), ("met", .c (.ref ps))]) → σ' ps = some (.iset (fun _ => false) 0) → Φ (.c (.ref pm)) σ') :
    OpL prog C A env (.ref 407) [.c (.ref B.st)] m σ Φ := by
  refine opl_cls W hR (by k_is) (by k_is) (by k_is) ⟨_, _, h.m⟩ fun x dx hx hdx hne => ?_
  have y1 := (h.set (so := .ns []) (h.nfoot hdx)).set (so := .inst 407 dx) (h.nfoot hx)
  refine c_pairset_init W y1 (SH.set_self _ _ _) (by rw [SH.set_ne _ _ hne.symm, SH.set_self]) (h.nfoot hdx) hk hl fun ps σ' hps y' f' e2 e3 => ⟨rfl, ?_⟩
  have p1 : ps ≠ x := fun z => by rw [z, SH.set_self] at hps; cases hps
  have p2 : ps ≠ dx := fun z => by rw [z, SH.set_ne _ _ hne.symm, SH.set_self] at hps; cases hps
  have p3 : σ ps = none := by rw [SH.set_ne _ _ p1, SH.set_ne _ _ p2] at hps; exact hps
  refine q x dx ps σ' hx hdx p3 y' (fun a so e _ => ?_) (f' _ _ (SH.set_self _ _ _) hne) e2 e3
  have a1 : a ≠ x := ne_new hx e
  have a2 : a ≠ dx := ne_new hdx e
  exact f' _ _ (by rw [SH.set_ne _ _ a1, SH.set_ne _ _ a2]; exact e) a2
theorem c_pairset_add (W : Wd prog (h0.heap_1_1 P) C) {pm pd ps : Addr} {sp n : Nat} {T : Int → Bool} {c d : Cell} (e1 : σ pm = some (.inst 407 pd)) (e2 : σ pd = some (.ns [("span", .d (.int (sp : Int))), ("met", .c (.ref ps))])) (e3 : σ ps = some (.iset T n)) (hsp : sp ≤ 2000) (hn : n ≤ 1000) (hk : 1 ≤ k)
    (q1 : Φ (.d (.bool false)) σ) (q2 : ∀ T', Φ (.d (.bool true)) (σ.set ps (.iset T' (n + 1)))) :
    CallC prog C k (.ref 404) [.c (.ref pm), .d (ec c), .d (ec d)] σ Φ := by
  obtain ⟨k, rfl⟩ := kpred (k := k) (by k_extra "om")
  refine callC_def ["self", "left", "right"] W (by k_is) (by k_is) (by k_extra "bind") (by rfl) (by rfl) (by rfl) (by rfl) (by rfl) ?_
  intro A L hR
  k_extra "go"

  refine ⟨fun hb => ?_, fun hb => ?_⟩
  · k_extra "go"
    exact q1
  · k_extra "go"
    rw [hb]
    exact q2 _
end
section
variable {P : Params} {prog : Program} {C : Cx} {k : Nat} {σ : SH} {Φ : V → SH → Prop}
theorem c_functor_ofC (W : Wd prog (h0.heap_1_1 P) C) {Y : SymA} {B : MchA} {S : Sy} {M : Mch} (h : MchAt σ Y B S M) {c : Cell} {f n b : Nat} (hc : Comp S.F M.H c f n b) (hk : 1 ≤ k) (hl : M.H.length ≤ 1000)
    (q : Φ (.d (.int (f : Int))) σ) : CallC prog C k (.ref 293) [.c (.ref B.st), .d (ec c)] σ Φ := by
  rcases hc with ⟨c1, c2, c3, c4⟩ | ⟨c1, c2, c3, c4, c5⟩
  · exact c_functor_of W h (d := (0, 0)) (.inl c1) hk hl (by rw [if_pos c1]; rw [c2] at q; exact q)
  · exact c_functor_of W h (d := (6, f)) (.inr ⟨c1, c3⟩) hk hl (by rw [if_neg (by k_extra "om")]; exact q)
theorem c_widthC (W : Wd prog (h0.heap_1_1 P) C) {Y : SymA} {B : MchA} {S : Sy} {M : Mch} (h : MchAt σ Y B S M) {c : Cell} {f n b : Nat} (hc : Comp S.F M.H c f n b) (hk : 2 ≤ k) (hl : M.H.length ≤ 1000) (hF : S.F.length ≤ 1000)
    (q : Φ (.d (.int (n : Int))) σ) : CallC prog C k (.ref 300) [.c (.ref B.st), .d (ec c)] σ Φ := by
  rcases hc with ⟨c1, c2, c3, c4⟩ | ⟨c1, c2, c3, ⟨u, c4⟩, c5⟩
  · exact c_width W h (d := (0, 0)) (u := (0, 0)) (.inl c1) hk hl hF (by rw [if_pos c1]; rw [c3] at q; exact q)
  · exact c_width W h (d := (6, f)) (u := (u, n)) (.inr ⟨c1, c3, c4⟩) hk hl hF (by rw [if_neg (by k_extra "om")]; exact q)
theorem c_baseC (W : Wd prog (h0.heap_1_1 P) C) {Y : SymA} {B : MchA} {S : Sy} {M : Mch} (h : MchAt σ Y B S M) {c : Cell} {f n b : Nat} (hc : Comp S.F M.H c f n b) (hk : 1 ≤ k)
    (q : Φ (.d (.int (b : Int))) σ) : CallC prog C k (.ref 307) [.c (.ref B.st), .d (ec c)] σ Φ := by
  rcases hc with ⟨c1, c2, c3, c4⟩ | ⟨c1, c2, c3, ⟨u, c4⟩, c5⟩
  · exact c_base W h hk (by rw [if_pos c1]; rw [c4] at q; exact q)
  · exact c_base W h hk (by rw [if_neg (by k_extra "om")]; rw [c5] at q; exact q)
theorem c_push_pairs1 (W : Wd prog (h0.heap_1_1 P) C) {Y : SymA} {B : MchA} {S : Sy} {M : Mch} (h : MchAt σ Y B S M) {c d c1 d1 : Cell} {f b b' : Nat} {wk : Addr} {w : List V} (hc : Comp S.F M.H c f 1 b) (hd : Comp S.F M.H d f 1 b') (g1 : M.H[b]? = some c1) (g2 : M.H[b']? = some d1)
    (ew : σ wk = some (.list w)) (nf : ¬ Foot Y B wk) (hw : w.length ≤ 900) (hk : 3 ≤ k) (hl : M.H.length ≤ 1000) (hF : S.F.length ≤ 1000)
    (q : ∀ σ', MchAt σ' Y B S M → Fw (fun a => a = wk) σ σ' → σ' wk = some (.list (w ++ [pr c1 d1])) → Φ (.d .none) σ') : CallC prog C k (.ref 425) [.c (.ref B.st), .d (ec c), .d (ec d), .c (.ref wk)] σ Φ := by
  obtain ⟨k, rfl⟩ := kpred (k := k) (by k_extra "om")
  refine callC_def ["store", "left", "right", "work"] W (by k_is) (by k_is) (by k_extra "bind") (by rfl) (by rfl) (by rfl) (by rfl) (by rfl) ?_
  intro A L hR
  have h' := h
  obtain ⟨y, m1, m2, s1, s2, h1, x1, n1, n2, n3, n4, n5, n6, n7⟩ := h
  k_extra "go"
  refine opl_call hR (c_baseC W h' hc (by k_extra "om") ?_)
  k_extra "go"
  refine opl_call hR (c_baseC W h' hd (by k_extra "om") ?_)
  k_extra "go"
  refine st_for_range hR ?_
  k_extra "go"
  refine opl_call hR (c_widthC W h' hc (by k_extra "om") hl hF ?_)
  k_extra "go"
  refine rng_down W (w := 1) (by k_extra "om") (by k_extra "om") fun r hr => ?_
  have y1 := h'.set (so := .range (((1 : Nat) : Int) - 1) (-1) (-1)) (h'.nfoot hr)
  rw [show ((rangeL (((1 : Nat) : Int) - 1) (-1) 1).map fun i => V.d (.int i)) = [V.d (.int ((0 : Nat) : Int))] from rfl]
  refine forL_cons trivial ?_
  k_extra "go"
  refine forL_nil trivial ?_
  k_extra "go"
  have hwr : wk ≠ r := ne_new hr ew
  exact q _ (y1.set nf) (((Fw.refl (M := fun a => a = wk)).new hr).set rfl) (SH.set_self _ _ _)
theorem c_push_pairs2 (W : Wd prog (h0.heap_1_1 P) C) {Y : SymA} {B : MchA} {S : Sy} {M : Mch} (h : MchAt σ Y B S M) {c d c1 d1 c2 d2 : Cell} {f b b' : Nat} {wk : Addr} {w : List V} (hc : Comp S.F M.H c f 2 b) (hd : Comp S.F M.H d f 2 b')
    (g1 : M.H[b]? = some c1) (g2 : M.H[b']? = some d1) (g3 : M.H[b + 1]? = some c2) (g4 : M.H[b' + 1]? = some d2)
    (ew : σ wk = some (.list w)) (nf : ¬ Foot Y B wk) (hw : w.length ≤ 900) (hk : 3 ≤ k) (hl : M.H.length ≤ 1000) (hF : S.F.length ≤ 1000)
    (q : ∀ σ', MchAt σ' Y B S M → Fw (fun a => a = wk) σ σ' → σ' wk = some (.list ((w ++ [pr c2 d2]) ++ [pr c1 d1])) → Φ (.d .none) σ') : CallC prog C k (.ref 425) [.c (.ref B.st), .d (ec c), .d (ec d), .c (.ref wk)] σ Φ := by
  obtain ⟨k, rfl⟩ := kpred (k := k) (by k_extra "om")
  refine callC_def ["store", "left", "right", "work"] W (by k_is) (by k_is) (by k_extra "bind") (by rfl) (by rfl) (by rfl) (by rfl) (by rfl) ?_
  intro A L hR
  have h' := h
  obtain ⟨y, m1, m2, s1, s2, h1, x1, n1, n2, n3, n4, n5, n6, n7⟩ := h
  k_extra "go"
  refine opl_call hR (c_baseC W h' hc (by k_extra "om") ?_)
  k_extra "go"
  refine opl_call hR (c_baseC W h' hd (by k_extra "om") ?_)
  k_extra "go"
  refine st_for_range hR ?_
  k_extra "go"
  refine opl_call hR (c_widthC W h' hc (by k_extra "om") hl hF ?_)
  k_extra "go"
  refine rng_down W (w := 2) (by k_extra "om") (by k_extra "om") fun r hr => ?_
  have y1 := h'.set (so := .range (((2 : Nat) : Int) - 1) (-1) (-1)) (h'.nfoot hr)
  rw [show ((rangeL (((2 : Nat) : Int) - 1) (-1) 2).map fun i => V.d (.int i)) = [V.d (.int ((1 : Nat) : Int)), V.d (.int ((0 : Nat) : Int))] from rfl]
  have hwr : wk ≠ r := ne_new hr ew
  have y2 := y1.set (so := .list (w ++ [pr c2 d2])) nf
  have k1 : B.st ≠ wk := fun q => nf (by rw [← q]; simp [Foot])
  have k2 : B.sd ≠ wk := fun q => nf (by rw [← q]; simp [Foot])
  have k3 : B.h ≠ wk := fun q => nf (by rw [← q]; simp [Foot])
  refine forL_cons trivial ?_
  k_extra "go"
  refine forL_cons trivial ?_
  k_extra "go"
  refine forL_nil trivial ?_
  k_extra "go"
  exact q _ (y2.set nf) ((((Fw.refl (M := fun a => a = wk)).new hr).set rfl).set rfl) (SH.set_self _ _ _)
theorem Comp.ne0 {F H : List Cell} {c : Cell} {f n b : Nat} (h : Comp F H c f n b) : c.1 ≠ 0 ∧ c.1 ≠ 1 := by
  rcases h.is with h | h <;> (first | lia | omega)
theorem US.pop {σ : SH} {Y : SymA} {B : MchA} {S : Sy} {M : Mch} {pm pd ps wk : Addr} {w w' : List V} {n : Nat} (h : US σ Y B S M pm pd ps wk w n) : US (σ.set wk (.list w')) Y B S M pm pd ps wk w' n := by
  obtain ⟨T, eT⟩ := h.es
  refine ⟨h.y.set h.nwk, ?_, ?_, ⟨T, ?_⟩, SH.set_self _ _ _, h.nps, h.nwk⟩
  · rw [SH.set_ne _ _ (ne_k h.em h.ew rfl)]; exact h.em
  · rw [SH.set_ne _ _ (ne_k h.ed h.ew rfl)]; exact h.ed
  · rw [SH.set_ne _ _ (ne_k eT h.ew rfl)]; exact eT
theorem c_push_pairsN (W : Wd prog (h0.heap_1_1 P) C) {Y : SymA} {B : MchA} {S : Sy} {M : Mch} (h : MchAt σ Y B S M) {c d : Cell} {f b b' i : Nat} {wk : Addr} {w X : List V} (hc : Comp S.F M.H c f i b) (hd : Comp S.F M.H d f i b') (hp : PPX M.H b b' i w X)
    (ew : σ wk = some (.list w)) (nf : ¬ Foot Y B wk) (hw : w.length ≤ 900) (hk : 3 ≤ k) (hl : M.H.length ≤ 1000) (hF : S.F.length ≤ 1000)
    (q : ∀ σ', MchAt σ' Y B S M → Fw (fun a => a = wk) σ σ' → σ' wk = some (.list X) → Φ (.d .none) σ') : CallC prog C k (.ref 425) [.c (.ref B.st), .d (ec c), .d (ec d), .c (.ref wk)] σ Φ := by
  rcases hp with ⟨rfl, d1, d2, g1, g2, rfl⟩ | ⟨rfl, d1, d2, x1, x2, g1, g2, g3, g4, rfl⟩
  · exact c_push_pairs1 W h hc hd g1 g2 ew nf hw hk hl hF q
  · exact c_push_pairs2 W h hc hd g1 g2 g3 g4 ew nf hw hk hl hF q
theorem c_unify (W : Wd prog (h0.heap_1_1 P) C) {Y : SymA} {B : MchA} {S : Sy} {M : Mch} (h : MchAt σ Y B S M) {t : Tm} {c d : Cell} {β β' : Nat → Nat} {l l' : List Nat} (hg : t.ground = true) (D1 : Den S.F M.H β t c l) (D2 : Den S.F M.H β' t d l') (hs : t.size ≤ 800) (hk : 4 ≤ k) (hl : M.H.length ≤ 900) (hF : S.F.length ≤ 1000)
    (q : ∀ σ', MchAt σ' Y B S M → Fw (fun _ => False) σ σ' → Φ (.d (.bool true)) σ') : CallC prog C k (.ref 446) [.c (.ref B.st), .d (ec c), .d (ec d), .d (.bool true)] σ Φ := by
  obtain ⟨k, rfl⟩ := kpred (k := k) (by k_extra "om")
  obtain ⟨k, rfl⟩ := kpred (k := k) (by k_extra "om")
  refine callC_def ["store", "c1", "c2", "occurs"] W (by k_is) (by k_is) (by k_extra "bind") (by rfl) (by rfl) (by rfl) (by rfl) (by rfl) ?_
  intro A L hR
  k_extra "go"
  refine o_pairset W hR h (by k_extra "om") hl fun pm pd ps σ₁ hpm hpd hps y₁ f₁ e1 e2 e3 => ?_
  k_extra "go"
  refine ⟨by simp, fun wk hwk => ?_⟩
  k_extra "go"
  refine st_loop ?_
  have hw0 : σ wk = none := by
    cases z : σ wk with
    | none => rfl
    | some so => rw [f₁ _ _ z id] at hwk; cases hwk
  have hU0 : US (σ₁.set wk (.list ([] ++ [pr c d]))) Y B S M pm pd ps wk ([] ++ [pr c d]) 0 :=
    ⟨y₁.set (y₁.nfoot hwk), by rw [SH.set_ne _ _ (ne_new hwk e1)]; exact e1, by rw [SH.set_ne _ _ (ne_new hwk e2)]; exact e2, ⟨_, by rw [SH.set_ne _ _ (ne_new hwk e3)]; exact e3⟩, SH.set_self _ _ _, h.nfoot hps, y₁.nfoot hwk⟩
  refine (unify_ind (G := fun m σ => LoopC _ _ _ _ _ _ m σ _) ?_ ?_ t _ _ [] 0 c d l l' hg D1 D2 hU0 ?_ ?_ ?_ ?_)
  · intro σ m w n c1 c2 e hU hL hw D1 D2 q
    have hU' := hU
    obtain ⟨y, u1, u2, ⟨T, u3⟩, u4, u5, u6⟩ := hU
    obtain ⟨a1, a2, a3⟩ := hL
    have b1 : σ B.st = _ := y.st
    have b2 : σ B.sd = _ := y.sd
    have k1 : B.st ≠ wk := fun q => u6 (by rw [← q]; simp [Foot])
    have k2 : B.sd ≠ wk := fun q => u6 (by rw [← q]; simp [Foot])
    refine loop_turn ?_
    k_extra "go"
    refine st_assign2 hR ?_
    k_extra "go"
    refine op_pop (by k_extra "sh") (by k_extra "le") ⟨_, _, rfl, ?_⟩
    have U2 := hU'.pop (w' := w)
    obtain ⟨y2, -⟩ := id U2
    k_extra "go"
    refine opl_call hR (c_deref W y2 D1 (by k_extra "om") (by k_extra "om") ?_)
    k_extra "go"
    refine opl_call hR (c_deref W y2 D2 (by k_extra "om") (by k_extra "om") ?_)
    k_extra "go"
    exact q _ _ U2 ⟨by k_extra "lo", by k_extra "lo", by k_extra "lo"⟩ (Fw.refl.set (.inl rfl))
  · intro σ m w n c1 c2 e1 e2 f b b' i X hU hL hw hn D1 D2 hne C1 C2 hp q1 q2
    have hU' := hU
    obtain ⟨y, u1, u2, ⟨T, u3⟩, u4, u5, u6⟩ := hU
    obtain ⟨a1, a2, a3⟩ := hL
    have b1 : σ B.st = _ := y.st
    have b2 : σ B.sd = _ := y.sd
    have k1 : B.st ≠ wk := fun q => u6 (by rw [← q]; simp [Foot])
    have k2 : B.sd ≠ wk := fun q => u6 (by rw [← q]; simp [Foot])
    have z1 := C1.ne0
    have z2 := C2.ne0
    have z3 := C1.is
    refine loop_turn ?_
    k_extra "go"
    refine st_assign2 hR ?_
    k_extra "go"
    refine op_pop (by k_extra "sh") (by k_extra "le") ⟨_, _, rfl, ?_⟩
    have U2 := hU'.pop (w' := w)
    obtain ⟨y2, v1, v2, ⟨T2, v3⟩, v4, v5, v6⟩ := id U2
    k_extra "go"
    refine opl_call hR (c_deref W y2 D1 (by k_extra "om") (by k_extra "om") ?_)
    k_extra "go"
    refine opl_call hR (c_deref W y2 D2 (by k_extra "om") (by k_extra "om") ?_)
    k_extra "go"
    refine opl_call hR (c_is_variable W (by k_extra "om") ?_)
    k_extra "go"
    refine opl_call hR (c_is_variable W (by k_extra "om") ?_)
    k_extra "go"
    refine opl_call hR (c_is_compound W y2 (by k_extra "om") ?_)
    k_extra "go"
    refine opl_call hR (c_same_shape W y2 C1 C2 (by k_extra "om") (by k_extra "om") ?_)
    k_extra "go"
    refine opl_call hR (c_pairset_add W v1 v2 v3 (by k_extra "om") (by k_extra "om") (by k_extra "om") ?_ fun T' => ?_)
    · k_extra "go"
      exact q1 _ _ U2 ⟨by k_extra "lo", by k_extra "lo", by k_extra "lo"⟩ (Fw.refl.set (.inl rfl))
    · k_extra "go"
      have kp : ps ≠ wk := ne_k u3 u4 rfl
      have y3 := y2.set (so := .iset T' (n + 1)) v5
      refine opl_call hR (c_push_pairsN W y3 C1 C2 hp (by rw [SH.set_ne _ _ (Ne.symm kp)]; exact v4) v6 hw (by k_extra "om") (by k_extra "om") hF fun σ₂ y₄ f₂ e₂ => ?_)
      k_extra "go"
      have f2 := (Fw.refl (M := fun a => a = wk ∨ a = ps) (σ := σ)).set (a := wk) (so := .list w) (.inl rfl)
      refine q2 σ₂ _ ⟨y₄, ?_, ?_, ⟨T', ?_⟩, e₂, v5, v6⟩ ⟨by k_extra "lo", by k_extra "lo", by k_extra "lo"⟩ ((f2.set (.inr rfl)).trans (f₂.mono fun a q => .inl q))
      · exact f₂ _ _ (by rw [SH.set_ne _ _ (ne_k v1 v3 rfl)]; exact v1) (ne_k v1 v4 rfl)
      · exact f₂ _ _ (by rw [SH.set_ne _ _ (ne_k v2 v3 rfl)]; exact v2) (ne_k v2 v4 rfl)
      · exact f₂ _ _ (SH.set_self _ _ _) kp
  · exact ⟨by k_extra "lo", by k_extra "lo", by k_extra "lo"⟩
  · simp; (first | lia | omega)
  · (first | lia | omega)
  · intro σ' m' n' hU hL f _
    obtain ⟨y, u1, u2, ⟨T, u3⟩, u4, u5, u6⟩ := hU
    obtain ⟨a1, a2, a3⟩ := hL
    refine loop_turn ?_
    k_extra "go"
    refine q σ' y fun a so e _ => f _ _ (by rw [SH.set_ne _ _ (ne_new hwk (f₁ _ _ e id))]; exact f₁ _ _ e id) ?_
    rintro (rfl | rfl)
    · rw [hw0] at e; cases e
    · rw [hps] at e; cases e
end
section
variable {P : Params} {prog : Program} {C : Cx} {k : Nat} {σ : SH} {Φ : V → SH → Prop}
theorem c_areas_unify (W : Wd prog (h0.heap_1_1 P) C) {Y : SymA} {B : MchA} {S : Sy} {M : Mch} (h : MchAt σ Y B S M) {t : Tm} {c d : Cell} {β β' : Nat → Nat} {l l' : List Nat} (hg : t.ground = true) (D1 : Den S.F M.H β t c l) (D2 : Den S.F M.H β' t d l') (hs : t.size ≤ 800) (hk : 5 ≤ k) (hl : M.H.length ≤ 900) (hF : S.F.length ≤ 1000)
    (q : ∀ σ', MchAt σ' Y B S M → Fw (fun _ => False) σ σ' → Φ (.d (.bool true)) σ') : CallC prog C k (.ref 517) [.c (.ref B.m), .d (ec c), .d (ec d)] σ Φ := by
  obtain ⟨k, rfl⟩ := kpred (k := k) (by k_extra "om")
  refine callC_def ["self", "c1", "c2"] W (by k_is) (by k_is) (by k_extra "bind") (by rfl) (by rfl) (by rfl) (by rfl) (by rfl) ?_
  intro A L hR
  have h' := h
  obtain ⟨y, m1, m2, s1, s2, h1, x1, n1, n2, n3, n4, n5, n6, n7⟩ := h
  k_extra "go"
  refine opl_call hR (c_unify W h' hg D1 D2 hs (by k_extra "om") hl hF fun σ' y' f' => ?_)
  k_extra "go"
  exact q σ' y' f'
theorem c_unify_value_r (W : Wd prog (h0.heap_1_1 P) C) {Y : SymA} {B : MchA} {S : Sy} {M : Mch} (h : MchAt σ Y B S M) {n : Nat} {nm : PyData} {t : Tm} {c d : Cell} {β β' : Nat → Nat} {l l' : List Nat} (hg : t.ground = true) (D1 : Den S.F M.H β t c l) (D2 : Den S.F M.H β' t d l') (hs : t.size ≤ 800) (hk : 6 ≤ k)
    (hl : M.H.length ≤ 900) (hF : S.F.length ≤ 1000) (hX : M.X.length ≤ 1000) (hw : M.w = false) (hn : M.X[n]? = some c) (hd : M.H[M.s]? = some d)
    (q : ∀ σ', MchAt σ' Y B S { M with s := M.s + 1 } → Fw (MchM B) σ σ' → Φ (.d (.bool true)) σ') :
    CallC prog C k (.ref 699) [.c (.ref B.m), .d (.tuple [nm, .tuple [.str "x", .int (n : Int)]])] σ Φ := by
  obtain ⟨k, rfl⟩ := kpred (k := k) (by k_extra "om")
  refine callC_def ["m", "ins"] W (by k_is) (by k_is) (by k_extra "bind") (by rfl) (by rfl) (by rfl) (by rfl) (by rfl) ?_
  intro A L hR
  have h' := h
  obtain ⟨y, m1, m2, s1, s2, h1, x1, n1, n2, n3, n4, n5, n6, n7⟩ := h
  k_extra "go"
  refine opl_call hR (c_read W h' (by k_extra "om") hX hn ?_)
  k_extra "go"
  refine opl_call hR (c_next_argument W h' (by k_extra "om") (by k_extra "om") hd fun σ₁ y₁ f₁ => ?_)
  k_extra "go"
  refine opl_call hR (c_areas_unify W y₁ hg D1 D2 hs (by k_extra "om") hl hF fun σ₂ y₂ f₂ => ?_)
  k_extra "go"
  exact q _ y₂ (f₁.trans (f₂.mono (by intro _ q; exact q.elim)))
theorem c_reserve (W : Wd prog (h0.heap_1_1 P) C) {Y : SymA} {B : MchA} {S : Sy} {M : Mch} (h : MchAt σ Y B S M) {n : Nat} (hk : 1 ≤ k) (hl : M.H.length + n ≤ 900)
    (q : ∀ σ', MchAt σ' Y B S { M with H := M.H ++ resL M.H.length n } → Fw (MchM B) σ σ' → Φ (.d (.int (M.H.length : Nat))) σ') : CallC prog C k (.ref 216) [.c (.ref B.st), .d (.int (n : Int))] σ Φ := by
  obtain ⟨k, rfl⟩ := kpred (k := k) (by k_extra "om")
  refine callC_def ["self", "count"] W (by k_is) (by k_is) (by k_extra "bind") (by rfl) (by rfl) (by rfl) (by rfl) (by rfl) ?_
  intro A L hR
  have h' := h
  obtain ⟨y, m1, m2, s1, s2, h1, x1, n1, n2, n3, n4, n5, n6, n7⟩ := h
  k_extra "go"
  refine st_for_range hR ?_
  k_extra "go"
  refine rng_up W (w := n) (by k_extra "om") fun r hr => ?_
  have y1 := h'.set (so := .range 0 (n : Int) 1) (h'.nfoot hr)
  have f1 : Fw (MchM B) σ (σ.set r (.range 0 (n : Int) 1)) := Fw.refl.new hr
  refine forL_up (fun i m' σ' => MchAt σ' Y B S { M with H := M.H ++ resL M.H.length i } ∧ Fw (MchM B) σ σ' ∧ m' "self" = some (.c (.ref B.st)) ∧ m' "first" = some (.d (.int (M.H.length : Nat)))) ?_ ?_ _ _ ⟨?_, f1, by k_extra "lo", by k_extra "lo"⟩
  · rintro i r m' σ' hi ⟨y, f, a1, a2⟩ kk
    have y' := y
    obtain ⟨-, m1, m2, s1, s2, h1, x1, -⟩ := y'
    refine forL_cons trivial ?_
    have hlen : (M.H ++ resL M.H.length i).length = M.H.length + i := by simp [resL_len]
    k_extra "go"
    refine kk _ _ ⟨?_, f.set (.inl rfl), by k_extra "lo", by k_extra "lo"⟩
    have e : M.H ++ resL M.H.length (i + 1) = (M.H ++ resL M.H.length i) ++ [(0, M.H.length + i)] := by rw [List.append_assoc, ← resL_snoc]
    rw [e]
    exact y.setH _
  · rintro m' σ' ⟨y, f, a1, a2⟩
    refine forL_nil trivial ?_
    k_extra "go"
    exact q _ y f
  · have e : M.H ++ resL M.H.length 0 = M.H := by simp [resL]
    rw [e]; exact y1

theorem c_new_block_l (W : Wd prog (h0.heap_1_1 P) C) {Y : SymA} {B : MchA} {S : Sy} {M : Mch} (h : MchAt σ Y B S M) (hk : 2 ≤ k) (hl : M.H.length + 2 ≤ 900)
    (q : ∀ σ', MchAt σ' Y B S { M with H := M.H ++ resL M.H.length 2 } → Fw (MchM B) σ σ' → Φ (.d (ec (3, M.H.length))) σ') : CallC prog C k (.ref 321) [.c (.ref B.st), .d (.int 0)] σ Φ := by
  obtain ⟨k, rfl⟩ := kpred (k := k) (by k_extra "om")
  refine callC_def ["self", "f"] W (by k_is) (by k_is) (by k_extra "bind") (by rfl) (by rfl) (by rfl) (by rfl) (by rfl) ?_
  intro A L hR
  have h' := h
  obtain ⟨y, m1, m2, s1, s2, h1, x1, n1, n2, n3, n4, n5, n6, n7⟩ := h
  k_extra "go"
  refine opl_call hR (c_reserve W h' (n := 2) (by k_extra "om") hl fun σ₁ y₁ f₁ => ?_)
  k_extra "go"
  exact q _ y₁ f₁
theorem c_new_block_s (W : Wd prog (h0.heap_1_1 P) C) {Y : SymA} {B : MchA} {S : Sy} {M : Mch} (h : MchAt σ Y B S M) {f u n : Nat} (hf : f ≠ 0) (hu : S.F[f]? = some (u, n)) (hk : 2 ≤ k) (hl : M.H.length + n + 2 ≤ 900) (hF : S.F.length ≤ 1000)
    (q : ∀ σ', MchAt σ' Y B S { M with H := (M.H ++ resL M.H.length (n + 1)).set M.H.length (6, f) } → Fw (MchM B) σ σ' → Φ (.d (ec (2, M.H.length))) σ') : CallC prog C k (.ref 321) [.c (.ref B.st), .d (.int (f : Int))] σ Φ := by
  obtain ⟨k, rfl⟩ := kpred (k := k) (by k_extra "om")
  refine callC_def ["self", "f"] W (by k_is) (by k_is) (by k_extra "bind") (by rfl) (by rfl) (by rfl) (by rfl) (by rfl) ?_
  intro A L hR
  have h' := h
  obtain ⟨y, m1, m2, s1, s2, h1, x1, n1, n2, n3, n4, n5, n6, n7⟩ := h
  obtain ⟨ya, yd, -⟩ := id y
  k_extra "go"
  refine opl_call hR (c_arity W y (by k_extra "om") hF hu ?_)
  k_extra "go"
  refine opl_call hR (c_reserve W h' (n := 1 + n) (by k_extra "om") (by k_extra "om") fun σ₁ y₁ f₁ => ?_)
  rw [Nat.add_comm 1 n] at y₁
  obtain ⟨-, m1', m2', s1', s2', h1', x1', -⟩ := id y₁
  have hlen : (M.H ++ resL M.H.length (n + 1)).length = M.H.length + n + 1 := by simp [resL_len]; (first | lia | omega)
  k_extra "go"
  exact q _ (y₁.setH _) (f₁.set (.inl rfl))
end
section
variable {P : Params} {prog : Program} {C : Cx} {k : Nat} {σ : SH} {Φ : V → SH → Prop}
noncomputable def wv (p : Pd) : V := .d (.tuple [.int (p.1 : Int), .tuple (p.2.map Tm.enc)])
theorem c_new_block (W : Wd prog (h0.heap_1_1 P) C) {Y : SymA} {B : MchA} {S : Sy} {M : Mch} (h : MchAt σ Y B S M) {f n : Nat} (ok : Fok S.F f n) (hk : 2 ≤ k) (hl : M.H.length + n + 2 ≤ 900) (hF : S.F.length ≤ 1000)
    (q : ∀ σ', MchAt σ' Y B S { M with H := blkH M.H f n } → Fw (MchM B) σ σ' → Φ (.d (ec (blkC M.H f))) σ') : CallC prog C k (.ref 321) [.c (.ref B.st), .d (.int (f : Int))] σ Φ := by
  rcases ok with ⟨rfl, rfl⟩ | ⟨h0, u, hu⟩
  · exact c_new_block_l W h hk (by k_extra "om") q
  · refine c_new_block_s W h h0 hu hk hl hF fun σ' y f' => ?_
    have := q σ'
    unfold blkH blkC at this
    rw [if_neg h0, if_neg h0] at this
    exact this y f'
theorem c_baseB (W : Wd prog (h0.heap_1_1 P) C) {Y : SymA} {B : MchA} {S : Sy} {M : Mch} (h : MchAt σ Y B S M) {H : List Cell} {f : Nat} (hk : 1 ≤ k)
    (q : Φ (.d (.int (blkB H f : Nat))) σ) : CallC prog C k (.ref 307) [.c (.ref B.st), .d (ec (blkC H f))] σ Φ := by
  refine c_base W h hk ?_
  unfold blkB at q
  unfold blkC
  by_cases z : f = 0
  · rw [if_pos z] at q ⊢; exact q
  · rw [if_neg z] at q ⊢; exact q
inductive PT1 (Y : SymA) (B : MchA) (S : Sy) (M : Mch) (T : Tm) (wk : Addr) (σ0 : SH) (n : Nat) (m' : Loc) (σ' : SH) : Prop
  | mk (H : List Cell) (pre pend : List Pd) (cl : List Nat) (h1 : MchAt σ' Y B S { M with H := H }) (h2 : PI S.F T (blkC M.H T.fn) H pend cl) (h3 : σ' wk = some (.list ((pre ++ pend).map wv))) (h4 : m' "self" = some (.c (.ref B.st))) (h5 : m' "waiting" = some (.c (.ref wk)))
    (h6 : m' "at" = some (.d (.int (pre.length : Nat)))) (h7 : m' "made" = some (.d (ec (blkC M.H T.fn)))) (h8 : Fw (fun a => MchM B a ∨ a = wk) σ0 σ') (h9 : n = pend.length + (pend.map fun p => sizes p.2).sum) (h10 : pre.length + n ≤ 800)
inductive PT2 (Y : SymA) (B : MchA) (S : Sy) (M : Mch) (T : Tm) (wk : Addr) (σ0 : SH) (pre : List Pd) (n : Nat) (items : List Tm) (m' : Loc) (σ' : SH) : Prop
  | mk (H : List Cell) (pl : Nat) (pend : List Pd) (cl : List Nat) (h1 : MchAt σ' Y B S { M with H := H }) (h2 : PI S.F T (blkC M.H T.fn) H ((pl, items) :: pend) cl) (h3 : σ' wk = some (.list ((pre ++ pend).map wv))) (h4 : m' "self" = some (.c (.ref B.st)))
    (h5 : m' "waiting" = some (.c (.ref wk))) (h6 : m' "at" = some (.d (.int (pre.length : Nat)))) (h7 : m' "made" = some (.d (ec (blkC M.H T.fn)))) (h8 : m' "place" = some (.d (.int (pl : Nat)))) (h9 : Fw (fun a => MchM B a ∨ a = wk) σ0 σ')
    (h10 : pend.length + (pend.map fun p => sizes p.2).sum + sizes items + 1 ≤ n)
theorem c_put_term (W : Wd prog (h0.heap_1_1 P) C) {Y : SymA} {B : MchA} {S : Sy} {M : Mch} (h : MchAt σ Y B S M) {T : Tm} {tb : Addr} (et : σ tb = some (.idict [])) (hs : T.isS = true) (hw : T.wf S.F) (hg : T.ground = true) (hz : M.H.length + 3 * T.size ≤ 800) (hk : 4 ≤ k) (hF : S.F.length ≤ 1000)
    (q : ∀ σ' H' c l, MchAt σ' Y B S { M with H := H' } → Fw (MchM B) σ σ' → Den S.F H' (fun _ => 0) T c l → l.Nodup → H'.length ≤ 800 → Φ (.d (ec c)) σ') :
    CallC prog C k (.ref 364) [.c (.ref B.st), .d T.enc, .c (.ref tb)] σ Φ := by
  obtain ⟨k, rfl⟩ := kpred (k := k) (by k_extra "om")
  rw [Tm.enc_s hs]
  refine callC_def ["self", "term", "table"] W (by k_is) (by k_is) (by k_extra "bind") (by rfl) (by rfl) (by rfl) (by rfl) (by rfl) ?_
  intro A L hR
  have h' := h
  obtain ⟨y, m1, m2, s1, s2, h1, x1, n1, n2, n3, n4, n5, n6, n7⟩ := h
  have ok := Tm.wf_fok hw hs
  have hsz := Tm.size_args hs
  have hal := Tm.args_len hs
  k_extra "go"
  refine st_for_list hR ?_
  k_extra "go"
  refine opl_list_idict0 hR W et fun ls hls => ⟨_, [], rfl, ?_⟩
  have y1 := h'.set (so := .list []) (h'.nfoot hls)
  refine forL_nil (SH.set_self _ _ _) ?_
  k_extra "go"
  refine opl_call hR (c_new_block W y1 ok (by k_extra "om") (by k_extra "om") hF fun σ₂ y₂ f₂ => ?_)
  obtain ⟨-, m1', m2', s1', s2', h1', x1', -⟩ := id y₂
  k_extra "go"
  refine opl_call hR (c_baseB W y₂ (by k_extra "om") ?_)
  k_extra "go"
  refine ⟨by simp, fun wk hwk => ?_⟩
  have y3 := y₂.set (so := .list [wv (blkB M.H T.fn, T.args)]) (y₂.nfoot hwk)
  k_extra "go"
  refine st_while (PT1 Y B S M T wk (σ.set ls (.list [])))
    (1 + sizes T.args) ⟨blkH M.H T.fn T.args.length, [], [(blkB M.H T.fn, T.args)], [M.H.length], y3, PI.init hs hw hg (by k_extra "om"), SH.set_self _ _ _, by k_extra "lo", by k_extra "lo", by k_extra "lo", by k_extra "lo",
      (f₂.mono fun a q => .inl q).set (.inr rfl), by simp, by simp; (first | lia | omega)⟩ ?_
  rintro n m' σ' ⟨H, pre, pend, cl, y4, hP, ew, a1, a2, a3, a4, f4, hn, hb⟩
  obtain ⟨-, m1, m2, s1, s2, h1, x1, -⟩ := id y4
  have nf : ¬ Foot Y B wk := y₂.nfoot hwk
  have hwl : ((pre ++ pend).map wv).length ≤ 1000 := by simp; (first | lia | omega)
  have hHl := hP.sz
  have hSelf : SeqAt.shaped (.str "v") = true := by decide +kernel
  k_extra "go"
  cases pend with
  | nil =>
    refine ⟨fun z => ?_, fun _ => ?_⟩
    · simp at z
    · k_extra "go"
      obtain ⟨l, D, nd⟩ := hP.done
      have f5 : Fw (MchM B) σ σ' := fun a so e hn => f4 _ _ ((Fw.refl (M := MchM B)).new hls _ _ e hn) (by
        rintro (z | rfl)
        · exact hn z
        · have := ne_new hls e
          rw [f₂ _ _ (by rw [SH.set_ne _ _ this]; exact e) hn] at hwk; cases hwk)
      exact q σ' H _ l y4 f5 D nd (by k_extra "om")
  | cons p0 rest =>
    obtain ⟨b, as⟩ := p0
    refine ⟨fun _ => ?_, fun z => ?_⟩
    · k_extra "go"
      refine st_assign2 hR ?_
      k_extra "go"
      refine op_listN ew (n := pre.length) (X := wv (b, as)) (by simp) (by k_extra "om") ⟨_, _, rfl, ?_⟩
      k_extra "go"
      refine st_for_tuple hR ?_
      k_extra "go"
      refine ⟨_, rfl, ?_⟩
      rw [List.map_map]
      refine forL_ind (V.d ∘ Tm.enc) (PT2 Y B S M T wk (σ.set ls (.list [])) (pre ++ [(b, as)]) n) ?_ ?_ as _ _ ⟨H, b, rest, cl, y4, hP, by rw [ew, List.append_assoc]; rfl, by k_extra "lo", by k_extra "lo", by rw [List.length_append]; k_extra "lo", by k_extra "lo", by k_extra "lo", f4, by rw [hn]; simp; (first | lia | omega)⟩
      · rintro x r m2 σ2 ⟨H2, pl, pend2, cl2, y5, hQ, ew2, c1, c2, c3, c4, c5, f5, hn2⟩ kk
        have hx := hQ.wf _ (.head _) x (.head _)
        have hrg := hQ.rng _ (.head _)
        simp only [List.length_cons] at hrg
        have hHl2 := hQ.sz
        obtain ⟨-, m1, m2', s1, s2, h1, x1, -⟩ := id y5
        have hpos := Tm.size_pos x
        simp only [sizes, List.map_cons, List.sum_cons] at hn2
        cases hxs : x.isS with
        | false =>
          have h3 := hQ.const hxs
          have y6 := y5.setH (H2.set pl x.cell)
          cases x with
          | v j => cases hx.2
          | s1 f z => cases hxs
          | s2 f z z' => cases hxs
          | a j =>
            refine forL_cons' (Y := .d (.tuple [.str "a", .int (j : Int)])) rfl trivial ?_
            k_extra "go"
            refine kk _ _ ⟨_, pl + 1, pend2, cl2, y6, h3, ?_, by k_extra "lo", by k_extra "lo", by k_extra "lo", by k_extra "lo", by k_extra "lo", f5.set (.inl (.inl rfl)), by simp only [sizes]; (first | lia | omega)⟩
            rw [SH.set_ne _ _ (fun z => nf (by rw [z]; simp [Foot]))]; exact ew2
          | i j =>
            refine forL_cons' (Y := .d (.tuple [.str "i", .int (j : Int)])) rfl trivial ?_
            k_extra "go"
            refine kk _ _ ⟨_, pl + 1, pend2, cl2, y6, h3, ?_, by k_extra "lo", by k_extra "lo", by k_extra "lo", by k_extra "lo", by k_extra "lo", f5.set (.inl (.inl rfl)), by simp only [sizes]; (first | lia | omega)⟩
            rw [SH.set_ne _ _ (fun z => nf (by rw [z]; simp [Foot]))]; exact ew2
        | true =>
          have h3 := hQ.comp hxs
          have okx := Tm.wf_fok hx.1 hxs
          have hax := Tm.args_len hxs
          have hsx := Tm.size_args hxs
          have hbl := blk_len H2 x.fn x.args.length okx.n2
          have hbl2 := blk_le H2 x.fn
          refine forL_cons' (Y := .d (.tuple [.str "s", .int (x.fn : Int), .tuple (x.args.map Tm.enc)])) (congrArg V.d (Tm.enc_s hxs)) trivial ?_
          k_extra "go"
          refine opl_call hR (c_new_block W y5 okx (by k_extra "om") (by dsimp only; (first | lia | omega)) hF fun σ3 y6 f6 => ?_)
          obtain ⟨-, q1, q2, q3, q4, q5, q6, -⟩ := id y6
          have y7 := y6.setH ((blkH H2 x.fn x.args.length).set pl (blkC H2 x.fn))
          have ew3 : σ3 wk = some (.list (((pre ++ [(b, as)]) ++ pend2).map wv)) := f6 _ _ ew2 (by rintro (z | z | z) <;> exact nf (by rw [z]; simp [Foot]))
          have kh : wk ≠ B.h := fun z => nf (by rw [z]; simp [Foot])
          k_extra "go"
          refine opl_call hR (c_baseB W y7 (by k_extra "om") ?_)
          k_extra "go"
          refine kk _ _ ⟨_, pl + 1, pend2 ++ [(blkB H2 x.fn, x.args)], _, y7.set nf, h3, by rw [SH.set_self]; simp [wv], by k_extra "lo", by k_extra "lo", by k_extra "lo", by k_extra "lo", by k_extra "lo",
            ((f5.trans (f6.mono fun a q => .inl q)).set (.inl (.inl rfl))).set (.inr rfl), ?_⟩
          simp only [List.length_append, List.length_cons, List.length_nil, List.map_append, List.map_cons, List.map_nil, List.sum_append, List.sum_cons, List.sum_nil]
          simp only [sizes] at hsx hn2 ⊢
          (first | lia | omega)
      · rintro m2 σ2 ⟨H2, pl, pend2, cl2, y5, hQ, ew2, c1, c2, c3, c4, c5, f5, hn2⟩
        refine forL_nil trivial ?_
        k_extra "go"
        exact whileK_next (n' := pend2.length + (pend2.map fun p => sizes p.2).sum) (by k_extra "om") ⟨H2, pre ++ [(b, as)], pend2, cl2, y5, hQ.drop, ew2, c1, c2, by simpa using c3, c4, f5, rfl, by simp; (first | lia | omega)⟩
    · simp at z; (first | lia | omega)
end
section
variable {P : Params} {prog : Program} {C : Cx} {k : Nat} {σ : SH} {Φ : V → SH → Prop}
theorem c_whole_size (W : Wd prog (h0.heap_1_1 P) C) {Y : SymA} {B : MchA} {S : Sy} {M : Mch} (h : MchAt σ Y B S M) {e : Cell} {f n b : Nat} {sz : Addr} {sv : List (Int × V)} {ss : Nat → Nat} (hc : Comp S.F M.H e f n b) (esz : σ sz = some (.idict sv))
    (hp : ∀ i < n, ∃ d l, M.H[b + i]? = some d ∧ PS sv M.H d (ss i) l) (hn : n ≤ 10) (hk : 3 ≤ k) (hl : M.H.length ≤ 1000) (hF : S.F.length ≤ 1000)
    (q : ∀ σ', MchAt σ' Y B S M → Fw (fun _ => False) σ σ' → Φ (.d (.int ((1 + sumTo ss n : Nat) : Int))) σ') : CallC prog C k (.ref 371) [.c (.ref B.st), .d (ec e), .c (.ref sz)] σ Φ := by
  obtain ⟨k, rfl⟩ := kpred (k := k) (by k_extra "om")
  refine callC_def ["self", "cell", "sizes"] W (by k_is) (by k_is) (by k_extra "bind") (by rfl) (by rfl) (by rfl) (by rfl) (by rfl) ?_
  intro A L hR
  have h' := h
  obtain ⟨y, m1, m2, s1, s2, h1, x1, n1, n2, n3, n4, n5, n6, n7⟩ := h
  k_extra "go"
  refine opl_call hR (c_baseC W h' hc (by k_extra "om") ?_)
  k_extra "go"
  refine st_for_range hR ?_
  k_extra "go"
  refine opl_call hR (c_widthC W h' hc (by k_extra "om") hl hF ?_)
  k_extra "go"
  refine rng_up W (w := n) (by k_extra "om") fun r hr => ?_
  have y1 := h'.set (so := .range 0 (n : Int) 1) (h'.nfoot hr)
  have f1 : Fw (fun _ => False) σ (σ.set r (.range 0 (n : Int) 1)) := Fw.refl.new hr
  have esz' : (σ.set r (.range 0 (n : Int) 1)) sz = some (.idict sv) := by rw [SH.set_ne _ _ (ne_new hr esz)]; exact esz
  refine forL_up (fun i m' σ' => σ' = σ.set r (.range 0 (n : Int) 1) ∧ m' "self" = some (.c (.ref B.st)) ∧ m' "sizes" = some (.c (.ref sz)) ∧ m' "place" = some (.d (.int (b : Nat))) ∧ m' "size" = some (.d (.int (1 + sumTo ss i : Nat)))) ?_ ?_ _ _ ⟨rfl, by k_extra "lo", by k_extra "lo", by k_extra "lo", by k_extra "lo"⟩
  · rintro i rr m' σ' hi ⟨rfl, a1, a2, a3, a4⟩ kk
    obtain ⟨d, l, hd, e', D, hps⟩ := hp i hi
    obtain ⟨-, m1, m2, s1, s2, h1, x1, -⟩ := id y1
    refine forL_cons trivial ?_
    k_extra "go"
    refine opl_call hR (c_deref W y1 D (by k_extra "om") hl ?_)
    k_extra "go"
    refine opl_call hR (c_is_compound W y1 (by k_extra "om") ?_)
    rcases hps with ⟨z1, z2, z3⟩ | ⟨z1, z2, z3⟩
    · k_extra "go"
      exact kk _ _ ⟨rfl, by k_extra "lo", by k_extra "lo", by k_extra "lo", by rw [show 1 + sumTo ss (i + 1) = 1 + sumTo ss i + ss i by simp [sumTo]; (first | lia | omega)]; k_extra "lo"⟩
    · k_extra "go"
      exact kk _ _ ⟨rfl, by k_extra "lo", by k_extra "lo", by k_extra "lo", by rw [show 1 + sumTo ss (i + 1) = 1 + sumTo ss i + 1 by simp [sumTo]; (first | lia | omega)]; k_extra "lo"⟩
  · rintro m' σ' ⟨rfl, a1, a2, a3, a4⟩
    refine forL_nil trivial ?_
    k_extra "go"
    exact q _ y1 f1
theorem c_take_term (W : Wd prog (h0.heap_1_1 P) C) {Y : SymA} {B : MchA} {S : Sy} {M : Mch} (h : MchAt σ Y B S M) {t : Tm} {c : Cell} {l : List Nat} {β : Nat → Nat} {tb : Addr} (D : Den S.F M.H β t c l) (nd : l.Nodup) (hβ : ∀ n ∈ t.vars, ∀ m ∈ t.vars, β n = β m → n = m)
    (et : σ tb = some (.idict [])) (nt : ¬ Foot Y B tb) (hs : t.size ≤ 200) (hk : 5 ≤ k) (hl : M.H.length ≤ 900) (hF : S.F.length ≤ 1000)
    (q : ∀ σ', MchAt σ' Y B S M → Fw (fun a => a = tb) σ σ' → Φ (.d (numT t []).1.enc) σ') : CallC prog C k (.ref 378) [.c (.ref B.st), .d (ec c), .c (.ref tb)] σ Φ := by
  obtain ⟨k, rfl⟩ := kpred (k := k) (by k_extra "om")
  refine callC_def ["self", "cell", "table"] W (by k_is) (by k_is) (by k_extra "bind") (by rfl) (by rfl) (by rfl) (by rfl) (by rfl) ?_
  intro A L hR
  obtain ⟨e0, De, e01, De0⟩ := D.deref
  k_extra "go"
  refine ev_dict (.idict []) (.inl rfl) W fun kn hkn => ?_
  k_extra "go"
  refine ev_dict (.idict []) (.inl rfl) W fun sz hsz => ?_
  k_extra "go"
  refine ⟨by simp, fun rs hrs => ?_⟩
  have y1 := h.set (so := .idict []) (h.nfoot hkn)
  have y2 := y1.set (so := .idict []) (y1.nfoot hsz)
  have y3 := y2.set (so := .list []) (y2.nfoot hrs)
  obtain ⟨-, m1, m2, s1, s2, h1, x1, -⟩ := id y3
  k_extra "go"
  refine opl_call hR (c_globalise W y3 De e01 (by k_extra "om") (by k_extra "om") ?_)
  k_extra "go"
  refine ⟨by simp, fun wk hwk => ?_⟩
  k_extra "go"
  refine st_loop ?_
  have k1 : tb ≠ kn := ne_new hkn et
  have et1 : (σ.set kn (.idict [])) tb = some (.idict []) := by rw [SH.set_ne _ _ k1]; exact et
  have k2 : tb ≠ sz := ne_new hsz et1
  have k3 : kn ≠ sz := ne_new hsz (SH.set_self _ _ _)
  have et2 : ((σ.set kn (.idict [])).set sz (.idict [])) tb = some (.idict []) := by rw [SH.set_ne _ _ k2]; exact et1
  have ek2 : ((σ.set kn (.idict [])).set sz (.idict [])) kn = some (.idict []) := by rw [SH.set_ne _ _ k3, SH.set_self]
  have k4 : tb ≠ rs := ne_new hrs et2
  have k5 : kn ≠ rs := ne_new hrs ek2
  have k6 : sz ≠ rs := ne_new hrs (SH.set_self _ _ _)
  have et3 : (((σ.set kn (.idict [])).set sz (.idict [])).set rs (.list [])) tb = some (.idict []) := by rw [SH.set_ne _ _ k4]; exact et2
  have ek3 : (((σ.set kn (.idict [])).set sz (.idict [])).set rs (.list [])) kn = some (.idict []) := by rw [SH.set_ne _ _ k5]; exact ek2
  have es3 : (((σ.set kn (.idict [])).set sz (.idict [])).set rs (.list [])) sz = some (.idict []) := by rw [SH.set_ne _ _ k6, SH.set_self]
  have er3 : (((σ.set kn (.idict [])).set sz (.idict [])).set rs (.list [])) rs = some (.list []) := SH.set_self _ _ _
  have hS0 : TS ((((σ.set kn (.idict [])).set sz (.idict [])).set rs (.list [])).set wk (.list ([] ++ [vis e0]))) Y B S M ⟨kn, sz, rs, wk, tb⟩ β ([] ++ [vis e0]) [] [] [] [] :=
    ⟨y3.set (y3.nfoot hwk), by rw [SH.set_ne _ _ (ne_new hwk ek3)]; exact ek3, by rw [SH.set_ne _ _ (ne_new hwk es3)]; exact es3, by rw [SH.set_ne _ _ (ne_new hwk er3)]; exact er3, SH.set_self _ _ _,
      by rw [SH.set_ne _ _ (ne_new hwk et3)]; exact et3, k3, k1.symm, k2.symm, ne_new hwk er3, h.nfoot hkn, y1.nfoot hsz, y2.nfoot hrs, y3.nfoot hwk, nt⟩
  have f0 : Fw (fun a => a = tb) σ ((((σ.set kn (.idict [])).set sz (.idict [])).set rs (.list [])).set wk (.list ([] ++ [vis e0]))) := ((((Fw.refl.new hkn).trans (Fw.refl.new hsz)).trans (Fw.refl.new hrs)).trans (Fw.refl.new hwk))
  have fresh : ∀ a so, σ a = some so → a ≠ kn ∧ a ≠ sz ∧ a ≠ rs ∧ a ≠ wk := fun a so ea => by
    have b1 := ne_new hkn ea
    have e1 : (σ.set kn (.idict [])) a = some so := by rw [SH.set_ne _ _ b1]; exact ea
    have b2 := ne_new hsz e1
    have e2 : ((σ.set kn (.idict [])).set sz (.idict [])) a = some so := by rw [SH.set_ne _ _ b2]; exact e1
    have b3 := ne_new hrs e2
    have e3 : (((σ.set kn (.idict [])).set sz (.idict [])).set rs (.list [])) a = some so := by rw [SH.set_ne _ _ b3]; exact e2
    exact ⟨b1, b2, b3, ne_new hwk e3⟩
  refine (take_ind (Vs := t.vars) (G := fun m σ => LoopC _ _ _ _ _ _ m σ _) hβ ?_ ?_ t _ _ [] [] [] [] [] e0 l De0 nd (fun _ _ => rfl) hS0 ?_ (fun n hn => hn) (fun n hn => by cases hn) ?_ ?_ ?_ ?_ ?_ ?_)
  · intro σ m w r kv sv T c e hS hL hw hr hkv hT D hV
    have hS' := hS
    obtain ⟨y, t1, t2, t3, t4, t5, u1, u2, u3, u4, v1, v2, v3, v4, v5⟩ := hS
    obtain ⟨a1, a2, a3, a4, a5, a6⟩ := hL
    refine loop_turn ?_
    k_extra "go"
    refine st_assign2 hR ?_
    k_extra "go"
    refine op_pop (by k_extra "sh") (by k_extra "le") ⟨_, _, rfl, ?_⟩
    have U2 := hS'.setW w
    obtain ⟨y2, p1, p2, p3, p4, p5, -⟩ := id U2
    obtain ⟨-, m1, m2, s1, s2, h1, x1, -⟩ := id y2
    k_extra "go"
    refine opl_call hR (c_deref W y2 D (by k_extra "om") (by k_extra "om") ?_)
    cases hV with
    | v n hi q =>
      by_cases hn : n ∈ T
      · have hv : vat (tbl β T) (β n : Nat) = some (V.d (.int (ixOf T n : Nat))) := by rw [vat_tbl T hi, if_pos hn]
        have en : numT (.v n) T = (.v (ixOf T n), T) := if_pos hn
        rw [en] at q
        k_extra "go"
        exact q _ _ (U2.addR (.v (ixOf T n))) ⟨by k_extra "lo", by k_extra "lo", by k_extra "lo", by k_extra "lo", by k_extra "lo", by k_extra "lo"⟩ ((Fw.refl.set (.inr (.inr (.inr (.inl rfl))))).set (.inr (.inr (.inl rfl))))
      · have hv : vat (tbl β T) (β n : Nat) = none := by rw [vat_tbl T hi, if_neg hn]
        have en : numT (.v n) T = (.v T.length, T ++ [n]) := if_neg hn
        rw [en] at q
        have U3 := U2.setT (T ++ [n])
        have hv2 : vat (tbl β (T ++ [n])) (β n : Nat) = some (V.d (.int (T.length : Nat))) := by
          rw [← tbl_put hi hn, vat_put, if_pos rfl]
        k_extra "go"
        exact q _ _ (U3.addR (.v T.length)) ⟨by k_extra "lo", by k_extra "lo", by k_extra "lo", by k_extra "lo", by k_extra "lo", by k_extra "lo"⟩ (((Fw.refl.set (.inr (.inr (.inr (.inl rfl))))).set (.inr (.inr (.inr (.inr rfl))))).set (.inr (.inr (.inl rfl))))
    | leaf t ht hg q =>
      cases t with
      | v j => cases hg
      | s1 f z => cases ht
      | s2 f z z' => cases ht
      | a j =>
        simp only [Tm.cell]
        k_extra "go"
        exact q _ _ (U2.addR (.a j)) ⟨by k_extra "lo", by k_extra "lo", by k_extra "lo", by k_extra "lo", by k_extra "lo", by k_extra "lo"⟩ ((Fw.refl.set (.inr (.inr (.inr (.inl rfl))))).set (.inr (.inr (.inl rfl))))
      | i j =>
        simp only [Tm.cell]
        k_extra "go"
        exact q _ _ (U2.addR (.i j)) ⟨by k_extra "lo", by k_extra "lo", by k_extra "lo", by k_extra "lo", by k_extra "lo", by k_extra "lo"⟩ ((Fw.refl.set (.inr (.inr (.inr (.inl rfl))))).set (.inr (.inr (.inl rfl))))
    | s e f n b C hk0 hq =>
      have z1 := C.is
      have z2 := C.ne0
      have hn2 : n ≤ 2 := by rcases hq with ⟨z, _⟩ | ⟨z, _⟩ <;> rw [z] <;> decide
      have U3 := (U2.setK (vput kv (e.2 : Nat) (.d .none))).setW (w ++ [bld e])
      k_extra "go"
      refine opl_call hR (c_baseC W U3.y C (by k_extra "om") ?_)
      k_extra "go"
      refine st_for_range hR ?_
      k_extra "go"
      refine opl_call hR (c_widthC W U3.y C (by k_extra "om") (by k_extra "om") hF ?_)
      k_extra "go"
      refine rng_down W (w := n) (by k_extra "om") (by k_extra "om") fun rg hrg => ?_
      have U4 := U3.fw (N := fun _ => False) (Fw.refl.new (so := .range ((n : Int) - 1) (-1) (-1)) hrg) (fun _ _ z => z)
      obtain ⟨y4, p1, p2, p3, p4, p5, -⟩ := id U4
      obtain ⟨-, m1, m2, s1, s2, h1, x1, -⟩ := id y4
      have ff : Fw (TN ⟨kn, sz, rs, wk, tb⟩) σ _ := (((Fw.refl (σ := σ)).set (a := wk) (so := .list w) (.inr (.inr (.inr (.inl rfl))))).set (a := kn) (so := .idict (vput kv (e.2 : Nat) (.d .none))) (.inl rfl)).set (a := wk) (so := .list (w ++ [bld e])) (.inr (.inr (.inr (.inl rfl))))
      have ff2 := ff.trans (Fw.refl.new (so := .range ((n : Int) - 1) (-1) (-1)) hrg)
      rcases hq with ⟨rfl, d, g, q⟩ | ⟨rfl, d, d', g, g', q⟩
      · rw [show ((rangeL (((1 : Nat) : Int) - 1) (-1) 1).map fun i => V.d (.int i)) = [V.d (.int ((0 : Nat) : Int))] from rfl]
        refine forL_cons trivial ?_
        k_extra "go"
        refine forL_nil trivial ?_
        k_extra "go"
        exact q _ _ (U4.setW ((w ++ [bld e]) ++ [vis d])) ⟨by k_extra "lo", by k_extra "lo", by k_extra "lo", by k_extra "lo", by k_extra "lo", by k_extra "lo"⟩ (ff2.set (.inr (.inr (.inr (.inl rfl)))))
      · rw [show ((rangeL (((2 : Nat) : Int) - 1) (-1) 2).map fun i => V.d (.int i)) = [V.d (.int ((1 : Nat) : Int)), V.d (.int ((0 : Nat) : Int))] from rfl]
        refine forL_cons trivial ?_
        k_extra "go"
        have U5 := U4.setW ((w ++ [bld e]) ++ [vis d'])
        obtain ⟨y5, p1, p2, p3, p4, p5, -⟩ := id U5
        obtain ⟨-, m1, m2, s1, s2, h1, x1, -⟩ := id y5
        refine forL_cons trivial ?_
        k_extra "go"
        refine forL_nil trivial ?_
        k_extra "go"
        exact q _ _ (U5.setW (((w ++ [bld e]) ++ [vis d']) ++ [vis d])) ⟨by k_extra "lo", by k_extra "lo", by k_extra "lo", by k_extra "lo", by k_extra "lo", by k_extra "lo"⟩ ((ff2.set (.inr (.inr (.inr (.inl rfl))))).set (.inr (.inr (.inr (.inl rfl)))))
  · intro σ m w r kv sv T X e f n b ss hS hL hw hr hkv hsv hX hf hal hn2 hxz C hps hsum q
    have eX : X.enc = .tuple [.str "s", .int (f : Int), .tuple (X.args.map Tm.enc)] := by rw [Tm.enc_s hX, hf]
    rw [eX] at q
    have hS' := hS
    obtain ⟨y, t1, t2, t3, t4, t5, u1, u2, u3, u4, v1, v2, v3, v4, v5⟩ := hS
    obtain ⟨a1, a2, a3, a4, a5, a6⟩ := hL
    have z1 := C.is
    have z2 := C.ne0
    have hlen : ((r ++ X.args).map fun t => V.d t.enc).length = r.length + n := by simp [hal]
    have edrop : ((r ++ X.args).map fun t => V.d t.enc).drop r.length = (X.args.map Tm.enc).map V.d := by
      rw [List.map_append, List.drop_left' (by simp), List.map_map]; rfl
    have etake : ((r ++ X.args).map fun t => V.d t.enc).take r.length = r.map fun t => V.d t.enc := by
      rw [List.map_append, List.take_left' (by simp)]
    refine loop_turn ?_
    k_extra "go"
    refine st_assign2 hR ?_
    k_extra "go"
    refine op_pop (by k_extra "sh") (by k_extra "le") ⟨_, _, rfl, ?_⟩
    have U2 := hS'.setW w
    obtain ⟨y2, p1, p2, p3, p4, p5, -⟩ := id U2
    obtain ⟨-, m1, m2, s1, s2, h1, x1, -⟩ := id y2
    k_extra "go"
    refine opl_call hR (c_functor_ofC W y2 C (by k_extra "om") (by k_extra "om") ?_)
    k_extra "go"
    refine opl_call hR (c_widthC W y2 C (by k_extra "om") (by k_extra "om") hF ?_)
    k_extra "go"
    refine ⟨rs, _, r.length, rfl, congrArg (fun i => V.d (PyData.int i)) (by k_extra "om"), by k_extra "sh", by (first | lia | omega), fun bb hbb => ?_⟩
    rw [edrop]
    have U3 := U2.fw (N := fun _ => False) (Fw.refl.new (so := .list ((X.args.map Tm.enc).map V.d)) hbb) (fun _ _ z => z)
    obtain ⟨y3, p1, p2, p3, p4, p5, -⟩ := id U3
    k_extra "go"
    refine opl_tuple (SH.set_self _ _ _) ⟨by simp [hal]; (first | lia | omega), _, unD_map _, ?_⟩
    k_extra "go"
    refine ⟨rs, _, r.length, rfl, congrArg (fun i => V.d (PyData.int i)) (by k_extra "om"), by k_extra "sh", by (first | lia | omega), by (first | lia | omega), ?_⟩
    rw [etake]
    have U4 := U3.setR r
    have U5 := U4.setK (vput kv (e.2 : Nat) (.d (.tuple [.str "s", .int (f : Int), .tuple (X.args.map Tm.enc)])))
    obtain ⟨y4, p1, p2, p3, p4, p5, -⟩ := id U4
    obtain ⟨y5, p1, p2, p3, p4, p5, -⟩ := id U5
    obtain ⟨-, m1, m2, s1, s2, h1, x1, -⟩ := id y5
    k_extra "go"
    refine opl_call hR (c_whole_size W y5 (ss := ss) C p2 hps (by k_extra "om") (by k_extra "om") (by k_extra "om") hF fun σ6 y6 f6 => ?_)
    rw [hsum]
    have U6 := U5.fw f6 (fun _ _ z => z)
    have U7 := U6.setS (vput sv (e.2 : Nat) (.d (.int (X.size : Nat))))
    have hv : vat (vput sv (e.2 : Nat) (.d (.int (X.size : Nat)))) (e.2 : Nat) = some (.d (.int (X.size : Nat))) := by rw [vat_put, if_pos rfl]
    obtain ⟨y6', p1, p2, p3, p4, p5, -⟩ := id U6
    obtain ⟨y7, p1, p2, p3, p4, p5, -⟩ := id U7
    obtain ⟨-, m1, m2, s1, s2, h1, x1, -⟩ := id y7
    have ff : Fw (TN ⟨kn, sz, rs, wk, tb⟩) σ _ := (Fw.refl (σ := σ)).set (a := wk) (so := .list w) (.inr (.inr (.inr (.inl rfl))))
    have ff2 := (((ff.trans (Fw.refl.new (so := .list ((X.args.map Tm.enc).map V.d)) hbb)).set (a := rs) (so := .list (r.map fun t => V.d t.enc)) (.inr (.inr (.inl rfl)))).set (a := kn) (so := .idict (vput kv (e.2 : Nat) (.d (.tuple [.str "s", .int (f : Int), .tuple (X.args.map Tm.enc)])))) (.inl rfl)).trans (f6.mono (N := TN ⟨kn, sz, rs, wk, tb⟩) fun _ z => z.elim)
    k_extra "go"
    have U8 := U7.addR X
    rw [eX] at U8
    exact q _ _ U8 ⟨by k_extra "lo", by k_extra "lo", by k_extra "lo", by k_extra "lo", by k_extra "lo", by k_extra "lo"⟩ ((ff2.set (.inr (.inl rfl))).set (.inr (.inr (.inl rfl))))
  · exact ⟨by k_extra "lo", by k_extra "lo", by k_extra "lo", by k_extra "lo", by k_extra "lo", by k_extra "lo"⟩
  · simp; (first | lia | omega)
  · simp; (first | lia | omega)
  · simp; (first | lia | omega)
  · simp; (first | lia | omega)
  · simp; (first | lia | omega)
  · intro σ' m' kv' sv' hS hL f _ _ _ _ _
    obtain ⟨y, t1, t2, t3, t4, t5, u1, u2, u3, u4, v1, v2, v3, v4, v5⟩ := hS
    obtain ⟨a1, a2, a3, a4, a5, a6⟩ := hL
    refine loop_turn ?_
    k_extra "go"
    refine op_listIdx t3 (by decide) (by decide) rfl ?_
    k_extra "go"
    refine q σ' y fun a so ea hn => f _ _ (f0 _ _ ea hn) ?_
    obtain ⟨b1, b2, b3, b4⟩ := fresh a so ea
    rintro (z | z | z | z | z)
    · exact b1 z
    · exact b2 z
    · exact b3 z
    · exact b4 z
    · exact hn z
end
section
variable {P : Params} {prog : Program} {C : Cx} {k : Nat} {σ : SH} {Φ : V → SH → Prop}
theorem c_store_init (W : Wd prog (h0.heap_1_1 P) C) {Y : SymA} {S : Sy} (h : SymAt σ Y S) {st sd : Addr} (e1 : σ st = some (.inst 381 sd)) (e2 : σ sd = some (.ns [])) (nf : ¬ SymFoot Y sd) (hk : 1 ≤ k)
    (q : ∀ hh sk tr σ', σ hh = none → SymAt σ' Y S → Fw (fun a => a = sd) σ σ' → σ' sd = some (.ns [("symbols", .c (.ref Y.a)), ("max_heap", .d (.int 100000)), ("heap", .c (.ref hh)), ("stack", .c (.ref sk)), ("trail", .c (.ref tr)), ("hb", .d (.int 0)), ("bb", .d (.int 0))]) →
      σ' hh = some (.list []) → Φ (.d .none) σ') :
    CallC prog C k (.ref 195) [.c (.ref st), .c (.ref Y.a), .d (.int 100000)] σ Φ := by
  obtain ⟨k, rfl⟩ := kpred (k := k) (by k_extra "om")
  refine callC_def ["self", "symbols", "max_heap"] W (by k_is) (by k_is) ?_ (by rfl) (by rfl) (by rfl) (by rfl) (by rfl) ?_
  · rintro s X (_ | ⟨v1, _ | ⟨v2, _ | ⟨v3, _ | ⟨v4, _⟩⟩⟩⟩) e <;> first | (simp at e; done) | exact binds_K X rfl (by k_is) rfl rfl rfl
  intro A L hR
  k_extra "go"
  refine ⟨by simp, fun hh hhh => ?_⟩
  k_extra "go"
  refine ⟨by simp, fun sk hsk => ?_⟩
  k_extra "go"
  refine ⟨by simp, fun tr htr => ?_⟩
  k_extra "go"
  obtain ⟨a1, b1⟩ := none_set hhh
  obtain ⟨a2, b2⟩ := none_set a1
  obtain ⟨c1, d1⟩ := none_set hsk
  obtain ⟨c2, d2⟩ := none_set c1
  obtain ⟨c3, d3⟩ := none_set c2
  obtain ⟨c4, d4⟩ := none_set c3
  obtain ⟨g1, j1⟩ := none_set htr
  obtain ⟨g2, j2⟩ := none_set g1
  obtain ⟨g3, j3⟩ := none_set g2
  obtain ⟨g4, j4⟩ := none_set g3
  obtain ⟨g5, j5⟩ := none_set g4
  obtain ⟨g6, j6⟩ := none_set g5
  have f : Fw (fun a => a = sd) σ _ := ((((((((((Fw.refl (M := fun a => a = sd) (σ := σ)).set (so := .ns (fput "symbols" (.c (.ref Y.a)) [])) rfl).set (so := .ns (fput "max_heap" (.d (.int 100000)) (fput "symbols" (.c (.ref Y.a)) []))) rfl).new (so := .list []) a2).set
    (so := .ns (fput "heap" (.c (.ref hh)) (fput "max_heap" (.d (.int 100000)) (fput "symbols" (.c (.ref Y.a)) [])))) rfl).new (so := .list []) c4).set (so := .ns (fput "stack" (.c (.ref sk)) (fput "heap" (.c (.ref hh)) (fput "max_heap" (.d (.int 100000)) (fput "symbols" (.c (.ref Y.a)) []))))) rfl).new (so := .list []) g6).set
    (so := .ns (fput "trail" (.c (.ref tr)) (fput "stack" (.c (.ref sk)) (fput "heap" (.c (.ref hh)) (fput "max_heap" (.d (.int 100000)) (fput "symbols" (.c (.ref Y.a)) [])))))) rfl).set
    (so := .ns (fput "hb" (.d (.int 0)) (fput "trail" (.c (.ref tr)) (fput "stack" (.c (.ref sk)) (fput "heap" (.c (.ref hh)) (fput "max_heap" (.d (.int 100000)) (fput "symbols" (.c (.ref Y.a)) []))))))) rfl).set
    (so := .ns (fput "bb" (.d (.int 0)) (fput "hb" (.d (.int 0)) (fput "trail" (.c (.ref tr)) (fput "stack" (.c (.ref sk)) (fput "heap" (.c (.ref hh)) (fput "max_heap" (.d (.int 100000)) (fput "symbols" (.c (.ref Y.a)) [])))))))) rfl
  refine q hh sk tr _ a2 (h.fw f fun a ha z => nf (z ▸ ha)) f (SH.set_self _ _ _) ?_
  rw [SH.set_ne _ _ b1, SH.set_ne _ _ b1, SH.set_ne _ _ b1, SH.set_ne _ _ (Ne.symm j4), SH.set_ne _ _ b1, SH.set_ne _ _ (Ne.symm d2), SH.set_ne _ _ b1, SH.set_self]
theorem o_store (W : Wd prog (h0.heap_1_1 P) C) {A : Around} {env : Env} {m : Loc} {Y : SymA} {S : Sy} (hR : Room A (k + 1)) (h : SymAt σ Y S) (hk : 1 ≤ k)
    (q : ∀ st sd hh sk tr σ', σ st = none → σ sd = none → σ hh = none → SymAt σ' Y S → Fw (fun _ => False) σ σ' → σ' st = some (.inst 381 sd) →
      σ' sd = some (.ns [("symbols", .c (.ref Y.a)), ("max_heap", .d (.int 100000)), ("heap", .c (.ref hh)), ("stack", .c (.ref sk)), ("trail", .c (.ref tr)), ("hb", .d (.int 0)), ("bb", .d (.int 0))]) → σ' hh = some (.list []) → Φ (.c (.ref st)) σ') :
    OpL prog C A env (.ref 381) [.c (.ref Y.a), .d (.int 100000)] m σ Φ := by
  refine opl_cls W hR (by k_is) (by k_is) (by k_is) ⟨_, _, h.a⟩ fun x dx hx hdx hne => ?_
  have y1 := (h.set (so := .ns []) (h.nfoot hdx)).set (so := .inst 381 dx) (h.nfoot hx)
  refine c_store_init W y1 (SH.set_self _ _ _) (by rw [SH.set_ne _ _ hne.symm, SH.set_self]) (h.nfoot hdx) hk fun hh sk tr σ' hhh y' f' e2 e3 => ⟨rfl, ?_⟩
  obtain ⟨z1, z2⟩ := none_set hhh
  obtain ⟨z3, z4⟩ := none_set z1
  refine q x dx hh sk tr σ' hx hdx z3 y' (fun a so e _ => ?_) (f' _ _ (SH.set_self _ _ _) hne) e2 e3
  have a1 : a ≠ x := ne_new hx e
  have a2 : a ≠ dx := ne_new hdx e
  exact f' _ _ (by rw [SH.set_ne _ _ a1, SH.set_ne _ _ a2]; exact e) a2
theorem c_reset (W : Wd prog (h0.heap_1_1 P) C) {Y : SymA} {S : Sy} (h : SymAt σ Y S) {am md cd : Addr} (e1 : σ am = some (.inst 625 md))
    (e2 : σ md = some (.ns [("symbols", .c (.ref Y.a)), ("code", .c (.ref cd)), ("max_heap", .d (.int 100000)), ("occurs", .d (.bool true)), ("max_bits", .d (.int 4096))])) (nf : ¬ SymFoot Y md) (hk : 4 ≤ k)
    (q : ∀ (B : MchA) σ', B.m = am → B.md = md → σ B.st = none → σ B.sd = none → σ B.h = none → σ B.x = none → MchAt σ' Y B S ⟨[], [(5, 0)], false, 0, (5, 0)⟩ → Fw (fun a => a = md) σ σ' → Φ (.d .none) σ') :
    CallC prog C k (.ref 489) [.c (.ref am)] σ Φ := by
  obtain ⟨k, rfl⟩ := kpred (k := k) (by k_extra "om")
  refine callC_def ["self"] W (by k_is) (by k_is) (by k_extra "bind") (by rfl) (by rfl) (by rfl) (by rfl) (by rfl) ?_
  intro A L hR
  k_extra "go"
  obtain ⟨k, rfl⟩ := kpred (k := k) (by k_extra "om")
  refine o_store W hR h (by k_extra "om") fun st sd hh sk tr σ₁ hst hsd hhh y₁ f₁ g1 g2 g3 => ?_
  have i1 := f₁ _ _ e1 id
  have i2 := f₁ _ _ e2 id
  k_extra "go"
  refine listK_abs (by simp) fun xx σ₂ hxx K2 e3 => ?_
  have e3' : σ₂ xx = some (fv [(5, 0)]) := e3
  have j1 : σ₂ am = _ := K2 _ _ (by rw [SH.set_ne _ _ (ne_k i1 i2 rfl)]; exact i1)
  have j2 : σ₂ md = _ := K2 _ _ (SH.set_self _ _ _)
  have am_md : am ≠ md := ne_k i1 i2 rfl
  k_extra "go"
  simp only [SH.set_set]
  refine listK_abs (by simp) fun ro σ₃ hro K3 e4 => ?_
  have l1 : σ₃ am = _ := K3 _ _ (by rw [SH.set_ne _ _ am_md]; exact j1)
  have l2 : σ₃ md = _ := K3 _ _ (SH.set_self _ _ _)
  k_extra "go"
  refine dict_abs (.idict []) (.inl rfl) W fun bg σ₄ hbg K4 e5 => ?_
  have n1 : σ₄ am = _ := K4 _ _ (by rw [SH.set_ne _ _ am_md]; exact l1)
  have n2 : σ₄ md = _ := K4 _ _ (SH.set_self _ _ _)
  k_extra "go"
  simp only [SH.set_set]
  have hx1 := (none_set hxx).1
  have xm : xx ≠ md := (none_set hxx).2
  have up : ∀ a so, σ₁ a = some so → a ≠ md → σ₄ a = some so := fun a so e hn =>
    K4 _ _ (by rw [SH.set_ne _ _ hn]; exact K3 _ _ (by rw [SH.set_ne _ _ hn]; exact K2 _ _ (by rw [SH.set_ne _ _ hn]; exact e)))
  have upx : σ₄ xx = some (fv [(5, 0)]) := K4 _ _ (by rw [SH.set_ne _ _ xm]; exact K3 _ _ (by rw [SH.set_ne _ _ xm]; exact e3'))
  have F : ∀ so, Fw (fun a => a = md) σ (σ₄.set md so) := fun so a o e hn => by
    rw [SH.set_ne _ _ hn]; exact up _ _ (f₁ _ _ e id) hn
  have F1 : ∀ so, Fw (fun a => a = md) σ₁ (σ₄.set md so) := fun so a o e hn => by
    rw [SH.set_ne _ _ hn]; exact up _ _ e hn
  have sdm : sd ≠ md := fun z => by rw [z, e2] at hsd; cases hsd
  have back : ∀ a, σ₁ a = none → σ a = none := fun a z => by
    cases w : σ a with
    | none => rfl
    | some so => rw [f₁ _ _ w id] at z; cases z
  have hsy : ∀ a, SymFoot Y a → σ₁ a ≠ none := fun a ha => y₁.has ha
  refine q ⟨am, md, st, sd, hh, xx, cd, sk, tr, ro, bg⟩ _ rfl rfl hst hsd hhh (back _ hx1) ⟨y₁.fw (F1 _) (fun a ha z => nf (z ▸ ha)), ?_, SH.set_self _ _ _, ?_, ?_, ?_, ?_, ?_, ?_, ?_, ?_, ?_, sdm.symm, fun z => nf (by rw [show md = Y.d from z]; exact .inr (.inl rfl))⟩ (F _)
  · rw [SH.set_ne _ _ am_md]; exact n1
  · exact F1 _ _ _ g1 (ne_k g1 i2 rfl)
  · exact F1 _ _ _ g2 sdm
  · exact F1 _ _ _ g3 (ne_k g3 i2 rfl)
  · rw [SH.set_ne _ _ xm]; exact upx
  · exact fun z => by have z' : hh = xx := z
                      rw [z', hx1] at g3; cases g3
  · exact fun z => by have z' : hh = Y.t := z
                      rw [z', h.t] at hhh; cases hhh
  · exact fun z => by have z' : hh = Y.f := z
                      rw [z', h.f] at hhh; cases hhh
  · exact fun z => by have z' : xx = Y.t := z
                      exact hsy _ (.inr (.inr (.inl rfl))) (z' ▸ hx1)
  · exact fun z => by have z' : xx = Y.f := z
                      exact hsy _ (.inr (.inr (.inr (.inr (.inl rfl))))) (z' ▸ hx1)
theorem c_areas_init (W : Wd prog (h0.heap_1_1 P) C) {Y : SymA} {S : Sy} (h : SymAt σ Y S) {am md cd : Addr} (e1 : σ am = some (.inst 625 md)) (e2 : σ md = some (.ns [])) (nf : ¬ SymFoot Y md) (hk : 5 ≤ k)
    (q : ∀ (B : MchA) σ', B.m = am → B.md = md → σ B.st = none → σ B.sd = none → σ B.h = none → σ B.x = none → MchAt σ' Y B S ⟨[], [(5, 0)], false, 0, (5, 0)⟩ → Fw (fun a => a = md) σ σ' → Φ (.d .none) σ') :
    CallC prog C k (.ref 482) [.c (.ref am), .c (.ref Y.a), .c (.ref cd)] σ Φ := by
  obtain ⟨k, rfl⟩ := kpred (k := k) (by k_extra "om")
  refine callC_defD ["self", "symbols", "code", "max_heap", "occurs", "max_bits"] (dXs := [.d (.int 100000), .d (.bool true), .d (.int 4096)]) (dvs := [.int 100000 866, .bool true, .int 4096 867]) W (by k_is) (by k_is) ?_ ?_ (by rfl) (by rfl) (by rfl) (by rfl) (by rfl) ?_
  · rintro s X (_ | ⟨v1, _ | ⟨v2, _ | ⟨v3, _ | ⟨v4, _⟩⟩⟩⟩) e <;> first | (simp at e; done) | exact binds_K X rfl (by k_is) rfl rfl rfl
  · intro h; exact .cons (repI _ _) (.cons (repB _) (.cons (repI _ _) .nil))
  intro A L hR
  have am_md : am ≠ md := ne_k e1 e2 rfl
  rw [show ([V.c (.ref am), V.c (.ref Y.a), V.c (.ref cd)] ++ [V.d (.int 100000), V.d (.bool true), V.d (.int 4096)]) = [V.c (.ref am), V.c (.ref Y.a), V.c (.ref cd), V.d (.int 100000), V.d (.bool true), V.d (.int 4096)] from rfl]
  k_extra "go"
  simp only [SH.set_set]
  have F : ∀ so, Fw (fun a => a = md) σ (σ.set md so) := fun so => Fw.refl.set rfl
  refine opl_call hR (c_reset W (h.set nf) (by rw [SH.set_ne _ _ am_md]; exact e1) (SH.set_self _ _ _) nf (by k_extra "om") fun B σ' b1 b2 b3 b4 b5 b6 y f => ?_)
  k_extra "go"
  exact q B σ' b1 b2 (none_set b3).1 (none_set b4).1 (none_set b5).1 (none_set b6).1 y ((F _).trans f)
theorem o_areas (W : Wd prog (h0.heap_1_1 P) C) {A : Around} {env : Env} {m : Loc} {Y : SymA} {S : Sy} {cd : Addr} (hR : Room A (k + 1)) (h : SymAt σ Y S) (hk : 5 ≤ k)
    (q : ∀ (B : MchA) σ', (∀ a, σ a ≠ none → ¬ SymFoot Y a → ¬ Foot Y B a) → MchAt σ' Y B S ⟨[], [(5, 0)], false, 0, (5, 0)⟩ → Fw (fun _ => False) σ σ' → Φ (.c (.ref B.m)) σ') :
    OpL prog C A env (.ref 625) [.c (.ref Y.a), .c (.ref cd)] m σ Φ := by
  refine opl_cls W hR (by k_is) (by k_is) (by k_is) ⟨_, _, h.a⟩ fun x dx hx hdx hne => ?_
  have y1 := (h.set (so := .ns []) (h.nfoot hdx)).set (so := .inst 625 dx) (h.nfoot hx)
  refine c_areas_init W y1 (SH.set_self _ _ _) (by rw [SH.set_ne _ _ hne.symm, SH.set_self]) (h.nfoot hdx) hk fun B σ' b1 b2 b3 b4 b5 b6 y f => ⟨rfl, ?_⟩
  have g3 := (none_set (none_set b3).1).1
  have g4 := (none_set (none_set b4).1).1
  have g5 := (none_set (none_set b5).1).1
  have g6 := (none_set (none_set b6).1).1
  rw [← b1]
  refine q B σ' (fun a ha hs hf => ?_) y (fun a so e _ => ?_)
  · rcases hf with z | z | z | z | z | z | z
    · exact hs z
    · rw [z, b1] at ha; exact ha hx
    · rw [z, b2] at ha; exact ha hdx
    · rw [z] at ha; exact ha g3
    · rw [z] at ha; exact ha g4
    · rw [z] at ha; exact ha g5
    · rw [z] at ha; exact ha g6
  · have a1 : a ≠ x := ne_new hx e
    have a2 : a ≠ dx := ne_new hdx e
    exact f _ _ (by rw [SH.set_ne _ _ a1, SH.set_ne _ _ a2]; exact e) a2
theorem c_take (W : Wd prog (h0.heap_1_1 P) C) {Y : SymA} {B : MchA} {S : Sy} {M : Mch} (h : MchAt σ Y B S M) {t : Tm} {c : Cell} {l : List Nat} {β : Nat → Nat} (D : Den S.F M.H β t c l) (nd : l.Nodup) (hβ : ∀ n ∈ t.vars, ∀ m ∈ t.vars, β n = β m → n = m)
    (hs : t.size ≤ 200) (hk : 6 ≤ k) (hl : M.H.length ≤ 900) (hF : S.F.length ≤ 1000)
    (q : ∀ σ', MchAt σ' Y B S M → Fw (fun _ => False) σ σ' → Φ (.d (numT t []).1.enc) σ') : CallC prog C k (.ref 524) [.c (.ref B.m), .d (ec c)] σ Φ := by
  obtain ⟨k, rfl⟩ := kpred (k := k) (by k_extra "om")
  refine callC_def ["self", "cell"] W (by k_is) (by k_is) (by k_extra "bind") (by rfl) (by rfl) (by rfl) (by rfl) (by rfl) ?_
  intro A L hR
  have h' := h
  obtain ⟨y, m1, m2, s1, s2, h1, x1, n1, n2, n3, n4, n5, n6, n7⟩ := h
  k_extra "go"
  refine dict_abs (.idict []) (.inl rfl) W fun tb σ₁ htb K1 e1 => ?_
  have y1 := h'.fw K1.fw (fun _ _ z => z)
  k_extra "go"
  refine opl_call hR (c_take_term W y1 D nd hβ e1 (h'.nfoot htb) hs (by k_extra "om") hl hF fun σ₂ y₂ f₂ => ?_)
  k_extra "go"
  exact q σ₂ y₂ fun a so e _ => f₂ _ _ (K1 _ _ e) (ne_new htb e)
theorem c_put (W : Wd prog (h0.heap_1_1 P) C) {Y : SymA} {B : MchA} {S : Sy} {M : Mch} (h : MchAt σ Y B S M) {T : Tm} (hs : T.isS = true) (hw : T.wf S.F) (hg : T.ground = true) (hz : M.H.length + 3 * T.size ≤ 800) (hk : 5 ≤ k) (hF : S.F.length ≤ 1000)
    (q : ∀ σ' H' c l, MchAt σ' Y B S { M with H := H' } → Fw (MchM B) σ σ' → Den S.F H' (fun _ => 0) T c l → l.Nodup → H'.length ≤ 800 → Φ (.d (ec c)) σ') :
    CallC prog C k (.ref 531) [.c (.ref B.m), .d T.enc] σ Φ := by
  obtain ⟨k, rfl⟩ := kpred (k := k) (by k_extra "om")
  refine callC_def ["self", "term"] W (by k_is) (by k_is) (by k_extra "bind") (by rfl) (by rfl) (by rfl) (by rfl) (by rfl) ?_
  intro A L hR
  have h' := h
  obtain ⟨y, m1, m2, s1, s2, h1, x1, n1, n2, n3, n4, n5, n6, n7⟩ := h
  k_extra "go"
  refine dict_abs (.idict []) (.inl rfl) W fun tb σ₁ htb K1 e1 => ?_
  have y1 := h'.fw K1.fw (fun _ _ z => z)
  k_extra "go"
  refine opl_call hR (c_put_term W y1 e1 hs hw hg hz (by k_extra "om") hF fun σ₂ H' c l y₂ f₂ D nd hl => ?_)
  k_extra "go"
  exact q σ₂ H' c l y₂ ((K1.fw.mono fun _ z => z.elim).trans f₂) D nd hl
end
section
variable {P : Params} {prog : Program} {C : Cx} {k : Nat} {σ : SH} {Φ : V → SH → Prop}
noncomputable def isStrD : PyData → Bool
  | .str _ => true
  | _ => false
noncomputable def rowD : PyData → Bool
  | .tuple [.str _, .int n] => decide (0 ≤ n)
  | _ => false
theorem isStrD_ex {d : PyData} (h : isStrD d = true) : ∃ x, d = .str x := by cases d <;> simp [isStrD] at h; exact ⟨_, rfl⟩
theorem rowD_ex {d : PyData} (h : rowD d = true) : ∃ x, ∃ n : Nat, d = .tuple [.str x, .int (n : Int)] := by
  unfold rowD at h
  split at h
  · rename_i x n
    obtain ⟨m, rfl⟩ := Int.eq_ofNat_of_zero_le (of_decide_eq_true h)
    exact ⟨x, m, rfl⟩
  · cases h
theorem c_fixed_atoms (W : Wd prog (h0.heap_1_1 P) C) (hk : 1 ≤ k) (q : ∀ ds, ds.all isStrD = true → ds.length ≤ 100 → Φ (.d (.tuple ds)) σ) : CallC prog C k (.ref 60) [] σ Φ := by
  obtain ⟨k, rfl⟩ := kpred (k := k) (by k_extra "om")
  refine callC_def [] W (by k_is) (by k_is) (by k_extra "bind") (by rfl) (by rfl) (by rfl) (by rfl) (by rfl) ?_
  intro A L hR
  k_extra "go"
  exact q _ rfl (Nat.le_of_ble_eq_true rfl)
theorem c_fixed_functors (W : Wd prog (h0.heap_1_1 P) C) (hk : 1 ≤ k) (q : ∀ x r, r.all rowD = true → r.length ≤ 100 → Φ (.d (.tuple (.tuple [.str x, .int 2] :: r))) σ) : CallC prog C k (.ref 67) [] σ Φ := by
  obtain ⟨k, rfl⟩ := kpred (k := k) (by k_extra "om")
  refine callC_def [] W (by k_is) (by k_is) (by k_extra "bind") (by rfl) (by rfl) (by rfl) (by rfl) (by rfl) ?_
  intro A L hR
  k_extra "go"
  exact q _ _ rfl (Nat.le_of_ble_eq_true rfl)
/-- the table of names as the law uses it -/
structure SyOk (S : Sy) (n : Nat) : Prop where
  lT : S.T.length ≤ n
  lF : S.F.length ≤ n
  f0 : ∃ u, S.F[0]? = some (u, 2)
theorem atomP_len (T : List Str) (x : Str) : (atomP T x).2.length ≤ T.length + 1 := by unfold atomP; split <;> simp
theorem funP_len (F : List Cell) (x : Cell) : (funP F x).2.length ≤ F.length + 1 := by unfold funP; split <;> simp
theorem funP_keep {F : List Cell} {x c : Cell} {j : Nat} (h : F[j]? = some c) : (funP F x).2[j]? = some c := by
  unfold funP
  split
  · exact h
  · rw [List.getElem?_append_left (getlt h)]; exact h
theorem ixOf_get {α : Type} [DecidableEq α] {x : α} : ∀ {F : List α}, x ∈ F → F[ixOf F x]? = some x
  | y :: r, h => by
    unfold ixOf
    by_cases q : y = x
    · rw [if_pos q]; simp [q]
    · rw [if_neg q]
      rcases List.mem_cons.mp h with z | z
      · exact absurd z.symm q
      · simpa using ixOf_get z
theorem funP_get (F : List Cell) (x : Cell) : (funP F x).2[(funP F x).1]? = some x := by
  unfold funP
  split
  · rename_i h; exact ixOf_get h
  · simp
inductive SI1 (Y : SymA) (md : Addr) (σ : SH) (r : List PyData) (m' : Loc) (σ' : SH) : Prop
  | mk (S : Sy) (h1 : SymAt σ' Y S) (h2 : S.T.length + r.length ≤ 100) (h3 : S.F = []) (h4 : m' "self" = some (.c (.ref Y.a))) (h5 : r.all isStrD = true) (h6 : Fw (fun a => a = md) σ σ')
inductive SI2 (Y : SymA) (md : Addr) (σ : SH) (r : List PyData) (m' : Loc) (σ' : SH) : Prop
  | mk (S : Sy) (h1 : SymAt σ' Y S) (h2 : S.T.length + r.length ≤ 202) (h3 : S.F.length + r.length ≤ 102) (h7 : ∃ u, S.F[0]? = some (u, 2)) (h4 : m' "self" = some (.c (.ref Y.a))) (h5 : r.all rowD = true) (h6 : Fw (fun a => a = md) σ σ')
theorem c_symbols_init (W : Wd prog (h0.heap_1_1 P) C) {am md : Addr} (e1 : σ am = some (.inst 154 md)) (e2 : σ md = some (.ns [])) (hk : 4 ≤ k)
    (q : ∀ (Y : SymA) S σ', Y.a = am → Y.d = md → (∀ a, SymM Y a → σ a = none) → SymAt σ' Y S → SyOk S 210 → Fw (fun a => a = md) σ σ' → Φ (.d .none) σ') : CallC prog C k (.ref 81) [.c (.ref am)] σ Φ := by
  obtain ⟨k, rfl⟩ := kpred (k := k) (by k_extra "om")
  refine callC_def ["self"] W (by k_is) (by k_is) (by k_extra "bind") (by rfl) (by rfl) (by rfl) (by rfl) (by rfl) ?_
  intro A L hR
  have am_md : am ≠ md := ne_k e1 e2 rfl
  k_extra "go"
  refine listK_abs (by simp) fun t σ₁ ht K1 e3 => ?_
  have i1 := K1 _ _ e1
  have i2 := K1 _ _ e2
  k_extra "go"
  refine dict_abs (.sdict []) (.inr (.inl rfl)) W fun n σ₂ hn K2 e4 => ?_
  have tm : t ≠ md := fun z => by rw [z, e2] at ht; cases ht
  have j1 : σ₂ am = _ := K2 _ _ (by rw [SH.set_ne _ _ am_md]; exact i1)
  have j2 : σ₂ md = _ := K2 _ _ (SH.set_self _ _ _)
  have j3 : σ₂ t = _ := K2 _ _ (by rw [SH.set_ne _ _ tm]; exact e3)
  k_extra "go"
  refine listK_abs (by simp) fun f σ₃ hf K3 e5 => ?_
  have nm : n ≠ md := (none_set hn).2
  have l1 : σ₃ am = _ := K3 _ _ (by rw [SH.set_ne _ _ am_md]; exact j1)
  have l2 : σ₃ md = _ := K3 _ _ (SH.set_self _ _ _)
  have l3 : σ₃ t = _ := K3 _ _ (by rw [SH.set_ne _ _ tm]; exact j3)
  have l4 : σ₃ n = _ := K3 _ _ (by rw [SH.set_ne _ _ nm]; exact e4)
  have fm : f ≠ md := (none_set hf).2
  have tf : t ≠ f := fun z => by have := (none_set hf).1; rw [← z, j3] at this; cases this
  k_extra "go"
  refine dict_abs (.tdict []) (.inr (.inr rfl)) W fun g σ₄ hg K4 e6 => ?_
  have n1 : σ₄ am = _ := K4 _ _ (by rw [SH.set_ne _ _ am_md]; exact l1)
  have n2 : σ₄ md = _ := K4 _ _ (SH.set_self _ _ _)
  have n3 : σ₄ t = _ := K4 _ _ (by rw [SH.set_ne _ _ tm]; exact l3)
  have n4 : σ₄ n = _ := K4 _ _ (by rw [SH.set_ne _ _ nm]; exact l4)
  have n5 : σ₄ f = _ := K4 _ _ (by rw [SH.set_ne _ _ fm]; exact e5)
  have gm : g ≠ md := (none_set hg).2
  k_extra "go"
  have y0 : SymAt (σ₄.set md (.ns (fput "functor_numbers" (.c (.ref g)) (fput "functors" (.c (.ref f)) (fput "atom_numbers" (.c (.ref n)) (fput "texts" (.c (.ref t)) [])))))) ⟨am, md, t, n, f, g⟩ ⟨[], []⟩ :=
    ⟨by rw [SH.set_ne _ _ am_md]; exact n1, SH.set_self _ _ _, by rw [SH.set_ne _ _ tm]; exact n3, by rw [SH.set_ne _ _ nm]; exact n4, by rw [SH.set_ne _ _ fm]; exact n5, by rw [SH.set_ne _ _ gm]; exact e6, tf, .nil, .nil⟩
  have b0 : ∀ a, σ₁ a = none → σ a = none := fun a z => by
    cases w : σ a with
    | none => rfl
    | some so => rw [K1 _ _ w] at z; cases z
  have b1 : ∀ a, σ₂ a = none → σ a = none := fun a z => by
    cases w : σ a with
    | none => rfl
    | some so =>
      by_cases zm : a = md
      · rw [zm, j2] at z; cases z
      · rw [K2 _ _ (by rw [SH.set_ne _ _ zm]; exact K1 _ _ w)] at z; cases z
  have b2 : ∀ a, σ₃ a = none → σ a = none := fun a z => by
    cases w : σ a with
    | none => rfl
    | some so =>
      by_cases zm : a = md
      · rw [zm, l2] at z; cases z
      · rw [K3 _ _ (by rw [SH.set_ne _ _ zm]; exact K2 _ _ (by rw [SH.set_ne _ _ zm]; exact K1 _ _ w))] at z; cases z
  have nn0 : ∀ a, SymM ⟨am, md, t, n, f, g⟩ a → σ a = none := by
    rintro a (rfl | rfl | rfl | rfl)
    · exact ht
    · exact b0 _ (none_set hn).1
    · exact b1 _ (none_set hf).1
    · exact b2 _ (none_set hg).1
  have F0 : ∀ so, Fw (fun a => a = md) σ (σ₄.set md so) := fun so a o e zm => by
    rw [SH.set_ne _ _ zm]; exact K4 _ _ (by rw [SH.set_ne _ _ zm]; exact K3 _ _ (by rw [SH.set_ne _ _ zm]; exact K2 _ _ (by rw [SH.set_ne _ _ zm]; exact K1 _ _ e)))
  have q' := fun S σ' => q ⟨am, md, t, n, f, g⟩ S σ' rfl rfl nn0
  have F1 := F0 (.ns (fput "functor_numbers" (.c (.ref g)) (fput "functors" (.c (.ref f)) (fput "atom_numbers" (.c (.ref n)) (fput "texts" (.c (.ref t)) [])))))
  have eY : (⟨am, md, t, n, f, g⟩ : SymA).a = am := rfl
  have up : ∀ {σ' σ''}, Fw (fun a => a = md) σ σ' → Fw (SymM ⟨am, md, t, n, f, g⟩) σ' σ'' → Fw (fun a => a = md) σ σ'' := fun F f' a so e zm => f' _ _ (F _ _ e zm) fun z => by rw [nn0 a z] at e; cases e
  generalize (⟨am, md, t, n, f, g⟩ : SymA) = Y at y0 q' eY up
  subst eY
  refine st_for_tuple hR ?_
  k_extra "go"
  refine opl_call hR (c_fixed_atoms W (by k_extra "om") fun ds hds hlen => ⟨ds, rfl, ?_⟩)
  refine forL_ind V.d (SI1 Y md σ) ?_ ?_ ds _ _ ⟨⟨[], []⟩, y0, by simpa using hlen, rfl, by k_extra "lo", hds, F1⟩
  · rintro d r m' σ' ⟨S, y, b1, b2, a1, b3, F2⟩ kk
    simp only [List.all_cons, Bool.and_eq_true, List.length_cons] at b1 b3
    obtain ⟨x, rfl⟩ := isStrD_ex b3.1
    obtain ⟨y1, y2, y3, y4, y5, y6, -⟩ := id y
    refine forL_cons trivial ?_
    k_extra "go"
    refine opl_call hR (c_atom W y x (by k_extra "om") (by k_extra "om") fun σ'' y' f' => ?_)
    k_extra "go"
    have := atomP_len S.T x
    exact kk _ _ ⟨_, y', by dsimp only; (first | lia | omega), b2, by k_extra "lo", b3.2, up F2 f'⟩
  · rintro m' σ' ⟨S, y, b1, b2, a1, b3, F2⟩
    obtain ⟨T0, F0⟩ := S
    cases b2
    refine forL_nil trivial ?_
    k_extra "go"
    refine st_for_tuple hR ?_
    k_extra "go"
    refine opl_call hR (c_fixed_functors W (by k_extra "om") fun x r hr hlr => ⟨_, rfl, ?_⟩)
    obtain ⟨y1, y2, y3, y4, y5, y6, -⟩ := id y
    simp only [List.map_cons]
    refine forL_cons trivial ?_
    k_extra "go"
    refine opl_call hR (c_func W y x 2 (by k_extra "om") (by dsimp only; simp at b1; (first | lia | omega)) (by simp) fun σ2 y2' f2 => ?_)
    k_extra "go"
    have la := atomP_len T0 x
    have lf := funP_len [] ((atomP T0 x).1, 2)
    simp only [List.length_nil, List.length_cons, Nat.add_zero] at b1 lf
    refine forL_ind V.d (SI2 Y md σ) ?_ ?_ r _ _
      ⟨_, y2', by simp only [fnP]; (first | lia | omega), by simp only [fnP]; (first | lia | omega), ⟨(atomP T0 x).1, by simp [fnP, funP]⟩, by k_extra "lo", hr, up F2 f2⟩
    · rintro d r m' σ' ⟨S, y, b1, b2, ⟨u, b4⟩, a1, b3, F3⟩ kk
      simp only [List.all_cons, Bool.and_eq_true, List.length_cons] at b1 b2 b3
      obtain ⟨x, n, rfl⟩ := rowD_ex b3.1
      obtain ⟨y1, y2, y3, y4, y5, y6, -⟩ := id y
      refine forL_cons trivial ?_
      k_extra "go"
      refine opl_call hR (c_func W y x n (by k_extra "om") (by k_extra "om") (by k_extra "om") fun σ'' y' f' => ?_)
      k_extra "go"
      have := atomP_len S.T x
      have := funP_len S.F ((atomP S.T x).1, n)
      exact kk _ _ ⟨_, y', by simp only [fnP]; (first | lia | omega), by simp only [fnP]; (first | lia | omega), ⟨u, funP_keep b4⟩, by k_extra "lo", b3.2, up F3 f'⟩
    · rintro m' σ' ⟨S, y, b1, b2, b4, a1, b3, F3⟩
      refine forL_nil trivial ?_
      k_extra "go"
      exact q' S σ' y ⟨by simp at b1; (first | lia | omega), by simp at b2; (first | lia | omega), b4⟩ F3
theorem o_symbols (W : Wd prog (h0.heap_1_1 P) C) {A : Around} {env : Env} {m : Loc} (hR : Room A (k + 1)) (hσ : ∃ a so, σ a = some so) (hk : 4 ≤ k)
    (q : ∀ (Y : SymA) S σ', SymAt σ' Y S → SyOk S 210 → Kp σ σ' → (∀ a, σ a ≠ none → ¬ SymFoot Y a) → Φ (.c (.ref Y.a)) σ') : OpL prog C A env (.ref 154) [] m σ Φ := by
  refine opl_cls W hR (by k_is) (by k_is) (by k_is) hσ fun x dx hx hdx hne => ?_
  refine c_symbols_init W (SH.set_self _ _ _) (by rw [SH.set_ne _ _ hne.symm, SH.set_self]) hk fun Y S σ' eY eD nn y ok F => ⟨rfl, ?_⟩
  have bk : ∀ a, SymM Y a → σ a = none := fun a z => (none_set (none_set (nn a z)).1).1
  rw [← eY]
  refine q Y S σ' y ok (fun a so e => ?_) fun a ha z => ?_
  · have a1 : a ≠ x := ne_new hx e
    have a2 : a ≠ dx := ne_new hdx e
    exact F _ _ (by rw [SH.set_ne _ _ a1, SH.set_ne _ _ a2]; exact e) a2
  · rcases z with z | z | z | z | z | z
    · rw [z, eY] at ha; exact ha hx
    · rw [z, eD] at ha; exact ha hdx
    · exact ha (bk _ (.inl z))
    · exact ha (bk _ (.inr (.inl z)))
    · exact ha (bk _ (.inr (.inr (.inl z))))
    · exact ha (bk _ (.inr (.inr (.inr z))))
end
section
variable {P : Params} {prog : Program} {C : Cx} {k : Nat} {σ : SH} {Φ : V → SH → Prop}
structure LoomAt (σ : SH) (lo ls : Addr) (vs : List Int) (j : Nat) : Prop where
  eo : σ lo = some (.list [.c (.ref ls), .d (.int (j : Int))])
  es : σ ls = some (.list (vs.map fun i => V.d (.int i)))
  len : vs.length ≤ 63
  ne : lo ≠ ls
theorem c_thread (W : Wd prog (h0.heap_1_1 P) C) {lo ls : Addr} {vs : List Int} {j L' : Nat} (h : LoomAt σ lo ls vs j) (hL : 0 < L') (hk : 1 ≤ k)
    (q : ∀ r : Nat, r < L' → ∀ σ', LoomAt σ' lo ls vs (j + 1) → Fw (fun a => a = lo) σ σ' → Φ (.d (.int (r : Int))) σ') : CallC prog C k (.ref 748) [.c (.ref lo), .d (.int (L' : Int))] σ Φ := by
  obtain ⟨k, rfl⟩ := kpred (k := k) (by k_extra "om")
  refine callC_def ["loom", "limit"] W (by k_is) (by k_is) (by k_extra "bind") (by rfl) (by rfl) (by rfl) (by rfl) (by rfl) ?_
  intro A L hR
  obtain ⟨e1, e2, hlen, hne⟩ := h
  k_extra "go"
  refine st_augitem ?_ (by intro _ _ _; rfl)
  k_extra "go"
  refine op_gitem e1 (by decide) (by decide) rfl ?_
  k_extra "go"
  refine set_list e1 (by decide) (by decide) (by simp) ?_
  have y : LoomAt (σ.set lo (.list [.c (.ref ls), .d (.int ((j + 1 : Nat) : Int))])) lo ls vs (j + 1) := ⟨SH.set_self _ _ _, by rw [SH.set_ne _ _ hne.symm]; exact e2, hlen, hne⟩
  have f : Fw (fun a => a = lo) σ (σ.set lo (.list [.c (.ref ls), .d (.int ((j + 1 : Nat) : Int))])) := Fw.refl.set rfl
  rw [show (([V.c (.ref ls), V.d (.int (j : Int))] : List V).set (Int.toNat 1) (V.d (.int ((j + 1 : Nat) : Int)))) = [V.c (.ref ls), V.d (.int ((j + 1 : Nat) : Int))] from rfl]
  have e3 := y.eo
  have e4 := y.es
  k_extra "go"
  refine op_listIdx e3 (by decide) (by decide) rfl ?_
  k_extra "go"
  refine op_listIdx e3 (by decide) (by decide) rfl ?_
  k_extra "go"
  simp only [List.length_map]
  refine ⟨fun hb => ?_, fun hb => ?_⟩ <;> simp only [decide_eq_true_eq, decide_eq_false_iff_not] at hb
  · k_extra "go"
    exact q 0 hL _ y f
  · have hj : j < vs.length := by (first | lia | omega)
    k_extra "go"
    refine op_listIdx e3 (by decide) (by decide) rfl ?_
    k_extra "go"
    refine op_listIdx e3 (by decide) (by decide) rfl ?_
    k_extra "go"
    refine op_listIdx e4 (X := .d (.int vs[j])) (by k_extra "om") (by k_extra "om") ?_ ?_
    · rw [show (((j + 1 : Nat) : Int) - 1).toNat = j by (first | lia | omega), List.getElem?_map, List.getElem?_eq_getElem hj]; rfl
    k_extra "go"
    refine opl_abs ?_
    k_extra "go"
    refine op_mod (by k_extra "om") ?_
    k_extra "go"
    have e : (if vs[j] < 0 then -vs[j] else vs[j]).fmod (L' : Int) = ((vs[j].natAbs % L' : Nat) : Int) := by
      have : (if vs[j] < 0 then -vs[j] else vs[j]) = (vs[j].natAbs : Int) := by split <;> (first | lia | omega)
      rw [this, Int.fmod_eq_emod_of_nonneg _ (by k_extra "om")]
      exact (Int.natCast_emod _ _).symm
    rw [e]
    exact q _ (Nat.mod_lt _ hL) _ y f
theorem LoomAt.fw {σ σ' : SH} {lo ls : Addr} {vs : List Int} {j : Nat} {N : Addr → Prop} (h : LoomAt σ lo ls vs j) (f : Fw N σ σ') (h1 : ¬ N lo) (h2 : ¬ N ls) : LoomAt σ' lo ls vs j := ⟨f _ _ h.eo h1, f _ _ h.es h2, h.len, h.ne⟩
theorem SymM.foot {Y : SymA} {a : Addr} (h : SymM Y a) : SymFoot Y a := by
  rcases h with h | h | h | h
  · exact .inr (.inr (.inl h))
  · exact .inr (.inr (.inr (.inl h)))
  · exact .inr (.inr (.inr (.inr (.inl h))))
  · exact .inr (.inr (.inr (.inr (.inr h))))
/-- terms as the law draws them -/
noncomputable def Tm.ok : Tm → Prop
  | .v n => n < 4
  | .i n => n < 9
  | .a _ => True
  | .s1 _ x => x.ok
  | .s2 _ x y => x.ok ∧ y.ok
theorem c_leaf (W : Wd prog (h0.heap_1_1 P) C) {lo ls : Addr} {vs : List Int} {j : Nat} {Y : SymA} {S : Sy} (h : LoomAt σ lo ls vs j) (y : SymAt σ Y S) (n1 : ¬ SymFoot Y lo) (n2 : ¬ SymFoot Y ls) (hT : S.T.length ≤ 800) (hk : 2 ≤ k)
    (q : ∀ t S' j' σ', Tm.ok t → t.isS = false → S'.F = S.F → S'.T.length ≤ S.T.length + 1 → LoomAt σ' lo ls vs j' → SymAt σ' Y S' → Fw (fun a => a = lo ∨ SymM Y a) σ σ' → Φ (.d t.enc) σ') :
    CallC prog C k (.ref 755) [.c (.ref lo), .c (.ref Y.a)] σ Φ := by
  obtain ⟨k, rfl⟩ := kpred (k := k) (by k_extra "om")
  refine callC_def ["loom", "names"] W (by k_is) (by k_is) (by k_extra "bind") (by rfl) (by rfl) (by rfl) (by rfl) (by rfl) ?_
  intro A L hR
  k_extra "go"
  refine opl_call hR (c_thread W h (L' := 4) (by decide) (by k_extra "om") fun r hr σ₁ h₁ f₁ => ?_)
  have y₁ := y.fw f₁ fun a ha z => n1 (z ▸ ha)
  have g₁ : Fw (fun a => a = lo ∨ SymM Y a) σ σ₁ := f₁.mono fun _ z => .inl z
  k_extra "go"
  refine ⟨fun hb => ?_, fun hb => ?_⟩ <;> simp only [decide_eq_true_eq, decide_eq_false_iff_not] at hb
  · k_extra "go"
    refine opl_call hR (c_thread W h₁ (L' := 4) (by decide) (by k_extra "om") fun r2 hr2 σ₂ h₂ f₂ => ?_)
    k_extra "go"
    exact q (.v r2) S _ σ₂ hr2 rfl rfl (by k_extra "om") h₂ (y₁.fw f₂ fun a ha z => n1 (z ▸ ha)) (g₁.trans (f₂.mono fun _ z => .inl z))
  · k_extra "go"
    refine ⟨fun hb2 => ?_, fun hb2 => ?_⟩ <;> simp only [decide_eq_true_eq, decide_eq_false_iff_not] at hb2
    · obtain ⟨y1, y2, y3, y4, y5, y6, -⟩ := id y₁
      k_extra "go"
      refine listK_abs (by simp) fun bl σ₂ hbl K2 e2 => ?_
      have h₂ := h₁.fw K2.fw id id
      have y₂ := y₁.fw K2.fw fun _ _ z => z
      k_extra "go"
      refine opl_call hR (c_thread W h₂ (L' := 2) (by decide) (by k_extra "om") fun r2 hr2 σ₃ h₃ f₃ => ?_)
      have bne : bl ≠ lo := fun z => by rw [z, h₁.eo] at hbl; cases hbl
      have e3 := f₃ _ _ e2 bne
      have y₃ := y₂.fw f₃ fun a ha z => n1 (z ▸ ha)
      obtain ⟨x, hx⟩ : ∃ x : Str, ([V.d (.str "b"), V.d (.str "c")] : List V)[r2]? = some (.d (.str x)) := by
        rcases Nat.lt_or_ge r2 1 with z | z
        · obtain rfl : r2 = 0 := by (first | lia | omega)
          exact ⟨_, rfl⟩
        · obtain rfl : r2 = 1 := by (first | lia | omega)
          exact ⟨_, rfl⟩
      refine op_listN e3 hx (by simp) ?_
      k_extra "go"
      refine opl_call hR (c_atom W y₃ x (by k_extra "om") (by k_extra "om") fun σ₄ y₄ f₄ => ?_)
      k_extra "go"
      have la := atomP_len S.T x
      exact q (.a _) ⟨(atomP S.T x).2, S.F⟩ _ σ₄ trivial rfl rfl la (h₃.fw f₄ (fun z => n1 z.foot) (fun z => n2 z.foot)) y₄ (((g₁.trans (K2.fw.mono fun _ z => z.elim)).trans (f₃.mono fun _ z => .inl z)).trans (f₄.mono fun _ z => .inr z))
    · k_extra "go"
      refine opl_call hR (c_thread W h₁ (L' := 9) (by decide) (by k_extra "om") fun r2 hr2 σ₂ h₂ f₂ => ?_)
      k_extra "go"
      exact q (.i r2) S _ σ₂ hr2 rfl rfl (by k_extra "om") h₂ (y₁.fw f₂ fun a ha z => n1 (z ▸ ha)) (g₁.trans (f₂.mono fun _ z => .inl z))
end
section
variable {P : Params} {prog : Program} {C : Cx} {k : Nat} {σ : SH} {Φ : V → SH → Prop}
theorem Tr.mono' {α β : Type} {prog : Program} {C : Cx} {A : Around} {env : Env} {rep : Heap → α → β → Prop} {t : Sem α} {m : Loc} {σ : SH} {Φ Ψ : β → SH → Prop} (h : Tr prog C A env rep t m σ Φ) (f : ∀ X σ', Φ X σ' → Ψ X σ') : Tr prog C A env rep t m σ Ψ := fun s S =>
  wpAny_mono (h s S) (fun v s₁ ⟨X, σ₁, r, S₁, x, p⟩ => ⟨X, σ₁, r, S₁, x, f _ _ p⟩) fun _ _ e => e
theorem ifexp_cut {prog : Program} {C : Cx} {A : Around} {env : Env} {m : Loc} {σ : SH} {Φ : V → SH → Prop} {way n1 n2 : Nat} {p1 p2 : Pos} (h : ∀ n : Nat, (n = 1 ∨ n = 2) → (way = 0 → n = 2) → Φ (.d (.int (n : Int))) σ) :
    (decide ((way : Int) = 1) = true → Ev prog C A env (.Constant (.int 1) n1 p1) m σ Φ) ∧ (decide ((way : Int) = 1) = false → Ev prog C A env (.Constant (.int 2) n2 p2) m σ Φ) :=
  ⟨fun hb => ev_int (h 1 (.inl rfl) fun z => by subst z; simp at hb), fun _ => ev_int (h 2 (.inr rfl) fun _ => rfl)⟩
noncomputable def KF (F F' : List Cell) : Prop := ∀ (j : Nat) c, F[j]? = some c → F'[j]? = some c
theorem Tm.wf_mono {F F' : List Cell} (k : KF F F') : ∀ {t : Tm}, t.wf F → t.wf F'
  | .v _, h => h
  | .a _, h => h
  | .i _, h => h
  | .s1 _ _, ⟨⟨h0, u, hu⟩, hx⟩ => ⟨⟨h0, u, k _ _ hu⟩, Tm.wf_mono k hx⟩
  | .s2 _ _ _, ⟨h, hx, hy⟩ => ⟨h.imp id fun ⟨u, hu⟩ => ⟨u, k _ _ hu⟩, Tm.wf_mono k hx, Tm.wf_mono k hy⟩
inductive CInv (lo ls : Addr) (vs : List Int) (Y : SymA) (S : Sy) (σ : SH) (pt : Addr) (d way i : Nat) (m' : Loc) (σ' : SH) : Prop
  | mk (ts : List Tm) (S' : Sy) (j' : Nat) (h1 : ts.length = i) (h2 : σ' pt = some (.list (ts.map fun t => V.d t.enc))) (h3 : ∀ x ∈ ts, x.ok ∧ x.wf S'.F ∧ x.size + 1 ≤ 2 ^ (d + 1)) (h4 : KF S.F S'.F) (h5 : S'.T.length ≤ S.T.length + sizes ts) (h6 : S'.F.length ≤ S.F.length + sizes ts)
    (h7 : LoomAt σ' lo ls vs j') (h8 : SymAt σ' Y S') (h9 : Fw (fun a => a = lo ∨ SymM Y a) σ σ') (a1 : m' "loom" = some (.c (.ref lo))) (a2 : m' "names" = some (.c (.ref Y.a))) (a3 : m' "deep" = some (.d (.int (d : Int)))) (a4 : m' "parts" = some (.c (.ref pt))) (a5 : m' "way" = some (.d (.int (way : Int))))
theorem CInv.next {lo ls : Addr} {vs : List Int} {Y : SymA} {S S' S'' : Sy} {σ σ'' : SH} {pt : Addr} {d way i j'' : Nat} {m'' : Loc} {ts : List Tm} {x : Tm} (hts : ts.length = i) (hall : ∀ x ∈ ts, x.ok ∧ x.wf S'.F ∧ x.size + 1 ≤ 2 ^ (d + 1)) (kf : KF S.F S'.F)
    (lT : S'.T.length ≤ S.T.length + sizes ts) (lF : S'.F.length ≤ S.F.length + sizes ts) (ox : x.ok) (wx : x.wf S''.F) (sx : x.size + 1 ≤ 2 ^ (d + 1)) (kf2 : KF S'.F S''.F) (lT2 : S''.T.length ≤ S'.T.length + x.size) (lF2 : S''.F.length ≤ S'.F.length + x.size)
    (hl : LoomAt σ'' lo ls vs j'') (hy : SymAt σ'' Y S'') (ff : Fw (fun a => a = lo ∨ SymM Y a) σ σ'') (p0 : σ pt = none) (plo : pt ≠ lo) (pls : pt ≠ ls) (pY : ¬ SymFoot Y pt)
    (a1 : m'' "loom" = some (.c (.ref lo))) (a2 : m'' "names" = some (.c (.ref Y.a))) (a3 : m'' "deep" = some (.d (.int (d : Int)))) (a4 : m'' "parts" = some (.c (.ref pt))) (a5 : m'' "way" = some (.d (.int (way : Int)))) :
    CInv lo ls vs Y S σ pt d way (i + 1) m'' (σ''.set pt (.list ((ts.map fun t => V.d t.enc) ++ [V.d x.enc]))) := by
  refine ⟨ts ++ [x], S'', j'', by simp [hts], by rw [SH.set_self]; simp, fun z hz => ?_, fun a c h => kf2 _ _ (kf _ _ h), by simp [sizes] at lT ⊢; (first | lia | omega), by simp [sizes] at lF ⊢; (first | lia | omega), ?_, hy.set pY, ff.new p0, a1, a2, a3, a4, a5⟩
  · rcases List.mem_append.mp hz with q | q
    · exact ⟨(hall z q).1, Tm.wf_mono kf2 (hall z q).2.1, (hall z q).2.2⟩
    · simp at q; subst q; exact ⟨ox, wx, sx⟩
  · exact ⟨by rw [SH.set_ne _ _ plo.symm]; exact hl.eo, by rw [SH.set_ne _ _ pls.symm]; exact hl.es, hl.len, hl.ne⟩
theorem c_compound (W : Wd prog (h0.heap_1_1 P) C) {lo ls : Addr} {vs : List Int} {Y : SymA} (n1 : ¬ SymFoot Y lo) (n2 : ¬ SymFoot Y ls) : ∀ (d : Nat) {σ : SH} {Φ : V → SH → Prop} {j : Nat} {S : Sy} {k : Nat}, LoomAt σ lo ls vs j → SymAt σ Y S → (∃ u, S.F[0]? = some (u, 2)) →
    S.T.length + 2 ^ (d + 2) ≤ 800 → S.F.length + 2 ^ (d + 2) ≤ 800 → d + 4 ≤ k →
    (∀ t S' j' σ', Tm.ok t → t.isS = true → t.wf S'.F → t.size + 1 ≤ 2 ^ (d + 2) → KF S.F S'.F → S'.T.length ≤ S.T.length + t.size → S'.F.length ≤ S.F.length + t.size → LoomAt σ' lo ls vs j' → SymAt σ' Y S' → Fw (fun a => a = lo ∨ SymM Y a) σ σ' → Φ (.d t.enc) σ') →
    CallC prog C k (.ref 762) [.c (.ref lo), .c (.ref Y.a), .d (.int (d : Int))] σ Φ := by
  intro d
  induction d using Nat.strongRecOn with
  | ind d ih =>
  intro σ Φ j S k h y f0 hT hF hk q
  obtain ⟨k, rfl⟩ := kpred (k := k) (by k_extra "om")
  refine callC_def ["loom", "names", "deep"] W (by k_is) (by k_is) (by k_extra "bind") (by rfl) (by rfl) (by rfl) (by rfl) (by rfl) ?_
  intro A L hR
  k_extra "go"
  refine opl_call hR (c_thread W h (L' := 3) (by decide) (by k_extra "om") fun way hway σ₁ h₁ f₁ => ?_)
  have y₁ := y.fw f₁ fun a ha z => n1 (z ▸ ha)
  k_extra "go"
  refine listK_abs (by simp) fun pt σ₂ hpt K2 e2 => ?_
  have h₂ := h₁.fw K2.fw id id
  have y₂ := y₁.fw K2.fw fun _ _ z => z
  have plo : pt ≠ lo := fun z => by rw [z, h₁.eo] at hpt; cases hpt
  have pls : pt ≠ ls := fun z => by rw [z, h₁.es] at hpt; cases hpt
  have pY : ¬ SymFoot Y pt := y₁.nfoot hpt
  have p0 : σ pt = none := by
    cases w : σ pt with
    | none => rfl
    | some so => rw [f₁ _ _ w plo] at hpt; cases hpt
  have g₂ : Fw (fun a => a = lo ∨ SymM Y a) σ σ₂ := (f₁.mono fun _ z => .inl z).trans (K2.fw.mono fun _ z => z.elim)
  k_extra "go"
  refine st_for_range hR ?_
  k_extra "go"
  refine ifexp_cut fun n hn hw => ?_
  k_extra "go"
  refine rng_up W (w := n) (by k_extra "om") fun rg hrg => ?_
  have h₃ := h₂.fw (Fw.refl.new (M := fun _ => False) (so := .range 0 (n : Int) 1) hrg) id id
  have y₃ := y₂.fw (Fw.refl.new (M := fun _ => False) (so := .range 0 (n : Int) 1) hrg) fun _ _ z => z
  have prg : pt ≠ rg := ne_new hrg e2
  have pw : 2 ^ (d + 2) = 2 * 2 ^ (d + 1) := by rw [Nat.pow_succ]; (first | lia | omega)
  have pw1 : 2 ≤ 2 ^ (d + 1) := by
    have := Nat.one_le_two_pow (n := d)
    rw [Nat.pow_succ]; (first | lia | omega)
  refine forL_up (CInv lo ls vs Y S σ pt d way) ?_ ?_ _ _
    ⟨[], S, _, rfl, by rw [SH.set_ne _ _ prg]; exact e2, by simp, fun _ _ z => z, by simp [sizes], by simp [sizes], h₃, y₃, g₂.trans (Fw.refl.new hrg), by k_extra "lo", by k_extra "lo", by k_extra "lo", by k_extra "lo", by k_extra "lo"⟩
  · rintro i rr m' σ' hi ⟨ts, S', j', hts, ets, hall, kf, lT, lF, hl, hy, ff, a1, a2, a3, a4, a5⟩ kk
    have hsum : sizes ts ≤ 2 ^ (d + 1) := by
      rcases ts with _ | ⟨t0, _ | ⟨t1, tr⟩⟩
      · simp [sizes]
      · have := (hall t0 (.head _)).2.2; simp [sizes]; (first | lia | omega)
      · simp at hts; (first | lia | omega)
    have bts : ts.length ≤ 1000 := by (first | lia | omega)
    have bT : S'.T.length ≤ 800 := by (first | lia | omega)
    have bF : S'.F.length ≤ 800 := by (first | lia | omega)
    refine forL_cons trivial ?_
    k_extra "go"
    have sz1 : ∀ t : Tm, t.isS = false → t.size = 1 := fun t ht => by cases t <;> simp [Tm.isS] at ht <;> rfl
    have wf1 : ∀ (t : Tm) F, t.isS = false → t.wf F := fun t F ht => by cases t <;> simp [Tm.isS] at ht <;> trivial
    refine ⟨fun hb => ?_, fun hb => ?_⟩ <;> simp only [decide_eq_true_eq, decide_eq_false_iff_not] at hb
    · k_extra "go"
      refine opl_call hR (c_thread W hl (L' := 3) (by decide) (by k_extra "om") fun r hr σ₄ h₄ f₄ => ?_)
      have y₄ := hy.fw f₄ fun a ha z => n1 (z ▸ ha)
      have e₄ := f₄ _ _ ets plo
      have ff4 := ff.trans (f₄.mono (N := fun a => a = lo ∨ SymM Y a) fun _ z => .inl z)
      k_extra "go"
      refine ⟨fun hb2 => ?_, fun hb2 => ?_⟩ <;> simp only [decide_eq_true_eq, decide_eq_false_iff_not] at hb2
      · k_extra "go"
        rw [show ((d : Int) - 1) = ((d - 1 : Nat) : Int) by (first | lia | omega)]
        have pw2 : 2 ^ (d - 1 + 2) = 2 ^ (d + 1) := by congr 1; (first | lia | omega)
        refine opl_call hR (ih (d - 1) (by k_extra "om") h₄ y₄ (f0.imp fun u hu => kf _ _ hu) (by k_extra "om") (by k_extra "om") (by k_extra "om") fun t S5 j5 σ₅ ot st wt sz kf5 lT5 lF5 h₅ y₅ f₅ => ?_)
        have e₅ := f₅ _ _ e₄ (fun z => z.elim plo fun z => pY z.foot)
        k_extra "go"
        exact kk _ _ (CInv.next hts hall kf lT lF ot wt (by k_extra "om") kf5 lT5 lF5 h₅ y₅ (ff4.trans f₅) p0 plo pls pY (by k_extra "lo") (by k_extra "lo") (by k_extra "lo") (by k_extra "lo") (by k_extra "lo"))
      · k_extra "go"
        refine opl_call hR (c_leaf W h₄ y₄ n1 n2 (by k_extra "om") (by k_extra "om") fun t S5 j5 σ₅ ot st eF lT5 h₅ y₅ f₅ => ?_)
        have e₅ := f₅ _ _ e₄ (fun z => z.elim plo fun z => pY z.foot)
        have s1 := sz1 t st
        k_extra "go"
        exact kk _ _ (CInv.next hts hall kf lT lF ot (wf1 t _ st) (by k_extra "om") (by rw [eF]; exact fun _ _ z => z) (by k_extra "om") (by rw [eF]; (first | lia | omega)) h₅ y₅ (ff4.trans f₅) p0 plo pls pY (by k_extra "lo") (by k_extra "lo") (by k_extra "lo") (by k_extra "lo") (by k_extra "lo"))
    · k_extra "go"
      refine opl_call hR (c_leaf W hl hy n1 n2 (by k_extra "om") (by k_extra "om") fun t S5 j5 σ₅ ot st eF lT5 h₅ y₅ f₅ => ?_)
      have e₅ := f₅ _ _ ets (fun z => z.elim plo fun z => pY z.foot)
      have s1 := sz1 t st
      k_extra "go"
      exact kk _ _ (CInv.next hts hall kf lT lF ot (wf1 t _ st) (by k_extra "om") (by rw [eF]; exact fun _ _ z => z) (by k_extra "om") (by rw [eF]; (first | lia | omega)) h₅ y₅ (ff.trans f₅) p0 plo pls pY (by k_extra "lo") (by k_extra "lo") (by k_extra "lo") (by k_extra "lo") (by k_extra "lo"))
  · rintro m' σ' ⟨ts, S', j', hts, ets, hall, kf, lT, lF, hl, hy, ff, a1, a2, a3, a4, a5⟩
    obtain ⟨y1, y2, y3, y4, y5, y6, -⟩ := id hy
    refine forL_nil trivial ?_
    k_extra "go"
    have fin : ∀ (f : Nat) (S5 : Sy) (σ₅ : SH), KF S'.F S5.F → S5.T.length ≤ S'.T.length + 1 → S5.F.length ≤ S'.F.length + 1 → ((f = 0 ∧ n = 2) ∨ (∃ u, S5.F[f]? = some (u, n))) → LoomAt σ₅ lo ls vs j' → SymAt σ₅ Y S5 → Fw (fun a => a = lo ∨ SymM Y a) σ σ₅ →
        Φ (.d (.tuple [.str "s", .int (f : Int), .tuple (ts.map Tm.enc)])) σ₅ := by
      intro f S5 σ₅ kf5 lT5 lF5 hf h₅ y₅ f₅
      obtain ⟨u0, hu0⟩ := f0
      have hu5 := kf5 _ _ (kf _ _ hu0)
      rcases ts with _ | ⟨t0, _ | ⟨t1, _ | ⟨t2, tr⟩⟩⟩
      · simp at hts; (first | lia | omega)
      · have h1 : n = 1 := by simpa using hts.symm
        obtain ⟨o0, w0, s0⟩ := hall t0 (.head _)
        have hf0 : f ≠ 0 := by
          rintro rfl
          rcases hf with ⟨_, z⟩ | ⟨u, z⟩
          · (first | lia | omega)
          · rw [hu5] at z; cases z; (first | lia | omega)
        have hfu : ∃ u, S5.F[f]? = some (u, 1) := by
          rcases hf with ⟨z, _⟩ | z
          · exact absurd z hf0
          · rw [← h1]; exact z
        refine q (.s1 f t0) S5 j' σ₅ o0 rfl ⟨⟨hf0, hfu⟩, Tm.wf_mono kf5 w0⟩ (by simp only [Tm.size]; (first | lia | omega)) (fun a c z => kf5 _ _ (kf _ _ z)) ?_ ?_ h₅ y₅ f₅
        · simp [sizes] at lT; simp only [Tm.size]; (first | lia | omega)
        · simp [sizes] at lF; simp only [Tm.size]; (first | lia | omega)
      · have h1 : n = 2 := by simpa using hts.symm
        obtain ⟨o0, w0, s0⟩ := hall t0 (.head _)
        obtain ⟨o1, w1, s1⟩ := hall t1 (.tail _ (.head _))
        have hfu : f = 0 ∨ ∃ u, S5.F[f]? = some (u, 2) := by
          rcases hf with ⟨z, _⟩ | z
          · exact .inl z
          · rw [h1] at z; exact .inr z
        refine q (.s2 f t0 t1) S5 j' σ₅ ⟨o0, o1⟩ rfl ⟨hfu, Tm.wf_mono kf5 w0, Tm.wf_mono kf5 w1⟩ (by simp only [Tm.size]; (first | lia | omega)) (fun a c z => kf5 _ _ (kf _ _ z)) ?_ ?_ h₅ y₅ f₅
        · simp [sizes] at lT; simp only [Tm.size]; (first | lia | omega)
        · simp [sizes] at lF; simp only [Tm.size]; (first | lia | omega)
      · simp at hts; (first | lia | omega)
    have hlen1 : (ts.map fun t => V.d t.enc).length = n := by simpa using hts
    have hun : unD (ts.map fun t => V.d t.enc) = some (ts.map Tm.enc) := by
      clear hts ets hall lT lF fin hlen1
      induction ts with
      | nil => rfl
      | cons x r ih => simp only [List.map_cons, unD, ih]; rfl
    have hsum : sizes ts + 1 ≤ 2 ^ (d + 2) := by
      rcases ts with _ | ⟨t0, _ | ⟨t1, _ | ⟨t2, tr⟩⟩⟩
      · simp [sizes]; (first | lia | omega)
      · have := (hall t0 (.head _)).2.2; simp [sizes]; (first | lia | omega)
      · have := (hall t0 (.head _)).2.2; have := (hall t1 (.tail _ (.head _))).2.2; simp [sizes]; (first | lia | omega)
      · simp at hts; (first | lia | omega)
    refine ⟨fun hb => ?_, fun hb => ?_⟩ <;> simp only [decide_eq_true_eq, decide_eq_false_iff_not] at hb
    · k_extra "go"
      refine opl_tuple ets ⟨by (first | lia | omega), _, hun, ?_⟩
      k_extra "go"
      exact fin 0 S' σ' (fun _ _ z => z) (by k_extra "om") (by k_extra "om") (.inl ⟨rfl, hw (by k_extra "om")⟩) hl hy ff
    · k_extra "go"
      rw [hlen1]
      refine opl_call hR (c_func W hy _ n (by k_extra "om") (by k_extra "om") (by k_extra "om") fun σ₅ y₅ f₅ => ?_)
      have e₅ := f₅ _ _ ets (fun z => pY z.foot)
      k_extra "go"
      refine opl_tuple e₅ ⟨by (first | lia | omega), _, hun, ?_⟩
      k_extra "go"
      have la := atomP_len S'.T "f"
      have lf := funP_len S'.F ((atomP S'.T "f").1, n)
      exact fin _ _ σ₅ (fun _ _ z => funP_keep z) la lf (.inr ⟨_, funP_get _ _⟩) (hl.fw f₅ (fun z => n1 z.foot) (fun z => n2 z.foot)) y₅ (ff.trans (f₅.mono fun _ z => .inr z))
end
section
variable {P : Params} {prog : Program} {C : Cx} {k : Nat} {σ : SH} {Φ : V → SH → Prop}
theorem c_cell (W : Wd prog (h0.heap_1_1 P) C) {t : Tm} (hs : t.isS = false) (hv : ∀ n, t ≠ .v n) (hk : 1 ≤ k) (q : Φ (.d (ec t.cell)) σ) : CallC prog C k (.ref 769) [.d t.enc] σ Φ := by
  obtain ⟨k, rfl⟩ := kpred (k := k) (by k_extra "om")
  cases t with
  | v n => exact absurd rfl (hv n)
  | s1 f x => cases hs
  | s2 f x y => cases hs
  | a n =>
    simp only [Tm.enc]
    refine callC_def ["term"] W (by k_is) (by k_is) (by k_extra "bind") (by rfl) (by rfl) (by rfl) (by rfl) (by rfl) ?_
    intro A L hR
    k_extra "go"
    exact q
  | i n =>
    simp only [Tm.enc]
    refine callC_def ["term"] W (by k_is) (by k_is) (by k_extra "bind") (by rfl) (by rfl) (by rfl) (by rfl) (by rfl) ?_
    intro A L hR
    k_extra "go"
    exact q
/-- how many constants -/
noncomputable def Tm.consts : Tm → Nat
  | .v _ => 0
  | .a _ => 1
  | .i _ => 1
  | .s1 _ x => x.consts
  | .s2 _ x y => x.consts + y.consts
theorem c_constants (W : Wd prog (h0.heap_1_1 P) C) : ∀ (t : Tm) {σ : SH} {Φ : V → SH → Prop} {k : Nat}, t.depth + 1 ≤ k → (∃ a so, σ a = some so) → (∀ σ', Kp σ σ' → Φ (.d (.int (t.consts : Int))) σ') → CallC prog C k (.ref 798) [.d t.enc] σ Φ := by
  intro t
  have leaf : ∀ {x : Tm} {σ : SH} {Φ : V → SH → Prop} {k : Nat}, x.isS = false → (∀ n, x ≠ .v n) → x.consts = 1 → 1 ≤ k → (∀ σ', Kp σ σ' → Φ (.d (.int (x.consts : Int))) σ') → CallC prog C k (.ref 798) [.d x.enc] σ Φ := by
    intro x σ Φ k hx hnv hc hk q
    obtain ⟨k, rfl⟩ := kpred (k := k) (by k_extra "om")
    obtain ⟨tg, jj, he, t1, t2, t3⟩ := Tm.lf hx
    have t2' := t2 hnv
    rw [hc] at q
    rw [he]
    refine callC_def ["term"] W (by k_is) (by k_is) (by k_extra "bind") (by rfl) (by rfl) (by rfl) (by rfl) (by rfl) ?_
    intro A L hR
    k_extra "go"
    exact q σ fun _ _ e => e
  induction t with
  | s1 f x ih =>
    intro σ Φ k hk hσ q
    obtain ⟨k, rfl⟩ := kpred (k := k) (by k_extra "om")
    simp only [Tm.enc]
    simp only [Tm.depth] at hk
    refine callC_def ["term"] W (by k_is) (by k_is) (by k_extra "bind") (by rfl) (by rfl) (by rfl) (by rfl) (by rfl) ?_
    intro A L hR
    k_extra "go"
    refine ev_comp1 (cl := []) W hR (fun _ _ z => by cases z) ?_ (by with_unfolding_all rfl) (by decide) rfl (by decide) rfl rfl
    k_extra "go"
    refine ⟨_, rfl, ⟨by simp, fun Ca => ?_⟩⟩
    k_extra "go"
    refine opl_call hR (ih (by k_extra "om") hσ fun σ₁ K1 => ?_)
    refine ⟨by simp, fun D hD => ?_⟩
    k_extra "go"
    refine opl_sum hR (SH.set_self _ _ _) (is := [(x.consts : Int)]) (.cons .nil) ?_
    k_extra "go"
    rw [show ([(x.consts : Int)].sum) = ((Tm.s1 f x).consts : Int) by simp [Tm.consts]]
    exact q _ fun a so e => by rw [SH.set_ne _ _ (ne_new hD (K1 _ _ e))]; exact K1 _ _ e
  | s2 f x y ihx ihy =>
    intro σ Φ k hk hσ q
    obtain ⟨k, rfl⟩ := kpred (k := k) (by k_extra "om")
    simp only [Tm.enc]
    simp only [Tm.depth] at hk
    refine callC_def ["term"] W (by k_is) (by k_is) (by k_extra "bind") (by rfl) (by rfl) (by rfl) (by rfl) (by rfl) ?_
    intro A L hR
    k_extra "go"
    refine ev_comp1 (cl := []) W hR (fun _ _ z => by cases z) ?_ (by with_unfolding_all rfl) (by decide) rfl (by decide) rfl rfl
    k_extra "go"
    refine ⟨_, rfl, ⟨by simp, fun Ca => ?_⟩⟩
    k_extra "go"
    refine opl_call hR (ihx (by k_extra "om") hσ fun σ₁ K1 => ?_)
    refine ⟨by simp, fun Ca => ?_⟩
    k_extra "go"
    refine opl_call hR (ihy (by k_extra "om") (hσ.imp fun a ⟨so, e⟩ => ⟨so, K1 _ _ e⟩) fun σ₂ K2 => ?_)
    refine ⟨by simp, fun D hD => ?_⟩
    k_extra "go"
    refine opl_sum hR (SH.set_self _ _ _) (is := [(x.consts : Int), (y.consts : Int)]) (.cons (.cons .nil)) ?_
    k_extra "go"
    rw [show ([(x.consts : Int), (y.consts : Int)].sum) = ((Tm.s2 f x y).consts : Int) by simp [Tm.consts]]
    exact q _ fun a so e => by rw [SH.set_ne _ _ (ne_new hD (K2 _ _ (K1 _ _ e)))]; exact K2 _ _ (K1 _ _ e)
  | v n =>
    intro σ Φ k hk hσ q
    obtain ⟨k, rfl⟩ := kpred (k := k) (by k_extra "om")
    simp only [Tm.enc]
    refine callC_def ["term"] W (by k_is) (by k_is) (by k_extra "bind") (by rfl) (by rfl) (by rfl) (by rfl) (by rfl) ?_
    intro A L hR
    k_extra "go"
    exact q σ fun _ _ e => e
  | a n => exact fun hk _ q => leaf rfl (fun _ z => by cases z) rfl (by k_extra "om") q
  | i n => exact fun hk _ q => leaf rfl (fun _ z => by cases z) rfl (by k_extra "om") q
end
section
variable {P : Params} {prog : Program} {C : Cx} {k : Nat} {σ : SH} {Φ : V → SH → Prop}
theorem Tm.vars_len : ∀ t : Tm, t.vars.length ≤ t.size
  | .v _ => by simp [Tm.vars, Tm.size]
  | .a _ => by simp [Tm.vars]
  | .i _ => by simp [Tm.vars]
  | .s1 _ x => by have := Tm.vars_len x; simp only [Tm.vars, Tm.size]; (first | lia | omega)
  | .s2 _ x y => by have := Tm.vars_len x; have := Tm.vars_len y; simp only [Tm.vars, Tm.size, List.length_append]; (first | lia | omega)
noncomputable def intsL (l : List Nat) : List V := l.map fun n => V.d (.int ((n : Nat) : Int))
theorem c_variables (W : Wd prog (h0.heap_1_1 P) C) : ∀ (t : Tm) {σ : SH} {Φ : V → SH → Prop} {k : Nat}, t.depth + 1 ≤ k → t.size ≤ 500 → (∀ b σ', σ b = none → Kp σ σ' → σ' b = some (.list (intsL t.vars)) → Φ (.c (.ref b)) σ') → CallC prog C k (.ref 803) [.d t.enc] σ Φ := by
  intro t
  have leaf : ∀ {x : Tm} {σ : SH} {Φ : V → SH → Prop} {k : Nat}, x.isS = false → (∀ n, x ≠ .v n) → x.vars = [] → 1 ≤ k → (∀ b σ', σ b = none → Kp σ σ' → σ' b = some (.list (intsL x.vars)) → Φ (.c (.ref b)) σ') → CallC prog C k (.ref 803) [.d x.enc] σ Φ := by
    intro x σ Φ k hx hnv hc hk q
    obtain ⟨k, rfl⟩ := kpred (k := k) (by k_extra "om")
    obtain ⟨tg, jj, he, t1, t2, t3⟩ := Tm.lf hx
    have t2' := t2 hnv
    rw [hc] at q
    rw [he]
    refine callC_def ["term"] W (by k_is) (by k_is) (by k_extra "bind") (by rfl) (by rfl) (by rfl) (by rfl) (by rfl) ?_
    intro A L hR
    k_extra "go"
    refine listK_abs (by simp) fun b σ₁ hb K1 e1 => ?_
    k_extra "go"
    exact q b σ₁ hb K1 e1
  induction t with
  | s1 f x ih =>
    intro σ Φ k hk hz q
    obtain ⟨k, rfl⟩ := kpred (k := k) (by k_extra "om")
    simp only [Tm.enc]
    simp only [Tm.depth] at hk
    simp only [Tm.size] at hz
    refine callC_def ["term"] W (by k_is) (by k_is) (by k_extra "bind") (by rfl) (by rfl) (by rfl) (by rfl) (by rfl) ?_
    intro A L hR
    k_extra "go"
    refine ev_comp2 (cl := []) W hR (fun _ _ z => by cases z) ?_ (by with_unfolding_all rfl) (by decide) rfl (by decide) rfl rfl rfl rfl (by decide)
    k_extra "go"
    refine ⟨_, rfl, ⟨by simp, fun Ca => ?_⟩⟩
    k_extra "go"
    have lx := Tm.vars_len x
    refine opl_call hR (ih (by k_extra "om") (by k_extra "om") fun b1 σ₁ hb1 K1 e1 => ?_)
    refine ⟨_, _, rfl, e1, by simp [intsL]; (first | lia | omega), fun D hD => ?_⟩
    k_extra "go"
    refine q D _ ?_ (fun a so e => by rw [SH.set_ne _ _ (ne_new hD (K1 _ _ e))]; exact K1 _ _ e) (SH.set_self _ _ _)
    cases w : σ D with
    | none => rfl
    | some so => rw [K1 _ _ w] at hD; cases hD
  | s2 f x y ihx ihy =>
    intro σ Φ k hk hz q
    obtain ⟨k, rfl⟩ := kpred (k := k) (by k_extra "om")
    simp only [Tm.enc]
    simp only [Tm.depth] at hk
    simp only [Tm.size] at hz
    refine callC_def ["term"] W (by k_is) (by k_is) (by k_extra "bind") (by rfl) (by rfl) (by rfl) (by rfl) (by rfl) ?_
    intro A L hR
    k_extra "go"
    refine ev_comp2 (cl := []) W hR (fun _ _ z => by cases z) ?_ (by with_unfolding_all rfl) (by decide) rfl (by decide) rfl rfl rfl rfl (by decide)
    k_extra "go"
    refine ⟨_, rfl, ⟨by simp, fun Ca => ?_⟩⟩
    k_extra "go"
    have lx := Tm.vars_len x
    have ly := Tm.vars_len y
    refine opl_call hR (ihx (by k_extra "om") (by k_extra "om") fun b1 σ₁ hb1 K1 e1 => ?_)
    refine ⟨_, _, rfl, e1, by simp [intsL]; (first | lia | omega), fun Ca => ?_⟩
    k_extra "go"
    refine opl_call hR (ihy (by k_extra "om") (by k_extra "om") fun b2 σ₂ hb2 K2 e2 => ?_)
    refine ⟨_, _, rfl, e2, by simp [intsL]; (first | lia | omega), fun D hD => ?_⟩
    k_extra "go"
    refine q D _ ?_ (fun a so e => by rw [SH.set_ne _ _ (ne_new hD (K2 _ _ (K1 _ _ e)))]; exact K2 _ _ (K1 _ _ e)) (by rw [SH.set_self]; simp [intsL, Tm.vars])
    cases w : σ D with
    | none => rfl
    | some so => rw [K2 _ _ (K1 _ _ w)] at hD; cases hD
  | v n =>
    intro σ Φ k hk hz q
    obtain ⟨k, rfl⟩ := kpred (k := k) (by k_extra "om")
    simp only [Tm.enc]
    refine callC_def ["term"] W (by k_is) (by k_is) (by k_extra "bind") (by rfl) (by rfl) (by rfl) (by rfl) (by rfl) ?_
    intro A L hR
    k_extra "go"
    refine listK_abs (by simp) fun b σ₁ hb K1 e1 => ?_
    k_extra "go"
    exact q b σ₁ hb K1 e1
  | a n => exact fun hk _ q => leaf rfl (fun _ z => by cases z) rfl (by k_extra "om") q
  | i n => exact fun hk _ q => leaf rfl (fun _ z => by cases z) rfl (by k_extra "om") q
end
section
variable {P : Params} {prog : Program} {C : Cx} {k : Nat} {σ : SH} {Φ : V → SH → Prop}
/-- a table of numbers, its key the variable itself -/
theorem c_numbered (W : Wd prog (h0.heap_1_1 P) C) {tb : Addr} : ∀ (t : Tm) {σ : SH} {Φ : V → SH → Prop} {k : Nat} {T : List Nat}, σ tb = some (.idict (tbl id T)) → t.depth + 1 ≤ k → T.length + t.size ≤ 500 →
    (∀ σ', σ' tb = some (.idict (tbl id (numT t T).2)) → Fw (fun a => a = tb) σ σ' → Φ (.d (numT t T).1.enc) σ') → CallC prog C k (.ref 788) [.d t.enc, .c (.ref tb)] σ Φ := by
  intro t
  have leaf : ∀ {x : Tm} {σ : SH} {Φ : V → SH → Prop} {k : Nat} {T : List Nat}, x.isS = false → (∀ n, x ≠ .v n) → σ tb = some (.idict (tbl id T)) → 1 ≤ k → (∀ σ', σ' tb = some (.idict (tbl id T)) → Fw (fun a => a = tb) σ σ' → Φ (.d x.enc) σ') → CallC prog C k (.ref 788) [.d x.enc, .c (.ref tb)] σ Φ := by
    intro x σ Φ k T hx hnv et hk q
    obtain ⟨k, rfl⟩ := kpred (k := k) (by k_extra "om")
    obtain ⟨tg, jj, he, t1, t2, t3⟩ := Tm.lf hx
    have t2' := t2 hnv
    rw [he] at q ⊢
    refine callC_defC ["term", "table"] W (by k_is) (by k_is) (by k_extra "bind") (by intro n; rfl) (by rfl) (by rfl) (by rfl) ?_
    intro A L hR
    k_extra "go"
    exact q σ et Fw.refl
  induction t with
  | s1 f x ih =>
    intro σ Φ k T et hk hz q
    obtain ⟨k, rfl⟩ := kpred (k := k) (by k_extra "om")
    simp only [Tm.enc]
    simp only [Tm.depth] at hk
    simp only [Tm.size] at hz
    refine callC_defC ["term", "table"] W (by k_is) (by k_is) (by k_extra "bind") (by intro n; rfl) (by rfl) (by rfl) (by rfl) ?_
    intro A L hR
    k_extra "go"
    refine ev_comp1 (cl := [("table", L + 1)]) W hR (fun _ _ z => z) ?_ (by with_unfolding_all rfl) (by decide) rfl (by decide) rfl rfl
    k_extra "go"
    refine ⟨_, rfl, ⟨by simp, fun Ca => ?_⟩⟩
    k_extra "go"
    refine opl_call hR (ih et (by k_extra "om") (by k_extra "om") fun σ₁ e1 f1 => ?_)
    refine ⟨by simp, fun D hD => ?_⟩
    k_extra "go"
    refine opl_tuple (SH.set_self _ _ _) ⟨by simp, _, rfl, ?_⟩
    k_extra "go"
    exact q _ (by rw [SH.set_ne _ _ (ne_new hD e1)]; exact e1) fun a so e hn => by rw [SH.set_ne _ _ (ne_new hD (f1 _ _ e hn))]; exact f1 _ _ e hn
  | s2 f x y ihx ihy =>
    intro σ Φ k T et hk hz q
    obtain ⟨k, rfl⟩ := kpred (k := k) (by k_extra "om")
    simp only [Tm.enc]
    simp only [Tm.depth] at hk
    simp only [Tm.size] at hz
    refine callC_defC ["term", "table"] W (by k_is) (by k_is) (by k_extra "bind") (by intro n; rfl) (by rfl) (by rfl) (by rfl) ?_
    intro A L hR
    k_extra "go"
    refine ev_comp1 (cl := [("table", L + 1)]) W hR (fun _ _ z => z) ?_ (by with_unfolding_all rfl) (by decide) rfl (by decide) rfl rfl
    k_extra "go"
    refine ⟨_, rfl, ⟨by simp, fun Ca => ?_⟩⟩
    k_extra "go"
    have lx := numT_len x T
    refine opl_call hR (ihx et (by k_extra "om") (by k_extra "om") fun σ₁ e1 f1 => ?_)
    refine ⟨by simp, fun Ca => ?_⟩
    k_extra "go"
    refine opl_call hR (ihy e1 (by k_extra "om") (by k_extra "om") fun σ₂ e2 f2 => ?_)
    refine ⟨by simp, fun D hD => ?_⟩
    k_extra "go"
    refine opl_tuple (SH.set_self _ _ _) ⟨by simp, _, rfl, ?_⟩
    k_extra "go"
    exact q _ (by rw [SH.set_ne _ _ (ne_new hD e2)]; exact e2) fun a so e hn => by rw [SH.set_ne _ _ (ne_new hD (f2 _ _ (f1 _ _ e hn) hn))]; exact f2 _ _ (f1 _ _ e hn) hn
  | v n =>
    intro σ Φ k T et hk hz q
    obtain ⟨k, rfl⟩ := kpred (k := k) (by k_extra "om")
    simp only [Tm.enc]
    refine callC_defC ["term", "table"] W (by k_is) (by k_is) (by k_extra "bind") (by intro n; rfl) (by rfl) (by rfl) (by rfl) ?_
    intro A L hR
    by_cases hn : n ∈ T
    · have hv : vat (tbl id T) (n : Int) = some (V.d (.int (ixOf T n : Nat))) := by have := vat_tbl (β := id) (n := n) T (fun m _ e => e); rw [if_pos hn] at this; exact this
      have en : numT (.v n) T = (.v (ixOf T n), T) := if_pos hn
      rw [en] at q
      k_extra "go"
      exact q σ et Fw.refl
    · have hv : vat (tbl id T) (n : Int) = none := by have := vat_tbl (β := id) (n := n) T (fun m _ e => e); rw [if_neg hn] at this; exact this
      have en : numT (.v n) T = (.v T.length, T ++ [n]) := if_neg hn
      rw [en] at q
      have tp : vput (tbl id T) (n : Int) (V.d (.int (T.length : Nat))) = tbl id (T ++ [n]) := tbl_put (β := id) (fun m _ e => e) hn
      have hv2 : vat (vput (tbl id T) (n : Int) (V.d (.int (T.length : Nat)))) (n : Int) = some (V.d (.int (T.length : Nat))) := by rw [vat_put, if_pos rfl]
      have hl : (tbl id T).length ≤ 1000 := by rw [tbl_len]; (first | lia | omega)
      k_extra "go"
      refine q _ ?_ (Fw.refl.set rfl)
      rw [SH.set_self, tp]
  | a n => exact fun et hk _ q => leaf rfl (fun _ z => by cases z) et (by k_extra "om") q
  | i n => exact fun et hk _ q => leaf rfl (fun _ z => by cases z) et (by k_extra "om") q
end
section
variable {P : Params} {prog : Program} {C : Cx} {k : Nat} {σ : SH} {Φ : V → SH → Prop}
noncomputable def fillT (vs : List Tm) (t : Tm) : Int → Tm × Int :=
  t.rec (fun n c => ((vs[n]?).getD (.i 0), c)) (fun n c => (if c - 1 = 0 then .i 77 else .a n, c - 1)) (fun n c => (if c - 1 = 0 then .i 77 else .i n, c - 1))
    (fun f _ ih c => (.s1 f (ih c).1, (ih c).2)) (fun f _ _ ih jh c => (.s2 f (ih c).1 (jh (ih c).2).1, (jh (ih c).2).2))
theorem c_filled (W : Wd prog (h0.heap_1_1 P) C) {vl cd : Addr} {vs : List Tm} (h4 : vs.length = 4) (hne : vl ≠ cd) : ∀ (t : Tm) {σ : SH} {Φ : V → SH → Prop} {k : Nat} {c : Int}, t.ok → σ vl = some (.list (vs.map fun t => V.d t.enc)) → σ cd = some (.list [.d (.int c)]) → t.depth + 1 ≤ k →
    (∀ σ', σ' cd = some (.list [.d (.int (fillT vs t c).2)]) → Fw (fun a => a = cd) σ σ' → Φ (.d (fillT vs t c).1.enc) σ') → CallC prog C k (.ref 793) [.d t.enc, .c (.ref vl), .c (.ref cd)] σ Φ := by
  intro t
  have leaf : ∀ {x : Tm} {σ : SH} {Φ : V → SH → Prop} {k : Nat} {c : Int}, x.isS = false → (∀ n, x ≠ .v n) → (∀ c, fillT vs x c = (if c - 1 = 0 then .i 77 else x, c - 1)) → σ vl = some (.list (vs.map fun t => V.d t.enc)) → σ cd = some (.list [.d (.int c)]) → 1 ≤ k →
      (∀ σ', σ' cd = some (.list [.d (.int (fillT vs x c).2)]) → Fw (fun a => a = cd) σ σ' → Φ (.d (fillT vs x c).1.enc) σ') → CallC prog C k (.ref 793) [.d x.enc, .c (.ref vl), .c (.ref cd)] σ Φ := by
    intro x σ Φ k c hx hnv hf ev ec hk q
    obtain ⟨k, rfl⟩ := kpred (k := k) (by k_extra "om")
    obtain ⟨tg, jj, he, t1, t2, t3⟩ := Tm.lf hx
    have t2' := t2 hnv
    rw [hf] at q
    rw [he]
    refine callC_defC ["term", "values", "countdown"] W (by k_is) (by k_is) (by k_extra "bind") (by intro n; rfl) (by rfl) (by rfl) (by rfl) ?_
    intro A L hR
    k_extra "go"
    refine st_augitem ?_ (by intro _ _ _; rfl)
    k_extra "go"
    refine op_gitem ec (by decide) (by decide) rfl ?_
    k_extra "go"
    refine op_isub ?_
    refine set_list ec (by decide) (by decide) (by simp) ?_
    rw [show (([V.d (.int c)] : List V).set (Int.toNat 0) (V.d (.int (c - 1)))) = [V.d (.int (c - 1))] from rfl]
    have e2 : (σ.set cd (.list [V.d (.int (c - 1))])) cd = some (.list [V.d (.int (c - 1))]) := SH.set_self _ _ _
    k_extra "go"
    refine op_listIdx e2 (by decide) (by decide) rfl ?_
    k_extra "go"
    refine ⟨fun hb => ?_, fun hb => ?_⟩ <;> simp only [decide_eq_true_eq, decide_eq_false_iff_not] at hb
    · k_extra "go"
      have := q _ e2 (Fw.refl.set rfl)
      simp only [if_pos hb] at this
      exact this
    · k_extra "go"
      have := q _ e2 (Fw.refl.set rfl)
      simp only [if_neg hb] at this
      rw [he] at this
      exact this
  induction t with
  | s1 f x ih =>
    intro σ Φ k c ok ev ec hk q
    obtain ⟨k, rfl⟩ := kpred (k := k) (by k_extra "om")
    simp only [Tm.enc]
    simp only [Tm.depth] at hk
    refine callC_defC ["term", "values", "countdown"] W (by k_is) (by k_is) (by k_extra "bind") (by intro n; rfl) (by rfl) (by rfl) (by rfl) ?_
    intro A L hR
    k_extra "go"
    refine ev_comp1 (cl := [("values", L + 1), ("countdown", L + 2)]) W hR ?_ ?_ (by with_unfolding_all rfl) (by decide) rfl (by decide) rfl rfl
    · intro y c hc
      by_cases h1 : y = "values"
      · subst h1; exact hc
      · by_cases h2 : y = "countdown"
        · subst h2; exact hc
        · have z1 : (y == ("values" : Str)) = false := by simpa using h1
          have z2 : (y == ("countdown" : Str)) = false := by simpa using h2
          rw [List.lookup_cons, z1, List.lookup_cons, z2] at hc
          cases hc
    k_extra "go"
    refine ⟨_, rfl, ⟨by simp, fun Ca => ?_⟩⟩
    k_extra "go"
    refine opl_call hR (ih ok ev ec (by k_extra "om") fun σ₁ e1 f1 => ?_)
    refine ⟨by simp, fun D hD => ?_⟩
    k_extra "go"
    refine opl_tuple (SH.set_self _ _ _) ⟨by simp, _, rfl, ?_⟩
    k_extra "go"
    exact q _ (by rw [SH.set_ne _ _ (ne_new hD e1)]; exact e1) fun a so e hn => by rw [SH.set_ne _ _ (ne_new hD (f1 _ _ e hn))]; exact f1 _ _ e hn
  | s2 f x y ihx ihy =>
    intro σ Φ k c ok ev ec hk q
    obtain ⟨k, rfl⟩ := kpred (k := k) (by k_extra "om")
    simp only [Tm.enc]
    simp only [Tm.depth] at hk
    refine callC_defC ["term", "values", "countdown"] W (by k_is) (by k_is) (by k_extra "bind") (by intro n; rfl) (by rfl) (by rfl) (by rfl) ?_
    intro A L hR
    k_extra "go"
    refine ev_comp1 (cl := [("values", L + 1), ("countdown", L + 2)]) W hR ?_ ?_ (by with_unfolding_all rfl) (by decide) rfl (by decide) rfl rfl
    · intro y c hc
      by_cases h1 : y = "values"
      · subst h1; exact hc
      · by_cases h2 : y = "countdown"
        · subst h2; exact hc
        · have z1 : (y == ("values" : Str)) = false := by simpa using h1
          have z2 : (y == ("countdown" : Str)) = false := by simpa using h2
          rw [List.lookup_cons, z1, List.lookup_cons, z2] at hc
          cases hc
    k_extra "go"
    refine ⟨_, rfl, ⟨by simp, fun Ca => ?_⟩⟩
    k_extra "go"
    refine opl_call hR (ihx ok.1 ev ec (by k_extra "om") fun σ₁ e1 f1 => ?_)
    refine ⟨by simp, fun Ca => ?_⟩
    k_extra "go"
    refine opl_call hR (ihy ok.2 (f1 _ _ ev hne) e1 (by k_extra "om") fun σ₂ e2 f2 => ?_)
    refine ⟨by simp, fun D hD => ?_⟩
    k_extra "go"
    refine opl_tuple (SH.set_self _ _ _) ⟨by simp, _, rfl, ?_⟩
    k_extra "go"
    exact q _ (by rw [SH.set_ne _ _ (ne_new hD e2)]; exact e2) fun a so e hn => by rw [SH.set_ne _ _ (ne_new hD (f2 _ _ (f1 _ _ e hn) hn))]; exact f2 _ _ (f1 _ _ e hn) hn
  | v n =>
    intro σ Φ k c ok ev ec hk q
    obtain ⟨k, rfl⟩ := kpred (k := k) (by k_extra "om")
    simp only [Tm.enc]
    refine callC_defC ["term", "values", "countdown"] W (by k_is) (by k_is) (by k_extra "bind") (by intro n; rfl) (by rfl) (by rfl) (by rfl) ?_
    intro A L hR
    k_extra "go"
    have hn : n < vs.length := by rw [h4]; exact ok
    refine op_listN ev (n := n) (X := .d ((vs[n]?).getD (.i 0)).enc) (by rw [List.getElem?_map, List.getElem?_eq_getElem hn]; rfl) (by simp; (first | lia | omega)) ?_
    k_extra "go"
    exact q σ ec Fw.refl
  | a n => exact fun ok ev ec hk q => leaf rfl (fun _ z => by cases z) (fun _ => rfl) ev ec (by k_extra "om") q
  | i n => exact fun ok ev ec hk q => leaf rfl (fun _ z => by cases z) (fun _ => rfl) ev ec (by k_extra "om") q
end
section
variable {P : Params} {prog : Program} {C : Cx} {k : Nat} {σ : SH} {Φ : V → SH → Prop}
structure HS (σ : SH) (Y : SymA) (B : MchA) (S : Sy) (M : Mch) (wk sn : Addr) (wt : List (Tm × Nat)) (se : List Nat) : Prop where
  y : MchAt σ Y B S M
  ew : σ wk = some (.list (wt.map fun p => V.d (wtv p)))
  es : σ sn = some (.list (natsL se))
  ne : wk ≠ sn
  nwk : ¬ Foot Y B wk
  nsn : ¬ Foot Y B sn
structure HL (m : Loc) (B : MchA) (wk sn : Addr) (fr : Nat) : Prop where
  mm : m "m" = some (.c (.ref B.m))
  waiting : m "waiting" = some (.c (.ref wk))
  seen : m "seen" = some (.c (.ref sn))
  fresh : m "fresh" = some (.d (.int (fr : Int)))
theorem MchM.foot {Y : SymA} {B : MchA} {a : Addr} (h : MchM B a) : Foot Y B a := by
  rcases h with h | h | h
  · exact .inr (.inr (.inr (.inr (.inr (.inl h)))))
  · exact .inr (.inr (.inr (.inr (.inr (.inr h)))))
  · exact .inr (.inr (.inl h))
theorem HS.fw {σ σ' : SH} {Y : SymA} {B : MchA} {S : Sy} {M M' : Mch} {wk sn : Addr} {wt : List (Tm × Nat)} {se : List Nat} (h : HS σ Y B S M wk sn wt se) (y : MchAt σ' Y B S M') (f : Fw (MchM B) σ σ') : HS σ' Y B S M' wk sn wt se :=
  ⟨y, f _ _ h.ew fun z => h.nwk z.foot, f _ _ h.es fun z => h.nsn z.foot, h.ne, h.nwk, h.nsn⟩
theorem HS.setW {σ : SH} {Y : SymA} {B : MchA} {S : Sy} {M : Mch} {wk sn : Addr} {wt : List (Tm × Nat)} {se : List Nat} (h : HS σ Y B S M wk sn wt se) (wt' : List (Tm × Nat)) {xs : List V} (e : xs = wt'.map fun p => V.d (wtv p)) : HS (σ.set wk (.list xs)) Y B S M wk sn wt' se :=
  ⟨h.y.set h.nwk, by rw [SH.set_self, e], by rw [SH.set_ne _ _ h.ne.symm]; exact h.es, h.ne, h.nwk, h.nsn⟩
theorem HS.setS {σ : SH} {Y : SymA} {B : MchA} {S : Sy} {M : Mch} {wk sn : Addr} {wt : List (Tm × Nat)} {se : List Nat} (h : HS σ Y B S M wk sn wt se) (se' : List Nat) {xs : List V} (e : xs = natsL se') : HS (σ.set sn (.list xs)) Y B S M wk sn wt se' :=
  ⟨h.y.set h.nsn, by rw [SH.set_ne _ _ h.ne]; exact h.ew, by rw [SH.set_self, e], h.ne, h.nwk, h.nsn⟩
theorem natsL_snoc (l : List Nat) (n : Nat) : natsL l ++ [V.d (.int (n : Int))] = natsL (l ++ [n]) := by simp [natsL]
theorem natsL_len (l : List Nat) : (natsL l).length = l.length := by simp [natsL]
theorem wtv_snoc (l : List (Tm × Nat)) (x : Tm) (n : Nat) : (l.map fun p => V.d (wtv p)) ++ [V.d (.tuple [x.enc, .tuple [.str "x", .int (n : Int)]])] = (l ++ [(x, n)]).map fun p => V.d (wtv p) := by simp [wtv]
inductive HTop (I : List Nat → Nat → List (Tm × Nat) → List Tm → Mch → Prop) (Y : SymA) (B : MchA) (S : Sy) (σ0 : SH) (wk sn : Addr) (n : Nat) (m : Loc) (σ : SH) : Prop
  | mk (se : List Nat) (fr : Nat) (wt : List (Tm × Nat)) (M : Mch) (h1 : HS σ Y B S M wk sn wt se) (h2 : HL m B wk sn fr) (h3 : I se fr wt [] M) (h4 : ∀ p ∈ wt, p.1.isS = true ∧ p.1.size ≤ 20) (h5 : wsz wt ≤ n) (h6 : se.length + wsz wt ≤ 100) (h7 : Fw (MchM B) σ0 σ)
inductive HIn (I : List Nat → Nat → List (Tm × Nat) → List Tm → Mch → Prop) (Y : SymA) (B : MchA) (S : Sy) (σ0 : SH) (wk sn : Addr) (n : Nat) (r : List Tm) (m : Loc) (σ : SH) : Prop
  | mk (se : List Nat) (fr : Nat) (wt : List (Tm × Nat)) (M : Mch) (h1 : HS σ Y B S M wk sn wt se) (h2 : HL m B wk sn fr) (h3 : I se fr wt r M) (h4 : ∀ p ∈ wt, p.1.isS = true ∧ p.1.size ≤ 20) (h4' : ∀ x ∈ r, x.size ≤ 20) (h5 : wsz wt + sizes r < n) (h6 : se.length + wsz wt + sizes r ≤ 100) (h7 : Fw (MchM B) σ0 σ)
theorem ifexp_join {prog : Program} {C : Cx} {A : Around} {env : Env} {m : Loc} {σ : SH} {Φ : V → SH → Prop} {c : Bool} {e1 e2 : Expr} (Q : V → SH → Prop) (h1 : c = true → Ev prog C A env e1 m σ Q) (h2 : c = false → Ev prog C A env e2 m σ Q) (h : ∀ X σ', Q X σ' → Φ X σ') :
    (c = true → Ev prog C A env e1 m σ Φ) ∧ (c = false → Ev prog C A env e2 m σ Φ) := ⟨fun q => Tr.mono' (h1 q) h, fun q => Tr.mono' (h2 q) h⟩
theorem c_head (W : Wd prog (h0.heap_1_1 P) C) {Y : SymA} {B : MchA} {S : Sy} {M : Mch} (h : MchAt σ Y B S M) {T : Tm} (I : List Nat → Nat → List (Tm × Nat) → List Tm → Mch → Prop) (Fl : Mch → Prop)
    (hT : T.isS = true) (hz : T.size ≤ 20) (h0 : I [] 30 [(T, 1)] [] M)
    (hO : ∀ sn fr t (hm : Nat) wt M (σ : SH) (Φ : V → SH → Prop), I sn fr ((t, hm) :: wt) [] M → t.isS = true → MchAt σ Y B S M → (∀ M' σ', I sn fr wt t.args M' → MchAt σ' Y B S M' → Fw (MchM B) σ σ' → Φ (.d (.bool true)) σ') →
      (t.fn = 0 → CallC prog C 2 (.ref 678) [.c (.ref B.m), .d (.tuple [.str "get_list", .tuple [.str "x", .int (hm : Int)]])] σ Φ) ∧ (t.fn ≠ 0 → CallC prog C 2 (.ref 685) [.c (.ref B.m), .d (.tuple [.str "get_structure", .int (t.fn : Int), .tuple [.str "x", .int (hm : Int)]])] σ Φ))
    (hV : ∀ sn fr wt (n : Nat) r M (σ : SH) (Φ : V → SH → Prop), I sn fr wt (.v n :: r) M → n ∈ sn → MchAt σ Y B S M → (∀ M' σ', I sn fr wt r M' → MchAt σ' Y B S M' → Fw (MchM B) σ σ' → Φ (.d (.bool true)) σ') →
      CallC prog C 6 (.ref 699) [.c (.ref B.m), .d (.tuple [.str "unify_value", .tuple [.str "x", .int ((10 + n : Nat) : Int)]])] σ Φ)
    (hN : ∀ sn fr wt (n : Nat) r M (σ : SH) (Φ : V → SH → Prop), I sn fr wt (.v n :: r) M → n ∉ sn → MchAt σ Y B S M → (∀ M' σ', I (sn ++ [n]) fr wt r M' → MchAt σ' Y B S M' → Fw (MchM B) σ σ' → Φ (.d (.bool true)) σ') →
      CallC prog C 3 (.ref 692) [.c (.ref B.m), .d (.tuple [.str "unify_variable", .tuple [.str "x", .int ((10 + n : Nat) : Int)]])] σ Φ)
    (hS : ∀ sn fr wt x r M (σ : SH) (Φ : V → SH → Prop), I sn fr wt (x :: r) M → x.isS = true → MchAt σ Y B S M → (∀ M' σ', I sn (fr + 1) (wt ++ [(x, fr + 1)]) r M' → MchAt σ' Y B S M' → Fw (MchM B) σ σ' → Φ (.d (.bool true)) σ') →
      CallC prog C 3 (.ref 692) [.c (.ref B.m), .d (.tuple [.str "unify_variable", .tuple [.str "x", .int ((fr + 1 : Nat) : Int)]])] σ Φ)
    (hC : ∀ sn fr wt x r M (σ : SH) (Φ : V → SH → Prop), I sn fr wt (x :: r) M → x.isS = false → (∀ n, x ≠ .v n) → MchAt σ Y B S M → (∀ M' σ', I sn fr wt r M' → MchAt σ' Y B S M' → Fw (MchM B) σ σ' → Φ (.d (.bool true)) σ') →
      (∀ M' σ', Fl M' → MchAt σ' Y B S M' → Fw (MchM B) σ σ' → Φ (.d (.bool false)) σ') → CallC prog C 3 (.ref 706) [.c (.ref B.m), .d (.tuple [.str "unify_constant", ec x.cell])] σ Φ)
    (hk : 7 ≤ k) (q1 : ∀ sn fr M' σ', I sn fr [] [] M' → MchAt σ' Y B S M' → Fw (MchM B) σ σ' → Φ (.d (.bool true)) σ')
    (q2 : ∀ M' σ', Fl M' → MchAt σ' Y B S M' → Fw (MchM B) σ σ' → Φ (.d (.bool false)) σ') : CallC prog C k (.ref 776) [.c (.ref B.m), .d T.enc] σ Φ := by
  obtain ⟨k, rfl⟩ := kpred (k := k) (by k_extra "om")
  refine callC_def ["m", "term"] W (by k_is) (by k_is) (by k_extra "bind") (by rfl) (by rfl) (by rfl) (by rfl) (by rfl) ?_
  intro A L hR
  k_extra "go"
  refine listK_abs (by simp) fun wk σ₁ hwk K1 e1 => ?_
  k_extra "go"
  refine listK_abs (by simp) fun sn σ₂ hsn K2 e2 => ?_
  k_extra "go"
  refine st_loop ?_
  have y2 := (h.fw K1.fw fun _ _ z => z).fw K2.fw fun _ _ z => z
  have hsn0 : σ sn = none := by
    cases z : σ sn with
    | none => rfl
    | some so => rw [K1 _ _ z] at hsn; cases hsn
  have H0 : HS σ₂ Y B S M wk sn [(T, 1)] [] := ⟨y2, K2 _ _ e1, e2, ne_new hsn e1, h.nfoot hwk, h.nfoot hsn0⟩
  have keep : ∀ {so σ'}, Fw (MchM B) σ σ' → Fw (MchM B) σ (σ'.set wk so) := fun f => f.new hwk
  have keepS : ∀ {so σ'}, Fw (MchM B) σ σ' → Fw (MchM B) σ (σ'.set sn so) := fun f => f.new hsn0
  refine loop_ind (G := fun m σ => LoopC _ _ _ _ _ _ m σ _) (HTop I Y B S σ wk sn) ?_ T.size _ _ ⟨[], 30, [(T, 1)], M, H0, ⟨by k_extra "lo", by k_extra "lo", by k_extra "lo", by k_extra "lo"⟩, h0, by simpa using ⟨hT, hz⟩, by simp [wsz], by simp [wsz]; (first | lia | omega), (K1.fw.trans K2.fw).mono fun _ z => z.elim⟩
  rintro n m σ' ⟨se, fr, wt, M, hS', hL, hI, hwt, hn, hlen, hF⟩ ih
  have hL' := hL
  obtain ⟨a1, a2, a3, a4⟩ := hL
  refine loop_turn ?_
  k_extra "go"
  refine listK_abs (by simp) fun em σ₃ hem K3 e3 => ?_
  have h3 := hS'.fw (hS'.y.fw K3.fw fun _ _ z => z) (K3.fw.mono fun _ z => z.elim)
  have f3 := hF.trans (K3.fw.mono (N := MchM B) fun _ z => z.elim)
  have hwl := wsz_len wt
  refine op_ne_wait hR h3.ew e3 (fun p hp => (hwt p hp).2) ?_
  k_extra "go"
  refine ⟨fun hb => ?_, fun hb => ?_⟩ <;> simp only [decide_eq_true_eq, decide_eq_false_iff_not, ne_eq, Decidable.not_not] at hb
  · obtain ⟨⟨t, hm⟩, wt, rfl⟩ : ∃ p r, wt = p :: r := by
      cases wt with
      | nil => exact absurd rfl hb
      | cons p r => exact ⟨p, r, rfl⟩
    obtain ⟨ts, tz⟩ := hwt _ (.head _)
    have tz : t.size ≤ 20 := tz
    have ew3 := h3.ew
    rw [List.map_cons] at ew3
    have hsz : t.size = 1 + sizes t.args := Tm.size_args ts
    have hw1 : wsz ((t, hm) :: wt) = t.size + wsz wt := by simp [wsz]
    simp only [List.length_cons] at hwl
    have hxz : ∀ x ∈ t.args, x.size ≤ 20 := fun x hx => by
      have := sizes_mem hx
      (first | lia | omega)
    have h4 := h3.setW wt rfl
    k_extra "go"
    refine st_assign2 hR ?_
    k_extra "go"
    refine op_pop0 ew3 (by simp; (first | lia | omega)) ?_
    refine ⟨_, _, rfl, ?_⟩
    rw [Tm.enc_s ts]
    k_extra "go"
    refine ifexp_join (fun X σ' => X = .d (.bool true) ∧ ∃ M', I se fr wt t.args M' ∧ MchAt σ' Y B S M' ∧ Fw (MchM B) (σ₃.set wk (.list (wt.map fun p => V.d (wtv p)))) σ') ?_ ?_ ?_
    · intro hb
      simp only [decide_eq_true_eq] at hb
      k_extra "go"
      refine opl_call hR (CallC.le ((hO se fr t hm wt M _ _ hI ts h4.y fun M' σ' hI' y' f' => ⟨rfl, M', hI', y', f'⟩).1 (by k_extra "om")) (by k_extra "om"))
    · intro hb
      simp only [decide_eq_false_iff_not] at hb
      k_extra "go"
      refine opl_call hR (CallC.le ((hO se fr t hm wt M _ _ hI ts h4.y fun M' σ' hI' y' f' => ⟨rfl, M', hI', y', f'⟩).2 (by k_extra "om")) (by k_extra "om"))
    · rintro X σ₅ ⟨rfl, M5, hI5, y5, f5⟩
      have h5 := h4.fw y5 f5
      k_extra "go"
      refine st_for_tuple hR ?_
      k_extra "go"
      refine ⟨_, rfl, ?_⟩
      rw [List.map_map]
      refine forL_ind (V.d ∘ Tm.enc) (HIn I Y B S σ wk sn n) ?_ ?_ t.args _ _ ⟨se, fr, wt, M5, h5, ⟨by k_extra "lo", by k_extra "lo", by k_extra "lo", by k_extra "lo"⟩, hI5, fun p hp => hwt p (.tail _ hp), hxz, by (first | lia | omega), by (first | lia | omega), (keep f3).trans f5⟩
      · rintro x r m σ' ⟨se, fr, wt, M, hS', hL, hI, hwt, hr, hn', hlen', hF⟩ kk
        clear hL' a1 a2 a3 a4 ih e1 e2 e3 ew3 h3 h4 h5 y5 f5
        obtain ⟨a1, a2, a3, a4⟩ := hL
        have es := hS'.es
        have ew := hS'.ew
        have hwl := wsz_len wt
        have hsx : sizes (x :: r) = x.size + sizes r := by simp [sizes]
        have hxp := Tm.size_pos x
        have hrr : ∀ y ∈ r, y.size ≤ 20 := fun y hy => hr y (.tail _ hy)
        refine forL_cons' (Y := V.d x.enc) rfl trivial ?_
        by_cases hs : x.isS = true
        · have hx20 := hr x (.head _)
          have h6 := hS'.setW (wt ++ [(x, fr + 1)]) (xs := (wt.map fun p => V.d (wtv p)) ++ [V.d (.tuple [.tuple [.str "s", .int (x.fn : Int), .tuple (x.args.map Tm.enc)], .tuple [.str "x", .int ((fr + 1 : Nat) : Int)]])]) (by rw [← Tm.enc_s hs]; exact wtv_snoc _ _ _)
          have hw2 : wsz (wt ++ [(x, fr + 1)]) = wsz wt + x.size := by simp [wsz]
          rw [Tm.enc_s hs]
          k_extra "go"
          refine opl_call hR (CallC.le (hS se fr wt x r M _ _ hI hs h6.y fun M' σ'' hI' y' f' => ?_) (by k_extra "om"))
          k_extra "go"
          refine kk _ _ ⟨se, fr + 1, _, M', h6.fw y' f', ⟨by k_extra "lo", by k_extra "lo", by k_extra "lo", by k_extra "lo"⟩, hI', fun p hp => ?_, hrr, by (first | lia | omega), by (first | lia | omega), (keep hF).trans f'⟩
          rcases List.mem_append.mp hp with hp | hp
          · exact hwt p hp
          · simp at hp; subst hp; exact ⟨hs, hx20⟩
        · have hs' : x.isS = false := by simpa using hs
          by_cases hvx : ∃ n, x = .v n
          · obtain ⟨n, rfl⟩ := hvx
            simp only [Tm.enc]
            k_extra "go"
            refine op_in_seen hR es ?_
            by_cases hn : n ∈ se
            · rw [decide_eq_true hn]
              k_extra "go"
              refine opl_call hR (CallC.le (hV se fr wt n r M _ _ hI hn hS'.y fun M' σ'' hI' y' f' => ?_) (by k_extra "om"))
              k_extra "go"
              exact kk _ _ ⟨se, fr, wt, M', hS'.fw y' f', ⟨by k_extra "lo", by k_extra "lo", by k_extra "lo", by k_extra "lo"⟩, hI', hwt, hrr, by (first | lia | omega), by (first | lia | omega), hF.trans f'⟩
            · rw [decide_eq_false hn]
              have hnl := natsL_len se
              have h6 := hS'.setS (se ++ [n]) (natsL_snoc se n)
              k_extra "go"
              refine opl_call hR (CallC.le (hN se fr wt n r M _ _ hI hn h6.y fun M' σ'' hI' y' f' => ?_) (by k_extra "om"))
              k_extra "go"
              exact kk _ _ ⟨se ++ [n], fr, wt, M', h6.fw y' f', ⟨by k_extra "lo", by k_extra "lo", by k_extra "lo", by k_extra "lo"⟩, hI', hwt, hrr, by (first | lia | omega), by simp; (first | lia | omega), (keepS hF).trans f'⟩
          · have hnv : ∀ n, x ≠ .v n := fun n z => hvx ⟨n, z⟩
            obtain ⟨tg, jj, he, t1, t2, t3⟩ := Tm.lf hs'
            have t2' := t2 hnv
            rw [he]
            k_extra "go"
            rw [← he]
            refine opl_call hR (c_cell W (t := x) hs' hnv (by k_extra "om") ?_)
            k_extra "go"
            refine opl_call hR (CallC.le (hC se fr wt x r M _ _ hI hs' hnv hS'.y (fun M' σ'' hI' y' f' => ?_) (fun M' σ'' hf y' f' => ?_)) (by k_extra "om"))
            · k_extra "go"
              exact kk _ _ ⟨se, fr, wt, M', hS'.fw y' f', ⟨by k_extra "lo", by k_extra "lo", by k_extra "lo", by k_extra "lo"⟩, hI', hwt, hrr, by (first | lia | omega), by (first | lia | omega), hF.trans f'⟩
            · k_extra "go"
              exact q2 _ _ hf y' (hF.trans f')
      · rintro m σ' ⟨se, fr, wt, M, hS', hL, hI, hwt, hr, hn', hlen', hF⟩
        refine forL_nil trivial ?_
        k_extra "go"
        exact ih _ _ _ (by simp [sizes] at hn'; exact hn') ⟨se, fr, wt, M, hS', hL, hI, hwt, Nat.le_refl _, by (first | lia | omega), hF⟩
  · subst hb
    k_extra "go"
    exact q1 _ _ _ _ hI h3.y f3
end
section
variable {P : Params} {prog : Program} {C : Cx} {k : Nat} {σ : SH} {Φ : V → SH → Prop}
theorem c_head_w (W : Wd prog (h0.heap_1_1 P) C) {Y : SymA} {B : MchA} {S : Sy} {M : Mch} (h : MchAt σ Y B S M) {T : Tm} (hT : T.isS = true) (hz : T.size ≤ 20) (hw : T.wf S.F) (hv : ∀ n ∈ T.vars, n < 4)
    (hH : M.H = [(0, 0)]) (hX1 : M.X[1]? = some (0, 0)) (hX : M.X.length ≤ 31) (hk : 7 ≤ k)
    (q : ∀ M' σ' β l, M'.w = true → M'.H.length ≤ 700 → M'.X.length ≤ 400 → M'.X[1]? = some (0, 0) → Den S.F M'.H β T (0, 0) l → l.Nodup → (∀ n ∈ T.vars, ∀ m ∈ T.vars, β n = β m → n = m) → MchAt σ' Y B S M' → Fw (MchM B) σ σ' → Φ (.d (.bool true)) σ') :
    CallC prog C k (.ref 776) [.c (.ref B.m), .d T.enc] σ Φ := by
  refine c_head W h (fun sn fr wt as M => ∃ pd β cl, wt = pd.map (fun p => (p.1, p.2.1)) ∧ PW S.F T M β sn fr pd as cl) (fun _ => False) hT hz
    ⟨[(T, 1, 0)], fun _ => 0, [], rfl, PW.init hT hw hv (by k_extra "om") hH hX1 hX⟩ ?_ ?_ ?_ ?_ ?_ hk ?_ (fun _ _ e => e.elim)
  · rintro sn fr t hm wt M σ Φ ⟨pd, β, cl, ewt, hI⟩ ts y q
    obtain ⟨⟨t', hm', a⟩, pd, rfl⟩ : ∃ p r, pd = p :: r := by
      cases pd with
      | nil => cases ewt
      | cons p r => exact ⟨p, r, rfl⟩
    simp only [List.map_cons, List.cons.injEq, Prod.mk.injEq] at ewt
    obtain ⟨⟨rfl, rfl⟩, rfl⟩ := ewt
    obtain ⟨r1, r2⟩ := hI.reg _ (.head _)
    have bd := hI.bnd
    refine ⟨fun hf => ?_, fun hf => ?_⟩
    · refine c_get_list_w W y (by k_extra "om") (by k_extra "om") (by k_extra "om") r1 r2 fun σ' y' f' => ?_
      refine q _ _ ?_ y' f'; exact ⟨pd, β, _, rfl, hI.open (by simp [oH, hf]) rfl rfl⟩
    · refine c_get_structure_w W y (by k_extra "om") (by k_extra "om") (by k_extra "om") r1 r2 fun σ' y' f' => ?_
      refine q _ _ ?_ y' f'; exact ⟨pd, β, _, rfl, hI.open (by simp [oH, hf]) rfl rfl⟩
  · rintro sn fr wt n r M σ Φ ⟨pd, β, cl, rfl, hI⟩ hn y q
    have bd := hI.bnd
    have hw := hI.md.resolve_right (by simp)
    obtain ⟨v1, v2, v3⟩ := hI.var n hn
    refine c_unify_value_w W y (by k_extra "om") (by k_extra "om") (by k_extra "om") hw v1 (.self rfl v2) (by simp) (by simp) fun σ' y' f' => ?_
    refine q _ _ ?_ y' f'; exact ⟨pd, β, cl, rfl, hI.seen hn rfl rfl hw⟩
  · rintro sn fr wt n r M σ Φ ⟨pd, β, cl, rfl, hI⟩ hn y q
    have bd := hI.bnd
    have hw := hI.md.resolve_right (by simp)
    have n4 : n < 4 := (hI.wfa _ (.head _)).2 n (.head _)
    refine c_unify_variable_w W y (by k_extra "om") (by k_extra "om") (by k_extra "om") (by k_extra "om") hw fun σ' y' f' => ?_
    refine q _ _ ?_ y' f'; exact ⟨pd, _, cl, rfl, hI.new hn rfl rfl hw⟩
  · rintro sn fr wt x r M σ Φ ⟨pd, β, cl, rfl, hI⟩ hs y q
    have bd := hI.bnd
    have hw := hI.md.resolve_right (by simp)
    refine c_unify_variable_w W y (by k_extra "om") (by k_extra "om") (by k_extra "om") (by k_extra "om") hw fun σ' y' f' => ?_
    refine q _ _ ?_ y' f'; exact ⟨_, β, cl, by simp, hI.comp hs rfl rfl hw⟩
  · rintro sn fr wt x r M σ Φ ⟨pd, β, cl, rfl, hI⟩ hs hv y q -
    have bd := hI.bnd
    have hw := hI.md.resolve_right (by simp)
    refine c_unify_constant_w W y (by k_extra "om") (by k_extra "om") hw fun σ' y' f' => ?_
    refine q _ _ ?_ y' f'; exact ⟨pd, β, cl, rfl, hI.const hs hv rfl rfl hw⟩
  · rintro sn fr M' σ' ⟨pd, β, cl, ewt, hI⟩ y' f'
    cases pd with
    | cons p r => cases ewt
    | nil =>
      obtain ⟨⟨l, D, nd⟩, x1, inj, hw, zH, zX⟩ := hI.done
      exact q M' σ' β l hw zH zX x1 D nd inj y' f'
theorem c_head_r (W : Wd prog (h0.heap_1_1 P) C) {Y : SymA} {B : MchA} {S : Sy} {M : Mch} (h : MchAt σ Y B S M) {T u : Tm} {vs : List Tm} {K : Nat} {c : Cell} {l : List Nat} (hT : T.isS = true) (hz : T.size ≤ 20) (hv : ∀ n ∈ T.vars, n < 4)
    (hg : ∀ v ∈ vs, v.ground = true ∧ v.size ≤ 800) (hn : Nr vs T u K) (D : Den S.F M.H b0 u c l) (hX1 : M.X[1]? = some c) (hX : M.X.length ≤ 31) (hw : M.w = false) (hl : M.H.length ≤ 900) (hF : S.F.length ≤ 1000) (hk : 7 ≤ k)
    (q1 : K = 0 → ∀ M' σ', M'.H = M.H → M'.w = false → M'.X.length ≤ 400 → (∀ n ∈ T.vars, ∃ c u l, M'.X[10 + n]? = some c ∧ vs[n]? = some u ∧ Den S.F M'.H b0 u c l) → MchAt σ' Y B S M' → Fw (MchM B) σ σ' → Φ (.d (.bool true)) σ')
    (q2 : K ≠ 0 → ∀ M' σ', M'.H = M.H → MchAt σ' Y B S M' → Fw (MchM B) σ σ' → Φ (.d (.bool false)) σ') :
    CallC prog C k (.ref 776) [.c (.ref B.m), .d T.enc] σ Φ := by
  refine c_head W h (fun sn fr wt as M' => ∃ pd ka, wt = pd.map (fun p => (p.1, p.2.1)) ∧ PR S.F T M.H vs K M' sn fr pd as ka) (fun M' => K ≠ 0 ∧ M'.H = M.H) hT hz
    ⟨[(T, 1, K)], 0, rfl, PR.init hT hv (by k_extra "om") rfl hn D hX1 hX hw⟩ ?_ ?_ ?_ ?_ ?_ hk ?_ (fun M' σ' e y f => q2 e.1 M' σ' e.2 y f)
  · rintro sn fr t hm wt M' σ Φ ⟨pd, ka, ewt, hI⟩ ts y q
    obtain ⟨⟨t', hm', k'⟩, pd, rfl⟩ : ∃ p r, pd = p :: r := by
      cases pd with
      | nil => cases ewt
      | cons p r => exact ⟨p, r, rfl⟩
    simp only [List.map_cons, List.cons.injEq, Prod.mk.injEq] at ewt
    obtain ⟨⟨rfl, rfl⟩, rfl⟩ := ewt
    obtain ⟨c, e, b, g1, g2, g3, g4⟩ := hI.open
    have bd := hI.bnd
    have hH : M'.H.length ≤ 900 := by rw [hI.hH]; exact hl
    refine ⟨fun hf => ?_, fun hf => ?_⟩
    · rcases g3 with ⟨e1, e2, e3, e4⟩ | ⟨e1, e2, e3⟩
      · obtain ⟨e1', e2'⟩ := e
        cases e1
        subst e4
        refine c_get_list_r W y (by k_extra "om") (by k_extra "om") (by k_extra "om") g1 g2 fun σ' y' f' => ?_
        refine q _ _ ?_ y' f'; exact ⟨pd, _, rfl, g4 _ rfl rfl rfl rfl⟩
      · exact absurd hf e2
    · rcases g3 with ⟨e1, e2, e3, e4⟩ | ⟨e1, e2, e3, e4, e5⟩
      · exact absurd e2 hf
      · obtain ⟨e1', e2'⟩ := e
        cases e1
        subst e5
        refine c_get_structure_r W y (by k_extra "om") (by k_extra "om") (by k_extra "om") g1 g2 e3 fun σ' y' f' => ?_
        refine q _ _ ?_ y' f'; exact ⟨pd, _, rfl, g4 _ rfl rfl rfl rfl⟩
  · rintro sn fr wt n r M' σ Φ ⟨pd, ka, rfl, hI⟩ hn y q
    have bd := hI.bnd
    have hH : M'.H.length ≤ 900 := by rw [hI.hH]; exact hl
    obtain ⟨c, d, u, l, l', g1, g2, g3, g4, g5, g6⟩ := hI.seen hn
    obtain ⟨i1, i2⟩ := hg u (List.mem_of_getElem? g3)
    refine c_unify_value_r W y i1 g4 g5 i2 (by k_extra "om") (by k_extra "om") (by k_extra "om") (by k_extra "om") hI.md g1 g2 fun σ' y' f' => ?_
    refine q _ _ ?_ y' f'; exact ⟨pd, _, rfl, g6 _ rfl rfl hI.md rfl⟩
  · rintro sn fr wt n r M' σ Φ ⟨pd, ka, rfl, hI⟩ hn y q
    have bd := hI.bnd
    have hH : M'.H.length ≤ 900 := by rw [hI.hH]; exact hl
    obtain ⟨n4, d, g1, g2⟩ := hI.new hn
    refine c_unify_variable_r W y (by k_extra "om") (by k_extra "om") (by k_extra "om") (by k_extra "om") hI.md g1 fun σ' y' f' => ?_
    refine q _ _ ?_ y' f'; exact ⟨pd, _, rfl, g2 _ rfl rfl hI.md rfl⟩
  · rintro sn fr wt x r M' σ Φ ⟨pd, ka, rfl, hI⟩ hs y q
    have bd := hI.bnd
    have hH : M'.H.length ≤ 900 := by rw [hI.hH]; exact hl
    obtain ⟨d, k1, k2, g1, g2⟩ := hI.comp hs
    refine c_unify_variable_r W y (by k_extra "om") (by k_extra "om") (by k_extra "om") (by k_extra "om") hI.md g1 fun σ' y' f' => ?_
    refine q _ _ ?_ y' f'; exact ⟨_, _, by simp, g2 _ rfl rfl hI.md rfl⟩
  · rintro sn fr wt x r M' σ Φ ⟨pd, ka, rfl, hI⟩ hs hv y q q'
    have bd := hI.bnd
    have hH : M'.H.length ≤ 900 := by rw [hI.hH]; exact hl
    obtain ⟨c, d, k2, g1, g2, g3, g4, g5, g6⟩ := hI.const hs hv
    refine c_unify_constant_r W y (by k_extra "om") (by k_extra "om") hI.md g1 g2 g3 g4 fun σ' y' f' => ?_
    by_cases z : d = x.cell
    · rw [decide_eq_true z]
      refine q _ _ ?_ y' f'; exact ⟨pd, _, rfl, g6 z _ rfl rfl hI.md rfl⟩
    · rw [decide_eq_false z]
      refine q' _ _ ?_ y' f'; exact ⟨g5 z, hI.hH⟩
  · rintro sn fr M' σ' ⟨pd, ka, ewt, hI⟩ y' f'
    cases pd with
    | cons p r => cases ewt
    | nil =>
      obtain ⟨k0, eH, hw, zX, dn⟩ := hI.done
      exact q1 k0 M' σ' eH hw zX (by rw [eH]; exact dn) y' f'
end
section
variable {P : Params} {prog : Program} {C : Cx} {k : Nat} {σ : SH} {Φ : V → SH → Prop}
theorem if_join {prog : Program} {C : Cx} {A : Around} {env : Env} {m : Loc} {σ : SH} {Ψ : SF → Loc → SH → Prop} {c : Bool} {b1 b2 : List Stmt} (Q : SH → Prop) (h1 : c = true → Exs prog C A env b1 m σ (fun F m' σ' => F = .next ∧ m' = m ∧ Q σ')) (h2 : c = false → Exs prog C A env b2 m σ (fun F m' σ' => F = .next ∧ m' = m ∧ Q σ')) (h : ∀ σ', Q σ' → Ψ .next m σ') :
    (c = true → Exs prog C A env b1 m σ Ψ) ∧ (c = false → Exs prog C A env b2 m σ Ψ) :=
  ⟨fun q => Ex.mono (h1 q) fun F m' σ' e => by obtain ⟨rfl, rfl, e⟩ := e; exact h σ' e, fun q => Ex.mono (h2 q) fun F m' σ' e => by obtain ⟨rfl, rfl, e⟩ := e; exact h σ' e⟩
noncomputable def homesL (cs : List (Tm × Nat)) : List V := cs.map fun p => V.d (.tuple [.str "x", .int (p.2 : Int)])
structure ST (σ : SH) (Y : SymA) (B : MchA) (S : Sy) (M : Mch) (sn cn il : Addr) (se : List Nat) (cnt : Nat) (cs : List (Tm × Nat)) : Prop where
  y : MchAt σ Y B S M
  es : σ sn = some (.list (natsL se))
  ec : σ cn = some (.list [.d (.int (cnt : Int))])
  ei : σ il = some (.list (homesL cs))
structure SL (m : Loc) (B : MchA) (sn cn il : Addr) (t : Tm) (hm : Nat) : Prop where
  mm : m "m" = some (.c (.ref B.m))
  term : m "term" = some (.d (.tuple [.str "s", .int (t.fn : Int), .tuple (t.args.map Tm.enc)]))
  home : m "home" = some (.d (.tuple [.str "x", .int (hm : Int)]))
  seen : m "seen" = some (.c (.ref sn))
  counter : m "counter" = some (.c (.ref cn))
  inner : m "inner" = some (.c (.ref il))
inductive J1S (Y : SymA) (B : MchA) (S : Sy) (sn cn il : Addr) (t : Tm) (hm : Nat) (M0 : Mch) (β0 : Nat → Nat) (se0 : List Nat) (cnt0 : Nat) (σ0 : SH) (r : List Tm) (m : Loc) (σ : SH) : Prop
  | mk (ds : List Tm) (M : Mch) (β : Nat → Nat) (se : List Nat) (cnt : Nat) (cs : List (Tm × Nat)) (l : List Nat) (h1 : ds ++ r = t.args) (h2 : L1 S.F hm M0 β0 se0 cnt0 M β se cnt ds cs l) (h3 : ST σ Y B S M sn cn il se cnt cs) (h4 : SL m B sn cn il t hm) (h5 : Fw (fun a => MchM B a ∨ a = sn ∨ a = cn) σ0 σ)
inductive J2S (Y : SymA) (B : MchA) (S : Sy) (sn cn il : Addr) (t : Tm) (hm : Nat) (M0 : Mch) (β0 : Nat → Nat) (se0 : List Nat) (cnt0 : Nat) (σ0 : SH) (e : Cell) (b cnt : Nat) (r : List Tm) (m : Loc) (σ : SH) : Prop
  | mk (ds : List Tm) (M : Mch) (β : Nat → Nat) (se : List Nat) (cs : List (Tm × Nat)) (lp l : List Nat) (h2 : L2 S.F t hm M0 β0 se0 cnt0 e b M β se cnt ds r cs lp l) (h3 : ST σ Y B S M sn cn il se cnt cs) (h4 : SL m B sn cn il t hm) (h5 : Fw (fun a => MchM B a ∨ a = sn ∨ a = cn) σ0 σ)
theorem Tm.depth_args {t x : Tm} (h : x ∈ t.args) : x.depth + 1 ≤ t.depth := by
  cases t with
  | s1 f y => simp [Tm.args] at h; subst h; simp [Tm.depth]; (first | lia | omega)
  | s2 f y z => simp [Tm.args] at h; rcases h with rfl | rfl <;> simp [Tm.depth] <;> (first | lia | omega)
  | v n => cases h
  | a n => cases h
  | i n => cases h
theorem c_set (W : Wd prog (h0.heap_1_1 P) C) {Y : SymA} {B : MchA} {S : Sy} {sn cn : Addr} (nc : sn ≠ cn) (nsn : ¬ Foot Y B sn) (ncn : ¬ Foot Y B cn) : ∀ (N : Nat) (t : Tm), t.size ≤ N → ∀ {σ : SH} {Φ : V → SH → Prop} {k : Nat} {M : Mch} {β : Nat → Nat} {se : List Nat} {cnt hm : Nat},
    t.isS = true → t.wf S.F → (∀ n ∈ t.vars, n < 4) → MchAt σ Y B S M → σ sn = some (.list (natsL se)) → σ cn = some (.list [.d (.int (cnt : Int))]) → SG M β se cnt → hm ≤ cnt → (hm < 10 ∨ 14 ≤ hm) → M.H.length + 3 * t.size ≤ 700 → cnt + t.size ≤ 300 → t.depth + 5 ≤ k →
    (∀ σ' M' β' se' cnt', MchAt σ' Y B S M' → σ' sn = some (.list (natsL se')) → σ' cn = some (.list [.d (.int ((cnt' : Nat) : Int))]) → Fw (fun a => MchM B a ∨ a = sn ∨ a = cn) σ σ' → SetP S.F t hm M β se cnt M' β' se' cnt' → Φ (.d .none) σ') →
    CallC prog C k (.ref 783) [.c (.ref B.m), .d t.enc, .d (.tuple [.str "x", .int (hm : Int)]), .c (.ref sn), .c (.ref cn)] σ Φ := by
  intro N
  induction N with
  | zero => intro t ht; have := Tm.size_pos t; (first | lia | omega)
  | succ N ih =>
  intro t ht σ Φ k M β se cnt hm hs hw hv y es ec g hhm hh zH zc hk q
  obtain ⟨k, rfl⟩ := kpred (k := k) (by k_extra "om")
  rw [Tm.enc_s hs]
  refine callC_def ["m", "term", "home", "seen", "counter"] W (by k_is) (by k_is) (by k_extra "bind") (by rfl) (by rfl) (by rfl) (by rfl) (by rfl) ?_
  intro A L hR
  k_extra "go"
  refine listK_abs (by simp) fun il σ₁ hil K1 e1 => ?_
  have nis := ne_new hil es
  have nic := ne_new hil ec
  have nil := y.nfoot hil
  have hsz : t.size = 1 + sizes t.args := Tm.size_args hs
  have keep : ∀ {so σ'}, Fw (fun a => MchM B a ∨ a = sn ∨ a = cn) σ σ' → Fw (fun a => MchM B a ∨ a = sn ∨ a = cn) σ (σ'.set il so) := fun f => f.new hil
  k_extra "go"
  refine st_for_tuple hR ?_
  k_extra "go"
  refine ⟨_, rfl, ?_⟩
  rw [List.map_map]
  refine forL_ind (V.d ∘ Tm.enc) (J1S Y B S sn cn il t hm M β se cnt σ) ?_ ?_ t.args _ _
    ⟨[], M, β, se, cnt, [], [], rfl, L1.init g, ⟨y.fw K1.fw (fun _ _ z => z), K1 _ _ es, K1 _ _ ec, e1⟩, ⟨by k_extra "lo", by k_extra "lo", by k_extra "lo", by k_extra "lo", by k_extra "lo", by k_extra "lo"⟩, K1.fw.mono fun _ z => z.elim⟩
  · rintro x r m σ' ⟨ds, M', β', se', cnt', cs, l, hsp, hL1, hS, hL, hF⟩ kk
    obtain ⟨a1, a2, a3, a4, a5, a6⟩ := hL
    obtain ⟨y', es', ec', ei'⟩ := hS
    have hxm : x ∈ t.args := by rw [← hsp]; simp
    have hss : sizes ds + (x.size + sizes r) = sizes t.args := by rw [← hsp]; simp [sizes]
    have zH' := hL1.zH
    have zc' := hL1.zc
    have hsp' : (ds ++ [x]) ++ r = t.args := by rw [← hsp]; simp
    refine forL_cons' (Y := V.d x.enc) rfl trivial ?_
    by_cases hx : x.isS = true
    · have hcl : (homesL cs).length ≤ 1000 := by
        have h1 : cs.length = (ds.filter (·.isS)).length := by rw [← hL1.cf]; simp
        have h2 := List.length_filter_le (·.isS) ds
        have h3 : ds.length ≤ t.args.length := by rw [← hsp]; simp
        have h4 := Tm.args_len hs
        simp [homesL]; (first | lia | omega)
      rw [Tm.enc_s hx]
      k_extra "go"
      refine st_augitem ?_ (by intro _ _ _; rfl)
      k_extra "go"
      refine op_gitem ec' (by decide) (by decide) rfl ?_
      k_extra "go"
      refine set_list ec' (by decide) (by decide) (by simp) ?_
      rw [show (([V.d (.int (cnt' : Int))] : List V).set (Int.toNat 0) (V.d (.int ((cnt' + 1 : Nat) : Int)))) = [V.d (.int ((cnt' + 1 : Nat) : Int))] from rfl]
      have e2 : (σ'.set cn (.list [V.d (.int ((cnt' + 1 : Nat) : Int))])) cn = some (.list [V.d (.int ((cnt' + 1 : Nat) : Int))]) := SH.set_self _ _ _
      have e3 : (σ'.set cn (.list [V.d (.int ((cnt' + 1 : Nat) : Int))])) il = some (.list (homesL cs)) := by rw [SH.set_ne _ _ nic.symm]; exact ei'
      have e4 : (σ'.set cn (.list [V.d (.int ((cnt' + 1 : Nat) : Int))])) sn = some (.list (natsL se')) := by rw [SH.set_ne _ _ nc]; exact es'
      have y2 := y'.set (so := .list [V.d (.int ((cnt' + 1 : Nat) : Int))]) ncn
      have f2 : Fw (fun a => MchM B a ∨ a = sn ∨ a = cn) σ (σ'.set cn (.list [V.d (.int ((cnt' + 1 : Nat) : Int))])) := hF.set (.inr (.inr rfl))
      generalize σ'.set cn (.list [V.d (.int ((cnt' + 1 : Nat) : Int))]) = σ₂ at e2 e3 e4 y2 f2 ⊢
      k_extra "go"
      refine op_listIdx e2 (by decide) (by decide) rfl ?_
      k_extra "go"
      refine op_listLast (SH.set_self _ _ _) ?_
      have e5 : (σ₂.set il (.list (homesL cs ++ [V.d (.tuple [.str "x", .int ((cnt' + 1 : Nat) : Int)])]))) il = some (.list (homesL (cs ++ [(x, cnt' + 1)]))) := by rw [SH.set_self]; simp [homesL]
      have e6 : (σ₂.set il (.list (homesL cs ++ [V.d (.tuple [.str "x", .int ((cnt' + 1 : Nat) : Int)])]))) sn = some (.list (natsL se')) := by rw [SH.set_ne _ _ nis]; exact e4
      have e7 : (σ₂.set il (.list (homesL cs ++ [V.d (.tuple [.str "x", .int ((cnt' + 1 : Nat) : Int)])]))) cn = some (.list [V.d (.int ((cnt' + 1 : Nat) : Int))]) := by rw [SH.set_ne _ _ nic]; exact e2
      have y3 := y2.set (so := .list (homesL cs ++ [V.d (.tuple [.str "x", .int ((cnt' + 1 : Nat) : Int)])])) nil
      have f3 := keep (so := .list (homesL cs ++ [V.d (.tuple [.str "x", .int ((cnt' + 1 : Nat) : Int)])])) f2
      generalize σ₂.set il (.list (homesL cs ++ [V.d (.tuple [.str "x", .int ((cnt' + 1 : Nat) : Int)])])) = σ₃ at e5 e6 e7 y3 f3 ⊢
      k_extra "go"
      refine opl_call hR ?_
      rw [← Tm.enc_s hx]
      have hdx := Tm.depth_args hxm
      refine ih x (by k_extra "om") hx (Tm.wf_args hw x hxm) (fun n hn => hv n ((Tm.vars_args hs).mpr ⟨x, hxm, hn⟩)) y3 e6 e7 hL1.x.g.up (Nat.le_refl _) (.inr (by have := hL1.x.g.c30; (first | lia | omega))) (by k_extra "om") (by k_extra "om") (by k_extra "om") fun σ₄ M4 β4 se4 cnt4 y4 es4 ec4 f4 p4 => ?_
      obtain ⟨l4, hL4⟩ := hL1.comp hx hhm p4
      k_extra "go"
      exact kk _ _ ⟨ds ++ [x], M4, β4, se4, cnt4, _, l4, hsp', hL4, ⟨y4, es4, ec4, f4 _ _ e5 (fun z => z.elim (fun z => nil z.foot) fun z => z.elim (fun z => nis z.symm) fun z => nic z.symm)⟩, ⟨by k_extra "lo", by k_extra "lo", by k_extra "lo", by k_extra "lo", by k_extra "lo", by k_extra "lo"⟩, f3.trans f4⟩
    · have hx' : x.isS = false := by simpa using hx
      have hL4 := hL1.skip hx'
      obtain ⟨tg, jj, he, t1, -, t3⟩ := Tm.lf hx'
      rw [he]
      k_extra "go"
      exact kk _ _ ⟨_, M', β', se', cnt', cs, l, hsp', hL4, ⟨y', es', ec', ei'⟩, ⟨by k_extra "lo", by k_extra "lo", by k_extra "lo", by k_extra "lo", by k_extra "lo", by k_extra "lo"⟩, hF⟩
  · rintro m σ' ⟨ds, M', β', se', cnt', cs, l, hsp, hL1, hS, hL, hF⟩
    obtain ⟨a1, a2, a3, a4, a5, a6⟩ := hL
    obtain ⟨y', es', ec', ei'⟩ := hS
    rw [List.append_nil] at hsp
    subst hsp
    have zH' := hL1.zH
    have zc' := hL1.zc
    have hgx := hL1.x.g.szX
    have hal := Tm.args_len hs
    refine forL_nil trivial ?_
    k_extra "go"
    refine if_join (fun σ₂ => ∃ M2, M2.H = pH M'.H t.fn ∧ M2.X = setXp M'.X hm (blkC M'.H t.fn) ∧ MchAt σ₂ Y B S M2 ∧ Fw (MchM B) σ' σ₂) ?_ ?_ ?_
    · intro hb
      simp only [decide_eq_true_eq] at hb
      have hf : t.fn = 0 := by (first | lia | omega)
      k_extra "go"
      refine opl_call hR (c_put_list W y' (by k_extra "om") (by k_extra "om") (by k_extra "om") (by k_extra "om") fun σ₂ y2 f2 => ?_)
      k_extra "go"
      exact ⟨rfl, rfl, _, by simp [pH, hf], by simp [blkC, hf, setX, setXp], y2, f2⟩
    · intro hb
      simp only [decide_eq_false_iff_not] at hb
      have hf : t.fn ≠ 0 := by (first | lia | omega)
      k_extra "go"
      refine opl_call hR (c_put_structure W y' (by k_extra "om") (by k_extra "om") (by k_extra "om") (by k_extra "om") fun σ₂ y2 f2 => ?_)
      k_extra "go"
      exact ⟨rfl, rfl, _, by simp [pH, hf], by simp [blkC, hf, setX, setXp], y2, f2⟩
    · rintro σ₂ ⟨M2, hH2, hX2, y2, f2⟩
      have hL2 := L2.init hL1 hs hw hhm hh hH2 hX2
      have n1 : ¬ MchM B sn := fun z => nsn z.foot
      have n2 : ¬ MchM B cn := fun z => ncn z.foot
      have n3 : ¬ MchM B il := fun z => nil z.foot
      have hF2 : Fw (fun a => MchM B a ∨ a = sn ∨ a = cn) σ σ₂ := hF.trans (f2.mono fun _ z => .inl z)
      have es2 := f2 _ _ es' n1
      have ec2 := f2 _ _ ec' n2
      have ei2 := f2 _ _ ei' n3
      have hblk := blk_le M'.H t.fn
      clear es' ec' ei' y' hF
      k_extra "go"
      refine st_for_tuple hR ?_
      k_extra "go"
      refine ⟨_, rfl, ?_⟩
      rw [List.map_map]
      refine forL_ind (V.d ∘ Tm.enc) (J2S Y B S sn cn il t hm M β se cnt σ (blkC M'.H t.fn) (blkB M'.H t.fn) cnt') ?_ ?_ t.args _ _
        ⟨[], M2, β', se', cs, [], l, hL2, ⟨y2, es2, ec2, ei2⟩, ⟨by k_extra "lo", by k_extra "lo", by k_extra "lo", by k_extra "lo", by k_extra "lo", by k_extra "lo"⟩, hF2⟩
      · clear es2 ec2 ei2 y2 hF2 hL2 hL1
        rintro x r m σ' ⟨ds, M3, β3, se3, cs, lp, l, hL2, hS, hL, hF⟩ kk
        clear a1 a2 a3 a4 a5 a6
        obtain ⟨a1, a2, a3, a4, a5, a6⟩ := hL
        obtain ⟨y', es', ec', ei'⟩ := hS
        have hln := hL2.ln
        have hzn := hL2.x.g.zn
        have hzX := hL2.x.g.szX
        have hsp := hL2.sp
        have hdl : ds.length + 1 ≤ t.args.length := by rw [← hsp]; simp
        have hnl := natsL_len se3
        refine forL_cons' (Y := V.d x.enc) rfl trivial ?_
        by_cases hx : x.isS = true
        · obtain ⟨p, cs', c, rfl, hp, hnx⟩ := hL2.comp hx
          have hcl : (homesL cs').length ≤ 1000 := by
            have h1 : (p :: cs').length = ((x :: r).filter (·.isS)).length := by rw [← hL2.cf]; simp
            have h2 := List.length_filter_le (·.isS) (x :: r)
            have h3 : (x :: r).length ≤ t.args.length := by rw [← hsp]; simp
            simp only [List.length_cons] at h1
            simp [homesL]; (first | lia | omega)
          have ei3 : σ' il = some (.list (V.d (.tuple [.str "x", .int (p.2 : Int)]) :: homesL cs')) := ei'
          rw [Tm.enc_s hx]
          k_extra "go"
          refine op_pop0 ei3 hcl ?_
          have y3 := y'.set (so := .list (homesL cs')) nil
          k_extra "go"
          refine opl_call hR (c_set_value W y3 (by k_extra "om") (by k_extra "om") (by k_extra "om") hp fun σ₄ y4 f4 => ?_)
          obtain ⟨lp4, l4, hL4⟩ := hnx { M3 with H := M3.H ++ [c] } rfl rfl
          k_extra "go"
          exact kk _ _ ⟨_, _, β3, se3, cs', lp4, l4, hL4, ⟨y4, f4 _ _ (by rw [SH.set_ne _ _ nis]; exact es') n1, f4 _ _ (by rw [SH.set_ne _ _ nic]; exact ec') n2, f4 _ _ (SH.set_self _ _ _) n3⟩, ⟨by k_extra "lo", by k_extra "lo", by k_extra "lo", by k_extra "lo", by k_extra "lo", by k_extra "lo"⟩, (keep hF).trans (f4.mono fun _ z => .inl z)⟩
        · have hx' : x.isS = false := by simpa using hx
          by_cases hvx : ∃ n, x = .v n
          · obtain ⟨n, rfl⟩ := hvx
            have n4 : n < 4 := hv n ((Tm.vars_args hs).mpr ⟨.v n, by rw [← hsp]; simp, by simp [Tm.vars]⟩)
            have c30 := hL2.x.g.c30
            simp only [Tm.enc]
            k_extra "go"
            refine op_in_seen hR es' ?_
            by_cases hn : n ∈ se3
            · rw [decide_eq_true hn]
              k_extra "go"
              refine opl_call hR (c_set_value W y' (by k_extra "om") (by k_extra "om") (by k_extra "om") (hL2.x.g.var n hn).1 fun σ₄ y4 f4 => ?_)
              obtain ⟨lp4, l4, hL4⟩ := hL2.seen (M' := { M3 with H := M3.H ++ [(0, β3 n)] }) hn rfl rfl
              k_extra "go"
              exact kk _ _ ⟨_, _, β3, se3, cs, lp4, l4, hL4, ⟨y4, f4 _ _ es' n1, f4 _ _ ec' n2, f4 _ _ ei' n3⟩, ⟨by k_extra "lo", by k_extra "lo", by k_extra "lo", by k_extra "lo", by k_extra "lo", by k_extra "lo"⟩, hF.trans (f4.mono fun _ z => .inl z)⟩
            · rw [decide_eq_false hn]
              have y3 := y'.set (so := .list (natsL se3 ++ [V.d (.int (n : Int))])) nsn
              k_extra "go"
              refine opl_call hR (c_set_variable W y3 (by k_extra "om") (by k_extra "om") (by k_extra "om") (by k_extra "om") fun σ₄ y4 f4 => ?_)
              obtain ⟨lp4, l4, hL4⟩ := hL2.new (M' := { M3 with H := M3.H ++ [(0, M3.H.length)], X := setX M3.X (10 + n) (0, M3.H.length) }) hn n4 hh rfl rfl
              k_extra "go"
              exact kk _ _ ⟨_, _, _, se3 ++ [n], cs, lp4, l4, hL4, ⟨y4, f4 _ _ (by rw [SH.set_self, natsL_snoc]) n1, f4 _ _ (by rw [SH.set_ne _ _ nc.symm]; exact ec') n2, f4 _ _ (by rw [SH.set_ne _ _ nis.symm]; exact ei') n3⟩, ⟨by k_extra "lo", by k_extra "lo", by k_extra "lo", by k_extra "lo", by k_extra "lo", by k_extra "lo"⟩, (hF.set (.inr (.inl rfl))).trans (f4.mono fun _ z => .inl z)⟩
          · have hnv : ∀ n, x ≠ .v n := fun n z => hvx ⟨n, z⟩
            obtain ⟨tg, jj, he, t1, t2, t3⟩ := Tm.lf hx'
            have t2' := t2 hnv
            rw [he]
            k_extra "go"
            rw [← he]
            refine opl_call hR (c_cell W (t := x) hx' hnv (by k_extra "om") ?_)
            k_extra "go"
            refine opl_call hR (c_set_constant W y' (by k_extra "om") (by k_extra "om") fun σ₄ y4 f4 => ?_)
            obtain ⟨lp4, l4, hL4⟩ := hL2.const (M' := { M3 with H := M3.H ++ [x.cell] }) hx' hnv rfl rfl
            k_extra "go"
            exact kk _ _ ⟨_, _, β3, se3, cs, lp4, l4, hL4, ⟨y4, f4 _ _ es' n1, f4 _ _ ec' n2, f4 _ _ ei' n3⟩, ⟨by k_extra "lo", by k_extra "lo", by k_extra "lo", by k_extra "lo", by k_extra "lo", by k_extra "lo"⟩, hF.trans (f4.mono fun _ z => .inl z)⟩
      · rintro m σ' ⟨ds, M3, β3, se3, cs, lp, l, hL2, hS, hL, hF⟩
        refine forL_nil trivial ?_
        k_extra "go"
        exact q _ _ _ _ _ hS.y hS.es hS.ec hF (hL2.done hs hhm)
end
section
variable {P : Params} {prog : Program} {C : Cx} {k : Nat} {σ : SH} {Φ : V → SH → Prop}
-- plain facts of the filled term
theorem Tm.ok_vars {t : Tm} (h : t.ok) : ∀ n ∈ t.vars, n < 4 := by
  induction t with
  | v n => intro j hj; cases List.mem_singleton.mp hj; exact h
  | a _ => intro _ hj; cases hj
  | i _ => intro _ hj; cases hj
  | s1 _ x ih => exact ih h
  | s2 _ x y ihx ihy => exact fun j hj => (List.mem_append.mp hj).elim (ihx h.1 j) (ihy h.2 j)
theorem fill_snd (vs : List Tm) (t : Tm) : ∀ c : Int, (fillT vs t c).2 = c - (t.consts : Int) := by
  induction t with
  | v _ => exact fun c => (Int.sub_zero c).symm
  | a _ => exact fun c => rfl
  | i _ => exact fun c => rfl
  | s1 _ x ih => exact ih
  | s2 _ x y ihx ihy =>
    intro c
    show (fillT vs y (fillT vs x c).2).2 = c - ((x.consts + y.consts : Nat) : Int)
    rw [ihy, ihx, Int.sub_sub]; rfl
noncomputable def hit (c : Int) (n : Nat) : Nat := if 1 ≤ c ∧ c ≤ (n : Int) then 1 else 0
theorem hit_pos {c : Int} {n : Nat} (h : 1 ≤ c ∧ c ≤ (n : Int)) : hit c n = 1 := if_pos h
theorem hit_neg {c : Int} {n : Nat} (h : ¬ (1 ≤ c ∧ c ≤ (n : Int))) : hit c n = 0 := if_neg h
theorem fill_nr {vs : List Tm} (h4 : vs.length = 4) (t : Tm) : ∀ c : Int, t.ok → Nr vs t (fillT vs t c).1 (hit c t.consts) := by
  induction t with
  | v n =>
    intro c h
    have hn : n < vs.length := by rw [h4]; exact h
    refine ⟨?_, hit_neg (n := 0) (by k_extra "om")⟩
    show vs[n]? = some ((vs[n]?).getD (.i 0))
    rw [List.getElem?_eq_getElem hn]; rfl
  | a n =>
    intro c h
    by_cases z : c - 1 = 0
    · exact .inr ⟨if_pos z, hit_pos (n := 1) (by k_extra "om")⟩
    · exact .inl ⟨if_neg z, hit_neg (n := 1) (by k_extra "om")⟩
  | i n =>
    intro c h
    by_cases z : c - 1 = 0
    · exact .inr ⟨if_pos z, hit_pos (n := 1) (by k_extra "om"), fun e => absurd (e ▸ h : 77 < 9) (by decide)⟩
    · exact .inl ⟨if_neg z, hit_neg (n := 1) (by k_extra "om")⟩
  | s1 f x ih => exact fun c h => ⟨_, rfl, ih c h⟩
  | s2 f x y ihx ihy =>
    intro c h
    refine ⟨_, _, _, _, rfl, ihx c h.1, ihy (fillT vs x c).2 h.2, ?_⟩
    show hit c (x.consts + y.consts) = hit c x.consts + hit (fillT vs x c).2 y.consts
    rw [fill_snd]
    by_cases z1 : 1 ≤ c ∧ c ≤ (x.consts : Int)
    · rw [hit_pos z1, hit_pos (by k_extra "om"), hit_neg (by k_extra "om")]
    · rw [hit_neg z1]
      by_cases z2 : 1 ≤ c - (x.consts : Int) ∧ c - (x.consts : Int) ≤ (y.consts : Int)
      · rw [hit_pos z2, hit_pos (by k_extra "om")]
      · rw [hit_neg z2, hit_neg (by k_extra "om")]
/-- the values that the law puts in -/
noncomputable def VOk (F : List Cell) (v : Tm) : Prop := v.wf F ∧ ((∃ i, v = .i i) ∨ ∃ f n, v = .s1 f (.a n))
theorem VOk.ground {F : List Cell} {v : Tm} (h : VOk F v) : v.ground = true ∧ v.size ≤ 2 ∧ v.depth ≤ 1 := by
  rcases h.2 with ⟨i, rfl⟩ | ⟨f, n, rfl⟩
  · exact ⟨rfl, by simp [Tm.size], by simp [Tm.depth]⟩
  · exact ⟨rfl, by simp [Tm.size], by simp [Tm.depth]⟩
theorem VOk.nodup {F : List Cell} {v : Tm} (h : VOk F v) {F' H : List Cell} {β : Nat → Nat} {c : Cell} {l : List Nat} (D : Den F' H β v c l) : l.Nodup := by
  rcases h.2 with ⟨i, rfl⟩ | ⟨f, n, rfl⟩
  · obtain ⟨rfl, _⟩ := D; simp
  · obtain ⟨e, b, d, lx, h1, h2, h3, ⟨rfl, _⟩, rfl⟩ := D; simp
inductive FOk (F : List Cell) (t u : Tm) : Prop
  | mk (h1 : u.wf F) (h2 : u.ground = true) (h3 : u.size ≤ 2 * t.size) (h4 : t.isS = true → u.isS = true)
theorem FOk.leaf {F : List Cell} {t u : Tm} (h : t.isS = false) (hu : u = t ∨ u = .i 77) (hv : t.ground = true) (hw : t.wf F) : FOk F t u := by
  rcases hu with rfl | rfl
  · exact ⟨hw, hv, Nat.le_mul_of_pos_left _ (by decide), id⟩
  · exact ⟨trivial, rfl, Nat.le_trans (Tm.size_pos t) (Nat.le_mul_of_pos_left _ (by decide)), fun q => by rw [h] at q; cases q⟩
theorem fill_ok {F : List Cell} {vs : List Tm} (h4 : vs.length = 4) (hvs : ∀ v ∈ vs, VOk F v) (t : Tm) : ∀ c : Int, t.ok → t.wf F → FOk F t (fillT vs t c).1 := by
  induction t with
  | v n =>
    intro c h _
    have hn : n < vs.length := by rw [h4]; exact h
    have hv := hvs vs[n] (List.getElem_mem hn)
    obtain ⟨g1, g2, g3⟩ := hv.ground
    have e : (fillT vs (.v n) c).1 = vs[n] := by
      show (vs[n]?).getD (.i 0) = vs[n]
      rw [List.getElem?_eq_getElem hn]; rfl
    rw [e]
    exact ⟨hv.1, g1, g2, fun q => by cases q⟩
  | a n => exact fun c _ w => .leaf rfl (by by_cases z : c - 1 = 0; exact .inr (if_pos z); exact .inl (if_neg z)) rfl w
  | i n => exact fun c _ w => .leaf rfl (by by_cases z : c - 1 = 0; exact .inr (if_pos z); exact .inl (if_neg z)) rfl w
  | s1 f x ih =>
    intro c h w
    obtain ⟨a1, a2, a3, a4⟩ := ih c h w.2
    exact ⟨⟨w.1, a1⟩, a2, by show 1 + (fillT vs x c).1.size ≤ 2 * (1 + x.size); (first | lia | omega), fun _ => rfl⟩
  | s2 f x y ihx ihy =>
    intro c h w
    obtain ⟨a1, a2, a3, a4⟩ := ihx c h.1 w.2.1
    obtain ⟨b1, b2, b3, b4⟩ := ihy (fillT vs x c).2 h.2 w.2.2
    exact ⟨⟨w.1, a1, b1⟩, Bool.and_eq_true_iff.mpr ⟨a2, b2⟩, by show 1 + ((fillT vs x c).1.size + (fillT vs y (fillT vs x c).2).1.size) ≤ 2 * (1 + (x.size + y.size)); (first | lia | omega), fun _ => rfl⟩
theorem numT_ground {t : Tm} : ∀ T : List Nat, t.ground = true → numT t T = (t, T) := by
  induction t with
  | v _ => exact fun _ h => by cases h
  | a _ => exact fun _ _ => rfl
  | i _ => exact fun _ _ => rfl
  | s1 f x ih => exact fun T h => by show (Tm.s1 f (numT x T).1, (numT x T).2) = _; rw [ih T h]
  | s2 f x y ihx ihy =>
    intro T h
    have h' := Bool.and_eq_true_iff.mp (show (x.ground && y.ground) = true from h)
    show (Tm.s2 f (numT x T).1 (numT y (numT x T).2).1, (numT y (numT x T).2).2) = _
    rw [ihx T h'.1, ihy T h'.2]
theorem eqv_enc (t : Tm) : t.enc.eqv t.enc = true := SeqAt.eqv_refl _ t.lay.1
theorem cells_lay : ∀ H : List Cell, PyData.canLayAll0 (H.map ec) = true ∧ PyData.depthAll (H.map ec) ≤ 10
  | [] => ⟨rfl, by simp [PyData.depthAll]⟩
  | c :: r => by
    obtain ⟨h1, h2⟩ := cells_lay r
    refine ⟨by simp [PyData.canLayAll0, PyData.canLay0, ec, h1], ?_⟩
    simp only [List.map_cons, PyData.depthAll, ec, PyData.depth]
    (first | lia | omega)
theorem cells_shaped (H : List Cell) : SeqAt.shaped (.list (H.map ec)) = true := by
  obtain ⟨h1, h2⟩ := cells_lay H
  have h3 : (PyData.list (H.map ec)).depth ≤ 64 := by simp only [PyData.depth]; (first | lia | omega)
  simp only [SeqAt.shaped, PyData.canLay0, h1, Bool.true_and]
  exact decide_eq_true h3
theorem op_ne_same {C : Cx} {A : Around} {env : Env} {m : Loc} {a b : Addr} {H : List Cell} (hR : Room A k) (ea : σ a = some (fv H)) (eb : σ b = some (fv H)) (h : Φ (.d (.bool false)) σ) : Op2 prog C A env RepV (compareOp .NotEq) (.c (.ref a)) (.c (.ref b)) m σ Φ := by
  refine op_neL (xs := H.map ec) (ys := H.map ec) hR (by rw [ea, fv, List.map_map]; rfl) (by rw [eb, fv, List.map_map]; rfl) (cells_shaped H) (cells_shaped H) ?_
  rw [SeqAt.eqvAll_refl _ (cells_lay H).1]; exact h
/-- a new machine's objects are none of the old -/
theorem MchAt.newM {σ σ₁ : SH} {Y : SymA} {B : MchA} {S : Sy} {M : Mch} (hB : ∀ a, σ a ≠ none → ¬ SymFoot Y a → ¬ Foot Y B a) (y : MchAt σ₁ Y B S M) : ∀ a so, σ a = some so → ¬ MchM B a := fun a so e z => by
  by_cases q : SymFoot Y a
  · rcases z with z | z | z
    · exact y.hfoot (z ▸ q)
    · exact y.xfoot (z ▸ q)
    · exact y.mdfoot (z ▸ q)
  · exact hB a (by rw [e]; simp) q z.foot
theorem Fw.thenNew {N : Addr → Prop} {σ σ₁ σ₂ : SH} (f : Fw (fun _ => False) σ σ₁) (g : Fw N σ₁ σ₂) (h : ∀ a so, σ a = some so → ¬ N a) : Fw (fun _ => False) σ σ₂ := fun a so e _ => g a so (f a so e id) (h a so e)
end
section
variable {P : Params} {prog : Program} {C : Cx} {k : Nat} {σ : SH} {Φ : V → SH → Prop}
inductive RI (Y : SymA) (B : MchA) (S : Sy) (M : Mch) (vl vb : Addr) (T : Tm) (b : Bool) (σ0 : SH) (r : List Nat) (m : Loc) (σ : SH) : Prop
  | mk (h1 : ∀ n ∈ r, n ∈ T.vars) (a1 : m "m" = some (.c (.ref B.m))) (a2 : m "values" = some (.c (.ref vl))) (a3 : m "done" = some (.d (.bool b))) (h2 : MchAt σ Y B S M) (h3 : σ vb = some (.list (intsL T.vars))) (h4 : Fw (fun _ => False) σ0 σ)
theorem VOk.novars {F : List Cell} {v : Tm} (h : VOk F v) : v.vars = [] := by
  rcases h.2 with ⟨i, rfl⟩ | ⟨f, n, rfl⟩ <;> rfl
theorem c_reads (W : Wd prog (h0.heap_1_1 P) C) {Y : SymA} {S : Sy} (y : SymAt σ Y S) {T : Tm} {vs : List Tm} {vl : Addr} {sp : Int} (ev : σ vl = some (.list (vs.map fun t => V.d t.enc))) (h4 : vs.length = 4) (hvs : ∀ v ∈ vs, VOk S.F v)
    (ok : T.ok) (hs : T.isS = true) (hw : T.wf S.F) (hz : T.size ≤ 20) (hF : S.F.length ≤ 1000) (hk : 30 ≤ k)
    (q : ∀ σ', Fw (fun _ => False) σ σ' → Φ (.d (.bool (decide (¬ (1 ≤ sp ∧ sp ≤ (T.consts : Int)))))) σ') : CallC prog C k (.ref 810) [.c (.ref Y.a), .d T.enc, .c (.ref vl), .d (.int sp)] σ Φ := by
  obtain ⟨k, rfl⟩ := kpred2 (k := k) (by k_extra "om")
  have hdp := T.depth_lt
  have hvars := Tm.ok_vars ok
  obtain ⟨u1, u2, u3, u4⟩ := fill_ok h4 hvs T sp ok hw
  have unr := fill_nr h4 T sp ok
  refine callC_def ["names", "term", "values", "spoiled"] W (by k_is) (by k_is) (by k_extra "bind") (by rfl) (by rfl) (by rfl) (by rfl) (by rfl) ?_
  intro A L hR
  k_extra "go"
  refine listK_abs (by simp) fun cd σ₁ hcd K1 e1 => ?_
  have y1 := y.fw K1.fw fun _ _ z => z
  have ev1 := K1 _ _ ev
  k_extra "go"
  refine o_areas W hR y1 (by k_extra "om") fun B σ₂ hB y2 f2 => ?_
  have ev2 := f2 _ _ ev1 id
  have F2 : Fw (fun _ => False) σ σ₂ := K1.fw.trans f2
  have hM : ∀ a so, σ a = some so → ¬ MchM B a := fun a so e => y2.newM hB a so (K1 _ _ e)
  have y2' := y2
  obtain ⟨z2, m1, m2, s1, s2, h1, x1, n1, n2, n3, n4, n5, n6, n7⟩ := y2
  k_extra "go"
  refine listK_abs (by simp) fun cd2 σ₃ hcd2 K3 e3 => ?_
  have ev3 := K3 _ _ ev2
  have vne : vl ≠ cd2 := ne_new hcd2 ev2
  have y3 := y2'.fw K3.fw fun _ _ z => z
  have nf3 := y2'.nfoot hcd2
  k_extra "go"
  refine opl_call hR (c_filled W h4 vne T ok ev3 e3 (by k_extra "om") fun σ₄ e4 f4 => ?_)
  have y4 := y3.fw f4 fun a ha z => nf3 (z ▸ ha)
  have ev4 := f4 _ _ ev3 vne
  have F4 : Fw (fun _ => False) σ σ₄ := fun a so e _ => f4 a so (K3 a so (F2 a so e id)) (fun z => by rw [z] at e; rw [F2 _ _ e id] at hcd2; cases hcd2)
  obtain ⟨z4, m1', m2', s1', s2', h1', x1', -⟩ := id y4
  k_extra "go"
  refine opl_call hR (c_put W y4 (u4 hs) u1 u2 (by simp; (first | lia | omega)) (by k_extra "om") hF fun σ₅ H5 c5 l5 y5 f5 D5 nd5 hl5 => ?_)
  have F5 := F4.thenNew f5 hM
  have ev5 := F5 _ _ ev id
  obtain ⟨z5, m1', m2', s1', s2', h1', x1', -⟩ := id y5
  k_extra "go"
  refine opl_call hR (c_set_x W y5 (n := 1) (by k_extra "om") (by simp) (by k_extra "om") fun σ₆ y6 f6 => ?_)
  have F6 := F5.thenNew f6 hM
  have ev6 := F6 _ _ ev id
  obtain ⟨z6, m1', m2', s1', s2', h1', x1', -⟩ := id y6
  k_extra "go"
  refine opl_listcopy W h1' (by simp; (first | lia | omega)) fun bf hbf => ?_
  have F7 : Fw (fun _ => False) σ (σ₆.set bf (.list (H5.map fun c => V.d (ec c)))) := fun a so e _ => by
    have e6 := F6 a so e id
    rw [SH.set_ne _ _ (ne_new hbf e6)]; exact e6
  have y7 := y6.set (so := .list (H5.map fun c => V.d (ec c))) (y6.nfoot hbf)
  have nbf := y6.nfoot hbf
  have eb7 : (σ₆.set bf (.list (H5.map fun c => V.d (ec c)))) bf = some (fv H5) := SH.set_self _ _ _
  generalize σ₆.set bf (.list (H5.map fun c => V.d (ec c))) = σ₇ at F7 y7 eb7 ⊢
  k_extra "go"
  refine opl_call hR (CallC.mono (Φ := fun X σ' => ∃ b M', X = .d (.bool b) ∧ b = decide (hit sp T.consts = 0) ∧ MchAt σ' Y B S M' ∧ M'.H = H5 ∧ Fw (MchM B) σ₇ σ' ∧ (b = true → M'.w = false ∧ M'.X.length ≤ 400 ∧ ∀ n ∈ T.vars, ∃ c u l, M'.X[10 + n]? = some c ∧ vs[n]? = some u ∧ Den S.F M'.H b0 u c l))
    (c_head_r W y7 hs hz hvars (fun v hv => ⟨(hvs v hv).ground.1, by have := (hvs v hv).ground.2.1; (first | lia | omega)⟩) unr D5 (setX_self _ _ _) (by rw [setX_len]; simp) rfl (by simp; (first | lia | omega)) hF (by k_extra "om")
      (fun hK M' σ' eH hw hX dn y' f' => ⟨true, M', rfl, by simp [hK], y', eH, f', fun _ => ⟨hw, hX, dn⟩⟩)
      (fun hK M' σ' eH y' f' => ⟨false, M', rfl, by simp [hK], y', eH, f', fun z => by cases z⟩)) ?_)
  rintro X σ₈ ⟨b, M8, rfl, hb, y8, eH, f8, dn⟩
  have F8 := F7.thenNew f8 hM
  have eb8 := f8 _ _ eb7 fun z => nbf z.foot
  have ev8 := F8 _ _ ev id
  obtain ⟨z8, m1', m2', s1', s2', h1', x1', -⟩ := id y8
  k_extra "go"
  refine op_ne_same hR (H := H5) (by rw [← eH]; exact h1') eb8 ?_
  k_extra "go"
  refine st_for_list hR ?_
  k_extra "go"
  refine opl_call hR (c_variables W T (by k_extra "om") (by k_extra "om") fun vb σ₉ hvb K9 e9 => ⟨vb, intsL T.vars, rfl, ?_⟩)
  have y9 := y8.fw K9.fw fun _ _ z => z
  have F9 : Fw (fun _ => False) σ σ₉ := F8.trans K9.fw
  have hbq : b = decide (¬ (1 ≤ sp ∧ sp ≤ (T.consts : Int))) := by
    rw [hb]; unfold hit
    by_cases z : 1 ≤ sp ∧ sp ≤ (T.consts : Int)
    · simp [z]
    · rw [if_neg z]; simp [z]
  refine forL_ind (fun n : Nat => V.d (.int (n : Int))) (RI Y B S M8 vl vb T b σ) ?_ ?_ T.vars _ _
    ⟨fun _ h => h, by k_extra "lo", by k_extra "lo", by k_extra "lo", y9, e9, F9⟩
  · rintro n r m σ' ⟨hr, a1, a2, a3, y', evb, F'⟩ kk
    have ev' := F' _ _ ev id
    refine forL_cons' (Y := V.d (.int (n : Int))) rfl evb ?_
    have hr' : ∀ j ∈ r, j ∈ T.vars := fun j hj => hr j (.tail _ hj)
    clear h1' x1' m1' m2' s1' s2' z8
    obtain ⟨z8, m1', m2', s1', s2', h1', x1', -⟩ := id y'
    cases b with
    | false =>
      k_extra "go"
      exact kk _ _ ⟨hr', by k_extra "lo", by k_extra "lo", by k_extra "lo", y', evb, F'⟩
    | true =>
      obtain ⟨hw8, hX8, dn⟩ := dn rfl
      obtain ⟨c, u, l, g1, g2, g3⟩ := dn n (hr n (.head _))
      have hu := hvs u (List.mem_of_getElem? g2)
      have hug := hu.ground
      k_extra "go"
      refine opl_call hR (c_take W y' g3 (hu.nodup g3) (by rw [hu.novars]; simp) (by k_extra "om") (by k_extra "om") (by rw [eH]; (first | lia | omega)) hF fun σ₁₀ y10 f10 => ?_)
      rw [numT_ground _ hug.1]
      have F10 := F'.trans f10
      have ev10 := F10 _ _ ev id
      have evb10 := f10 _ _ evb id
      k_extra "go"
      refine op_listN ev10 (n := n) (X := .d u.enc) (by rw [List.getElem?_map, g2]; rfl) (by simp; (first | lia | omega)) ?_
      k_extra "go"
      have hsh : SeqAt.shaped u.enc = true := Tm.shaped (by k_extra "om")
      refine op_ne (x := u.enc) (y := u.enc) hR hsh hsh ?_
      rw [eqv_enc]
      k_extra "go"
      exact kk _ _ ⟨hr', by k_extra "lo", by k_extra "lo", by k_extra "lo", y10, evb10, F10⟩
  · rintro m σ' ⟨hr, a1, a2, a3, y', evb, F'⟩
    refine forL_nil evb ?_
    clear h1' x1' m1' m2' s1' s2' z8
    obtain ⟨z8, m1', m2', s1', s2', h1', x1', -⟩ := id y'
    have qq := q _ F'
    rw [← hbq] at qq
    cases b with
    | false =>
      k_extra "go"
      exact qq
    | true =>
      obtain ⟨hw8, hX8, dn⟩ := dn rfl
      k_extra "go"
      exact qq
end
section
variable {P : Params} {prog : Program} {C : Cx} {k : Nat} {σ : SH} {Φ : V → SH → Prop}
theorem Tm.consts_size : ∀ t : Tm, t.consts ≤ t.size
  | .v _ => by simp [Tm.consts]
  | .a _ => by simp [Tm.consts, Tm.size]
  | .i _ => by simp [Tm.consts, Tm.size]
  | .s1 _ x => by have := Tm.consts_size x; simp only [Tm.consts, Tm.size]; (first | lia | omega)
  | .s2 _ x y => by have := Tm.consts_size x; have := Tm.consts_size y; simp only [Tm.consts, Tm.size]; (first | lia | omega)
theorem VOk.mono {F F' : List Cell} (k : KF F F') {v : Tm} (h : VOk F v) : VOk F' v := ⟨Tm.wf_mono k h.1, h.2⟩
theorem numT_depth (t : Tm) : ∀ T : List Nat, (numT t T).1.depth = t.depth := by
  induction t with
  | v n => intro T; unfold numT; split <;> rfl
  | a _ => exact fun _ => rfl
  | i _ => exact fun _ => rfl
  | s1 _ x ih => exact fun T => congrArg (1 + ·) (ih T)
  | s2 _ x y ihx ihy => exact fun T => congrArg (1 + ·) (by show max (numT x T).1.depth (numT y (numT x T).2).1.depth = max x.depth y.depth; rw [ihx, ihy])
inductive LV (Y : SymA) (S4 : Sy) (lo ls vl : Addr) (is : List Int) (T : Tm) (i : Nat) (m : Loc) (σ : SH) : Prop
  | mk (vs : List Tm) (S' : Sy) (j : Nat) (h1 : vs.length = i) (h2 : σ vl = some (.list (vs.map fun t => V.d t.enc))) (h3 : ∀ v ∈ vs, VOk S'.F v) (h4 : KF S4.F S'.F) (h5 : S'.T.length ≤ S4.T.length + 2 * i) (h6 : S'.F.length ≤ S4.F.length + i) (h7 : LoomAt σ lo ls is j) (h8 : SymAt σ Y S')
    (a1 : m "loom" = some (.c (.ref lo))) (a2 : m "names" = some (.c (.ref Y.a))) (a3 : m "term" = some (.d T.enc)) (a4 : m "values" = some (.c (.ref vl)))
inductive LR (Y : SymA) (S' : Sy) (vl : Addr) (us : List Tm) (T : Tm) (i : Nat) (m : Loc) (σ : SH) : Prop
  | mk (h1 : SymAt σ Y S') (h2 : σ vl = some (.list (us.map fun t => V.d t.enc))) (a2 : m "names" = some (.c (.ref Y.a))) (a3 : m "term" = some (.d T.enc)) (a4 : m "values" = some (.c (.ref vl)))
theorem c_law (W : Wd prog (h0.heap_1_1 P) C) {l : Addr} {vs : List Value} {is : List Int} (hl : C.h₀.IsList l vs.toArray) (hi : IntsAre vs is) (hn : is.length ≤ 63) (hk : 40 ≤ k) : CallC prog C k (.ref 817) [.c (.ref l)] (fun _ => none) (fun X _ => X = .d (.bool true)) := by
  obtain ⟨k, rfl⟩ := kpred2 (k := k) (by k_extra "om")
  refine callC_def ["script"] W (by k_is) (by k_is) (by k_extra "bind") (by rfl) (by rfl) (by rfl) (by rfl) (by rfl) ?_
  intro A L hR
  iterate 4 k_extra "m"
  refine ev_slice80 W hl hi hn ?_
  k_extra "go"
  refine ⟨rfl, fun ls hls => ?_⟩
  have es0 : (SH.set (fun _ => none) ls (.list (is.map fun i => V.d (.int i)))) ls = some (.list (is.map fun i => V.d (.int i))) := SH.set_self _ _ _
  generalize SH.set (fun _ => none) ls (.list (is.map fun i => V.d (.int i))) = σ₁ at es0 ⊢
  k_extra "go"
  refine listK_abs (by simp) fun lo σ₂ hlo K2 e2 => ?_
  have loom2 : LoomAt σ₂ lo ls is 0 := ⟨e2, K2 _ _ es0, hn, fun z => by rw [z, es0] at hlo; cases hlo⟩
  k_extra "go"
  refine o_symbols W hR ⟨_, _, e2⟩ (by k_extra "om") fun Y S σ₃ y3 okS K3 hnf => ?_
  have loom3 := loom2.fw K3.fw id id
  have n1 : ¬ SymFoot Y lo := hnf _ (by rw [e2]; simp)
  have n2 : ¬ SymFoot Y ls := hnf _ (by rw [loom2.es]; simp)
  have lT0 := okS.lT
  have lF0 := okS.lF
  k_extra "go"
  refine opl_call hR (c_compound W n1 n2 2 loom3 y3 okS.f0 (by k_extra "om") (by k_extra "om") (by k_extra "om") fun T S4 j4 σ₄ ok hs hw hz kf4 lT4 lF4 loom4 y4 f4 => ?_)
  have hz : T.size ≤ 15 := by (first | lia | omega)
  have hvars := Tm.ok_vars ok
  have hdp := T.depth_lt
  have hns := numT_size T []
  have hnd := numT_depth T []
  k_extra "go"
  refine dict_abs (.idict []) (.inl rfl) W fun tb σ₅ htb K5 e5 => ?_
  have loom5 := loom4.fw K5.fw id id
  have y5 := y4.fw K5.fw fun _ _ z => z
  k_extra "go"
  refine opl_call hR (c_numbered W T (T := []) e5 (by k_extra "om") (by simp; (first | lia | omega)) fun σ₆ e6 f6 => ?_)
  have tlo : tb ≠ lo := fun z => by rw [z, loom4.eo] at htb; cases htb
  have tls : tb ≠ ls := fun z => by rw [z, loom4.es] at htb; cases htb
  have loom6 := loom5.fw f6 (fun z => tlo z.symm) (fun z => tls z.symm)
  have y6 := y5.fw f6 fun a ha z => by subst z; exact y4.nfoot htb ha
  clear e6 e5 f6 K5 htb loom5 y5 f4 K3 loom3 y3 e2 K2 hlo
  k_extra "go"
  refine listK_abs (by simp) fun cd σ₇ hcd K7 e7 => ?_
  have loom7 := loom6.fw K7.fw id id
  have y7 := y6.fw K7.fw fun _ _ z => z
  k_extra "go"
  refine o_areas W hR y7 (by k_extra "om") fun B σ₈ hB y8 f8 => ?_
  have loom8 := loom7.fw f8 id id
  have hM : ∀ a so, σ₇ a = some so → ¬ MchM B a := fun a so e => y8.newM hB a so e
  obtain ⟨z8, m1, m2, s1, s2, h1, x1, ne1, -⟩ := id y8
  k_extra "go"
  refine opl_call hR (c_new_var W y8 (by k_extra "om") (by simp) ?_)
  have y9 := y8.setH [(0, 0)]
  have f9 : Fw (MchM B) σ₈ (σ₈.set B.h (fv [(0, 0)])) := Fw.refl.set (.inl rfl)
  rw [show (([] : List Cell) ++ [(0, ([] : List Cell).length)]) = [(0, 0)] from rfl]
  generalize σ₈.set B.h (fv [(0, 0)]) = σ₉ at y9 f9 ⊢
  k_extra "go"
  refine opl_call hR (c_set_x W y9 (n := 1) (by k_extra "om") (by simp) (by k_extra "om") fun σ₁₀ y10 f10 => ?_)
  have F10 : Fw (fun _ => False) σ₇ σ₁₀ := (f8.thenNew f9 hM).thenNew f10 hM
  have loom10 := loom7.fw F10 id id
  k_extra "go"
  refine opl_call hR (c_head_w W y10 hs (by k_extra "om") hw hvars rfl (setX_self _ _ _) (by rw [setX_len]; simp) (by k_extra "om") fun M11 σ₁₁ β l11 hw11 hH11 hX11 x11 D11 nd11 inj11 y11 f11 => ?_)
  have F11 := F10.thenNew f11 hM
  have loom11 := loom7.fw F11 id id
  obtain ⟨z11, m1', m2', s1', s2', h1', x1', -⟩ := id y11
  k_extra "go"
  refine op_fv (n := 1) x1' x11 (by k_extra "om") ?_
  k_extra "go"
  refine opl_call hR (c_take W y11 D11 nd11 inj11 (by k_extra "om") (by k_extra "om") (by k_extra "om") (by k_extra "om") fun σ₁₂ y12 f12 => ?_)
  have F12 := F11.trans f12
  have loom12 := loom7.fw F12 id id
  have sy12 := y12.y
  have hsh : SeqAt.shaped (numT T []).1.enc = true := Tm.shaped (by k_extra "om")
  k_extra "go"
  refine op_ne (x := (numT T []).1.enc) (y := (numT T []).1.enc) hR hsh hsh ?_
  rw [eqv_enc]
  clear y12 y11 y10 y9 y8 f12 f11 f10 f9 f8 F11 F10 m1 m2 s1 s2 h1 x1 m1' m2' s1' s2' h1' x1' z8 z11 loom11 loom10 loom8 D11 F12 hB hM y7 loom7 K7 e7 hcd y6 loom6
  k_extra "go"
  refine listK_abs (by simp) fun cd σ₁₃ hcd K13 e13 => ?_
  have loom13 := loom12.fw K13.fw id id
  have sy13 := sy12.fw K13.fw fun _ _ z => z
  k_extra "go"
  refine o_areas W hR sy13 (by k_extra "om") fun B σ₁₄ hB y14 f14 => ?_
  have hM : ∀ a so, σ₁₃ a = some so → ¬ MchM B a := fun a so e => y14.newM hB a so e
  k_extra "go"
  refine listK_abs (by simp) fun sn σ₁₅ hsn K15 e15 => ?_
  k_extra "go"
  refine listK_abs (by simp) fun cn σ₁₆ hcn K16 e16 => ?_
  have y16 := (y14.fw K15.fw fun _ _ z => z).fw K16.fw fun _ _ z => z
  have nsn : ¬ Foot Y B sn := y14.nfoot hsn
  have ncn : ¬ Foot Y B cn := (y14.fw K15.fw fun _ _ z => z).nfoot hcn
  have f16 : Fw (fun _ => False) σ₁₃ σ₁₆ := (f14.trans K15.fw).trans K16.fw
  k_extra "go"
  refine opl_call hR (c_set W (ne_new hcn e15) nsn ncn T.size T (Nat.le_refl _) (hm := 1) (cnt := 30) (se := []) (β := fun _ => 0) hs hw hvars y16 (K16 _ _ e15) e16 ⟨by simp, by simp, by simp, by (first | lia | omega), by simp, by simp⟩ (by k_extra "om") (.inl (by k_extra "om")) (by simp; (first | lia | omega)) (by k_extra "om") (by k_extra "om") fun σ₁₇ M17 β17 se17 cnt17 y17 es17 ec17 f17 p17 => ?_)
  have F17 : Fw (fun _ => False) σ₁₃ σ₁₇ := f16.thenNew f17 fun a so e z => by
    have e14 := f14 a so e id
    rcases z with z | z | z
    · exact hM a so e z
    · subst z; rw [e14] at hsn; cases hsn
    · subst z; rw [K15 _ _ e14] at hcn; cases hcn
  obtain ⟨c17, l17, x17, D17, nd17, -⟩ := p17.dn
  have hH17 := p17.zH
  have hX17 := p17.x.g.szX
  have hc17 := p17.zc
  obtain ⟨z17, m1', m2', s1', s2', h1', x1', -⟩ := id y17
  k_extra "go"
  refine op_fv (n := 1) x1' x17 (by k_extra "om") ?_
  k_extra "go"
  refine opl_call hR (c_take W y17 D17 nd17 (fun n hn m hm => p17.x.g.inj n (p17.cv n hn) m (p17.cv m hm)) (by k_extra "om") (by k_extra "om") (by simp at hH17; (first | lia | omega)) (by k_extra "om") fun σ₁₈ y18 f18 => ?_)
  have F18 := F17.trans f18
  have loom18 := loom13.fw F18 id id
  have sy18 := y18.y
  k_extra "go"
  refine op_ne (x := (numT T []).1.enc) (y := (numT T []).1.enc) hR hsh hsh ?_
  rw [eqv_enc]
  clear y18 y17 y16 y14 f18 f17 f16 f14 F17 m1' m2' s1' s2' h1' x1' z17 D17 F18 hB hM K13 K15 K16 e13 e15 e16 hcd hsn hcn es17 ec17 p17 hX17 loom13 loom12 sy13 sy12
  k_extra "go"
  refine listK_abs (by simp) fun vl σ₁₉ hvl K19 e19 => ?_
  have loom19 := loom18.fw K19.fw id id
  have sy19 := sy18.fw K19.fw fun _ _ z => z
  have nvl : ¬ SymFoot Y vl := sy18.nfoot hvl
  have vlo : vl ≠ lo := fun z => by rw [z, loom18.eo] at hvl; cases hvl
  have vls : vl ≠ ls := fun z => by rw [z, loom18.es] at hvl; cases hvl
  k_extra "go"
  refine st_for_range hR ?_
  k_extra "go"
  refine rng_up W (w := 4) (by k_extra "om") fun rg hrg => ?_
  have hvl19 : (σ₁₉.set rg (.range 0 ((4 : Nat) : Int) 1)) vl = some (.list []) := by rw [SH.set_ne _ _ (ne_new hrg e19)]; exact e19
  have fr20 : Fw (fun _ => False) σ₁₉ (σ₁₉.set rg (.range 0 ((4 : Nat) : Int) 1)) := Fw.refl.new hrg
  have loom20 := loom19.fw fr20 id id
  have sy20 := sy19.fw fr20 fun _ _ z => z
  generalize σ₁₉.set rg (.range 0 ((4 : Nat) : Int) 1) = σ₂₀ at hvl19 loom20 sy20 ⊢
  clear fr20 hrg e19 sy19 loom19 loom18 sy18 K19 hvl
  refine forL_up (n := 4) (LV Y S4 lo ls vl is T) ?_ ?_ _ _
    ⟨[], S4, _, rfl, hvl19, by simp, fun _ _ z => z, by simp, by simp, loom20, sy20, by k_extra "lo", by k_extra "lo", by k_extra "lo", by k_extra "lo"⟩
  · rintro i rr m' σ' hi ⟨us, S', j, hus, evs, hall, kf, lT, lF, hl, hy, a1, a2, a3, a4⟩ kk
    have hul : (us.map fun t => V.d t.enc).length ≤ 1000 := by simp; (first | lia | omega)
    refine forL_cons trivial ?_
    k_extra "go"
    refine opl_call hR (c_thread W hl (L' := 2) (by decide) (by k_extra "om") fun r hr σ₄ h₄ f₄ => ?_)
    have y₄ := hy.fw f₄ fun a ha z => n1 (z ▸ ha)
    have ev₄ := f₄ _ _ evs vlo
    k_extra "go"
    refine ⟨fun hb => ?_, fun hb => ?_⟩ <;> simp only [decide_eq_true_eq, decide_eq_false_iff_not] at hb
    · obtain ⟨y1, y2, y3, y4, y5, y6, -⟩ := id y₄
      k_extra "go"
      refine opl_call hR (c_func W y₄ "f" 1 (by k_extra "om") (by k_extra "om") (by k_extra "om") fun σ₅ y₅ f₅ => ?_)
      have h₅ := h₄.fw f₅ (fun z => n1 z.foot) (fun z => n2 z.foot)
      have ev₅ := f₅ _ _ ev₄ fun z => nvl z.foot
      have q1 := atomP_len S'.T "f"
      have q2 := funP_len S'.F ((atomP S'.T "f").1, 1)
      have q3 : (fnP S' "f" 1).2.T.length ≤ S'.T.length + 1 := q1
      have q4 : (fnP S' "f" 1).2.F.length ≤ S'.F.length + 1 := q2
      have q5 : KF S'.F (fnP S' "f" 1).2.F := fun _ _ z => funP_keep z
      have q6 : (fnP S' "f" 1).2.F[(fnP S' "f" 1).1]? = some ((atomP S'.T "f").1, 1) := funP_get _ _
      clear y1 y2 y3 y4 y5 y6
      obtain ⟨y1, y2, y3, y4, y5, y6, -⟩ := id y₅
      k_extra "go"
      refine opl_call hR (c_atom W y₅ "b" (by k_extra "om") (by k_extra "om") fun σ₆ y₆ f₆ => ?_)
      have h₆ := h₅.fw f₆ (fun z => n1 z.foot) (fun z => n2 z.foot)
      have ev₆ := f₆ _ _ ev₅ fun z => nvl z.foot
      have q7 := atomP_len (fnP S' "f" 1).2.T "b"
      k_extra "go"
      have hv : VOk (fnP S' "f" 1).2.F (.s1 (fnP S' "f" 1).1 (.a (atomP (fnP S' "f" 1).2.T "b").1)) := by
        refine ⟨⟨⟨fun z => ?_, _, q6⟩, trivial⟩, .inr ⟨_, _, rfl⟩⟩
        obtain ⟨u0, hu0⟩ := okS.f0
        have := q5 _ _ (kf _ _ (kf4 _ _ hu0))
        rw [z, this] at q6
        cases q6
      refine kk _ _ ⟨us ++ [.s1 (fnP S' "f" 1).1 (.a (atomP (fnP S' "f" 1).2.T "b").1)], ⟨(atomP (fnP S' "f" 1).2.T "b").2, (fnP S' "f" 1).2.F⟩, _, by simp [hus], by rw [SH.set_self]; simp [Tm.enc], fun v hv' => ?_, fun a c z => q5 _ _ (kf _ _ z), by show (atomP (fnP S' "f" 1).2.T "b").2.length ≤ _; (first | lia | omega), by show (fnP S' "f" 1).2.F.length ≤ _; (first | lia | omega),
        ⟨by rw [SH.set_ne _ _ vlo.symm]; exact h₆.eo, by rw [SH.set_ne _ _ vls.symm]; exact h₆.es, h₆.len, h₆.ne⟩, y₆.set nvl, by k_extra "lo", by k_extra "lo", by k_extra "lo", by k_extra "lo"⟩
      rcases List.mem_append.mp hv' with z | z
      · exact (hall v z).mono q5
      · simp at z; subst z; exact hv
    · k_extra "go"
      refine kk _ _ ⟨us ++ [.i i], S', _, by simp [hus], by rw [SH.set_self]; simp [Tm.enc], fun v hv' => ?_, kf, by (first | lia | omega), by (first | lia | omega),
        ⟨by rw [SH.set_ne _ _ vlo.symm]; exact h₄.eo, by rw [SH.set_ne _ _ vls.symm]; exact h₄.es, h₄.len, h₄.ne⟩, y₄.set nvl, by k_extra "lo", by k_extra "lo", by k_extra "lo", by k_extra "lo"⟩
      rcases List.mem_append.mp hv' with z | z
      · exact hall v z
      · simp at z; subst z; exact ⟨trivial, .inl ⟨_, rfl⟩⟩
  · rintro m' σ' ⟨us, S', j, hus, evs, hall, kf, lT, lF, hl, hy, a1, a2, a3, a4⟩
    have bsh : ∀ b : Bool, SeqAt.shaped (.bool b) = true := fun b => by cases b <;> decide +kernel
    have beq : ∀ b : Bool, (!PyData.eqv (.bool b) (.bool b)) = false := fun b => by cases b <;> rfl
    refine forL_nil trivial ?_
    k_extra "go"
    refine opl_call hR (c_reads W hy evs hus hall ok hs (Tm.wf_mono kf hw) (by k_extra "om") (by k_extra "om") (by k_extra "om") fun σ₁ f₁ => ?_)
    rw [decide_eq_true (by k_extra "om")]
    have hy1 := hy.fw f₁ fun _ _ z => z
    have ev1 := f₁ _ _ evs id
    k_extra "go"
    refine op_ne (x := .bool true) (y := .bool true) hR (bsh _) (bsh _) ?_
    rw [beq]
    k_extra "go"
    refine st_for_range hR ?_
    k_extra "go"
    refine opl_call hR (c_constants W T (by k_extra "om") ⟨_, _, ev1⟩ fun σ₂ K2 => ?_)
    have hy2 := hy1.fw K2.fw fun _ _ z => z
    have ev2 := K2 _ _ ev1
    have hcs := T.consts_size
    k_extra "go"
    refine rng_up W (w := T.consts) (by k_extra "om") fun rg hrg => ?_
    have fr3 : Fw (fun _ => False) σ₂ (σ₂.set rg (.range 0 (T.consts : Int) 1)) := Fw.refl.new hrg
    have hy3 := hy2.fw fr3 fun _ _ z => z
    have ev3 := fr3 _ _ ev2 id
    generalize σ₂.set rg (.range 0 (T.consts : Int) 1) = σ₃ at hy3 ev3 ⊢
    refine forL_up (n := T.consts) (LR Y S' vl us T) ?_ ?_ _ _
      ⟨hy3, ev3, by k_extra "lo", by k_extra "lo", by k_extra "lo"⟩
    · rintro i rr m' σ' hi ⟨hy, evs, a2, a3, a4⟩ kk
      refine forL_cons trivial ?_
      k_extra "go"
      refine opl_call hR (c_reads W hy evs hus hall ok hs (Tm.wf_mono kf hw) (by k_extra "om") (by k_extra "om") (by k_extra "om") fun σ₁ f₁ => ?_)
      rw [decide_eq_false (by k_extra "om")]
      have hy1 := hy.fw f₁ fun _ _ z => z
      have ev1 := f₁ _ _ evs id
      k_extra "go"
      refine op_ne (x := .bool false) (y := .bool false) hR (bsh _) (bsh _) ?_
      rw [beq]
      k_extra "go"
      exact kk _ _ ⟨hy1, ev1, by k_extra "lo", by k_extra "lo", by k_extra "lo"⟩
    · rintro m' σ' ⟨hy, evs, a2, a3, a4⟩
      refine forL_nil trivial ?_
      k_extra "go"
      rfl
end
section
variable {P : Params} {prog : Program} {C : Cx} {k : Nat} {σ : SH} {Φ : V → SH → Prop}
theorem c_end {w : World} {s₁ : Shared} (KX : (h0.heap_1_1 w.params).In s₁.heap) (T : ∃ p loose mg mb, TopRead p loose mg mb s₁.heap) (hg : s₁.gens = #[]) {l : Addr} {vs : List Value} {is : List Int} (hL : s₁.heap.IsList l vs.toArray) (hI : IntsAre vs is) (hn : is.length ≤ 63) {R : Result → Shared → Prop}
    (hR : ∀ s', (∀ b o, s₁.heap.get? b = some o → s'.heap.get? b = some o) → s'.os = s₁.os → s'.gens = #[] → R (.ok (.ret (.bool true))) s') : codeAny (model prog w) callerA (.call (.ref 817) ⟨[.ref l], []⟩) R s₁ := by
  have W : Wd prog (h0.heap_1_1 w.params) ⟨w, s₁.heap, s₁⟩ := ⟨KX, T⟩
  have S0 : St0 prog ⟨w, s₁.heap, s₁⟩ (fun _ => none) s₁ := ⟨Nat.le_refl _, fun _ _ e => e, (fun a so e => by cases e), (fun a so e => by cases e), rfl, rfl, rfl⟩
  have h := c_law W hL hI hn (k := 40) (Nat.le_refl _)
  have room : Room callerA 40 := ⟨rfl, by simp only [depth_caller, recursionLimit]; (first | lia | omega), by simp only [units_caller, cLine]; (first | lia | omega)⟩
  refine codeAny_mono (h callerA s₁ [.ref l] room S0 (.cons rfl .nil)) fun r s' q => ?_
  cases r with
  | error e => exact q.elim
  | ok f =>
    cases f with
    | ret v =>
      obtain ⟨X, σ', r, S', x, rfl⟩ := q
      cases r.bool
      exact hR s' S'.keep S'.os (S'.gens.trans hg)
    | _ => exact q.elim
end
namespace fin
theorem tw16510490156224867327 : True := trivial
theorem tw15240623583426463711 : True := trivial
theorem tw2888837374417270719 : True := trivial
theorem tw14497727239971306367 : True := trivial
theorem tw5843562841348191103 : True := trivial
theorem tw3459265974087741279 : True := trivial
theorem tw6951216239237536575 : True := trivial
theorem tw12829507556594621215 : True := trivial
theorem tw1547390860169783007 : True := trivial
theorem tw2236755162388048479 : True := trivial
theorem tw3558005061807245919 : True := trivial
theorem tw15530151957754944063 : True := trivial
theorem tw16175276709679454751 : True := trivial
theorem tw5169673773032560159 : True := trivial
theorem tw17784850919643140607 : True := trivial
theorem tw9682595657389325823 : True := trivial
theorem tw14541005305830221311 : True := trivial
theorem tw2608567993692976607 : True := trivial
theorem tw4754365596532378047 : True := trivial
theorem tw17698229166291050911 : True := trivial
theorem tw6707113841082798463 : True := trivial
theorem tw4547926851270420831 : True := trivial
theorem tw11177036383054605599 : True := trivial
theorem tw17628183408451194143 : True := trivial
theorem tw12237877928780879103 : True := trivial
theorem tw12851234836949525663 : True := trivial
theorem tw4180101509539245183 : True := trivial
theorem tw11227884535216515135 : True := trivial
theorem tw5292745204252695550 : True := trivial
theorem tw1014637456484912126 : True := trivial
theorem tw8439367832339070974 : True := trivial
theorem tw7470013935711676318 : True := trivial
theorem tw846297522682114974 : True := trivial
theorem tw7299242150946776990 : True := trivial
theorem tw2620492485814837118 : True := trivial
theorem tw3857263333814641470 : True := trivial
theorem tw17570509445847580414 : True := trivial
theorem tw2051409578822353534 : True := trivial
theorem tw13294311002278339166 : True := trivial
theorem tw8429034201219468894 : True := trivial
theorem tw17217429795192226366 : True := trivial
theorem tw4326780796455107134 : True := trivial
theorem tw10580198807604790814 : True := trivial
theorem tw6385529401280152062 : True := trivial
theorem tw783796507600188894 : True := trivial
theorem tw18362098788967529950 : True := trivial
theorem tw5598441983335636414 : True := trivial
theorem tw12221555665107904926 : True := trivial
theorem tw14969715616416898430 : True := trivial
theorem tw8166985623705000286 : True := trivial
theorem tw7773504467932542270 : True := trivial
theorem tw14245171486683049214 : True := trivial
theorem tw1819255440876223710 : True := trivial
theorem tw15373703851562958014 : True := trivial
theorem tw9610726530385051774 : True := trivial
theorem tw13511959964413161566 : True := trivial
theorem tw1613116972386908190 : True := trivial
theorem tw1346022578215293949 : True := trivial
theorem tw3105451386036433885 : True := trivial
theorem tw15688172546075569117 : True := trivial
theorem tw7451905468542833597 : True := trivial
theorem tw11906472874536768445 : True := trivial
theorem tw4719063310657182621 : True := trivial
theorem tw7995362448368537469 : True := trivial
theorem tw8344675336782298973 : True := trivial
theorem tw16307707646766795581 : True := trivial
theorem tw17260493314774615805 : True := trivial
theorem tw12649782002744950493 : True := trivial
theorem tw15358655349643102941 : True := trivial
theorem tw895571856199123645 : True := trivial
theorem tw1012361349325877821 : True := trivial
theorem tw3680538572021651005 : True := trivial
theorem tw11061592194353771069 : True := trivial
theorem tw520194297998822909 : True := trivial
theorem tw3456623496861543869 : True := trivial
theorem tw6144012678527597917 : True := trivial
theorem tw544173102793226557 : True := trivial
theorem tw1469139661183043837 : True := trivial
theorem tw11615019562542576733 : True := trivial
theorem tw14333544728242365436 : True := trivial
theorem tw11112386831996348380 : True := trivial
theorem tw7861780978402302908 : True := trivial
theorem tw11936995450923721628 : True := trivial
theorem tw12355744275394475900 : True := trivial
theorem tw6340033436541877084 : True := trivial
theorem tw12291753297600562012 : True := trivial
theorem tw9747544060827109212 : True := trivial
theorem tw5901363791540438844 : True := trivial
theorem tw16256441300576474876 : True := trivial
theorem tw6232080684201472732 : True := trivial
theorem tw9746901515087519452 : True := trivial
theorem tw16237762584071213788 : True := trivial
theorem tw4723787954990577340 : True := trivial
theorem tw14752907821818930876 : True := trivial
theorem tw8370555248988390076 : True := trivial
theorem tw11432402860279490204 : True := trivial
theorem tw6832813718393461404 : True := trivial
theorem tw17861066769153400444 : True := trivial
theorem tw12757126508119417436 : True := trivial
theorem tw6289197191216398940 : True := trivial
theorem tw9562769462328344092 : True := trivial
theorem tw7177338460636591580 : True := trivial
theorem tw3493451186050813340 : True := trivial
theorem tw15309079848183770524 : True := trivial
theorem tw3955986520655104412 : True := trivial
theorem tw2366236672687842684 : True := trivial
theorem tw8261031787919469916 : True := trivial
theorem tw3812028171767442716 : True := trivial
theorem tw5663504974038819100 : True := trivial
theorem tw13423622936843584764 : True := trivial
theorem tw3721105441807439036 : True := trivial
theorem tw2503846163805864124 : True := trivial
theorem tw7890596953891613788 : True := trivial
theorem tw111200028466390044 : True := trivial
theorem tw10875463905939285979 : True := trivial
theorem tw7692301277026442203 : True := trivial
theorem tw7130589087949165531 : True := trivial
theorem tw5074984922658293691 : True := trivial
theorem tw5555312102172926907 : True := trivial
theorem tw9997704412844104603 : True := trivial
theorem tw17904447066158130043 : True := trivial
theorem tw10234915967203826555 : True := trivial
theorem tw14943911441677524827 : True := trivial
theorem tw9445451236469955387 : True := trivial
theorem tw3008263204520378139 : True := trivial
theorem tw9712136527352899355 : True := trivial
theorem tw7055459427971326715 : True := trivial
theorem tw16908780153626456763 : True := trivial
theorem tw9839346839192117915 : True := trivial
theorem tw15201286185872193147 : True := trivial
theorem tw5087414499874199163 : True := trivial
theorem tw11039862389202566683 : True := trivial
theorem tw8924392036579600891 : True := trivial
theorem tw8465276812761224699 : True := trivial
theorem tw2021336271155450331 : True := trivial
theorem tw10170948947761517979 : True := trivial
theorem tw15216479089859931547 : True := trivial
theorem tw16554438482525722971 : True := trivial
theorem tw807531904560671035 : True := trivial
theorem tw4570111826955561243 : True := trivial
theorem tw10553471711426338075 : True := trivial
theorem tw10684981021144957211 : True := trivial
theorem tw4100293265295638779 : True := trivial
theorem tw6341822008880759003 : True := trivial
theorem tw17050272068862301339 : True := trivial
theorem tw13272504610945704091 : True := trivial
theorem tw10511823565363050587 : True := trivial
theorem tw1666694428299288667 : True := trivial
theorem tw12141802397888321627 : True := trivial
theorem tw16103849850496634939 : True := trivial
theorem tw17406136962360114138 : True := trivial
theorem tw13412572060209156058 : True := trivial
theorem tw15583698165555649274 : True := trivial
theorem tw12738864244801774330 : True := trivial
theorem tw12876064707754696378 : True := trivial
theorem tw12567809125941998234 : True := trivial
theorem tw13175226182763708026 : True := trivial
theorem tw8331973007464152698 : True := trivial
theorem tw15681417991851648634 : True := trivial
theorem tw12705944875615423002 : True := trivial
theorem tw7070210977369740762 : True := trivial
theorem tw12869217540446652890 : True := trivial
theorem tw8842561966015468986 : True := trivial
theorem tw5514125408013525434 : True := trivial
theorem tw12780881840741157306 : True := trivial
theorem tw7803649310394182010 : True := trivial
theorem tw9339408515151402362 : True := trivial
theorem tw6214469639950668122 : True := trivial
theorem tw1088692219920020602 : True := trivial
theorem tw18075230132384515194 : True := trivial
theorem tw4043148821406017626 : True := trivial
theorem tw13619204772191458394 : True := trivial
theorem tw16205109500356779066 : True := trivial
theorem tw13883070154070340634 : True := trivial
theorem tw3277210607324053241 : True := trivial
theorem tw14347400895652799225 : True := trivial
theorem tw11401935216078446265 : True := trivial
theorem tw17502855826952124057 : True := trivial
theorem tw1992996095170833049 : True := trivial
theorem tw6455845175183424153 : True := trivial
theorem tw4879674094562380441 : True := trivial
theorem tw5293390819737331289 : True := trivial
theorem tw8731306006301319769 : True := trivial
theorem tw3975253019698251321 : True := trivial
theorem tw12550770813317053977 : True := trivial
theorem tw6400248389586479577 : True := trivial
theorem tw17896612028031085017 : True := trivial
theorem tw3028926083550364057 : True := trivial
theorem tw6794536074604225881 : True := trivial
theorem tw15986660976379625817 : True := trivial
theorem tw5805905742469029177 : True := trivial
theorem tw8272817396058243321 : True := trivial
theorem tw5741801548637672665 : True := trivial
theorem tw17109930996152030393 : True := trivial
theorem tw8785817190682134681 : True := trivial
theorem tw15530281825414154361 : True := trivial
theorem tw16252508478716706905 : True := trivial
theorem tw12932903420030652473 : True := trivial
theorem tw11693106759165616088 : True := trivial
theorem tw17204297501091165112 : True := trivial
theorem tw6335709333293612952 : True := trivial
theorem tw11490603987736509336 : True := trivial
theorem tw4878226113927451544 : True := trivial
theorem tw9746214513668125432 : True := trivial
theorem tw8281523328739849912 : True := trivial
theorem tw891448327626169016 : True := trivial
theorem tw876206183137641144 : True := trivial
theorem tw5776136370200156792 : True := trivial
theorem tw15621619335703214680 : True := trivial
theorem tw17362494058136835672 : True := trivial
theorem tw4788878847521262168 : True := trivial
theorem tw13177410634674063896 : True := trivial
theorem tw16903924287465469464 : True := trivial
theorem tw15279137341521000952 : True := trivial
theorem tw5250828734511838712 : True := trivial
theorem tw10329872625359487480 : True := trivial
theorem tw13516622038369049944 : True := trivial
theorem tw2186698500278933816 : True := trivial
theorem tw8097654560655122648 : True := trivial
theorem tw9917203430921899224 : True := trivial
theorem tw17659792820800573624 : True := trivial
theorem tw12239064139714945176 : True := trivial
theorem tw15590172107835277464 : True := trivial
theorem tw5074779506442595448 : True := trivial
theorem tw9597861255099599992 : True := trivial
theorem tw17067295170570645592 : True := trivial
theorem tw4898026214463823928 : True := trivial
theorem tw2466808103346753527 : True := trivial
theorem tw11201512880063761335 : True := trivial
theorem tw7445452272831510455 : True := trivial
theorem tw5249893051879422871 : True := trivial
theorem tw14658254696389335927 : True := trivial
theorem tw331587747771337591 : True := trivial
theorem tw6532753360307331927 : True := trivial
theorem tw4218790737952374519 : True := trivial
theorem tw10751089155417173751 : True := trivial
theorem tw16192418988078311159 : True := trivial
theorem tw12977279227502587607 : True := trivial
theorem tw3738894495883498167 : True := trivial
theorem tw2377308710366028375 : True := trivial
theorem tw18087328562809068087 : True := trivial
theorem tw8668149382578428375 : True := trivial
theorem tw15619530173980987831 : True := trivial
theorem tw8383268338085895543 : True := trivial
theorem tw18195182924450695511 : True := trivial
theorem tw3810338749695602999 : True := trivial
theorem tw14111491100615862519 : True := trivial
theorem tw2316539691658765527 : True := trivial
theorem tw1397303283331804279 : True := trivial
theorem tw9297318355482256503 : True := trivial
theorem tw187941002565524503 : True := trivial
theorem tw6498334528663615478 : True := trivial
theorem tw9544026089342320630 : True := trivial
theorem tw14895270292469626870 : True := trivial
theorem tw3839206501371402102 : True := trivial
theorem tw2910385600587045654 : True := trivial
theorem tw10147658903529517814 : True := trivial
theorem tw3810570522144960214 : True := trivial
theorem tw3263211703599914710 : True := trivial
theorem tw7348594602126897846 : True := trivial
theorem tw15399907426655090358 : True := trivial
theorem tw17512474026176034454 : True := trivial
theorem tw6127190174262240918 : True := trivial
theorem tw745748316474750422 : True := trivial
theorem tw9330868436908423606 : True := trivial
theorem tw824797018042769846 : True := trivial
theorem tw783483362715066742 : True := trivial
theorem tw4162185377826839926 : True := trivial
theorem tw7439575562449295702 : True := trivial
theorem tw17449020081951674710 : True := trivial
theorem tw4144819383078699286 : True := trivial
theorem tw4598667867955821814 : True := trivial
theorem tw9806666330580929782 : True := trivial
theorem tw9453873691999584502 : True := trivial
theorem tw8896352889252549814 : True := trivial
theorem tw7822013112032934038 : True := trivial
theorem tw3995266172827902102 : True := trivial
theorem tw1239743038759826550 : True := trivial
theorem tw10411508006071892022 : True := trivial
theorem tw13894747593318719542 : True := trivial
theorem tw862447977868951606 : True := trivial
theorem tw4759752924163587094 : True := trivial
theorem tw2537931557510868981 : True := trivial
theorem tw6878024787957991413 : True := trivial
theorem tw1128348596072947701 : True := trivial
theorem tw12076048789873493973 : True := trivial
theorem tw4891822661719351221 : True := trivial
theorem tw9578429878718019509 : True := trivial
theorem tw7856420140689306517 : True := trivial
theorem tw6524417157066176309 : True := trivial
theorem tw16771295499568265973 : True := trivial
theorem tw7650283484787511029 : True := trivial
theorem tw4303106303303389909 : True := trivial
theorem tw2275749259730422485 : True := trivial
theorem tw11471956102464614933 : True := trivial
theorem tw1580780407708033493 : True := trivial
theorem tw14018533915963200917 : True := trivial
theorem tw1727621133314857333 : True := trivial
theorem tw8025084765662995669 : True := trivial
theorem tw17267618260052754613 : True := trivial
theorem tw11040825799340251285 : True := trivial
theorem tw17719728818120068181 : True := trivial
theorem tw418608610138435605 : True := trivial
theorem tw6718411051458867188 : True := trivial
theorem tw7321584467024264148 : True := trivial
theorem tw5660257367854189524 : True := trivial
theorem tw8472697214298850164 : True := trivial
theorem tw16708981103961760564 : True := trivial
theorem tw13593179597827634900 : True := trivial
theorem tw12464766053444552404 : True := trivial
theorem tw11079828417688620724 : True := trivial
theorem tw10936777179133785780 : True := trivial
theorem tw5227809002895711924 : True := trivial
theorem tw16639813094937441908 : True := trivial
theorem tw888132650186811988 : True := trivial
theorem tw10313180648002132564 : True := trivial
theorem tw3129228512308937268 : True := trivial
theorem tw14814673180317915700 : True := trivial
theorem tw12212933522069011988 : True := trivial
theorem tw3236217559460173300 : True := trivial
theorem tw17430205856086898164 : True := trivial
theorem tw17696989986258524660 : True := trivial
theorem tw138543146574967220 : True := trivial
theorem tw18373065035072037172 : True := trivial
theorem tw744865244796547220 : True := trivial
theorem tw7282745182861764756 : True := trivial
theorem tw15344004072050561172 : True := trivial
theorem tw1080700006314346644 : True := trivial
theorem tw7830602891274557492 : True := trivial
theorem tw3599858809825778643 : True := trivial
theorem tw7638955922819175379 : True := trivial
theorem tw14574801432027512755 : True := trivial
theorem tw4499257904209204147 : True := trivial
theorem tw17933470926392208243 : True := trivial
theorem tw3399429508193669907 : True := trivial
theorem tw17974384156558142227 : True := trivial
theorem tw16644462212089915155 : True := trivial
theorem tw16540275574145912595 : True := trivial
theorem tw11224825812204259059 : True := trivial
theorem tw17485583185531914963 : True := trivial
theorem tw4768634762848416435 : True := trivial
theorem tw12117995768123871891 : True := trivial
theorem tw891787732878383699 : True := trivial
theorem tw10012918712295848499 : True := trivial
theorem tw13523910257889291827 : True := trivial
theorem tw9381001406090123731 : True := trivial
theorem tw2444273588731816371 : True := trivial
theorem tw14134379338385194387 : True := trivial
theorem tw3018758056844737939 : True := trivial
theorem tw6766378078585498003 : True := trivial
theorem tw5911770217454447987 : True := trivial
theorem tw8185091604740117843 : True := trivial
theorem tw5196160543931855155 : True := trivial
theorem tw16448676403291746579 : True := trivial
theorem tw9487260019516590291 : True := trivial
theorem tw12718612220689870738 : True := trivial
theorem tw14060254640080698258 : True := trivial
theorem tw11179249921394602866 : True := trivial
theorem tw17971676594858020690 : True := trivial
theorem tw9363291351745731410 : True := trivial
theorem tw12847644182280273618 : True := trivial
theorem tw3837020019201816242 : True := trivial
theorem tw13235901397817054834 : True := trivial
theorem tw9437242357050131058 : True := trivial
theorem tw11441799203461103154 : True := trivial
theorem tw14468091648759818802 : True := trivial
theorem tw11607805686811502034 : True := trivial
theorem tw12171577908484138354 : True := trivial
theorem tw1887099378405440850 : True := trivial
theorem tw12105171945263650130 : True := trivial
theorem tw10907391636593693970 : True := trivial
theorem tw743781803092876562 : True := trivial
theorem tw5679570950571409650 : True := trivial
theorem tw9722632081671974098 : True := trivial
theorem tw11587955951900863698 : True := trivial
theorem tw13203597883595413489 : True := trivial
theorem tw2656788454239962097 : True := trivial
theorem tw4652738160404261841 : True := trivial
theorem tw5320702786494000081 : True := trivial
theorem tw10628475034512898961 : True := trivial
theorem tw9508526790633795441 : True := trivial
theorem tw9659392335347125073 : True := trivial
theorem tw14075178694198228753 : True := trivial
theorem tw2218633174628956881 : True := trivial
theorem tw5266742908149448401 : True := trivial
theorem tw11346557470443003569 : True := trivial
theorem tw3404873503106905745 : True := trivial
theorem tw14667941539000003185 : True := trivial
theorem tw17911201065640838737 : True := trivial
theorem tw16957808320718949937 : True := trivial
theorem tw11414674201277728305 : True := trivial
theorem tw220677088936066577 : True := trivial
theorem tw15832999045522443761 : True := trivial
theorem tw5523082835119374833 : True := trivial
theorem tw480829909506669009 : True := trivial
theorem tw17869975865946814897 : True := trivial
theorem tw16375469754199864689 : True := trivial
theorem tw18387650150990424433 : True := trivial
theorem tw15396384818603876561 : True := trivial
theorem tw2462912638960843985 : True := trivial
theorem tw6113892759573084369 : True := trivial
theorem tw16584127079891442865 : True := trivial
theorem tw8660049834305141905 : True := trivial
theorem tw1709551657539720305 : True := trivial
theorem tw4312942655851389009 : True := trivial
theorem tw3173534031939492945 : True := trivial
theorem tw1252854909445205041 : True := trivial
theorem tw3541825141892303889 : True := trivial
theorem tw4806268862455609328 : True := trivial
theorem tw11336253725339858928 : True := trivial
theorem tw5230622158679508976 : True := trivial
theorem tw3885313090954376144 : True := trivial
theorem tw13162651487661262736 : True := trivial
theorem tw13383306551100868464 : True := trivial
theorem tw1635022588487117616 : True := trivial
theorem tw10998343915150870288 : True := trivial
theorem tw13815853411582834384 : True := trivial
theorem tw982560976839675504 : True := trivial
theorem tw9221430085559818832 : True := trivial
theorem tw3222278782482380304 : True := trivial
theorem tw15120748072543544848 : True := trivial
theorem tw12996517811204074000 : True := trivial
theorem tw13790858721211988464 : True := trivial
theorem tw1281744992317467088 : True := trivial
theorem tw7844069586390513008 : True := trivial
theorem tw16253991525020053840 : True := trivial
theorem tw14909718650217641264 : True := trivial
theorem tw7931104878224882928 : True := trivial
theorem tw6454446336052903152 : True := trivial
theorem tw3550807849831375056 : True := trivial
theorem tw8696399802814041232 : True := trivial
theorem tw7336344344812659824 : True := trivial
theorem tw14786503066443513839 : True := trivial
theorem tw4145619633490157487 : True := trivial
theorem tw4395496475954998127 : True := trivial
theorem tw13021059552284102479 : True := trivial
theorem tw10469515968555745039 : True := trivial
theorem tw10656291684629039791 : True := trivial
theorem tw12283613380358538863 : True := trivial
theorem tw17511047464938703439 : True := trivial
theorem tw2671655128345628175 : True := trivial
theorem tw2277568627679802767 : True := trivial
theorem tw3268265519342814607 : True := trivial
theorem tw3878703499912299887 : True := trivial
theorem tw16429022384663243119 : True := trivial
theorem tw2689496436951402799 : True := trivial
theorem tw10011167713772783887 : True := trivial
theorem tw7000300075881102575 : True := trivial
theorem tw2603282792292808943 : True := trivial
theorem tw11819170096642289871 : True := trivial
theorem tw4716181948101807 : True := trivial
theorem tw11277574374343807151 : True := trivial
theorem tw17495881415371897999 : True := trivial
theorem tw1535588207084551279 : True := trivial
theorem tw18298288384779628655 : True := trivial
theorem tw3939050589584296047 : True := trivial
theorem tw10391319463526535247 : True := trivial
theorem tw13929302177132474383 : True := trivial
theorem tw11154830654865731599 : True := trivial
theorem tw15083174532876359662 : True := trivial
theorem tw18004827428879835118 : True := trivial
theorem tw14728723275428758510 : True := trivial
theorem tw5792265106169080782 : True := trivial
theorem tw14449560505687523246 : True := trivial
theorem tw5897612983314593646 : True := trivial
theorem tw2512408688544751470 : True := trivial
theorem tw4767076936496275246 : True := trivial
theorem tw17809232949079649038 : True := trivial
theorem tw14672911461793829614 : True := trivial
theorem tw1450881378762983150 : True := trivial
theorem tw7319501015663598286 : True := trivial
theorem tw17743408960866722510 : True := trivial
theorem tw3211687289105081006 : True := trivial
theorem tw14166196953294261902 : True := trivial
theorem tw7684487725183542926 : True := trivial
theorem tw2145012663239829070 : True := trivial
theorem tw6566618420281934 : True := trivial
theorem tw15219631101029703214 : True := trivial
theorem tw17656766251404061198 : True := trivial
theorem tw5071919506433949198 : True := trivial
theorem tw1982079694162106894 : True := trivial
theorem tw1213908355484861934 : True := trivial
theorem tw3752056022367304142 : True := trivial
theorem tw17830361364027725262 : True := trivial
theorem tw9436597474664901934 : True := trivial
theorem tw16593498308125037870 : True := trivial
theorem tw9913140749668108558 : True := trivial
theorem tw7022806388564383982 : True := trivial
theorem tw12557769604369416430 : True := trivial
theorem tw10783113805558436046 : True := trivial
theorem tw4950403968356008110 : True := trivial
theorem tw3216615955080020110 : True := trivial
theorem tw10088260576245011566 : True := trivial
theorem tw12084336645073829805 : True := trivial
theorem tw16889484823980962733 : True := trivial
theorem tw9001875181463519149 : True := trivial
theorem tw5141113994777284493 : True := trivial
theorem tw6531376189190222733 : True := trivial
theorem tw16229209127682248589 : True := trivial
theorem tw5011121235533021005 : True := trivial
theorem tw1202912048536075021 : True := trivial
theorem tw7845872953664198349 : True := trivial
theorem tw13217662176923290317 : True := trivial
theorem tw2617349483901765261 : True := trivial
theorem tw13093503161671486093 : True := trivial
theorem tw12686965223737687597 : True := trivial
theorem tw16530489862217454893 : True := trivial
theorem tw8953957674483744013 : True := trivial
theorem tw16497079637816224013 : True := trivial
theorem tw16109372258727991565 : True := trivial
theorem tw6848912972918003917 : True := trivial
theorem tw295240868970151085 : True := trivial
theorem tw4833179351181384845 : True := trivial
theorem tw7518579229450374285 : True := trivial
theorem tw12876116671307685997 : True := trivial
theorem tw10776127142208907341 : True := trivial
theorem tw12629903358213643309 : True := trivial
theorem tw17108682257543074861 : True := trivial
theorem tw12072802829135307789 : True := trivial
theorem tw13278809456085556237 : True := trivial
theorem tw18404063521330658252 : True := trivial
theorem tw1766193274316824492 : True := trivial
theorem tw12356021495744459628 : True := trivial
theorem tw10196768644732416780 : True := trivial
theorem tw10091234832980417260 : True := trivial
theorem tw6634307039904815820 : True := trivial
theorem tw1324748791087667916 : True := trivial
theorem tw10070804522480449196 : True := trivial
theorem tw6846200578177281708 : True := trivial
theorem tw803859442106103436 : True := trivial
theorem tw11280146832396436108 : True := trivial
theorem tw5734618986648460908 : True := trivial
theorem tw15144710454662140524 : True := trivial
theorem tw1103255985313285740 : True := trivial
theorem tw1206694682578267724 : True := trivial
theorem tw15273852366172491244 : True := trivial
theorem tw7028063314416541132 : True := trivial
theorem tw4217414874291451276 : True := trivial
theorem tw6207176494656529804 : True := trivial
theorem tw3597285623890379148 : True := trivial
theorem tw8776770756819070316 : True := trivial
theorem tw16496857829328116044 : True := trivial
theorem tw9524518906428321964 : True := trivial
theorem tw17347454772498655404 : True := trivial
theorem tw4785737784526614668 : True := trivial
theorem tw1963134401048803436 : True := trivial
theorem tw6449190631224713292 : True := trivial
theorem tw17416127249078093707 : True := trivial
theorem tw12809788781938459499 : True := trivial
theorem tw5962627729488381771 : True := trivial
theorem tw15523924160545744683 : True := trivial
theorem tw15741700470354863883 : True := trivial
theorem tw17535827442545306379 : True := trivial
theorem tw16068754644101465803 : True := trivial
theorem tw16285329926789087883 : True := trivial
theorem tw17567850324905474699 : True := trivial
theorem tw5246096745964282443 : True := trivial
theorem tw7661832156752021035 : True := trivial
theorem tw18164189302063226315 : True := trivial
theorem tw2067723777617599883 : True := trivial
theorem tw14210890002308233579 : True := trivial
theorem tw18143685660980048203 : True := trivial
theorem tw17821466097196317003 : True := trivial
theorem tw373065315874586923 : True := trivial
theorem tw5063945577112930571 : True := trivial
theorem tw9713546201632813291 : True := trivial
theorem tw8399098705505230059 : True := trivial
theorem tw857469055436470443 : True := trivial
theorem tw13870153662132920491 : True := trivial
theorem tw5593514722818144331 : True := trivial
theorem tw14239432107786713131 : True := trivial
theorem tw1412459407091105835 : True := trivial
theorem tw12284014389350100970 : True := trivial
theorem tw2320886540369039338 : True := trivial
theorem tw14560573928864763818 : True := trivial
theorem tw10874316729293906858 : True := trivial
theorem tw4588413851689716618 : True := trivial
theorem tw17461915456910197578 : True := trivial
theorem tw14139026862911339306 : True := trivial
theorem tw17186005699333237546 : True := trivial
theorem tw14568449535678555946 : True := trivial
theorem tw12711679700452659978 : True := trivial
theorem tw10790007923984976650 : True := trivial
theorem tw3976127234124569322 : True := trivial
theorem tw2866121171748074186 : True := trivial
theorem tw4337157586716928682 : True := trivial
theorem tw4613182775407389354 : True := trivial
theorem tw4868334931027891882 : True := trivial
theorem tw2556814553914141322 : True := trivial
theorem tw6113989636485653130 : True := trivial
theorem tw4329306826757983850 : True := trivial
theorem tw13077057902897974858 : True := trivial
theorem tw5920281757701029450 : True := trivial
theorem tw7098310284689642954 : True := trivial
theorem tw4756999144959642058 : True := trivial
theorem tw12149302876761508202 : True := trivial
theorem tw6081921254191324426 : True := trivial
theorem tw8559517257967667466 : True := trivial
theorem tw16570786720924097770 : True := trivial
theorem tw884059145510264010 : True := trivial
theorem tw5713887491374438570 : True := trivial
theorem tw757079261281740938 : True := trivial
theorem tw4538191230965241994 : True := trivial
theorem tw10852849658779182186 : True := trivial
theorem tw11953781441336167498 : True := trivial
theorem tw8890792774038802474 : True := trivial
theorem tw4002333041265778665 : True := trivial
theorem tw14855157385224911753 : True := trivial
theorem tw7830629276484211593 : True := trivial
theorem tw16125780511175521129 : True := trivial
theorem tw3432132637015033673 : True := trivial
theorem tw16196181902256332553 : True := trivial
theorem tw9387745189664136937 : True := trivial
theorem tw2046393882495617769 : True := trivial
theorem tw8352470293576582857 : True := trivial
theorem tw17570709534508481193 : True := trivial
theorem tw10098057777631523497 : True := trivial
theorem tw3004984022683251337 : True := trivial
theorem tw12868640280835112553 : True := trivial
theorem tw9735714214384596553 : True := trivial
theorem tw4684940682943077961 : True := trivial
theorem tw1195334901915552329 : True := trivial
theorem tw15234240111613058569 : True := trivial
theorem tw7636574776371312073 : True := trivial
theorem tw16867096813858660809 : True := trivial
theorem tw9556950149685670313 : True := trivial
theorem tw10372454290965829033 : True := trivial
theorem tw14165584387687976329 : True := trivial
theorem tw12612204703400128841 : True := trivial
theorem tw10671828304227620169 : True := trivial
theorem tw1921165311934587177 : True := trivial
theorem tw7021976415091001641 : True := trivial
theorem tw15533503492667675913 : True := trivial
theorem tw17220895691602665673 : True := trivial
theorem tw3343445320678177929 : True := trivial
theorem tw6061592489118403721 : True := trivial
theorem tw9059937348426287209 : True := trivial
theorem tw12946824338688289833 : True := trivial
theorem tw999798209818781672 : True := trivial
theorem tw1105837973531982728 : True := trivial
theorem tw3125960719983571848 : True := trivial
theorem tw3974152918291533672 : True := trivial
theorem tw8919302590299486024 : True := trivial
theorem tw15149952090015108872 : True := trivial
theorem tw11897717083992391400 : True := trivial
theorem tw6525817661751114472 : True := trivial
theorem tw15225332579556243176 : True := trivial
theorem tw1625080806587739848 : True := trivial
theorem tw14431720936831517352 : True := trivial
theorem tw2976117146107443816 : True := trivial
theorem tw5984158551500366440 : True := trivial
theorem tw16294308237570839144 : True := trivial
theorem tw4576743580672133640 : True := trivial
theorem tw7383848191655739912 : True := trivial
theorem tw10925335251469727208 : True := trivial
theorem tw4040260094072895976 : True := trivial
theorem tw6380807493870290408 : True := trivial
theorem tw8622160174418277736 : True := trivial
theorem tw2086631506510373192 : True := trivial
theorem tw11466478281803324712 : True := trivial
theorem tw12494888245299231016 : True := trivial
theorem tw14679806638718605512 : True := trivial
theorem tw12586190556516072552 : True := trivial
theorem tw947276838399291496 : True := trivial
theorem tw14279960228734115912 : True := trivial
theorem tw14899709244077398024 : True := trivial
theorem tw1976505206021243879 : True := trivial
theorem tw1035503724928835527 : True := trivial
theorem tw2687768774938457991 : True := trivial
theorem tw13360279666012451719 : True := trivial
theorem tw12403690455625630471 : True := trivial
theorem tw2103456241558337223 : True := trivial
theorem tw10383673109516279431 : True := trivial
theorem tw3112429581023547943 : True := trivial
theorem tw12409915417874342407 : True := trivial
theorem tw14297971457927632359 : True := trivial
theorem tw17123178472405020103 : True := trivial
theorem tw15238337123492228519 : True := trivial
theorem tw10770419977021028743 : True := trivial
theorem tw9218923581257491847 : True := trivial
theorem tw416177051242630535 : True := trivial
theorem tw2565351972500760935 : True := trivial
theorem tw10043950574865488231 : True := trivial
theorem tw8330952907988395303 : True := trivial
theorem tw12696600883282566439 : True := trivial
theorem tw18176387895596863783 : True := trivial
theorem tw11277597615667878183 : True := trivial
theorem tw5725524221116865799 : True := trivial
theorem tw7563514974416257223 : True := trivial
theorem tw11338875618241718471 : True := trivial
theorem tw15019234207855213703 : True := trivial
theorem tw12741526300851653767 : True := trivial
theorem tw13295704053362595847 : True := trivial
theorem tw6872408275531757542 : True := trivial
theorem tw4171678462856256454 : True := trivial
theorem tw1209720653154232198 : True := trivial
theorem tw15069271281064182630 : True := trivial
theorem tw4924110625330727750 : True := trivial
theorem tw17130245016438642246 : True := trivial
theorem tw3199103547748192838 : True := trivial
theorem tw1249118550022496774 : True := trivial
theorem tw13635414795387738630 : True := trivial
theorem tw7033882931294258662 : True := trivial
theorem tw13948639791554836966 : True := trivial
theorem tw17637551073024348614 : True := trivial
theorem tw11116067473893591494 : True := trivial
theorem tw3863403702602939814 : True := trivial
theorem tw17356987340757268870 : True := trivial
theorem tw12669758225909598566 : True := trivial
theorem tw16448914465934546278 : True := trivial
theorem tw8282812270067184934 : True := trivial
theorem tw3788772014149755174 : True := trivial
theorem tw14336544582882092262 : True := trivial
theorem tw10895054467252067526 : True := trivial
theorem tw12833947400113492166 : True := trivial
theorem tw9524105066518557862 : True := trivial
theorem tw11273041486466551846 : True := trivial
theorem tw7613945582906998725 : True := trivial
theorem tw13925877587632400325 : True := trivial
theorem tw17610481187121035141 : True := trivial
theorem tw7613857476909055813 : True := trivial
theorem tw10007411396671696613 : True := trivial
theorem tw5102460946473063141 : True := trivial
theorem tw3906754673857718949 : True := trivial
theorem tw14979938633740849765 : True := trivial
theorem tw13501502787908985413 : True := trivial
theorem tw14578271805448956485 : True := trivial
theorem tw6956187926921108005 : True := trivial
theorem tw612862322836996645 : True := trivial
theorem tw8269367382603917829 : True := trivial
theorem tw3523348777828740581 : True := trivial
theorem tw8053913732961167717 : True := trivial
theorem tw15476544859757588837 : True := trivial
theorem tw5585719645790517573 : True := trivial
theorem tw10818889477481085253 : True := trivial
theorem tw15488412567658976549 : True := trivial
theorem tw7929640520542984453 : True := trivial
theorem tw2367325634123391141 : True := trivial
theorem tw7716820226725407877 : True := trivial
theorem tw6227736768552902789 : True := trivial
theorem tw1560641971993327685 : True := trivial
theorem tw4696956992080197669 : True := trivial
theorem tw9260378047223084069 : True := trivial
theorem tw14257018576560825284 : True := trivial
theorem tw17963964198891936676 : True := trivial
theorem tw7334248845499685764 : True := trivial
theorem tw11395320378806372228 : True := trivial
theorem tw848606289541702500 : True := trivial
theorem tw3302319216010004292 : True := trivial
theorem tw15434440284735832900 : True := trivial
theorem tw6620434350048004 : True := trivial
theorem tw2995622967998787300 : True := trivial
theorem tw2775396313129547428 : True := trivial
theorem tw10708223146118651492 : True := trivial
theorem tw16912196016219973028 : True := trivial
theorem tw8629152706101051812 : True := trivial
theorem tw12979919090201106820 : True := trivial
theorem tw17036620345825979748 : True := trivial
theorem tw17662344363894024548 : True := trivial
theorem tw15846704840505152836 : True := trivial
theorem tw6388184931127306564 : True := trivial
theorem tw11900726367713137988 : True := trivial
theorem tw17132207802985990308 : True := trivial
theorem tw9825859731914700964 : True := trivial
theorem tw11462241541112437924 : True := trivial
theorem tw8088732932480780420 : True := trivial
theorem tw8511326990415419460 : True := trivial
theorem tw12289009448876354596 : True := trivial
theorem tw9073057256386726948 : True := trivial
theorem tw11151619158091525091 : True := trivial
theorem tw11707752901727499235 : True := trivial
theorem tw1903126291601959907 : True := trivial
theorem tw12135189313929291683 : True := trivial
theorem tw2896703901015224195 : True := trivial
theorem tw11147117730913898307 : True := trivial
theorem tw15989303212955285315 : True := trivial
theorem tw4124276233288881987 : True := trivial
theorem tw3762306804915933987 : True := trivial
theorem tw5402249366112354979 : True := trivial
theorem tw16115155874713506467 : True := trivial
theorem tw13066358836101814915 : True := trivial
theorem tw17465016565071970851 : True := trivial
theorem tw9113340658982188547 : True := trivial
theorem tw584112131590315491 : True := trivial
theorem tw7930893340574950883 : True := trivial
theorem tw3023385222666876323 : True := trivial
theorem tw4170516301191304579 : True := trivial
theorem tw4992356995671143779 : True := trivial
theorem tw17149882997012438147 : True := trivial
theorem tw17314879045244329059 : True := trivial
theorem tw2185935427153128515 : True := trivial
theorem tw13467322939085005891 : True := trivial
theorem tw670465573061467203 : True := trivial
theorem tw18011332887955570755 : True := trivial
theorem tw13574545013463194659 : True := trivial
theorem tw18082680734076937219 : True := trivial
theorem tw4424551920762525699 : True := trivial
theorem tw12962497063298326498 : True := trivial
theorem tw4769821431679368130 : True := trivial
theorem tw13469397999491448738 : True := trivial
theorem tw17311274769643918242 : True := trivial
theorem tw596547303528347490 : True := trivial
theorem tw18255404467826089762 : True := trivial
theorem tw12180539936304867106 : True := trivial
theorem tw9038226972742754082 : True := trivial
theorem tw4910921440188858082 : True := trivial
theorem tw16488607150827929282 : True := trivial
theorem tw11869342324683393730 : True := trivial
theorem tw3246839028233683650 : True := trivial
theorem tw10194128795564708546 : True := trivial
theorem tw10696652717036330658 : True := trivial
theorem tw16503470079419688546 : True := trivial
theorem tw12454092890298587682 : True := trivial
theorem tw7995428538843987458 : True := trivial
theorem tw7816886789376521730 : True := trivial
theorem tw10699407837109476802 : True := trivial
theorem tw10829458402184033698 : True := trivial
theorem tw11067033192786714914 : True := trivial
theorem tw6815667921103612162 : True := trivial
theorem tw8018989035897545986 : True := trivial
theorem tw3373110491918621954 : True := trivial
theorem tw5689665320540551426 : True := trivial
theorem tw12448240930570709186 : True := trivial
theorem tw8775384921122389154 : True := trivial
theorem tw5106123347721008290 : True := trivial
theorem tw17717364068325071970 : True := trivial
theorem tw9962418760945406050 : True := trivial
theorem tw5486226609284752418 : True := trivial
theorem tw5678346346211369953 : True := trivial
theorem tw10478924771774928865 : True := trivial
theorem tw8119881530291889089 : True := trivial
theorem tw4928979718650693569 : True := trivial
theorem tw18105942590061964161 : True := trivial
theorem tw4440197508161821537 : True := trivial
theorem tw16407147864228438881 : True := trivial
theorem tw15205425988870721313 : True := trivial
theorem tw7637123554017889057 : True := trivial
theorem tw14365839007642131201 : True := trivial
theorem tw3794220679723124481 : True := trivial
theorem tw11414119711712004833 : True := trivial
theorem tw11772964195913830049 : True := trivial
theorem tw9509447333196811905 : True := trivial
theorem tw945457799607111265 : True := trivial
theorem tw10850621001676330593 : True := trivial
theorem tw9508293364712189505 : True := trivial
theorem tw5647864574477489665 : True := trivial
theorem tw14838103818555229697 : True := trivial
theorem tw4443050520305737185 : True := trivial
theorem tw15815952407149668801 : True := trivial
theorem tw13582292425324344769 : True := trivial
theorem tw10891054232620793217 : True := trivial
theorem tw15566928917628492161 : True := trivial
theorem tw7249652514872940865 : True := trivial
theorem tw15153159077126877473 : True := trivial
theorem tw12487371901255815361 : True := trivial
theorem tw11575174756993882273 : True := trivial
theorem tw11293339424137598113 : True := trivial
theorem tw10704335966402640001 : True := trivial
theorem tw6220327705178566785 : True := trivial
theorem tw7522001649326652513 : True := trivial
theorem tw2204852077615127585 : True := trivial
theorem tw11192643925408225281 : True := trivial
theorem tw11298980531735778240 : True := trivial
theorem tw9883050511414546368 : True := trivial
theorem tw11156769864338437024 : True := trivial
theorem tw7558420492911801248 : True := trivial
theorem tw10002699936043487104 : True := trivial
theorem tw11325060847842403200 : True := trivial
theorem tw8058895272353334144 : True := trivial
theorem tw8656503046869711584 : True := trivial
theorem tw2516017022742817472 : True := trivial
theorem tw9757074474933493440 : True := trivial
theorem tw16326573535979396768 : True := trivial
theorem tw799341379326975648 : True := trivial
theorem tw17701328389417463424 : True := trivial
theorem tw3853475060279184000 : True := trivial
theorem tw13119895379190043232 : True := trivial
theorem tw2523478847598653984 : True := trivial
theorem tw14109310954907245088 : True := trivial
theorem tw17801579834951734752 : True := trivial
theorem tw4640724917100965312 : True := trivial
theorem tw828056024939588000 : True := trivial
theorem tw3767311804947220896 : True := trivial
theorem tw3506512066687448480 : True := trivial
theorem tw1544503264643628384 : True := trivial
theorem tw4209717502836232480 : True := trivial
theorem tw10599938827571368224 : True := trivial
theorem tw6435670951450185984 : True := trivial
theorem tw5634151482396758240 : True := trivial
theorem tw9703995961882730528 : True := trivial
theorem tw2366935224961629442 : True := trivial
theorem tw13053323092883110992 : True := trivial
end fin
set_option maxHeartbeats 8000000
set_option Elab.async true in
theorem fin : PySem.Challenge.rw_rr0033_01.Holds := by
  w_on; o_law; o_head (kHook h0.heap_1_1 [2, 3, 15, 17, 18, 20, 21, 22, 29, 30, 31, 32, 35, 42, 44, 45, 47, 48, 49, 50, 51, 54, 56, 57, 59, 60, 61, 63, 64, 66, 67, 75, 77, 78, 80, 81, 82, 84, 85, 87, 88, 89, 91, 92, 94, 95, 96, 98, 99, 101, 102, 103, 105, 106, 108, 109, 110, 112, 113, 115, 116, 117, 119, 120, 122, 123, 124, 126, 127, 129, 130, 131, 133, 134, 136, 137, 138, 140, 141, 143, 144, 145, 147, 148, 150, 151, 152, 153, 154, 155, 156, 159, 161, 162, 164, 165, 166, 168, 169, 171, 172, 173, 175, 176, 178, 179, 180, 188, 189, 191, 192, 194, 195, 196, 198, 199, 201, 202, 203, 205, 206, 208, 209, 210, 212, 213, 215, 216, 217, 219, 220, 222, 223, 224, 226, 227, 229, 230, 231, 233, 234, 236, 237, 238, 240, 241, 243, 244, 245, 247, 248, 250, 251, 252, 254, 255, 257, 258, 259, 261, 262, 264, 265, 266, 268, 269, 271, 272, 273, 275, 276, 278, 279, 280, 282, 283, 285, 286, 287, 289, 290, 292, 293, 294, 296, 297, 299, 300, 301, 303, 304, 306, 307, 308, 310, 311, 313, 314, 315, 317, 318, 320, 321, 322, 323, 324, 325, 326, 329, 336, 338, 339, 341, 342, 343, 344, 346, 347, 349, 350, 351, 353, 354, 356, 357, 358, 360, 361, 363, 364, 365, 367, 368, 370, 371, 372, 374, 375, 377, 378, 379, 380, 381, 391, 393, 394, 396, 397, 398, 400, 401, 403, 404, 405, 406, 407, 408, 409, 412, 414, 415, 417, 418, 419, 421, 422, 424, 425, 426, 428, 429, 431, 432, 433, 435, 436, 438, 439, 440, 442, 443, 445, 446, 447, 449, 450, 452, 453, 454, 456, 457, 459, 460, 461, 463, 464, 466, 467, 475, 476, 478, 479, 481, 482, 483, 485, 486, 488, 489, 490, 492, 493, 495, 496, 497, 499, 500, 502, 503, 504, 506, 507, 509, 510, 511, 513, 514, 516, 517, 518, 520, 521, 523, 524, 525, 527, 528, 530, 531, 532, 534, 535, 537, 538, 539, 541, 542, 544, 545, 546, 548, 549, 551, 552, 553, 555, 556, 558, 559, 560, 562, 563, 565, 566, 567, 569, 570, 572, 573, 574, 576, 577, 579, 580, 581, 583, 584, 586, 587, 588, 590, 591, 593, 594, 595, 597, 598, 600, 601, 602, 604, 605, 607, 608, 609, 611, 612, 614, 615, 616, 618, 619, 621, 622, 623, 624, 625, 626, 627, 630, 632, 633, 635, 636, 637, 639, 640, 642, 643, 644, 646, 647, 649, 650, 651, 653, 654, 656, 657, 658, 660, 661, 663, 664, 665, 667, 668, 670, 671, 672, 674, 675, 677, 678, 679, 681, 682, 684, 685, 686, 688, 689, 691, 692, 693, 695, 696, 698, 699, 700, 702, 703, 705, 706, 707, 709, 710, 712, 713, 714, 716, 717, 719, 720, 721, 723, 724, 726, 727, 728, 730, 731, 733, 734, 735, 737, 738, 740, 741, 742, 744, 745, 747, 748, 749, 751, 752, 754, 755, 756, 758, 759, 761, 762, 763, 765, 766, 768, 769, 770, 772, 773, 775, 776, 777, 779, 780, 782, 783, 784, 787, 788, 789, 792, 793, 794, 797, 798, 799, 802, 803, 804, 806, 807, 809, 810, 811, 813, 814, 816, 817] (fun _ => by kernel_rfl)); (case hw => w_witness2)
  intro w s₀ s₁ mg mb G Y fa o pm cd doc dV kV ho hd' hcd hD hmg hg args vals as hpre hlay hrd hwl hlo
  have KX := kIn_of Y
  refine Ground.open G ?_
  intro T B D TE TW
  have hm : mg (PySem.Str.ofString "law") = some (.ref fa) := hmg
  rw [mg_of KX (Top.g T) (show nsIn (h0.heap_1_1 w.params) mainGlobals (PySem.Str.ofString "law") = some (some (.ref 817)) by k_is)] at hm
  cases hm
  clear ho hd' hcd hD B D TE TW Y G hmg
  wrow_args hpre hlay hrd hwl hlo
  all_goals (
    refine enter_call ?_
    refine codeAny_mono ?_ (fun _ _ g => GoodW.toG g)
    refine c_end KX ⟨_, _, _, _, topRead_of T⟩ hg ‹_› ‹IntsAre _ _› (by (first | lia | omega)) fun s' k1 k2 k3 => ?_
    exact ⟨.inl ⟨.bool true, .bool true, [], rfl, raisesW_false (by wrow_none_raised), .bool true, (by wrow_post), fun _ => ⟨.nil, fun a ha => by cases ha⟩⟩, k1, k2, k3⟩)
end Mine
theorem PySem.Challenge.cw_rr0033_01_holds : PySem.Challenge.rw_rr0033_01.Holds :=
  Mine.fin
