import PyProof.Rows.All
import Wide.All
import OpenK.AllK
import Wide.FinOn
import Lean
import PySem.Challenge.RW_xm0157_01
set_option Elab.async false
set_option maxRecDepth 100000
set_option genSizeOf false
namespace Mine
open PySem PySem.W PySem.Spec PySem.Calls PyProof.Rows
section

/-! # values, cells, how the heap bears them -/
inductive V where
  | none
  | bool (b : Bool)
  | int (i : Int)
  | tup (vs : List V)
  | lst (vs : List V)
  | ref (n : Nat)
inductive Cell where
  | lst (vs : List V)
  | dic (ks : List (List Int))
mutual
inductive Rep (μ : List Addr) (h : Heap) : V → Value → Prop
  | none : Rep μ h .none .none
  | bool (b) : Rep μ h (.bool b) (.bool b)
  | int (i t) : Rep μ h (.int i) (.int i t)
  | tup {vs a xs} : IsTup h a (List.toArray xs) → a ∉ μ → RepL μ h vs xs → Rep μ h (.tup vs) (.ref a)
  | lst {vs a xs} : h.IsList a (List.toArray xs) → a ∉ μ → RepL μ h vs xs → Rep μ h (.lst vs) (.ref a)
  | ref {n a} : μ[n]? = some a → Rep μ h (.ref n) (.ref a)
inductive RepL (μ : List Addr) (h : Heap) : List V → List Value → Prop
  | nil : RepL μ h [] []
  | cons {v vs x xs} : Rep μ h v x → RepL μ h vs xs → RepL μ h (v :: vs) (x :: xs)
end
theorem RepL.length {μ h} : ∀ {vs : List V} {xs : List Value}, RepL μ h vs xs → vs.length = xs.length
  | _, _, .nil => rfl
  | _, _, .cons _ r => by simp [RepL.length r]
theorem RepL.append {μ h} : ∀ {vs : List V} {xs : List Value} {us ys}, RepL μ h vs xs → RepL μ h us ys → RepL μ h (vs ++ us) (xs ++ ys)
  | _, _, _, _, .nil, k => k
  | _, _, _, _, .cons a r, k => .cons a (RepL.append r k)
theorem RepL.get {μ h} : ∀ {vs : List V} {xs : List Value} {i : Nat} {v : V}, RepL μ h vs xs → vs[i]? = some v → ∃ x, xs[i]? = some x ∧ Rep μ h v x
  | _, _, 0, _, .cons a _, e => ⟨_, rfl, by cases e; exact a⟩
  | _, _, i + 1, _, .cons _ r, e => RepL.get (i := i) r (by simpa using e)
theorem RepL.take {μ h} : ∀ {vs : List V} {xs : List Value} (n : Nat), RepL μ h vs xs → RepL μ h (vs.take n) (xs.take n)
  | _, _, 0, _ => by simpa using RepL.nil
  | _, _, _ + 1, .nil => .nil
  | _, _, n + 1, .cons a r => .cons a (RepL.take n r)
theorem RepL.drop {μ h} : ∀ {vs : List V} {xs : List Value} (n : Nat), RepL μ h vs xs → RepL μ h (vs.drop n) (xs.drop n)
  | _, _, 0, r => r
  | _, _, _ + 1, .nil => .nil
  | _, _, n + 1, .cons _ r => RepL.drop n r
theorem RepL.set {μ h} : ∀ {vs : List V} {xs : List Value} (n : Nat) {v x}, RepL μ h vs xs → Rep μ h v x → RepL μ h (vs.set n v) (xs.set n x)
  | _, _, _, _, _, .nil, _ => .nil
  | _, _, 0, _, _, .cons _ r, k => .cons k r
  | _, _, n + 1, _, _, .cons a r, k => .cons a (RepL.set n r k)
theorem RepL.one {μ h v x} (a : Rep μ h v x) : RepL μ h [v] [x] := .cons a .nil
theorem RepL.reverse {μ h} : ∀ {vs : List V} {xs : List Value}, RepL μ h vs xs → RepL μ h vs.reverse xs.reverse
  | _, _, .nil => .nil
  | _, _, .cons a r => by rw [List.reverse_cons, List.reverse_cons]; exact (RepL.reverse r).append (.one a)
/-- what a change of the heap must leave for the data to stay -/
structure Still (μ : List Addr) (h : Heap) (μ' : List Addr) (h' : Heap) : Prop where
  keep : ∀ b o, h.get? b = some o → (∃ xs n, o.data = .seq xs n) → b ∉ μ → h'.get? b = some o
  ext : ∃ ν, μ' = μ ++ ν ∧ ∀ a ∈ ν, h.get? a = none
theorem Still.notin {μ μ' h h'} (K : Still μ h μ' h') {a o} (e : h.get? a = some o) (n : a ∉ μ) : a ∉ μ' := by
  obtain ⟨ν, rfl, hν⟩ := K.ext
  intro m
  rcases List.mem_append.mp m with m | m
  · exact n m
  · rw [hν a m] at e; cases e
theorem Still.ref {μ μ' : List Addr} {h h'} (K : Still μ h μ' h') {n : Nat} {a : Addr} (e : μ[n]? = some a) : μ'[n]? = some a := by
  obtain ⟨ν, rfl, _⟩ := K.ext
  exact List.getElem?_append_left (List.getElem?_eq_some_iff.mp e).1 |>.trans e
mutual
theorem Rep.still {μ μ' h h'} (K : Still μ h μ' h') : ∀ {v : V} {x : Value}, Rep μ h v x → Rep μ' h' v x
  | _, _, .none => .none
  | _, _, .bool b => .bool b
  | _, _, .int i t => .int i t
  | _, _, .tup ⟨o, e, c, n, d⟩ m r => .tup ⟨o, K.keep _ _ e ⟨_, _, d⟩ m, c, n, d⟩ (K.notin e m) (RepL.still K r)
  | _, _, .lst ⟨o, e, c, n, d⟩ m r => .lst ⟨o, K.keep _ _ e ⟨_, _, d⟩ m, c, n, d⟩ (K.notin e m) (RepL.still K r)
  | _, _, .ref e => .ref (K.ref e)
theorem RepL.still {μ μ' h h'} (K : Still μ h μ' h') : ∀ {vs : List V} {xs : List Value}, RepL μ h vs xs → RepL μ' h' vs xs
  | _, _, .nil => .nil
  | _, _, .cons a r => .cons (Rep.still K a) (RepL.still K r)
end
/-! # the law's world: the base heap, its names -/
structure Cx where
  prog : Program
  w : World
  B : Heap
  mg : Str → Option Value
  mb : Str → Option Value
/-! the dict of the candidates: keys are tuples of ints, each value True -/
noncomputable def DicRep (C : Cx) (μ : List Addr) (h : Heap) (a : Addr) (ks : List (List Int)) : Prop :=
  (a == sysModules) = false ∧ ∃ xs, Heap.DictOfH (tupleKind (intKind C.prog C.w)) h a xs ∧ xs.map (·.1) = ks ∧ ∀ x ∈ xs, x.2.2 = .bool true ∧ x.2.1 ∉ μ
noncomputable def CellRep (C : Cx) (μ : List Addr) (h : Heap) (a : Addr) : Cell → Prop
  | .lst vs => ∃ xs n, h.get? a = some (listOf (List.toArray xs) n) ∧ RepL μ h vs xs ∧ xs.length ≤ 1000000
  | .dic ks => DicRep C μ h a ks
structure Glo (C : Cx) (h : Heap) : Prop where
  base : ∀ b o, C.B.get? b = some o → h.get? b = some o
/-- the heap's side: the base stands, each cell is borne -/
structure HI (C : Cx) (σ : List Cell) (μ : List Addr) (h : Heap) : Prop where
  base : ∀ b o, C.B.get? b = some o → h.get? b = some o
  len : μ.length = σ.length
  nodup : μ.Nodup
  new : ∀ a ∈ μ, C.B.get? a = none
  cells : ∀ (i : Nat) (a : Addr) (c : Cell), μ[i]? = some a → σ[i]? = some c → CellRep C μ h a c
theorem CellRep.alive {C μ h a c} (r : CellRep C μ h a c) : ∃ o, h.get? a = some o ∧ ((∃ xs n, o.data = .seq xs n) ∨ ∃ es n, o.data = .dict es n) := by
  cases c with
  | lst vs => obtain ⟨xs, n, e, _⟩ := r; exact ⟨_, e, .inl ⟨_, _, rfl⟩⟩
  | dic ks => obtain ⟨_, xs, ⟨o, es, ep, e, _, d, _⟩, _⟩ := r; exact ⟨o, e, .inr ⟨_, _, d⟩⟩
theorem HI.cell {C σ μ h} (H : HI C σ μ h) {i : Nat} {a : Addr} (e : μ[i]? = some a) : ∃ c, σ[i]? = some c ∧ CellRep C μ h a c := by
  have hi : i < σ.length := H.len ▸ (List.getElem?_eq_some_iff.mp e).1
  exact ⟨σ[i], List.getElem?_eq_getElem hi, H.cells i a _ e (List.getElem?_eq_getElem hi)⟩
theorem HI.alive {C σ μ h} (H : HI C σ μ h) {a : Addr} (m : a ∈ μ) : ∃ o, h.get? a = some o ∧ ((∃ xs n, o.data = .seq xs n) ∨ ∃ es n, o.data = .dict es n) := by
  obtain ⟨i, e⟩ := List.getElem?_of_mem m
  obtain ⟨c, _, r⟩ := H.cell e
  exact r.alive
/-! # frames -/
noncomputable def Sees (env : Env) (h : Heap) (m : Str → Option Value) (x : Str) (val : Value) : Prop :=
  (env.kindOf x = some .local ∧ m x = some val) ∨ ((env.kindOf x = some .cell ∨ (env.kindOf x = some .free ∧ (x == ("__classdict__" : Str)) = false)) ∧ ∃ c, env.cells.lookup x = some c ∧ h.IsCell c (some val))
structure EnvI (C : Cx) (env : Env) (ρ : List (Str × V)) (μ : List Addr) (h : Heap) : Prop where
  kind : env.scope.kind = .function
  glob : env.globals = mainGlobals
  blt : env.builtins = builtinsNs
  lnew : C.B.get? env.locals = none
  lnot : env.locals ∉ μ
  see : ∃ m, h.Ns env.locals m ∧ ∀ x v, ρ.lookup x = some v → ∃ val, Rep μ h v val ∧ Sees env h m x val
  cells : ∀ x c, env.cells.lookup x = some c → C.B.get? c = none ∧ ∃ v₀, h.IsCell c v₀
  cellAll : ∀ x, env.kindOf x = some .cell → (env.cells.lookup x).isSome = true
  inj : ∀ x y c, env.cells.lookup x = some c → env.cells.lookup y = some c → x = y
/-- a change that leaves all but the cells of lists (and what X names) -/
structure Step (X : Addr → Prop) (μ μ' : List Addr) (s s' : Shared) : Prop where
  same : ∃ h tk, s' = { s with heap := h, toks := tk }
  keep : ∀ b o, ¬ X b → b ∉ μ → s.heap.get? b = some o → s'.heap.get? b = some o
  live : ∀ b o, s.heap.get? b = some o → ∃ o', s'.heap.get? b = some o'
  ext : ∃ ν, μ' = μ ++ ν ∧ ∀ a ∈ ν, s.heap.get? a = none
theorem Step.mem {X μ μ' s s'} (S : Step X μ μ' s s') {a} (m : a ∈ μ) : a ∈ μ' := by
  obtain ⟨ν, rfl, _⟩ := S.ext; exact List.mem_append_left _ m
theorem Step.notin {X μ μ' s s'} (S : Step X μ μ' s s') {a o} (e : s.heap.get? a = some o) (n : a ∉ μ) : a ∉ μ' := by
  obtain ⟨ν, rfl, hν⟩ := S.ext
  intro m
  rcases List.mem_append.mp m with m | m
  · exact n m
  · rw [hν a m] at e; cases e
theorem Step.refl {X μ s} : Step X μ μ s s := ⟨⟨_, _, rfl⟩, fun _ _ _ _ e => e, fun _ o e => ⟨o, e⟩, [], by simp, fun _ m => nomatch m⟩
theorem Step.trans {X μ μ₁ μ₂ s s₁ s₂} (a : Step X μ μ₁ s s₁) (b : Step X μ₁ μ₂ s₁ s₂) : Step X μ μ₂ s s₂ := by
  refine ⟨?_, fun c o hx hm e => b.keep c o hx (a.notin e hm) (a.keep c o hx hm e), fun c o e => ?_, ?_⟩
  · obtain ⟨h, tk, rfl⟩ := a.same; obtain ⟨h', tk', rfl⟩ := b.same; exact ⟨_, _, rfl⟩
  · obtain ⟨o', e'⟩ := a.live c o e; exact b.live c o' e'
  · obtain ⟨ν, rfl, h1⟩ := a.ext
    obtain ⟨ν', rfl, h2⟩ := b.ext
    refine ⟨ν ++ ν', by rw [List.append_assoc], fun c m => ?_⟩
    rcases List.mem_append.mp m with m | m
    · exact h1 c m
    · cases q : s.heap.get? c with
      | none => rfl
      | some o => obtain ⟨o', e'⟩ := a.live c o q; rw [h2 c m] at e'; cases e'
theorem Step.mono {X Y : Addr → Prop} {μ μ' s s'} (a : Step X μ μ' s s') (h : ∀ b, X b → Y b) : Step Y μ μ' s s' :=
  ⟨a.same, fun b o hy => a.keep b o fun hx => hy (h b hx), a.live, a.ext⟩
/-- what X names is new: nothing that stood is left out -/
theorem Step.shut {X : Addr → Prop} {μ μ' s s'} (a : Step X μ μ' s s') (h : ∀ b, X b → s.heap.get? b = none) : Step (fun _ => False) μ μ' s s' :=
  ⟨a.same, fun b o _ hm e => a.keep b o (fun hx => by rw [h b hx] at e; cases e) hm e, a.live, a.ext⟩
theorem Step.still {X : Addr → Prop} {μ μ' s s'} (a : Step X μ μ' s s') (h : ∀ b o, X b → s.heap.get? b = some o → ∀ xs n, o.data ≠ .seq xs n) : Still μ s.heap μ' s'.heap :=
  ⟨fun b o e ⟨xs, n, d⟩ hm => a.keep b o (fun hx => h b o hx e xs n d) hm e, a.ext⟩
noncomputable abbrev Loc (env : Env) : Addr → Prop := fun b => b = env.locals
noncomputable abbrev Own (env : Env) : Addr → Prop := fun b => b = env.locals ∨ ∃ x, env.cells.lookup x = some b
theorem EnvI.locData {C env ρ μ h} (I : EnvI C env ρ μ h) : ∀ o, h.get? env.locals = some o → ∀ xs n, o.data ≠ .seq xs n := by
  obtain ⟨m, ⟨o, es, ep, e, d, _⟩, _⟩ := I.see
  intro o' e' xs n d'
  rw [e] at e'; cases e'; rw [d] at d'; cases d'
theorem EnvI.cellData {C env ρ μ h} (I : EnvI C env ρ μ h) {x c} (hc : env.cells.lookup x = some c) : ∀ o, h.get? c = some o → ∃ v, o.data = .cell v := by
  obtain ⟨_, v₀, o, e, d⟩ := I.cells x c hc
  intro o' e'
  rw [e] at e'; cases e'; exact ⟨_, d⟩
theorem EnvI.ownData {C env ρ μ h} (I : EnvI C env ρ μ h) : ∀ b o, Own env b → h.get? b = some o → ∀ xs n, o.data ≠ .seq xs n := by
  rintro b o (rfl | ⟨x, hc⟩) e xs n d
  · exact I.locData o e xs n d
  · obtain ⟨v, d'⟩ := I.cellData hc o e
    rw [d] at d'; cases d'
theorem EnvI.cellNot {C env ρ σ μ h} (I : EnvI C env ρ μ h) (H : HI C σ μ h) {x c} (hc : env.cells.lookup x = some c) : c ∉ μ := by
  intro m
  obtain ⟨o, e, d⟩ := H.alive m
  obtain ⟨v, d'⟩ := I.cellData hc o e
  rcases d with ⟨_, _, d⟩ | ⟨_, _, d⟩ <;> rw [d] at d' <;> cases d'
theorem EnvI.cellNeLoc {C env ρ μ h} (I : EnvI C env ρ μ h) {x c} (hc : env.cells.lookup x = some c) : c ≠ env.locals := by
  rintro rfl
  obtain ⟨m, ⟨o, es, ep, e, d, _⟩, _⟩ := I.see
  obtain ⟨v, d'⟩ := I.cellData hc o e
  rw [d] at d'; cases d'
/-- a frame that the change does not touch -/
theorem EnvI.step {C env ρ σ μ μ' s s'} {X : Addr → Prop} (I : EnvI C env ρ μ s.heap) (H : HI C σ μ s.heap) (S : Step X μ μ' s s') (hx : ∀ b o, X b → s.heap.get? b = some o → ∀ xs n, o.data ≠ .seq xs n)
    (hl : ¬ X env.locals) (hc : ∀ x c, env.cells.lookup x = some c → ¬ X c) : EnvI C env ρ μ' s'.heap := by
  have K := S.still hx
  have hcell : ∀ x c, env.cells.lookup x = some c → ∀ v₀, s.heap.IsCell c v₀ → s'.heap.IsCell c v₀ := fun x c e v₀ ⟨o, ho, d⟩ => ⟨o, S.keep _ _ (hc x c e) (I.cellNot H e) ho, d⟩
  obtain ⟨m, hn, hs⟩ := I.see
  obtain ⟨oL, es, ep, eL, rest⟩ := hn
  refine ⟨I.kind, I.glob, I.blt, I.lnew, S.notin eL I.lnot, ⟨m, ⟨oL, es, ep, S.keep _ _ hl I.lnot eL, rest⟩, fun x v hv => ?_⟩, fun x c e => ?_, I.cellAll, I.inj⟩
  · obtain ⟨val, r, se⟩ := hs x v hv
    refine ⟨val, r.still K, ?_⟩
    rcases se with se | ⟨k, c, e, hcl⟩
    · exact .inl se
    · exact .inr ⟨k, c, e, hcell x c e _ hcl⟩
  · obtain ⟨b, v₀, hcl⟩ := I.cells x c e
    exact ⟨b, v₀, hcell x c e _ hcl⟩
/-! # a change that keeps all that stood -/
structure Grow (s s' : Shared) : Prop where
  same : ∃ h tk, s' = { s with heap := h, toks := tk }
  keep : ∀ b o, s.heap.get? b = some o → s'.heap.get? b = some o
theorem Grow.refl {s} : Grow s s := ⟨⟨_, _, rfl⟩, fun _ _ e => e⟩
theorem Grow.toks {s tk} : Grow s { s with toks := tk } := ⟨⟨_, _, rfl⟩, fun _ _ e => e⟩
theorem Grow.push {s o tk} : Grow s { s with heap := s.heap.push o, toks := tk } := ⟨⟨_, _, rfl⟩, fun _ _ e => Heap.get?_push_of_some _ e⟩
theorem Grow.trans {s s₁ s₂} (a : Grow s s₁) (b : Grow s₁ s₂) : Grow s s₂ := by
  obtain ⟨⟨h, tk, rfl⟩, k⟩ := a; obtain ⟨⟨h', tk', rfl⟩, k'⟩ := b; exact ⟨⟨_, _, rfl⟩, fun c o e => k' c o (k c o e)⟩
theorem Grow.step {s s' X μ} (g : Grow s s') : Step X μ μ s s' := ⟨g.same, fun b o _ _ e => g.keep b o e, fun b o e => ⟨o, g.keep b o e⟩, [], by simp, fun _ m => nomatch m⟩
theorem Grow.still {s s' μ} (g : Grow s s') : Still μ s.heap μ s'.heap := ⟨fun b o e _ _ => g.keep b o e, [], by simp, fun _ m => nomatch m⟩
theorem DicRep.still {C μ μ' h h' a ks} (K : Still μ h μ' h') (ha : ∀ o, h.get? a = some o → h'.get? a = some o) (r : DicRep C μ h a ks) : DicRep C μ' h' a ks := by
  obtain ⟨lo, xs, ⟨o, es, ep, e, x, d, he, hk, hn⟩, hm, hv⟩ := r
  refine ⟨lo, xs, ⟨o, es, ep, ha o e, x, d, he, fun y hy => ?_, hn⟩, hm, fun y hy => ?_⟩
  · obtain ⟨ok, its, n, e', c', d', i'⟩ := hk y hy
    exact ⟨ok, its, n, K.keep _ _ e' ⟨_, _, d'⟩ (hv y hy).2, c', d', i'⟩
  · obtain ⟨ok, its, n, e', c', d', i'⟩ := hk y hy
    exact ⟨(hv y hy).1, K.notin e' (hv y hy).2⟩
theorem CellRep.still {C μ μ' h h' a c} (K : Still μ h μ' h') (ha : ∀ o, h.get? a = some o → h'.get? a = some o) (r : CellRep C μ h a c) : CellRep C μ' h' a c := by
  cases c with
  | lst vs => obtain ⟨xs, n, e, q, l⟩ := r; exact ⟨xs, n, ha _ e, q.still K, l⟩
  | dic ks => exact DicRep.still K ha r
theorem HI.grow {C σ μ s s'} (H : HI C σ μ s.heap) (g : Grow s s') : HI C σ μ s'.heap :=
  ⟨fun b o e => g.keep b o (H.base b o e), H.len, H.nodup, H.new, fun i a c e1 e2 => (H.cells i a c e1 e2).still g.still fun o e => g.keep a o e⟩
theorem EnvI.grow {C env ρ σ μ s s'} (I : EnvI C env ρ μ s.heap) (H : HI C σ μ s.heap) (g : Grow s s') : EnvI C env ρ μ s'.heap :=
  I.step H (g.step (X := fun _ => False)) (fun _ _ h => h.elim) (fun h => h) (fun _ _ _ h => h)
end
section

noncomputable abbrev NoE : Value → Shared → Prop := fun _ _ => False
noncomputable def Lim (d : Nat) (A : Around) : Prop := A.handled = none ∧ A.depth + d ≤ 900 ∧ A.units + 10 * d ≤ 9000
theorem Lim.mono {d e A} (h : Lim d A) (k : e ≤ d) : Lim e A := by
  obtain ⟨a, b, c⟩ := h
  exact ⟨a, by omega, by omega⟩
theorem Lim.deeper {d A env} (h : Lim (d + 1) A) : Lim d (A.deeper env) := by
  obtain ⟨a, b, c⟩ := h
  refine ⟨a, ?_, ?_⟩
  · show A.depth + 1 + d ≤ 900; omega
  · show A.units + 3 + 10 * d ≤ 9000; omega
theorem Lim.room {d A} (h : Lim d A) : A.depth < recursionLimit := by
  have := h.2.1; show A.depth < 1000; omega
theorem Lim.units {d A} (h : Lim d A) : A.units + 64 < cLine := by
  have := h.2.2; show A.units + 64 < 9900; omega
structure DefR where
  params : Arguments
  body : List Stmt
  scope : Scope
noncomputable def theDefIn (n : Str) : List Stmt → Option DefR
  | [] => none
  | .FunctionDef m a b _ _ _ sc _ _ _ :: r => if n == m then some ⟨a, b, sc⟩ else theDefIn n r
  | _ :: r => theDefIn n r
/-- what stands in the base: the names, the defs, nothing over the built-ins -/
structure Wd (C : Cx) : Prop where
  g : C.B.Ns mainGlobals C.mg
  b : C.B.Ns builtinsNs C.mb
  nolimit : C.B.NoLimit
  blt : ∀ x : Str, x ≠ "__name__" → C.mb x = bootBuiltins x
  fns : ∀ n d, theDefIn n PySem.Challenge.pw_xm0157_01.main.body = some d → ∃ a o pm cd doc, C.mg n = some (.ref a) ∧ C.B.get? a = some o ∧ o.data = .func (Calls.docDef n d.params d.body d.scope pm cd doc) ∧ C.B.CodeRec cd n
  free : ∀ x ∈ (["abs", "len", "min", "max", "sum", "sorted", "range", "enumerate", "reversed", "list", "int"] : List Str), C.mg x = none
  most : ∃ t, C.mg "MOST_DIVIDED" = some (.int 10000000000 t)
structure Sit (C : Cx) (sc : Scope) (d : Nat) (A : Around) (env : Env) (ρ : List (Str × V)) (σ : List Cell) (μ : List Addr) (s : Shared) : Prop where
  wd : Wd C
  lim : Lim d A
  sc : env.scope = sc
  env : EnvI C env ρ μ s.heap
  heap : HI C σ μ s.heap
noncomputable def Post (C : Cx) (sc : Scope) (d : Nat) (A : Around) (env : Env) (ρ : List (Str × V)) (σ : List Cell) (v : V) (μ : List Addr) (s : Shared) (val : Value) (s' : Shared) : Prop :=
  ∃ μ', Step (Loc env) μ μ' s s' ∧ Sit C sc d A env ρ σ μ' s' ∧ Rep μ' s'.heap v val
structure Ev (C : Cx) (d : Nat) (sc : Scope) (e : Expr) (ρ : List (Str × V)) (σ : List Cell) (v : V) (σ' : List Cell) : Prop where
  run : ∀ {A env μ s}, Sit C sc d A env ρ σ μ s → wpAny (model C.prog C.w) A (eval e env) (Post C sc d A env ρ σ' v μ s) NoE s
section
variable {C : Cx} {d : Nat} {sc : Scope} {A : Around} {env : Env} {ρ : List (Str × V)} {σ σ₁ σ₂ σ₃ : List Cell} {μ : List Addr} {s : Shared} {v v₁ v₂ : V}
theorem Ev.use {e : Expr} (h : Ev C d sc e ρ σ v σ₁) (S : Sit C sc d A env ρ σ μ s) {Q : Value → Shared → Prop} {E : Value → Shared → Prop}
    (k : ∀ μ' val s', Step (Loc env) μ μ' s s' → Sit C sc d A env ρ σ₁ μ' s' → Rep μ' s'.heap v val → Q val s') : wpAny (model C.prog C.w) A (eval e env) Q E s :=
  wpAny_mono (h.run S) (fun val s' ⟨μ', a, b, c⟩ => k μ' val s' a b c) fun _ _ f => f.elim
theorem Sit.grow (S : Sit C sc d A env ρ σ μ s) {s'} (g : Grow s s') : Sit C sc d A env ρ σ μ s' :=
  ⟨S.wd, S.lim, S.sc, S.env.grow S.heap g, S.heap.grow g⟩
theorem Sit.still (S : Sit C sc d A env ρ σ μ s) {μ' s'} (st : Step (Loc env) μ μ' s s') : Still μ s.heap μ' s'.heap :=
  st.still fun b o e h => S.env.locData o (by rw [← e]; exact h)
theorem Post.grow (S : Sit C sc d A env ρ σ μ s) {s' val} (g : Grow s s') (r : Rep μ s'.heap v val) : Post C sc d A env ρ σ v μ s val s' :=
  ⟨μ, g.step, S.grow g, r⟩
theorem Post.after {μ₁ s₁ val s₂} (st : Step (Loc env) μ μ₁ s s₁) (p : Post C sc d A env ρ σ v μ₁ s₁ val s₂) : Post C sc d A env ρ σ v μ s val s₂ := by
  obtain ⟨μ₂, a, b, c⟩ := p; exact ⟨μ₂, st.trans a, b, c⟩
theorem Ev.mono {e : Expr} {d'} (h : Ev C d sc e ρ σ v σ₁) (k : d ≤ d') : Ev C d' sc e ρ σ v σ₁ := .mk <| fun S =>
  wpAny_mono (h.run ⟨S.wd, S.lim.mono k, S.sc, S.env, S.heap⟩) (fun _ _ ⟨μ', a, b, c⟩ => ⟨μ', a, ⟨b.wd, S.lim, b.sc, b.env, b.heap⟩, c⟩) fun _ _ f => f
/-! ## leaves -/
theorem Ev.cInt {i k pos} : Ev C d sc (.Constant (.int i) k pos) ρ σ (.int i) σ := .mk <| fun S => wpAny_Constant_int (Post.grow S Grow.toks (.int _ _))
theorem Ev.cNone {k pos} : Ev C d sc (.Constant .none k pos) ρ σ .none σ := .mk <| fun S => wpAny_Constant_none (Post.grow S Grow.refl .none)
theorem Ev.cBool {b k pos} : Ev C d sc (.Constant (.bool b) k pos) ρ σ (.bool b) σ := .mk <| fun S => wpAny_Constant_bool (Post.grow S Grow.refl (.bool _))
theorem Ev.name {x pos} (h : ρ.lookup x = some v) (hd : (x == ("__debug__" : Str)) = false := by decide) : Ev C d sc (.Name x pos) ρ σ v σ := .mk <| fun S => by
  obtain ⟨m, hn, hs⟩ := S.env.see
  obtain ⟨val, r, se⟩ := hs x v h
  refine wpAny_Name ?_ hd
  rcases se with ⟨k, e⟩ | ⟨k | ⟨k, hc⟩, c, e, ho⟩
  · exact wpAny_loadName_local S.env.kind k hn e (Post.grow S Grow.refl r)
  · exact wpAny_loadName_cell S.env.kind k e ho (Post.grow S Grow.refl r)
  · exact wpAny_loadName_free S.env.kind k e ho (Post.grow S Grow.refl r) hc
/-- a global's own name -/
theorem Ev.global {x pos val} (hk : sc.names.lookup x = some .globalImplicit) (hv : C.mg x = some val) (r : ∀ μ h, Rep μ h v val) (hd : (x == ("__debug__" : Str)) = false := by decide) : Ev C d sc (.Name x pos) ρ σ v σ := .mk <| fun {A env μ s} S => by
  refine Name_function_global S.env.kind (by show env.scope.names.lookup x = _; rw [S.sc]; exact hk) (loadGlobal_global (mg := C.mg) ?_ hv (Post.grow S Grow.refl (r _ _))) hd
  rw [S.env.glob]; exact S.wd.g.keeps S.heap.base
theorem useBlt {x pos val} {Q E} (S : Sit C sc d A env ρ σ μ s) (hk : sc.names.lookup x = some .globalImplicit) (hf : C.mg x = none) (hv : bootBuiltins x = some val) (h : Q val s)
    (hn : x ≠ "__name__" := by decide) (hd : (x == ("__debug__" : Str)) = false := by decide) : wpAny (model C.prog C.w) A (eval (.Name x pos) env) Q E s := by
  refine Name_function_global S.env.kind (by show env.scope.names.lookup x = _; rw [S.sc]; exact hk) (loadGlobal_builtin (mg := C.mg) (mb := C.mb) ?_ hf ?_ ((S.wd.blt x hn).trans hv) h) hd
  · rw [S.env.glob]; exact S.wd.g.keeps S.heap.base
  · rw [S.env.blt]; exact S.wd.b.keeps S.heap.base
theorem useGlobal {x pos val} {Q E} (S : Sit C sc d A env ρ σ μ s) (hk : sc.names.lookup x = some .globalImplicit) (hv : C.mg x = some val) (h : Q val s)
    (hd : (x == ("__debug__" : Str)) = false := by decide) : wpAny (model C.prog C.w) A (eval (.Name x pos) env) Q E s := by
  refine Name_function_global S.env.kind (by show env.scope.names.lookup x = _; rw [S.sc]; exact hk) (loadGlobal_global (mg := C.mg) ?_ hv h) hd
  rw [S.env.glob]; exact S.wd.g.keeps S.heap.base
/-! ## operators -/
theorem Ev.bin {l op r pos} {a b c : Int} (h1 : Ev C d sc l ρ σ (.int a) σ₁) (h2 : Ev C d sc r ρ σ₁ (.int b) σ₂)
    (hop : ∀ {A E s t u} {Q : Value → Shared → Prop}, (∀ tk, Q (.int c s.toks) { s with toks := tk }) → wpAny (model C.prog C.w) A (binaryOp op (.int a t) (.int b u)) Q E s) :
    Ev C d sc (.BinOp l op r pos) ρ σ (.int c) σ₂ := .mk <| fun S =>
  wpAny_BinOp (h1.use S fun μ₁ x s₁ st₁ S₁ r₁ => h2.use S₁ fun μ₂ y s₂ st₂ S₂ r₂ => by
    cases r₁; cases r₂
    exact hop fun tk => ((Post.grow S₂ Grow.toks (.int _ _)).after st₂).after st₁)
theorem Ev.add {l r pos} {a b : Int} (h1 : Ev C d sc l ρ σ (.int a) σ₁) (h2 : Ev C d sc r ρ σ₁ (.int b) σ₂) : Ev C d sc (.BinOp l .Add r pos) ρ σ (.int (a + b)) σ₂ :=
  h1.bin h2 fun h => add_int (h _)
theorem Ev.sub {l r pos} {a b : Int} (h1 : Ev C d sc l ρ σ (.int a) σ₁) (h2 : Ev C d sc r ρ σ₁ (.int b) σ₂) : Ev C d sc (.BinOp l .Sub r pos) ρ σ (.int (a - b)) σ₂ :=
  h1.bin h2 fun h => sub_int (h _)
/-- fits in 64 bits -/
noncomputable def Sm (a : Int) : Prop := a.natAbs < 2 ^ 64
theorem Sm.bits {a : Int} (h : Sm a) : Builtin.Int.intBits a ≤ 64 := by
  unfold Builtin.Int.intBits
  split
  · omega
  · rename_i hz
    have h0 : a.natAbs ≠ 0 := by simpa using hz
    have := (Nat.log2_lt h0).mpr h
    omega
theorem Ev.mul {l r pos} {a b : Int} (h1 : Ev C d sc l ρ σ (.int a) σ₁) (h2 : Ev C d sc r ρ σ₁ (.int b) σ₂) (hs : Sm a) : Ev C d sc (.BinOp l .Mult r pos) ρ σ (.int (a * b)) σ₂ :=
  h1.bin h2 fun h => mul_int (h _) (IntMulOk.of_left hs.bits)
theorem Ev.mulR {l r pos} {a b : Int} (h1 : Ev C d sc l ρ σ (.int a) σ₁) (h2 : Ev C d sc r ρ σ₁ (.int b) σ₂) (hs : Sm b) : Ev C d sc (.BinOp l .Mult r pos) ρ σ (.int (a * b)) σ₂ :=
  h1.bin h2 fun h => mul_int (h _) (IntMulOk.of_right hs.bits)
theorem noPylong {a b : Int} (h : Sm b) : Builtin.divisionGoesByPylong a b = false := by
  have hb := h.bits
  unfold Builtin.divisionGoesByPylong
  have : ¬ (if (b == 0) = true then 0 else b.natAbs.log2 / 30 + 1) > 300 := by
    split
    · omega
    · rename_i hz
      have h0 : b.natAbs ≠ 0 := by simpa using hz
      have := (Nat.log2_lt h0).mpr h
      omega
  simp only [this, decide_false, Bool.false_and]
theorem Ev.fdiv {l r pos} {a b : Int} (h1 : Ev C d sc l ρ σ (.int a) σ₁) (h2 : Ev C d sc r ρ σ₁ (.int b) σ₂) (hb : b ≠ 0) (hs : Sm b) : Ev C d sc (.BinOp l .FloorDiv r pos) ρ σ (.int (a.fdiv b)) σ₂ :=
  h1.bin h2 fun h => floordiv_int hb (h _) (.inl (noPylong hs))
theorem Ev.mod {l r pos} {a b : Int} (h1 : Ev C d sc l ρ σ (.int a) σ₁) (h2 : Ev C d sc r ρ σ₁ (.int b) σ₂) (hb : b ≠ 0) : Ev C d sc (.BinOp l .Mod r pos) ρ σ (.int (a.fmod b)) σ₂ :=
  h1.bin h2 fun h => mod_int' hb (h _)
theorem Ev.pow {l r pos} {a b : Int} (h1 : Ev C d sc l ρ σ (.int a) σ₁) (h2 : Ev C d sc r ρ σ₁ (.int b) σ₂) (hb : 0 ≤ b) (hb' : b ≤ 1000000) (hs : Sm a) : Ev C d sc (.BinOp l .Pow r pos) ρ σ (.int (a ^ b.toNat)) σ₂ :=
  h1.bin h2 fun h => pow_int_small hb hb' hs (h _)
theorem Ev.subBool {l r pos} {a b : Bool} (h1 : Ev C d sc l ρ σ (.bool a) σ₁) (h2 : Ev C d sc r ρ σ₁ (.bool b) σ₂) : Ev C d sc (.BinOp l .Sub r pos) ρ σ (.int (b2i a - b2i b)) σ₂ := .mk <| fun S =>
  wpAny_BinOp (h1.use S fun μ₁ x s₁ st₁ S₁ r₁ => h2.use S₁ fun μ₂ y s₂ st₂ S₂ r₂ => by
    cases r₁; cases r₂
    exact sub_bool (((Post.grow S₂ Grow.toks (.int _ _)).after st₂).after st₁))
theorem Ev.neg {x pos} {a : Int} (h1 : Ev C d sc x ρ σ (.int a) σ₁) : Ev C d sc (.UnaryOp .USub x pos) ρ σ (.int (-a)) σ₁ := .mk <| fun S =>
  wpAny_UnaryOp (h1.use S fun μ₁ x s₁ st₁ S₁ r₁ => by
    cases r₁
    exact neg_int ((Post.grow S₁ Grow.toks (.int _ _)).after st₁))
theorem Ev.not {x pos} {a : Bool} (h1 : Ev C d sc x ρ σ (.bool a) σ₁) : Ev C d sc (.UnaryOp .Not x pos) ρ σ (.bool (!a)) σ₁ := .mk <| fun S =>
  wpAny_UnaryOp (h1.use S fun μ₁ x s₁ st₁ S₁ r₁ => by
    cases r₁
    exact not_of (wpAny_truthy_bool ((Post.grow S₁ Grow.refl (.bool _)).after st₁)))
/-! ## comparisons of ints -/
noncomputable def cmpI : CmpOp → Int → Int → Option Bool
  | .Lt, a, b => some (decide (a < b))
  | .LtE, a, b => some (decide (a ≤ b))
  | .Gt, a, b => some (decide (b < a))
  | .GtE, a, b => some (decide (b ≤ a))
  | .Eq, a, b => some (a == b)
  | .NotEq, a, b => some (a != b)
  | _, _, _ => none
theorem cmpI_ok {op a b c} (h : cmpI op a b = some c) {A E s t u} {Q : Value → Shared → Prop} (hq : Q (.bool c) s) : wpAny (model C.prog C.w) A (compareOp op (.int a t) (.int b u)) Q E s := by
  cases op <;> simp only [cmpI, Option.some.injEq, reduceCtorEq] at h <;> subst h
  · exact eq_int hq
  · exact ne_int hq
  · exact lt_int hq
  · exact le_int hq
  · exact gt_int hq
  · exact ge_int hq
theorem Ev.cmp {l op r pos} {a b : Int} {c : Bool} (h1 : Ev C d sc l ρ σ (.int a) σ₁) (h2 : Ev C d sc r ρ σ₁ (.int b) σ₂) (hc : cmpI op a b = some c := by rfl) (hm : behindInMarks op r = false := by rfl) :
    Ev C d sc (.Compare l [op] [r] pos) ρ σ (.bool c) σ₂ := .mk <| fun S =>
  wpAny_Compare1 (h1.use S fun μ₁ x s₁ st₁ S₁ r₁ => h2.use S₁ fun μ₂ y s₂ st₂ S₂ r₂ => by
    cases r₁; cases r₂
    exact cmpI_ok hc (((Post.grow S₂ Grow.refl (.bool _)).after st₂).after st₁)) hm
/-! ## tests -/
noncomputable def PostT (C : Cx) (sc : Scope) (d : Nat) (A : Around) (env : Env) (ρ : List (Str × V)) (σ : List Cell) (b : Bool) (μ : List Addr) (s : Shared) (b' : Bool) (s' : Shared) : Prop :=
  b' = b ∧ ∃ μ', Step (Loc env) μ μ' s s' ∧ Sit C sc d A env ρ σ μ' s'
structure Tr (C : Cx) (d : Nat) (sc : Scope) (e : Expr) (ρ : List (Str × V)) (σ : List Cell) (b : Bool) (σ' : List Cell) : Prop where
  run : ∀ {A env μ s}, Sit C sc d A env ρ σ μ s → wpAny (model C.prog C.w) A (isTrue e env (eval e env)) (PostT C sc d A env ρ σ' b μ s) NoE s
theorem Tr.use {e : Expr} {b} (h : Tr C d sc e ρ σ b σ₁) (S : Sit C sc d A env ρ σ μ s) {Q : Bool → Shared → Prop} {E : Value → Shared → Prop}
    (k : ∀ μ' s', Step (Loc env) μ μ' s s' → Sit C sc d A env ρ σ₁ μ' s' → Q b s') : wpAny (model C.prog C.w) A (isTrue e env (eval e env)) Q E s :=
  wpAny_mono (h.run S) (fun val s' ⟨e, μ', a, b⟩ => by subst e; exact k μ' s' a b) fun _ _ f => f.elim
theorem PostT.after {μ₁ s₁ b b' s₂} (st : Step (Loc env) μ μ₁ s s₁) (p : PostT C sc d A env ρ σ b μ₁ s₁ b' s₂) : PostT C sc d A env ρ σ b μ s b' s₂ := by
  obtain ⟨e, μ₂, a, b⟩ := p; exact ⟨e, μ₂, st.trans a, b⟩
theorem PostT.grow (S : Sit C sc d A env ρ σ μ s) {s' b} (g : Grow s s') : PostT C sc d A env ρ σ b μ s b s' := ⟨rfl, μ, g.step, S.grow g⟩
/-- the truth of a value -/
noncomputable def truth (σ : List Cell) : V → Option Bool
  | .none => some false
  | .bool b => some b
  | .int i => some (i != 0)
  | _ => none
theorem Tr.cmp {l op r pos} {a b : Int} {c : Bool} (h1 : Ev C d sc l ρ σ (.int a) σ₁) (h2 : Ev C d sc r ρ σ₁ (.int b) σ₂) (hc : cmpI op a b = some c := by rfl) (hm : behindInMarks op r = false := by rfl) :
    Tr C d sc (.Compare l [op] [r] pos) ρ σ c σ₂ := .mk <| fun S =>
  wpAny_isTrue_Compare1 (h1.use S fun μ₁ x s₁ st₁ S₁ r₁ => h2.use S₁ fun μ₂ y s₂ st₂ S₂ r₂ => by
    cases r₁; cases r₂
    exact cmpI_ok hc (wpAny_truthy_bool (((PostT.grow S₂ Grow.refl).after st₂).after st₁))) hm
theorem Tr.not {x pos} {a : Bool} (h1 : Tr C d sc x ρ σ a σ₁) : Tr C d sc (.UnaryOp .Not x pos) ρ σ (!a) σ₁ := .mk <| fun S =>
  wpAny_isTrue_Not (h1.use S fun _ _ st S' => ⟨rfl, _, st, S'⟩)
theorem Tr.and0 {pos} : Tr C d sc (.BoolOp .And [] pos) ρ σ true σ := .mk <| fun S => isTrue_and_nil (PostT.grow S Grow.refl)
theorem Tr.or0 {pos} : Tr C d sc (.BoolOp .Or [] pos) ρ σ false σ := .mk <| fun S => isTrue_or_nil (PostT.grow S Grow.refl)
theorem isTrue_bool_whole {op es pos env} {w w' : Sem Value} : isTrue (.BoolOp op es pos) env w = isTrue (.BoolOp op es pos) env w' := rfl
theorem Tr.andT {x rest pos c} (h1 : Tr C d sc x ρ σ true σ₁) (h2 : Tr C d sc (.BoolOp .And rest pos) ρ σ₁ c σ₂) : Tr C d sc (.BoolOp .And (x :: rest) pos) ρ σ c σ₂ := .mk <| fun S =>
  isTrue_and (h1.use S fun _ _ st S' => by rw [if_pos rfl]; exact wpAny_mono (h2.run S') (fun _ _ p => p.after st) fun _ _ f => f)
theorem Tr.andF {x rest pos} (h1 : Tr C d sc x ρ σ false σ₁) : Tr C d sc (.BoolOp .And (x :: rest) pos) ρ σ false σ₁ := .mk <| fun S =>
  isTrue_and (h1.use S fun _ _ st S' => by rw [if_neg Bool.false_ne_true]; exact ⟨rfl, _, st, S'⟩)
theorem Tr.orT {x rest pos} (h1 : Tr C d sc x ρ σ true σ₁) : Tr C d sc (.BoolOp .Or (x :: rest) pos) ρ σ true σ₁ := .mk <| fun S =>
  isTrue_or (h1.use S fun _ _ st S' => by rw [if_pos rfl]; exact ⟨rfl, _, st, S'⟩)
theorem Tr.orF {x rest pos c} (h1 : Tr C d sc x ρ σ false σ₁) (h2 : Tr C d sc (.BoolOp .Or rest pos) ρ σ₁ c σ₂) : Tr C d sc (.BoolOp .Or (x :: rest) pos) ρ σ c σ₂ := .mk <| fun S =>
  isTrue_or (h1.use S fun _ _ st S' => by rw [if_neg Bool.false_ne_true]; exact wpAny_mono (h2.run S') (fun _ _ p => p.after st) fun _ _ f => f)
/-- a test that is a value: a bool -/
theorem Tr.val {e b} (h1 : Ev C d sc e ρ σ (.bool b) σ₁) (hp : ∀ env (whole : Sem Value), isTrue e env whole = (do let v ← whole; standAt e.pos; holding [v] (truthy v)) := by intro _ _; rfl) : Tr C d sc e ρ σ b σ₁ := .mk <| fun {A env μ s} S =>
  isTrue_plain (h1.use S fun _ _ _ st S' r => by cases r; exact wpAny_truthy_bool ⟨rfl, _, st, S'⟩) (hp env _)
/-! ## if-expressions -/
theorem Ev.iteT {t b o pos} (h1 : Tr C d sc t ρ σ true σ₁) (h2 : Ev C d sc b ρ σ₁ v σ₂) : Ev C d sc (.IfExp t b o pos) ρ σ v σ₂ := .mk <| fun S =>
  wpAny_IfExp (h1.use S fun _ _ st S' => by rw [if_pos rfl]; exact wpAny_mono (h2.run S') (fun _ _ p => p.after st) fun _ _ f => f)
theorem Ev.iteF {t b o pos} (h1 : Tr C d sc t ρ σ false σ₁) (h2 : Ev C d sc o ρ σ₁ v σ₂) : Ev C d sc (.IfExp t b o pos) ρ σ v σ₂ := .mk <| fun S =>
  wpAny_IfExp (h1.use S fun _ _ st S' => by rw [if_neg Bool.false_ne_true]; exact wpAny_mono (h2.run S') (fun _ _ p => p.after st) fun _ _ f => f)
end
end
section

/-- the items of a list, frozen or a cell -/
noncomputable def lstOf (σ : List Cell) : V → Option (List V)
  | .lst vs => some vs
  | .ref n => match σ[n]? with
    | some (.lst vs) => some vs
    | _ => none
  | _ => none
theorem lst_at {C σ μ h v vs val} (H : HI C σ μ h) (r : Rep μ h v val) (e : lstOf σ v = some vs) : ∃ a xs, val = .ref a ∧ h.IsList a (List.toArray xs) ∧ RepL μ h vs xs := by
  cases r with
  | lst hl _ q => cases e; exact ⟨_, _, rfl, hl, q⟩
  | ref hm =>
    obtain ⟨c, hc, k⟩ := H.cell hm
    simp only [lstOf, hc] at e
    cases c with
    | lst us =>
      cases e
      obtain ⟨xs, n, e', q, _⟩ := k
      exact ⟨_, xs, rfl, ⟨_, e', rfl, _, rfl⟩, q⟩
    | dic ks => cases e
  | _ => cases e
theorem fresh_of {h : Heap} : h.get? h.objs.size = none := by
  cases q : h.get? h.objs.size with
  | none => rfl
  | some o => exact absurd (Heap.lt_size q) (Nat.lt_irrefl _)
theorem HI.notIn {C σ μ h a} (H : HI C σ μ h) (e : h.get? a = none) : a ∉ μ := fun m => by
  obtain ⟨o, q, _⟩ := H.alive m; rw [e] at q; cases q
section
variable {C : Cx} {d : Nat} {sc : Scope} {A : Around} {env : Env} {ρ : List (Str × V)} {σ σ₁ σ₂ σ₃ : List Cell} {μ : List Addr} {s : Shared} {v v₁ v₂ : V} {vs ws : List V}
/-! ## a new list or tuple -/
theorem Post.newLst (S : Sit C sc d A env ρ σ μ s) {s' a xs n} (g : Grow s s') (hf : s.heap.get? a = none) (ha : s'.heap.get? a = some (listOf (List.toArray xs) n)) (r : RepL μ s.heap vs xs) :
    Post C sc d A env ρ σ (.lst vs) μ s (.ref a) s' :=
  Post.grow S g (.lst ⟨_, ha, rfl, _, rfl⟩ (S.heap.notIn hf) (r.still g.still))
theorem Post.newTup (S : Sit C sc d A env ρ σ μ s) {s' a o xs n} (g : Grow s s') (hf : s.heap.get? a = none) (ha : s'.heap.get? a = some o) (hc : o.cls = .type "tuple") (hd : o.data = .seq (List.toArray xs) n) (r : RepL μ s.heap vs xs) :
    Post C sc d A env ρ σ (.tup vs) μ s (.ref a) s' :=
  Post.grow S g (.tup ⟨_, ha, hc, _, hd⟩ (S.heap.notIn hf) (r.still g.still))
/-- a new cell -/
theorem HI.addCell {C σ μ s s' a c} (H : HI C σ μ s.heap) (g : Grow s s') (hf : s.heap.get? a = none) (r : CellRep C (μ ++ [a]) s'.heap a c) : HI C (σ ++ [c]) (μ ++ [a]) s'.heap := by
  have K : Still μ s.heap (μ ++ [a]) s'.heap := ⟨fun b o e _ _ => g.keep b o e, [a], rfl, fun b m => by rw [List.mem_singleton.mp m]; exact hf⟩
  have hn := H.notIn hf
  refine ⟨fun b o e => g.keep b o (H.base b o e), by rw [List.length_append, List.length_append, H.len]; rfl, ?_, fun b m => ?_, fun i b c' e1 e2 => ?_⟩
  · exact List.nodup_append.mpr ⟨H.nodup, by simp, fun x hx y hy => by rw [List.mem_singleton.mp hy]; exact fun q => hn (q ▸ hx)⟩
  · rcases List.mem_append.mp m with m | m
    · exact H.new b m
    · rw [List.mem_singleton.mp m]
      cases q : C.B.get? a with
      | none => rfl
      | some o => rw [H.base a o q] at hf; cases hf
  · by_cases hi : i < μ.length
    · rw [List.getElem?_append_left hi] at e1
      rw [List.getElem?_append_left (H.len ▸ hi)] at e2
      exact (H.cells i b c' e1 e2).still K fun o e => g.keep b o e
    · have hi' : i = μ.length := by
        have := (List.getElem?_eq_some_iff.mp e1).1
        rw [List.length_append] at this
        simp only [List.length_cons, List.length_nil] at this
        omega
      subst hi'
      rw [List.getElem?_append_right (Nat.le_refl _), Nat.sub_self] at e1
      rw [H.len, List.getElem?_append_right (Nat.le_refl _), Nat.sub_self] at e2
      cases e1; cases e2
      exact r
theorem Grow.stepNew {s s' X μ a} (g : Grow s s') (hf : s.heap.get? a = none) : Step X μ (μ ++ [a]) s s' :=
  ⟨g.same, fun b o _ _ e => g.keep b o e, fun b o e => ⟨o, g.keep b o e⟩, [a], rfl, fun b m => by rw [List.mem_singleton.mp m]; exact hf⟩
theorem Post.newCell (S : Sit C sc d A env ρ σ μ s) {s' a c} (g : Grow s s') (hf : s.heap.get? a = none) (r : CellRep C (μ ++ [a]) s'.heap a c) :
    Post C sc d A env ρ (σ ++ [c]) (.ref σ.length) μ s (.ref a) s' := by
  have st : Step (fun _ => False) μ (μ ++ [a]) s s' := g.stepNew hf
  refine ⟨μ ++ [a], g.stepNew hf, ⟨S.wd, S.lim, S.sc, S.env.step S.heap st (fun _ _ h => h.elim) (fun h => h) (fun _ _ _ h => h), S.heap.addCell g hf r⟩, .ref ?_⟩
  rw [← S.heap.len, List.getElem?_append_right (Nat.le_refl _), Nat.sub_self]; rfl
theorem stillNew {s s' : Shared} {μ a} (g : Grow s s') (hf : s.heap.get? a = none) : Still μ s.heap (μ ++ [a]) s'.heap := ⟨fun b o e _ _ => g.keep b o e, [a], rfl, fun b m => by rw [List.mem_singleton.mp m]; exact hf⟩
/-! ## arguments and displays -/
structure EvL (C : Cx) (d : Nat) (sc : Scope) (es : List Expr) (ρ : List (Str × V)) (σ : List Cell) (vs : List V) (σ' : List Cell) : Prop where
  run : ∀ {A env μ s} {pos : Pos}, Sit C sc d A env ρ σ μ s → wpAny (model C.prog C.w) A (spliced (backTo pos (starEach es env)))
    (fun xs s' => ∃ μ', Step (Loc env) μ μ' s s' ∧ Sit C sc d A env ρ σ' μ' s' ∧ RepL μ' s'.heap vs xs) NoE s
theorem EvL.use {es : List Expr} (h : EvL C d sc es ρ σ vs σ₁) {pos : Pos} (S : Sit C sc d A env ρ σ μ s) {Q : List Value → Shared → Prop} {E : Value → Shared → Prop}
    (k : ∀ μ' xs s', Step (Loc env) μ μ' s s' → Sit C sc d A env ρ σ₁ μ' s' → RepL μ' s'.heap vs xs → Q xs s') : wpAny (model C.prog C.w) A (spliced (backTo pos (starEach es env))) Q E s :=
  wpAny_mono (h.run S) (fun val s' ⟨μ', a, b, c⟩ => k μ' val s' a b c) fun _ _ f => f.elim
noncomputable abbrev NoStar (e : Expr) : Prop := ∀ rest env, starEach (e :: rest) env = (false, eval e env) :: starEach rest env
theorem EvL.nil : EvL C d sc [] ρ σ [] σ := .mk <| fun S => spliced_none ⟨_, Step.refl, S, .nil⟩
theorem EvL.cons {e rest} (h1 : Ev C d sc e ρ σ v σ₁) (h2 : EvL C d sc rest ρ σ₁ vs σ₂) (hs : NoStar e := by intro _ _; rfl) : EvL C d sc (e :: rest) ρ σ (v :: vs) σ₂ := .mk <| fun S =>
  spliced_more (h1.use S fun _ _ _ st S' r => h2.use S' fun _ _ _ st' S'' r' => ⟨_, st.trans st', S'', .cons (r.still (S'.still st')) r'⟩) (hs _ _)
theorem Ev.tuple {es k pos} (h : EvL C d sc es ρ σ vs σ₁) (hn : Nat.ble vs.length 1000 = true := by rfl) : Ev C d sc (.Tuple es k pos) ρ σ (.tup vs) σ₁ := .mk <| fun S =>
  wpAny_Tuple (h.use S fun _ _ _ st S' r => ⟨by have := Nat.le_of_ble_eq_true hn; rw [← r.length]; show _ ≤ 2 ^ 24; omega,
    (Post.newTup S' Grow.push fresh_of (Heap.get?_push_size _ rfl) rfl rfl r).after st⟩)
theorem Ev.list {es pos} (h : EvL C d sc es ρ σ vs σ₁) (hn : Nat.ble vs.length 1000 = true := by rfl) : Ev C d sc (.List es pos) ρ σ (.lst vs) σ₁ := .mk <| fun S =>
  wpAny_List (h.use S fun _ _ _ st S' r => ⟨by have := Nat.le_of_ble_eq_true hn; rw [← r.length]; show _ ≤ 2 ^ 24; omega,
    (Post.newLst S' Grow.push fresh_of (Heap.get?_push_size _ rfl) r).after st⟩)
/-- the same display, as a cell that may be written -/
theorem Ev.listCell {es pos} (h : EvL C d sc es ρ σ vs σ₁) (hn : Nat.ble vs.length 1000 = true := by rfl) : Ev C d sc (.List es pos) ρ σ (.ref σ₁.length) (σ₁ ++ [.lst vs]) := .mk <| fun S =>
  wpAny_List (h.use S fun _ _ _ st S' r => by
    have hl : _ ≤ 1000 := Nat.le_of_ble_eq_true hn
    rw [r.length] at hl
    refine ⟨by show _ ≤ 2 ^ 24; omega, (Post.newCell (c := .lst vs) S' Grow.push fresh_of ⟨_, 0, Heap.get?_push_size _ rfl, r.still (stillNew Grow.push fresh_of), by omega⟩).after st⟩)
/-! ## items and slices -/
theorem lits {C σ μ h v vs val} (H : HI C σ μ h) (r : Rep μ h v val) (e : lstOf σ v = some vs) {i : Nat} {u} (hu : vs[i]? = some u) :
    ∃ a xs x, val = .ref a ∧ h.IsList a (List.toArray xs) ∧ vs.length = xs.length ∧ xs[i]? = some x ∧ Rep μ h u x := by
  obtain ⟨a, xs, e1, e2, e3⟩ := lst_at H r e
  obtain ⟨x, e4, e5⟩ := e3.get hu
  exact ⟨a, xs, x, e1, e2, e3.length, e4, e5⟩
/-- where an index stands -/
noncomputable def idxOf (n : Nat) (k : Int) : Option Nat := if k < 0 then (if (n : Int) + k < 0 then none else some ((n : Int) + k).toNat) else some k.toNat
noncomputable abbrev SubOk (slice : Expr) : Prop := ∀ (o i : Value), subscripted slice false o i = operate [o, i] (getItem o i)
theorem Ev.item {e i pos} {k : Int} {j : Nat} (h1 : Ev C d sc e ρ σ v₁ σ₁) (h2 : Ev C d sc i ρ σ₁ (.int k) σ₂) (hl : lstOf σ₂ v₁ = some vs) (hb : k.natAbs < 1000000000) (hj : idxOf vs.length k = some j) (hv : vs[j]? = some v)
    (hs : SubOk i := by intro _ _; with_unfolding_all rfl) : Ev C d sc (.Subscript e i pos) ρ σ v σ₂ := .mk <| fun S =>
  Subscript_ (h1.use S fun _ _ _ st₁ S₁ r₁ => h2.use S₁ fun _ _ _ st₂ S₂ r₂ => by
    obtain ⟨a, xs, x, rfl, il, hlen, hx, rx⟩ := lits S₂.heap (r₁.still (S₁.still st₂)) hl hv
    cases r₂
    have P := ((Post.grow S₂ Grow.refl rx).after st₂).after st₁
    refine tail_any (ops := [.ref a, .int k _]) il.typeIs slot_list_getitem.lookup ?_ (hs _ _)
    unfold idxOf at hj
    by_cases hk : k < 0
    · rw [if_pos hk] at hj
      by_cases hk' : (vs.length : Int) + k < 0
      · rw [if_pos hk'] at hj; cases hj
      · rw [if_neg hk'] at hj
        cases hj
        refine wpAny_getItem_list_neg il hk (by rw [List.size_toArray]; omega) (by omega) ?_ P
        rw [List.size_toArray, ← hlen, Int.add_comm]; simpa using hx
    · rw [if_neg hk] at hj
      cases hj
      exact wpAny_getItem_list il (by omega) (by omega) (by simpa using hx) P)
theorem Ev.itemT {e i pos} {k : Int} {j : Nat} (h1 : Ev C d sc e ρ σ (.tup vs) σ₁) (h2 : Ev C d sc i ρ σ₁ (.int k) σ₂) (hb : k.natAbs < 1000000000) (hj : seqIndex? k vs.length = some j) (hv : vs[j]? = some v)
    (hs : SubOk i := by intro _ _; with_unfolding_all rfl) : Ev C d sc (.Subscript e i pos) ρ σ v σ₂ := .mk <| fun S =>
  Subscript_ (h1.use S fun _ _ _ st₁ S₁ r₁ => h2.use S₁ fun _ _ _ st₂ S₂ r₂ => by
    cases r₁ with
    | tup ht hm q =>
      cases r₂
      have q' := q.still (S₁.still st₂)
      have ht' : IsTup _ _ _ := (fun (⟨o, e, c, n, dd⟩ : IsTup _ _ _) => ⟨o, (S₁.still st₂).keep _ _ e ⟨_, _, dd⟩ hm, c, n, dd⟩) ht
      obtain ⟨x, hx, rx⟩ := q'.get hv
      exact item_tupleT ht' (by omega) (by omega) (by rw [← q.length]; exact hj) hx (((Post.grow S₂ Grow.refl rx).after st₂).after st₁) (hs _ _))
/-- a slice's bounds -/
structure EvP (C : Cx) (d : Nat) (sc : Scope) (e : Option Expr) (ρ : List (Str × V)) (σ : List Cell) (k : Option Int) (σ' : List Cell) : Prop where
  run : ∀ {A env μ s}, Sit C sc d A env ρ σ μ s → wpAny (model C.prog C.w) A (evalPart e env) (fun val s' => ∃ μ', Step (Loc env) μ μ' s s' ∧ Sit C sc d A env ρ σ' μ' s' ∧ IsPart val k) NoE s
theorem EvP.no : EvP C d sc none ρ σ none σ := .mk <| fun S => wpAny_evalPart_none ⟨_, Step.refl, S, .none⟩
theorem EvP.yes {e k} (h : Ev C d sc e ρ σ (.int k) σ₁) : EvP C d sc (some e) ρ σ (some k) σ₁ := .mk <| fun S =>
  wpAny_evalPart_some (h.use S fun _ _ _ st S' r => ⟨_, st, S', by cases r; exact .int _ _⟩)
theorem slicePost (S : Sit C sc d A env ρ σ μ s) {o : Obj} {ys : Array Value} {xs' : List Value} (e : ys = xs'.toArray) (r : RepL μ s.heap ws xs') :
    Post C sc d A env ρ σ (.lst ws) μ s (.ref (s.heap.objs.size + 1)) { s with heap := (s.heap.push o).push { cls := .type "list", data := .seq ys } } := by
  subst e
  have g : Grow s { s with heap := (s.heap.push o).push { cls := .type "list", data := .seq xs'.toArray } } := ⟨⟨_, _, rfl⟩, fun b o' e => Heap.get?_push_of_some _ (Heap.get?_push_of_some _ e)⟩
  refine Post.newLst (n := 0) S g ?_ ?_ r
  · cases z : s.heap.get? (s.heap.objs.size + 1) with
    | none => rfl
    | some o => exact absurd (Heap.lt_size z) (Nat.not_lt.mpr (Nat.le_succ _))
  · have := Heap.get?_push_size (s.heap.push o) (o := { cls := .type "list", data := .seq xs'.toArray }) rfl
    rw [Heap.size_push] at this
    exact this
theorem useSlice {e lo up p pos} {a b : Option Int} (h1 : Ev C d sc e ρ σ v₁ σ₁) (h2 : EvP C d sc lo ρ σ₁ a σ₂) (h3 : EvP C d sc up ρ σ₂ b σ₃) (hl : lstOf σ₃ v₁ = some vs) (hn : vs.length ≤ 1000000)
    (hp : ∀ xs : List Value, ∃ f : List Value → List Value, slicePick xs.toArray a b none = (f xs).toArray ∧ ∀ μ h, RepL μ h vs xs → RepL μ h ws (f xs))
    (hg : ∀ o r, letTemporaryGo e o r = pure ()) : Ev C d sc (.Subscript e (.Slice lo up none p) pos) ρ σ (.lst ws) σ₃ := .mk <| fun S =>
  wpAny_Subscript_list_slice (h1.use S fun _ _ _ st₁ S₁ r₁ => wpAny_mono (h2.run S₁) (fun _ _ ⟨_, st₂, S₂, i₂⟩ => wpAny_mono (h3.run S₂) (fun _ _ ⟨_, st₃, S₃, i₃⟩ => by
    have r₃ := (r₁.still (S₁.still st₂)).still (S₂.still st₃)
    obtain ⟨l, xs, rfl, il, q⟩ := lst_at S₃.heap r₃ hl
    obtain ⟨f, e2, e3⟩ := hp xs
    refine ⟨l, _, a, b, rfl, il, by rw [List.size_toArray, ← q.length]; show _ ≤ 2 ^ 24; omega, i₂, i₃, ?_⟩
    exact (((slicePost S₃ e2 (e3 _ _ q)).after st₃).after st₂).after st₁) fun _ _ f => f.elim) fun _ _ f => f.elim) hg
theorem Ev.sliceTo {e up p pos} {k : Int} {n : Nat} (h1 : Ev C d sc e ρ σ v₁ σ₁) (h3 : Ev C d sc up ρ σ₁ (.int k) σ₃) (hk : k = n) (hl : lstOf σ₃ v₁ = some vs) (hn : vs.length ≤ 1000000)
    (hg : ∀ o r, letTemporaryGo e o r = pure () := by intro _ _; rfl) : Ev C d sc (.Subscript e (.Slice none (some up) none p) pos) ρ σ (.lst (vs.take n)) σ₃ :=
  useSlice h1 EvP.no (EvP.yes h3) hl hn (fun xs => ⟨fun l => l.take n, by subst hk; exact slicePick_upto' _ _, fun _ _ r => r.take n⟩) hg
theorem Ev.sliceFrom {e lo p pos} {k : Int} {n : Nat} (h1 : Ev C d sc e ρ σ v₁ σ₁) (h3 : Ev C d sc lo ρ σ₁ (.int k) σ₃) (hk : k = n) (hl : lstOf σ₃ v₁ = some vs) (hn : vs.length ≤ 1000000)
    (hg : ∀ o r, letTemporaryGo e o r = pure () := by intro _ _; rfl) : Ev C d sc (.Subscript e (.Slice (some lo) none none p) pos) ρ σ (.lst (vs.drop n)) σ₃ :=
  useSlice h1 (EvP.yes h3) EvP.no hl hn (fun xs => ⟨fun l => l.drop n, by subst hk; exact slicePick_from' _ _, fun _ _ r => r.drop n⟩) hg
theorem Ev.arg {e} (h : Ev C d sc e ρ σ v σ₁) (hs : NoStar e) : EvL C d sc [e] ρ σ [v] σ₁ := EvL.cons h EvL.nil hs
theorem Ev.arg2 {e e'} (h : Ev C d sc e ρ σ v σ₁) (h' : Ev C d sc e' ρ σ₁ v₁ σ₂) (hs : NoStar e) (hs' : NoStar e') : EvL C d sc [e, e'] ρ σ [v, v₁] σ₂ := EvL.cons h (EvL.cons h' EvL.nil hs') hs
/-! ## calls of built-ins -/
/-- a call of a built-in function or type by its name -/
theorem useCall {x p pos e rest} {fv : Value} (hk : sc.names.lookup x = some .globalImplicit) (hf : x ∈ (["abs", "len", "min", "max", "sum", "sorted", "range", "enumerate", "reversed", "list", "int"] : List Str)) (hv : bootBuiltins x = some fv)
    (hfv : (∃ id, fv = .builtin id) ∨ ∃ T, fv = .type T) (h : EvL C d sc (e :: rest) ρ σ vs σ₁) (S : Sit C sc d A env ρ σ μ s) {Q : Value → Shared → Prop}
    (k : ∀ μ' xs s', Step (Loc env) μ μ' s s' → Sit C sc d A env ρ σ₁ μ' s' → RepL μ' s'.heap vs xs → wpAny (model C.prog C.w) A (call fv xs) Q NoE s')
    (hs : NoStar e) (ha : ∀ env pos, ((backTo pos (starEach rest env)).any fun x => x.fst) = false)
    (hc : ∀ env, eval ((Expr.Name x p).Call (e :: rest) [] pos) env = (do let f ← eval (.Name x p) env; callWith pos f [] (backTo pos (starEach (e :: rest) env)) (backToKw pos (keywordEach [] env))))
    (hn : x ≠ "__name__" := by decide) (hd : (x == ("__debug__" : Str)) = false := by decide) : wpAny (model C.prog C.w) A (eval ((Expr.Name x p).Call (e :: rest) [] pos) env) Q NoE s := by
  refine Call_ (useBlt S hk (S.wd.free x hf) hv ?_ hn hd) (hc env)
  rcases hfv with ⟨id, rfl⟩ | ⟨T, rfl⟩
  · exact PyProof.Rows.callWith_builtin1 (h.use S k) (hs _ _) (ha _ _)
  · exact PyProof.Rows.callWith_type1 (h.use S k) (hs _ _) (ha _ _)
noncomputable abbrev Gi (sc : Scope) (x : Str) : Prop := sc.names.lookup x = some NameKind.globalImplicit
noncomputable abbrev NoStars (rest : List Expr) : Prop := ∀ env pos, ((backTo pos (starEach rest env)).any fun x => x.fst) = false
noncomputable abbrev CallEq (x : Str) (p pos : Pos) (args : List Expr) : Prop :=
  ∀ env, eval ((Expr.Name x p).Call args [] pos) env = (do let f ← eval (.Name x p) env; callWith pos f [] (backTo pos (starEach args env)) (backToKw pos (keywordEach [] env)))
theorem IntsAre.ofRep {μ h} : ∀ {ns : List Int} {xs : List Value}, RepL μ h (ns.map V.int) xs → IntsAre xs ns
  | [], _, .nil => .nil
  | _ :: _, _, .cons (.int _ _) r => .cons _ _ (IntsAre.ofRep r)
theorem IntsAre.toRep {μ h} : ∀ {ns : List Int} {xs : List Value}, IntsAre xs ns → RepL μ h (ns.map V.int) xs
  | _, _, .nil => .nil
  | _, _, .cons i t r => .cons (.int i t) (IntsAre.toRep r)
theorem Ev.abs {p pos e} {a : Int} (h : Ev C d sc e ρ σ (.int a) σ₁) (hk : Gi sc "abs" := by rfl) (hs : NoStar e := by intro _ _; rfl) (hc : CallEq "abs" p pos [e] := by intro _; rfl) :
    Ev C d sc ((Expr.Name "abs" p).Call [e] [] pos) ρ σ (.int a.natAbs) σ₁ := .mk <| fun S =>
  useCall hk (by simp) PyProof.Rows.Boot.abs (.inl ⟨_, rfl⟩) (h.arg hs) S (fun _ _ _ st S' r => by
    cases r with
    | cons r r' =>
      cases r; cases r'
      refine call_abs_int fun u tk => ?_
      have e : (if a < 0 then -a else a) = (a.natAbs : Int) := by split <;> omega
      rw [e]
      exact (Post.grow S' Grow.toks (.int _ _)).after st) hs (fun _ _ => rfl) hc
theorem Ev.lenL {p pos e} (h : Ev C d sc e ρ σ v σ₁) (hl : lstOf σ₁ v = some vs) (hn : vs.length ≤ 1000000) (hk : Gi sc "len" := by rfl) (hs : NoStar e := by intro _ _; rfl) (hc : CallEq "len" p pos [e] := by intro _; rfl) :
    Ev C d sc ((Expr.Name "len" p).Call [e] [] pos) ρ σ (.int vs.length) σ₁ := .mk <| fun S =>
  useCall hk (by simp) PyProof.Rows.Boot.len (.inl ⟨_, rfl⟩) (h.arg hs) S (fun _ _ _ st S' r => by
    cases r with
    | cons r r' =>
      cases r'
      obtain ⟨a, xs, rfl, il, q⟩ := lst_at S'.heap r hl
      refine len_list il (by rw [List.size_toArray, ← q.length]; omega) ?_
      rw [List.size_toArray, ← q.length]
      exact (Post.grow S' Grow.toks (.int _ _)).after st) hs (fun _ _ => rfl) hc
theorem Ev.min2 {p pos e e'} {a b : Int} (h : Ev C d sc e ρ σ (.int a) σ₁) (h' : Ev C d sc e' ρ σ₁ (.int b) σ₂) (hk : Gi sc "min" := by rfl) (hs : NoStar e := by intro _ _; rfl) (hs' : NoStar e' := by intro _ _; rfl)
    (ha : NoStars [e'] := by intro _ _; rfl) (hc : CallEq "min" p pos [e, e'] := by intro _; rfl) :
    Ev C d sc ((Expr.Name "min" p).Call [e, e'] [] pos) ρ σ (.int (min a b)) σ₂ := .mk <| fun S =>
  useCall hk (by simp) PyProof.Rows.Boot.min (.inl ⟨_, rfl⟩) (h.arg2 h' hs hs') S (fun _ _ _ st S' r => by
    cases r with
    | cons r r' => cases r' with
      | cons r' r'' =>
        cases r; cases r'; cases r''
        refine min_two_ints S'.lim.1 fun h' tk hq => ?_
        have g : Grow _ { heap := h', gens := _, drawn := _, toks := tk, os := _ } := ⟨⟨_, _, rfl⟩, hq⟩
        split
        · rw [show min a b = b by omega]; exact (Post.grow S' g (.int _ _)).after st
        · rw [show min a b = a by omega]; exact (Post.grow S' g (.int _ _)).after st) hs ha hc
theorem Ev.max2 {p pos e e'} {a b : Int} (h : Ev C d sc e ρ σ (.int a) σ₁) (h' : Ev C d sc e' ρ σ₁ (.int b) σ₂) (hk : Gi sc "max" := by rfl) (hs : NoStar e := by intro _ _; rfl) (hs' : NoStar e' := by intro _ _; rfl)
    (ha : NoStars [e'] := by intro _ _; rfl) (hc : CallEq "max" p pos [e, e'] := by intro _; rfl) :
    Ev C d sc ((Expr.Name "max" p).Call [e, e'] [] pos) ρ σ (.int (max a b)) σ₂ := .mk <| fun S =>
  useCall hk (by simp) PyProof.Rows.Boot.max (.inl ⟨_, rfl⟩) (h.arg2 h' hs hs') S (fun _ _ _ st S' r => by
    cases r with
    | cons r r' => cases r' with
      | cons r' r'' =>
        cases r; cases r'; cases r''
        refine max_two_ints S'.lim.1 fun h' tk hq => ?_
        have g : Grow _ { heap := h', gens := _, drawn := _, toks := tk, os := _ } := ⟨⟨_, _, rfl⟩, hq⟩
        split
        · rw [show max a b = b by omega]; exact (Post.grow S' g (.int _ _)).after st
        · rw [show max a b = a by omega]; exact (Post.grow S' g (.int _ _)).after st) hs ha hc
theorem Ev.toInt {p pos e} {a : Int} (h : Ev C d sc e ρ σ (.int a) σ₁) (hk : Gi sc "int" := by rfl) (hs : NoStar e := by intro _ _; rfl) (hc : CallEq "int" p pos [e] := by intro _; rfl) :
    Ev C d sc ((Expr.Name "int" p).Call [e] [] pos) ρ σ (.int a) σ₁ := .mk <| fun S =>
  useCall hk (by simp) PyProof.Rows.Boot.int (.inr ⟨_, rfl⟩) (h.arg hs) S (fun _ _ _ st S' r => by
    cases r with
    | cons r r' =>
      cases r; cases r'
      exact call_int_int ((Post.grow S' Grow.refl (.int _ _)).after st)) hs (fun _ _ => rfl) hc
/-- list(xs): a new list of the same items -/
theorem useListOf {p pos e} (h : Ev C d sc e ρ σ v σ₁) (hl : lstOf σ₁ v = some vs) (hn : vs.length ≤ 1000000) (S : Sit C sc d A env ρ σ μ s) {Q : Value → Shared → Prop}
    (k : ∀ μ' s' s'' xs n, Step (Loc env) μ μ' s s' → Sit C sc d A env ρ σ₁ μ' s' → Grow s' s'' → RepL μ' s'.heap vs xs → s''.heap.get? s'.heap.objs.size = some (listOf (List.toArray xs) n) → Q (.ref s'.heap.objs.size) s'')
    (hk : Gi sc "list") (hs : NoStar e) (hc : CallEq "list" p pos [e]) : wpAny (model C.prog C.w) A (eval ((Expr.Name "list" p).Call [e] [] pos) env) Q NoE s :=
  useCall hk (by simp) PyProof.Rows.Boot.list (.inr ⟨_, rfl⟩) (h.arg hs) S (fun _ _ _ st S' r => by
    cases r with
    | cons r r' =>
      cases r'
      obtain ⟨a, xs, rfl, ⟨o, ho, hcl, n, hd⟩, q⟩ := lst_at S'.heap r hl
      refine call_list_seq a (.inl rfl) ho hcl hd (fun h' c' hq ha => ?_) (by rw [List.size_toArray, ← q.length]; show _ ≤ 2 ^ 24; omega)
      exact k _ _ { heap := h', gens := _, drawn := _, toks := _, os := _ } xs c' st S' ⟨⟨_, _, rfl⟩, hq⟩ q ha) hs (fun _ _ => rfl) hc
theorem Ev.listOf {p pos e} (h : Ev C d sc e ρ σ v σ₁) (hl : lstOf σ₁ v = some vs) (hn : vs.length ≤ 1000000) (hk : Gi sc "list" := by rfl) (hs : NoStar e := by intro _ _; rfl) (hc : CallEq "list" p pos [e] := by intro _; rfl) :
    Ev C d sc ((Expr.Name "list" p).Call [e] [] pos) ρ σ (.lst vs) σ₁ := .mk <| fun S =>
  useListOf h hl hn S (fun _ _ _ _ _ st S' g q ha => (Post.newLst S' g fresh_of ha q).after st) hk hs hc
theorem Ev.listOfCell {p pos e} (h : Ev C d sc e ρ σ v σ₁) (hl : lstOf σ₁ v = some vs) (hn : vs.length ≤ 1000000) (hk : Gi sc "list" := by rfl) (hs : NoStar e := by intro _ _; rfl) (hc : CallEq "list" p pos [e] := by intro _; rfl) :
    Ev C d sc ((Expr.Name "list" p).Call [e] [] pos) ρ σ (.ref σ₁.length) (σ₁ ++ [.lst vs]) := .mk <| fun S =>
  useListOf h hl hn S (fun _ _ _ _ _ st S' g q ha => (Post.newCell (c := .lst vs) S' g fresh_of ⟨_, _, ha, q.still (stillNew g fresh_of), by rw [← q.length]; omega⟩).after st) hk hs hc
/-- sum of ints that stay in a machine word -/
noncomputable def sumOk : Int → List Int → Bool
  | _, [] => true
  | acc, n :: r => decide (n.natAbs < 2 ^ 62) && decide ((acc + n).natAbs < 2 ^ 62) && sumOk (acc + n) r
theorem sumOk_at : ∀ {l : List Int} {acc : Int}, sumOk acc l = true → ∀ j, j < l.length → (l.getD j 0).natAbs < 2 ^ 62 ∧ (acc + (l.take (j + 1)).sum).natAbs < 2 ^ 62
  | [], _, _, _, h => absurd h (Nat.not_lt_zero _)
  | n :: r, acc, h, 0, _ => by
    simp only [sumOk, Bool.and_eq_true, decide_eq_true_eq] at h
    simpa using h.1
  | n :: r, acc, h, j + 1, hj => by
    simp only [sumOk, Bool.and_eq_true, decide_eq_true_eq] at h
    have := sumOk_at h.2 j (Nat.lt_of_succ_lt_succ hj)
    rw [List.take_succ_cons, List.sum_cons, ← Int.add_assoc]
    simpa using this
end
end
section

/-! ## data, for == -/
mutual
noncomputable def V.py : V → PyData
  | .none => .none
  | .bool b => .bool b
  | .int i => .int i
  | .tup vs => .tuple (V.pys vs)
  | .lst vs => .list (V.pys vs)
  | .ref _ => .none
noncomputable def V.pys : List V → List PyData
  | [] => []
  | v :: vs => v.py :: V.pys vs
end
mutual
noncomputable def V.plain : V → Bool
  | .ref _ => false
  | .tup vs => V.plains vs
  | .lst vs => V.plains vs
  | _ => true
noncomputable def V.plains : List V → Bool
  | [] => true
  | v :: vs => v.plain && V.plains vs
end
mutual
theorem Rep.reads {μ h} : ∀ {v : V} {x : Value}, Rep μ h v x → v.plain = true → ∃ as, Reads h x v.py as
  | _, _, .none, _ => ⟨_, .none⟩
  | _, _, .bool b, _ => ⟨_, .bool b⟩
  | _, _, .int i t, _ => ⟨_, .int i t⟩
  | _, _, .tup ⟨o, e, c, n, d⟩ _ r, p => by
    obtain ⟨as, q⟩ := RepL.reads r (by simpa only [V.plain] using p)
    exact ⟨_, .tuple e c d (by simpa using q)⟩
  | _, _, .lst ⟨o, e, c, n, d⟩ _ r, p => by
    obtain ⟨as, q⟩ := RepL.reads r (by simpa only [V.plain] using p)
    exact ⟨_, .list e c d (by simpa using q)⟩
theorem RepL.reads {μ h} : ∀ {vs : List V} {xs : List Value}, RepL μ h vs xs → V.plains vs = true → ∃ as, ReadsAll h xs (V.pys vs) as
  | _, _, .nil, _ => ⟨_, .nil⟩
  | _, _, .cons a r, p => by
    simp only [V.plains, Bool.and_eq_true] at p
    obtain ⟨as, q⟩ := Rep.reads a p.1
    obtain ⟨bs, q'⟩ := RepL.reads r p.2
    exact ⟨_, .cons q q'⟩
end
/-- what a value reads as, cells opened once -/
noncomputable def look (σ : List Cell) (v : V) : Option PyData :=
  if v.plain then some v.py else match lstOf σ v with
    | some vs => if V.plains vs then some (.list (V.pys vs)) else none
    | none => none
theorem Rep.look {C σ μ h v x p} (H : HI C σ μ h) (r : Rep μ h v x) (e : look σ v = some p) : ∃ as, Reads h x p as := by
  unfold Mine.look at e
  split at e
  · cases e
    exact r.reads (by assumption)
  · split at e
    · rename_i vs hl
      split at e
      · cases e
        rename_i hp
        obtain ⟨a, xs, rfl, ⟨o, e', c, n, d⟩, q⟩ := lst_at H r hl
        obtain ⟨as, q'⟩ := q.reads hp
        exact ⟨_, .list e' c d (by simpa using q')⟩
      · cases e
    · cases e
section
variable {C : Cx} {d : Nat} {sc : Scope} {A : Around} {env : Env} {ρ : List (Str × V)} {σ σ₁ σ₂ σ₃ : List Cell} {μ : List Addr} {s : Shared} {v v₁ v₂ : V} {vs ws : List V}
noncomputable def shp (p : PyData) : Bool := SeqAt.shaped p
/-- == and != of data -/
theorem useEq {l r} {pa pb : PyData} (op : CmpOp) (hop : op = .Eq ∨ op = .NotEq) (h1 : Ev C d sc l ρ σ v₁ σ₁) (h2 : Ev C d sc r ρ σ₁ v₂ σ₂) (e1 : look σ₂ v₁ = some pa) (e2 : look σ₂ v₂ = some pb)
    (k1 : shp pa = true) (k2 : shp pb = true) (S : Sit C sc d A env ρ σ μ s) {Q : Value → Shared → Prop}
    (k : ∀ μ' s', Step (Loc env) μ μ' s s' → Sit C sc d A env ρ σ₂ μ' s' → Q (.bool (if op = .Eq then pa.eqv pb else !pa.eqv pb)) s') :
    wpAny (model C.prog C.w) A (eval l env) (fun a s₁ => wpAny (model C.prog C.w) A (eval r env) (fun b s₂ => wpAny (model C.prog C.w) A (compareOp op a b) Q NoE s₂) NoE s₁) NoE s :=
  h1.use S fun _ _ _ st₁ S₁ r₁ => h2.use S₁ fun _ _ _ st₂ S₂ r₂ => by
    obtain ⟨as, qa⟩ := (r₁.still (S₁.still st₂)).look S₂.heap e1
    obtain ⟨bs, qb⟩ := r₂.look S₂.heap e2
    rcases hop with rfl | rfl
    · exact eq_dataH qa qb k1 k2 S₂.lim.units (k _ _ (st₁.trans st₂) S₂)
    · exact ne_dataH qa qb k1 k2 S₂.lim.units (k _ _ (st₁.trans st₂) S₂)
theorem Ev.eqD {l r pos} {pa pb : PyData} (h1 : Ev C d sc l ρ σ v₁ σ₁) (h2 : Ev C d sc r ρ σ₁ v₂ σ₂) (e1 : look σ₂ v₁ = some pa) (e2 : look σ₂ v₂ = some pb) (k1 : shp pa = true) (k2 : shp pb = true)
    (hm : behindInMarks .Eq r = false := by rfl) : Ev C d sc (.Compare l [.Eq] [r] pos) ρ σ (.bool (pa.eqv pb)) σ₂ := .mk <| fun S =>
  wpAny_Compare1 (useEq .Eq (.inl rfl) h1 h2 e1 e2 k1 k2 S fun _ _ st S' => (Post.grow S' Grow.refl (.bool _)).after st) hm
theorem Tr.eqD {l r pos} {pa pb : PyData} (h1 : Ev C d sc l ρ σ v₁ σ₁) (h2 : Ev C d sc r ρ σ₁ v₂ σ₂) (e1 : look σ₂ v₁ = some pa) (e2 : look σ₂ v₂ = some pb) (k1 : shp pa = true) (k2 : shp pb = true)
    (hm : behindInMarks .Eq r = false := by rfl) : Tr C d sc (.Compare l [.Eq] [r] pos) ρ σ (pa.eqv pb) σ₂ := .mk <| fun S =>
  wpAny_isTrue_Compare1 (useEq .Eq (.inl rfl) h1 h2 e1 e2 k1 k2 S fun _ _ st S' => wpAny_truthy_bool ((PostT.grow S' Grow.refl).after st)) hm
theorem Tr.neD {l r pos} {pa pb : PyData} (h1 : Ev C d sc l ρ σ v₁ σ₁) (h2 : Ev C d sc r ρ σ₁ v₂ σ₂) (e1 : look σ₂ v₁ = some pa) (e2 : look σ₂ v₂ = some pb) (k1 : shp pa = true) (k2 : shp pb = true)
    (hm : behindInMarks .NotEq r = false := by rfl) : Tr C d sc (.Compare l [.NotEq] [r] pos) ρ σ (!pa.eqv pb) σ₂ := .mk <| fun S =>
  wpAny_isTrue_Compare1 (useEq .NotEq (.inr rfl) h1 h2 e1 e2 k1 k2 S fun _ _ st S' => wpAny_truthy_bool ((PostT.grow S' Grow.refl).after st)) hm
noncomputable def V.isNone : V → Bool
  | .none => true
  | _ => false
theorem Tr.isNone {l pos k p} (h1 : Ev C d sc l ρ σ v₁ σ₁) : Tr C d sc (.Compare l [.Is] [.Constant .none k p] pos) ρ σ v₁.isNone σ₁ := .mk <| fun S =>
  wpAny_isTrue_Compare1 (h1.use S fun _ x _ st₁ S₁ r₁ => wpAny_Constant_none (is_none (wpAny_truthy_bool (by
    have e : (x == Value.none) = v₁.isNone := by cases r₁ <;> rfl
    rw [e]
    exact (PostT.grow S₁ Grow.refl).after st₁)))) rfl
/-! ## sums, sorted -/
theorem ints_items {μ h} : ∀ {ns : List Int} {xs : List Value}, RepL μ h (ns.map V.int) xs → ∃ ps : List (Int × Tok), List.toArray xs = intItems (List.toArray ps) ∧ ps.map (·.1) = ns
  | [], _, .nil => ⟨[], by simp [intItems], rfl⟩
  | n :: r, _, .cons (.int _ t) q => by
    obtain ⟨ps, e, e'⟩ := ints_items q
    refine ⟨(n, t) :: ps, ?_, by rw [List.map_cons, e']⟩
    apply Array.toList_inj.mp
    have := congrArg Array.toList e
    simpa [intItems] using this
theorem Ev.sum {p pos e} {ns : List Int} (h : Ev C d sc e ρ σ v σ₁) (hl : lstOf σ₁ v = some (ns.map V.int)) (hf : sumOk 0 ns = true) (hk : Gi sc "sum" := by rfl) (hs : NoStar e := by intro _ _; rfl) (hc : CallEq "sum" p pos [e] := by intro _; rfl) :
    Ev C d sc ((Expr.Name "sum" p).Call [e] [] pos) ρ σ (.int ns.sum) σ₁ := .mk <| fun S =>
  useCall hk (by simp) PyProof.Rows.Boot.sum (.inl ⟨_, rfl⟩) (h.arg hs) S (fun _ _ _ st S' r => by
    cases r with
    | cons r r' =>
      cases r'
      obtain ⟨a, xs, rfl, il, q⟩ := lst_at S'.heap r hl
      obtain ⟨ps, e, rfl⟩ := ints_items q
      rw [e] at il
      have hnum : numAt ps.toArray = fun i => (ps.map (·.1)).getD i 0 := by
        funext i
        simp [numAt, List.getD_eq_getElem?_getD]
      refine sum_intList S'.lim.1 il (fun j hj => ?_) fun h' tk t' hq => ?_
      · have := sumOk_at hf j (by simpa using hj)
        rw [hnum, preSum_getD]
        rw [Int.zero_add] at this
        show (-(2 ^ 63) ≤ (ps.map (·.1)).getD j 0 ∧ (ps.map (·.1)).getD j 0 < 2 ^ 63) ∧ -(2 ^ 63) ≤ ((ps.map (·.1)).take (j + 1)).sum ∧ ((ps.map (·.1)).take (j + 1)).sum < 2 ^ 63
        omega
      · rw [hnum, preSum_getD, List.size_toArray, List.take_of_length_le (by simp)]
        exact (Post.grow S' ⟨⟨h', tk, rfl⟩, hq⟩ (.int _ _)).after st) hs (fun _ _ => rfl) hc
/-- two sorted lists of the same ints are one -/
theorem sorted_unique : ∀ {l m : List Int}, l.Perm m → l.Pairwise (· ≤ ·) → m.Pairwise (· ≤ ·) → l = m
  | [], m, p, _, _ => (List.nil_perm.mp p).symm
  | a :: l, [], p, _, _ => by have := p.length_eq; simp at this
  | a :: l, b :: m, p, h1, h2 => by
    have e : a = b := by
      have h3 : a ∈ b :: m := p.subset (.head _)
      have h4 : b ∈ a :: l := p.symm.subset (.head _)
      rw [List.pairwise_cons] at h1 h2
      rcases List.mem_cons.mp h3 with q | q
      · exact q
      · rcases List.mem_cons.mp h4 with q' | q'
        · exact q'.symm
        · have := h1.1 b q'; have := h2.1 a q; omega
    subst e
    rw [List.pairwise_cons] at h1 h2
    rw [sorted_unique (List.perm_cons a |>.mp p) h1.2 h2.2]
theorem Ev.sorted {p pos e} {ns ms : List Int} (h : Ev C d sc e ρ σ v σ₁) (hl : lstOf σ₁ v = some (ns.map V.int)) (hn : ns.length < 64) (hp : ms.Perm ns) (ho : ms.Pairwise (· ≤ ·))
    (hk : Gi sc "sorted" := by rfl) (hs : NoStar e := by intro _ _; rfl) (hc : CallEq "sorted" p pos [e] := by intro _; rfl) :
    Ev C d sc ((Expr.Name "sorted" p).Call [e] [] pos) ρ σ (.lst (ms.map V.int)) σ₁ := .mk <| fun S =>
  useCall hk (by simp) PyProof.Rows.Boot.sorted (.inl ⟨_, rfl⟩) (h.arg hs) S (fun _ _ s' st S' r => by
    cases r with
    | cons r r' =>
      cases r'
      obtain ⟨a, xs, rfl, il, q⟩ := lst_at S'.heap r hl
      refine sorted_ints il (IntsAre.ofRep q) (by rw [← q.length, List.length_map]; exact hn) fun out ns' a1 a2 a3 => ?_
      obtain ⟨e', he⟩ := sortedAll_at s'.heap xs out
      have e2 : ns' = ms := sorted_unique (a2.trans hp.symm) a3 ho
      subst e2
      have g : Grow s' { s' with heap := sortedAll s'.heap xs out } := ⟨⟨_, _, rfl⟩, fun _ _ => sortedAll_old⟩
      refine (Post.newLst (xs := out.toList) (n := e') S' g ?_ (by simpa [listOf] using he) (IntsAre.toRep a1)).after st
      cases z : s'.heap.get? (s'.heap.objs.size + 1) with
      | none => rfl
      | some o => exact absurd (Heap.lt_size z) (Nat.not_lt.mpr (Nat.le_succ _))) hs (fun _ _ => rfl) hc
/-! ## lists glued and repeated -/
theorem Ev.concat {l r pos} (h1 : Ev C d sc l ρ σ v₁ σ₁) (h2 : Ev C d sc r ρ σ₁ v₂ σ₂) (e1 : lstOf σ₂ v₁ = some vs) (e2 : lstOf σ₂ v₂ = some ws) (hn : vs.length + ws.length ≤ 1000000) :
    Ev C d sc (.BinOp l .Add r pos) ρ σ (.lst (vs ++ ws)) σ₂ := .mk <| fun S =>
  wpAny_BinOp (h1.use S fun _ _ _ st₁ S₁ r₁ => h2.use S₁ fun _ _ s₂ st₂ S₂ r₂ => by
    obtain ⟨a, xs, rfl, ⟨⟨c1, d1, t1, l1⟩, o1, k1, n1, q1⟩, q⟩ := lst_at S₂.heap (r₁.still (S₁.still st₂)) e1
    obtain ⟨b, ys, rfl, ⟨⟨c2, d2, t2, l2⟩, o2, k2, n2, q2⟩, q'⟩ := lst_at S₂.heap r₂ e2
    cases k1; cases k2; cases q1; cases q2
    have hz : xs.length + ys.length ≤ 1000000 := by rw [← q.length, ← q'.length]; exact hn
    refine concat_meets ⟨_, o1, rfl⟩ ⟨_, o2, rfl⟩ noFill_list_add seq_list_add PySem.F.slot_list_add PySem.F.entry_list_add (PySem.F.args_list_add_2 _ _) (list_addW a b xs.toArray ys.toArray n1 n2 d1 d2 l1 l2 (by
      simp only [List.size_toArray]; show _ ≤ 2 ^ 24; omega)) ⟨o1, o2, ?_⟩
    have e : xs.toArray ++ ys.toArray = (xs ++ ys).toArray := by simp
    rw [e]
    exact ((Post.newLst (n := 0) S₂ Grow.push fresh_of (Heap.get?_push_size _ rfl) (q.append q')).after st₂).after st₁)
end
end
section

/-! ## stores -/
noncomputable def upd : List (Str × V) → Str → V → List (Str × V)
  | [], x, v => [(x, v)]
  | (y, u) :: r, x, v => match x == y with
    | true => (y, v) :: r
    | false => (y, u) :: upd r x v
theorem lookup_upd : ∀ (ρ : List (Str × V)) (x y : Str) (v : V), (upd ρ x v).lookup y = if y = x then some v else ρ.lookup y
  | [], x, y, v => by
    simp only [upd, List.lookup_cons, List.lookup_nil]
    by_cases h : y = x
    · subst h; simp
    · rw [if_neg h, beq_false_of_ne h]
  | (z, u) :: r, x, y, v => by
    unfold upd
    cases hx : x == z with
    | true =>
      have e := eq_of_beq hx; subst e
      simp only [List.lookup_cons]
      by_cases h : y = x
      · subst h; simp
      · rw [if_neg h, beq_false_of_ne h]
    | false =>
      simp only [List.lookup_cons, lookup_upd r x y v]
      by_cases h : y = z
      · have hx' : ¬ y = x := fun q => by rw [← q, h] at hx; simp at hx
        simp only [if_neg hx']
      · rw [beq_false_of_ne h]
noncomputable def isVar (sc : Scope) (x : Str) : Bool := match sc.names.lookup x with
  | some .local => true
  | some .cell => true
  | _ => false
theorem isVar_cases {sc : Scope} {x : Str} (h : isVar sc x = true) : sc.names.lookup x = some .local ∨ sc.names.lookup x = some .cell := by
  unfold isVar at h
  split at h
  · exact .inl ‹_›
  · exact .inr ‹_›
  · cases h
/-! what leaves a call: the call's own cells are frozen -/
mutual
inductive Frz (k : Nat) (σ : List Cell) : V → V → Prop
  | none : Frz k σ .none .none
  | bool (b) : Frz k σ (.bool b) (.bool b)
  | int (i) : Frz k σ (.int i) (.int i)
  | tup {vs ws} : FrzL k σ vs ws → Frz k σ (.tup vs) (.tup ws)
  | lst {vs ws} : FrzL k σ vs ws → Frz k σ (.lst vs) (.lst ws)
  | old {n} : n < k → Frz k σ (.ref n) (.ref n)
  | new {n : Nat} {vs ws} : k ≤ n → σ[n]? = some (.lst vs) → FrzL k σ vs ws → Frz k σ (.ref n) (.lst ws)
inductive FrzL (k : Nat) (σ : List Cell) : List V → List V → Prop
  | nil : FrzL k σ [] []
  | cons {v w vs ws} : Frz k σ v w → FrzL k σ vs ws → FrzL k σ (v :: vs) (w :: ws)
end
mutual
theorem Frz.plain {k σ} : ∀ {v : V}, v.plain = true → Frz k σ v v
  | .none, _ => .none
  | .bool b, _ => .bool b
  | .int i, _ => .int i
  | .tup vs, h => .tup (FrzL.plain (by simpa only [V.plain] using h))
  | .lst vs, h => .lst (FrzL.plain (by simpa only [V.plain] using h))
  | .ref _, h => by simp [V.plain] at h
theorem FrzL.plain {k σ} : ∀ {vs : List V}, V.plains vs = true → FrzL k σ vs vs
  | [], _ => .nil
  | v :: vs, h => by
    simp only [V.plains, Bool.and_eq_true] at h
    exact .cons (Frz.plain h.1) (FrzL.plain h.2)
end
inductive FrzC (k : Nat) (σ : List Cell) : List Cell → List Cell → Prop
  | nil : FrzC k σ [] []
  | lst {vs ws cs ds} : FrzL k σ vs ws → FrzC k σ cs ds → FrzC k σ (.lst vs :: cs) (.lst ws :: ds)
  | dic {ks cs ds} : FrzC k σ cs ds → FrzC k σ (.dic ks :: cs) (.dic ks :: ds)
section
variable {C : Cx} {d : Nat} {sc : Scope} {A : Around} {env : Env} {ρ ρ₁ ρ₂ : List (Str × V)} {σ σ₁ σ₂ σ₃ : List Cell} {μ : List Addr} {s : Shared} {v v₁ v₂ : V} {vs ws : List V}
noncomputable abbrev At (env : Env) (x : Str) : Addr → Prop := fun b => b = env.locals ∨ env.cells.lookup x = some b
theorem At.own {x b} (h : At env x b) : Own env b := h.imp id fun e => ⟨x, e⟩
theorem Sit.storeAt {val x} (S : Sit C sc d A env ρ σ μ s) (r : Rep μ s.heap v val) (hx : isVar sc x = true) {Q : Unit → Shared → Prop} {E : Value → Shared → Prop}
    (k : ∀ s', Step (At env x) μ μ s s' → Sit C sc d A env (upd ρ x v) σ μ s' → Q () s') : wpAny (model C.prog C.w) A (storeName env x val) Q E s := by
  have hk : env.scope.kind = .function := S.env.kind
  obtain ⟨m, hn, hs⟩ := S.env.see
  rcases isVar_cases hx with hv | hv
  · have hkind : env.kindOf x = some .local := by show env.scope.names.lookup x = _; rw [S.sc]; exact hv
    refine wpAny_storeName_local hkind hn (fun h' hn' hb => ?_) (by rw [hk]; rfl)
    have st : Step (At env x) μ μ s { s with heap := h', toks := s.toks + 1 } :=
      ⟨⟨_, _, rfl⟩, fun b o hx _ e => (hb.2 b fun q => hx (.inl q)).trans e, fun b o e => by
        by_cases q : b = env.locals
        · subst q; obtain ⟨o', _, _, e', _⟩ := hn'; exact ⟨o', e'⟩
        · exact ⟨o, (hb.2 b q).trans e⟩, [], by simp, fun _ m => nomatch m⟩
    have K := (st.mono (Y := Own env) fun b h => At.own h).still S.env.ownData
    refine k _ st ⟨S.wd, S.lim, S.sc, ⟨hk, S.env.glob, S.env.blt, S.env.lnew, S.env.lnot, ⟨_, hn', fun y u hy => ?_⟩, fun y c hc => ?_, S.env.cellAll, S.env.inj⟩, ?_⟩
    · rw [lookup_upd] at hy
      by_cases q : y = x
      · rw [if_pos q] at hy; cases hy; subst q
        exact ⟨val, r.still K, .inl ⟨hkind, by simp⟩⟩
      · rw [if_neg q] at hy
        obtain ⟨w, rw', sw⟩ := hs y u hy
        refine ⟨w, rw'.still K, ?_⟩
        rcases sw with ⟨k1, e1⟩ | ⟨k1, c, e1, o, e2, d2⟩
        · exact .inl ⟨k1, (if_neg q).trans e1⟩
        · exact .inr ⟨k1, c, e1, o, (hb.2 c (S.env.cellNeLoc e1)).trans e2, d2⟩
    · obtain ⟨b1, v₀, o, e2, d2⟩ := S.env.cells y c hc
      exact ⟨b1, v₀, o, (hb.2 c (S.env.cellNeLoc hc)).trans e2, d2⟩
    · have base : ∀ b o, C.B.get? b = some o → h'.get? b = some o := fun b o e => (hb.2 b fun q => by rw [q, S.env.lnew] at e; cases e).trans (S.heap.base b o e)
      refine ⟨base, S.heap.len, S.heap.nodup, S.heap.new, fun i a c e1 e2 => (S.heap.cells i a c e1 e2).still K fun o e => (hb.2 a fun q => ?_).trans e⟩
      exact S.env.lnot (q ▸ List.mem_of_getElem? e1)
  · have hkind : env.kindOf x = some .cell := by show env.scope.names.lookup x = _; rw [S.sc]; exact hv
    obtain ⟨c, hc⟩ := Option.isSome_iff_exists.mp (S.env.cellAll x hkind)
    obtain ⟨b0, v₀, hcl⟩ := S.env.cells x c hc
    refine wpAny_storeName_cell hk hkind hc hcl fun h' hcl' hb => ?_
    have st : Step (At env x) μ μ s { s with heap := h' } :=
      ⟨⟨_, _, rfl⟩, fun b o hx _ e => (hb.2 b fun q => hx (.inr (q ▸ hc))).trans e, fun b o e => by
        by_cases q : b = c
        · subst q; obtain ⟨o', e', _⟩ := hcl'; exact ⟨o', e'⟩
        · exact ⟨o, (hb.2 b q).trans e⟩, [], by simp, fun _ m => nomatch m⟩
    have K := (st.mono (Y := Own env) fun b h => At.own h).still S.env.ownData
    have hL : h'.Ns env.locals m := hn.sameBut hb (Ne.symm (S.env.cellNeLoc hc))
    refine k _ st ⟨S.wd, S.lim, S.sc, ⟨hk, S.env.glob, S.env.blt, S.env.lnew, S.env.lnot, ⟨m, hL, fun y u hy => ?_⟩, fun y c' hc' => ?_, S.env.cellAll, S.env.inj⟩, ?_⟩
    · rw [lookup_upd] at hy
      by_cases q : y = x
      · rw [if_pos q] at hy; cases hy; subst q
        exact ⟨val, r.still K, .inr ⟨.inl hkind, c, hc, hcl'⟩⟩
      · rw [if_neg q] at hy
        obtain ⟨w, rw', sw⟩ := hs y u hy
        refine ⟨w, rw'.still K, ?_⟩
        rcases sw with ⟨k1, e1⟩ | ⟨k1, c', e1, o, e2, d2⟩
        · exact .inl ⟨k1, e1⟩
        · exact .inr ⟨k1, c', e1, o, (hb.2 c' fun z => q (S.env.inj y x c (z ▸ e1) hc)).trans e2, d2⟩
    · obtain ⟨b1, v₀', o, e2, d2⟩ := S.env.cells y c' hc'
      refine ⟨b1, ?_⟩
      by_cases z : c' = c
      · subst z; exact ⟨_, hcl'⟩
      · exact ⟨v₀', o, (hb.2 c' z).trans e2, d2⟩
    · have base : ∀ b o, C.B.get? b = some o → h'.get? b = some o := fun b o e => (hb.2 b fun q => by rw [q, b0] at e; cases e).trans (S.heap.base b o e)
      refine ⟨base, S.heap.len, S.heap.nodup, S.heap.new, fun i a c' e1 e2 => (S.heap.cells i a c' e1 e2).still K fun o e => (hb.2 a fun q => ?_).trans e⟩
      exact S.env.cellNot S.heap hc (q ▸ List.mem_of_getElem? e1)
theorem Sit.store {val x} (S : Sit C sc d A env ρ σ μ s) (r : Rep μ s.heap v val) (hx : isVar sc x = true) {Q : Unit → Shared → Prop} {E : Value → Shared → Prop}
    (k : ∀ s', Step (Own env) μ μ s s' → Sit C sc d A env (upd ρ x v) σ μ s' → Q () s') : wpAny (model C.prog C.w) A (storeName env x val) Q E s :=
  S.storeAt r hx fun s' st => k s' (st.mono fun _ h => At.own h)
theorem Step.own {μ' s'} (a : Step (Loc env) μ μ' s s') : Step (Own env) μ μ' s s' := a.mono fun _ h => .inl h
/-! ## statements -/
inductive Out where
  | next (ρ : List (Str × V)) (σ : List Cell)
  | ret (v : V) (σ : List Cell)
noncomputable def PostS (C : Cx) (sc : Scope) (d : Nat) (A : Around) (env : Env) (out : Out) (μ : List Addr) (s : Shared) (f : Flow) (s' : Shared) : Prop :=
  match out with
  | .next ρ σ => f = .next ∧ ∃ μ', Step (Own env) μ μ' s s' ∧ Sit C sc d A env ρ σ μ' s'
  | .ret v σ => ∃ val, f = .ret val ∧ ∃ μ', Step (Own env) μ μ' s s' ∧ HI C σ μ' s'.heap ∧ Rep μ' s'.heap v val
theorem PostS.after {μ₁ s₁ out f s₂} (st : Step (Own env) μ μ₁ s s₁) (p : PostS C sc d A env out μ₁ s₁ f s₂) : PostS C sc d A env out μ s f s₂ := by
  cases out with
  | next ρ σ => obtain ⟨e, μ₂, a, b⟩ := p; exact ⟨e, μ₂, st.trans a, b⟩
  | ret v σ => obtain ⟨val, e, μ₂, a, b⟩ := p; exact ⟨val, e, μ₂, st.trans a, b⟩
structure Ex (C : Cx) (d : Nat) (sc : Scope) (st : Stmt) (ρ : List (Str × V)) (σ : List Cell) (out : Out) : Prop where
  run : ∀ {A env μ s}, Sit C sc d A env ρ σ μ s → wpAny (model C.prog C.w) A (exec st env) (PostS C sc d A env out μ s) NoE s
structure Exs (C : Cx) (d : Nat) (sc : Scope) (sts : List Stmt) (ρ : List (Str × V)) (σ : List Cell) (out : Out) : Prop where
  run : ∀ {A env μ s}, Sit C sc d A env ρ σ μ s → wpAny (model C.prog C.w) A (execs sts env) (PostS C sc d A env out μ s) NoE s
theorem Exs.nil : Exs C d sc [] ρ σ (.next ρ σ) := .mk <| fun S => wpAny_execs_nil ⟨rfl, _, Step.refl, S⟩
theorem Exs.cons {st rest out} (h1 : Ex C d sc st ρ σ (.next ρ₁ σ₁)) (h2 : Exs C d sc rest ρ₁ σ₁ out) : Exs C d sc (st :: rest) ρ σ out := .mk <| fun S =>
  wpAny_execs_cons (wpAny_mono (h1.run S) (fun f _ ⟨e, _, st, S'⟩ => by subst e; exact wpAny_mono (h2.run S') (fun _ _ p => p.after st) fun _ _ f => f) fun _ _ f => f)
theorem Exs.stop {st rest} (h1 : Ex C d sc st ρ σ (.ret v σ₁)) : Exs C d sc (st :: rest) ρ σ (.ret v σ₁) := .mk <| fun S =>
  wpAny_execs_cons (wpAny_mono (h1.run S) (fun f _ ⟨val, e, r⟩ => by subst e; exact ⟨val, rfl, r⟩) fun _ _ f => f)
theorem Ex.ret {e pos} (h : Ev C d sc e ρ σ v σ₁) : Ex C d sc (.Return (some e) pos) ρ σ (.ret v σ₁) := .mk <| fun S =>
  wpAny_Return_some (h.use S fun _ _ _ st S' r => ⟨_, rfl, _, st.own, S'.heap, r⟩)
noncomputable abbrev NoSwap (sc : Scope) (value : Expr) (t : Option Expr) (line : Nat) : Prop := ∀ env : Env, swapsWith value t line env = pure false
theorem Ex.assign {x p e pos} (h : Ev C d sc e ρ σ v σ₁) (hx : isVar sc x = true := by rfl) (hs : NoSwap sc e (some (.Name x p)) pos.line := by intro _; rfl) : Ex C d sc (.Assign [.Name x p] e pos) ρ σ (.next (upd ρ x v) σ₁) := .mk <| fun S =>
  wpAny_Assign_Name (h.use S fun _ _ _ st S' r => S'.store r hx fun _ st' S'' => ⟨rfl, _, st.own.trans st', S''⟩) (hs _)
theorem Ex.ifT {t b o pos out} (h1 : Tr C d sc t ρ σ true σ₁) (h2 : Exs C d sc b ρ σ₁ out) : Ex C d sc (.If t b o pos) ρ σ out := .mk <| fun S =>
  wpAny_If (h1.use S fun _ _ st S' => by rw [if_pos rfl]; exact wpAny_mono (h2.run S') (fun _ _ p => p.after st.own) fun _ _ f => f)
theorem Ex.ifF {t b o pos out} (h1 : Tr C d sc t ρ σ false σ₁) (h2 : Exs C d sc o ρ σ₁ out) : Ex C d sc (.If t b o pos) ρ σ out := .mk <| fun S =>
  wpAny_If (h1.use S fun _ _ st S' => by rw [if_neg Bool.false_ne_true]; exact wpAny_mono (h2.run S') (fun _ _ p => p.after st.own) fun _ _ f => f)
theorem useName {x} (S : Sit C sc d A env ρ σ μ s) (h : ρ.lookup x = some v) {Q : Value → Shared → Prop} {E} (k : ∀ val, Rep μ s.heap v val → Q val s) : wpAny (model C.prog C.w) A (loadName env x) Q E s := by
  obtain ⟨m, hn, hs⟩ := S.env.see
  obtain ⟨val, r, se⟩ := hs x v h
  rcases se with ⟨q, e⟩ | ⟨q | ⟨q, hc⟩, c, e, ho⟩
  · exact wpAny_loadName_local S.env.kind q hn e (k _ r)
  · exact wpAny_loadName_cell S.env.kind q e ho (k _ r)
  · exact wpAny_loadName_free S.env.kind q e ho (k _ r) hc
theorem Ex.augAdd {x p e pos} {a b : Int} (h0 : ρ.lookup x = some (.int a)) (h : Ev C d sc e ρ σ (.int b) σ₁) (hx : isVar sc x = true := by rfl) : Ex C d sc (.AugAssign (.Name x p) .Add e pos) ρ σ (.next (upd ρ x (.int (a + b))) σ₁) := .mk <| fun S =>
  wpAny_AugAssign_Name (useName S h0 fun val r => h.use S fun _ _ _ st S' r' => by
    cases r; cases r'
    refine wpAny_iadd_int ((S'.grow Grow.toks).store (.int _ _) hx fun _ st' S'' => ⟨rfl, _, st.own.trans (Grow.toks.step.trans st'), S''⟩))
/-! ## calls of the text's own defs -/
structure Call (C : Cx) (d : Nat) (f : Str) (args : List V) (σ : List Cell) (v : V) (σ' : List Cell) : Prop where
  run : ∀ {A μ s a vals}, Wd C → Lim d A → C.mg f = some (.ref a) → HI C σ μ s.heap → RepL μ s.heap args vals →
    codeAny (model C.prog C.w) A (.call (.ref a) ⟨vals, []⟩) (fun r s' => ∃ val, r = .ok (.ret val) ∧ Step (fun _ => False) μ μ s s' ∧ HI C σ' μ s'.heap ∧ Rep μ s'.heap v val) s
theorem Call.mono {f d'} (h : Call C d f vs σ v σ₁) (k : d ≤ d') : Call C d' f vs σ v σ₁ := .mk <| fun w l => h.run w (l.mono k)
theorem Ev.call {f p pos e rest} (hd : (theDefIn f PySem.Challenge.pw_xm0157_01.main.body).isSome = true) (h : EvL C d sc (e :: rest) ρ σ vs σ₁) (hc : Call C d f vs σ₁ v σ₂) (hk : Gi sc f := by rfl) (hs : NoStar e := by intro _ _; rfl)
    (he : CallEq f p pos (e :: rest) := by intro _; rfl) (hn : (f == ("__debug__" : Str)) = false := by decide) : Ev C d sc ((Expr.Name f p).Call (e :: rest) [] pos) ρ σ v σ₂ := .mk <| fun {A env μ s} S => by
  obtain ⟨df, hdf⟩ := Option.isSome_iff_exists.mp hd
  obtain ⟨a, o, pm, cd, doc, hg, ho, hdat, hcr⟩ := S.wd.fns f df hdf
  refine Call_ (useGlobal S hk hg (callWith_def hdat (h.use S fun _ xs s₁ st S' r => ⟨S'.heap.base _ _ ho, wpAny_call (codeAny_mono (hc.run S'.wd S'.lim hg S'.heap r) fun rr s₂ hr => ?_)⟩) (hs _ _)) hn) (he _)
  obtain ⟨val, rfl, st', H', r'⟩ := hr
  refine ⟨_, st.trans (st'.mono fun _ h => h.elim), ⟨S'.wd, S'.lim, S'.sc, S'.env.step S'.heap st' (fun _ _ h => h.elim) (fun h => h) (fun _ _ _ h => h), H'⟩, r'⟩
theorem frz_not {μ ν : List Addr} {a} (h : a ∉ μ ++ ν) : a ∉ μ := fun m => h (List.mem_append_left _ m)
mutual
theorem Rep.frz {μ ν h} (H : HI C σ (μ ++ ν) h) : ∀ {v w : V} {x : Value}, Frz μ.length σ v w → Rep (μ ++ ν) h v x → Rep μ h w x
  | _, _, _, .none, .none => .none
  | _, _, _, .bool _, .bool b => .bool b
  | _, _, _, .int _, .int i t => .int i t
  | _, _, _, .tup f, .tup ht m r => .tup ht (frz_not m) (RepL.frz H f r)
  | _, _, _, .lst f, .lst ht m r => .lst ht (frz_not m) (RepL.frz H f r)
  | _, _, _, .old hn, .ref e => .ref (by rw [List.getElem?_append_left hn] at e; exact e)
  | _, _, _, .new hk hs f, .ref e => by
    obtain ⟨xs, n, e', q, _⟩ := H.cells _ _ _ e hs
    refine .lst ⟨_, e', rfl, _, rfl⟩ (fun m => ?_) (RepL.frz H f q)
    rw [List.getElem?_append_right hk] at e
    exact (List.nodup_append.mp H.nodup).2.2 _ m _ (List.mem_of_getElem? e) rfl
theorem RepL.frz {μ ν h} (H : HI C σ (μ ++ ν) h) : ∀ {vs ws : List V} {xs : List Value}, FrzL μ.length σ vs ws → RepL (μ ++ ν) h vs xs → RepL μ h ws xs
  | _, _, _, .nil, .nil => .nil
  | _, _, _, .cons f g, .cons a r => .cons (Rep.frz H f a) (RepL.frz H g r)
end
theorem FrzC.length {k σ} : ∀ {a b}, FrzC k σ a b → a.length = b.length
  | _, _, .nil => rfl
  | _, _, .lst _ r => by simp [FrzC.length r]
  | _, _, .dic r => by simp [FrzC.length r]
theorem FrzC.get {k σ} : ∀ {a b : List Cell} {i : Nat} {c}, FrzC k σ a b → b[i]? = some c → (∃ vs ws, a[i]? = some (.lst vs) ∧ c = .lst ws ∧ FrzL k σ vs ws) ∨ ∃ ks, a[i]? = some (.dic ks) ∧ c = .dic ks
  | _, _, 0, _, .lst f _, e => by cases e; exact .inl ⟨_, _, rfl, rfl, f⟩
  | _, _, 0, _, .dic _, e => by cases e; exact .inr ⟨_, rfl, rfl⟩
  | _, _, i + 1, _, .lst _ r, e => by simpa using FrzC.get (i := i) r (by simpa using e)
  | _, _, i + 1, _, .dic r, e => by simpa using FrzC.get (i := i) r (by simpa using e)
theorem HI.frz {μ ν h σ'} (H : HI C σ (μ ++ ν) h) (f : FrzC μ.length σ (σ.take μ.length) σ') : HI C σ' μ h := by
  have hl : μ.length ≤ σ.length := by rw [← H.len, List.length_append]; omega
  refine ⟨H.base, by rw [← f.length, List.length_take]; omega, (List.nodup_append.mp H.nodup).1, fun a m => H.new a (List.mem_append_left _ m), fun i a c e1 e2 => ?_⟩
  have hi : i < μ.length := (List.getElem?_eq_some_iff.mp e1).1
  have e1' : (μ ++ ν)[i]? = some a := (List.getElem?_append_left hi).trans e1
  rcases f.get e2 with ⟨us, ws, q1, rfl, g⟩ | ⟨ks, q1, rfl⟩
  · rw [List.getElem?_take_of_lt hi] at q1
    obtain ⟨xs, n, e', r, l⟩ := H.cells i a _ e1' q1
    exact ⟨xs, n, e', r.frz H g, l⟩
  · rw [List.getElem?_take_of_lt hi] at q1
    obtain ⟨lo, xs, hd, hm, hv⟩ := H.cells i a _ e1' q1
    exact ⟨lo, xs, hd, hm, fun y hy => ⟨(hv y hy).1, frz_not (hv y hy).2⟩⟩
end
end
section

theorem bindL_not {kind : Str → Option NameKind} {x : Str} : ∀ {binds : List (Str × Value)} {m : Str → Option Value}, x ∉ binds.map (·.1) → bindL kind binds m x = m x
  | [], _, _ => rfl
  | (n, v) :: r, m, h => by
    simp only [List.map_cons, List.mem_cons, not_or] at h
    unfold bindL
    rw [bindL_not h.2]
    split
    · show (if x = n then _ else _) = _; rw [if_neg h.1]
    · rfl
theorem bindL_at {kind : Str → Option NameKind} {x : Str} {val : Value} (hk : kind x = some .local) : ∀ {binds : List (Str × Value)} {m : Str → Option Value}, (binds.map (·.1)).Nodup → binds.lookup x = some val → bindL kind binds m x = some val
  | [], _, _, h => by cases h
  | (n, v) :: r, m, hn, h => by
    rw [List.map_cons, List.nodup_cons] at hn
    unfold bindL
    rw [List.lookup_cons] at h
    by_cases q : x = n
    · subst q
      simp only [beq_self_eq_true] at h
      cases h
      rw [bindL_not hn.1, if_pos hk]; simp
    · rw [beq_false_of_ne q] at h
      exact bindL_at hk hn.2 h
theorem bindC_not {kind : Str → Option NameKind} {x : Str} : ∀ {binds : List (Str × Value)} {m : Str → Option Value}, x ∉ binds.map (·.1) → bindC kind binds m x = m x
  | [], _, _ => rfl
  | (n, v) :: r, m, h => by
    simp only [List.map_cons, List.mem_cons, not_or] at h
    unfold bindC
    rw [bindC_not h.2]
    split
    · rfl
    · show (if x = n then _ else _) = _; rw [if_neg h.1]
theorem bindC_at {kind : Str → Option NameKind} {x : Str} {val : Value} (hk : kind x = some .cell) : ∀ {binds : List (Str × Value)} {m : Str → Option Value}, (binds.map (·.1)).Nodup → binds.lookup x = some val → bindC kind binds m x = some val
  | [], _, _, h => by cases h
  | (n, v) :: r, m, hn, h => by
    rw [List.map_cons, List.nodup_cons] at hn
    unfold bindC
    rw [List.lookup_cons] at h
    by_cases q : x = n
    · subst q
      simp only [beq_self_eq_true] at h
      cases h
      rw [bindC_not hn.1, if_neg (by rw [hk]; decide)]; simp
    · rw [beq_false_of_ne q] at h
      exact bindC_at hk hn.2 h
theorem zip_lookup {μ h} {x : Str} {v : V} : ∀ {ns : List Str} {args : List V} {vals : List Value}, RepL μ h args vals → (ns.zip args).lookup x = some v → ∃ val, (ns.zip vals).lookup x = some val ∧ Rep μ h v val
  | [], _, _, _, e => by cases e
  | n :: ns, _, _, .nil, e => by cases e
  | n :: ns, _, _, .cons a r, e => by
    rw [List.zip_cons_cons, List.lookup_cons] at e ⊢
    cases q : x == n with
    | true => rw [q] at e; cases e; exact ⟨_, rfl, a⟩
    | false => rw [q] at e; exact zip_lookup r e
theorem zip_names : ∀ {ns : List Str} {vals : List Value}, ns.length = vals.length → (ns.zip vals).map (·.1) = ns
  | [], _, _ => rfl
  | _ :: _, [], h => by cases h
  | n :: ns, v :: vs, h => by rw [List.zip_cons_cons, List.map_cons, zip_names (by simpa using h)]
theorem mem_of_lookup' {β : Type} {x : Str} {c : β} : ∀ {l : List (Str × β)}, l.lookup x = some c → (x, c) ∈ l
  | [], e => by cases e
  | (y, b) :: r, e => by
    rw [List.lookup_cons] at e
    by_cases q : x = y
    · subst q; simp only [beq_self_eq_true] at e; cases e; exact .head _
    · rw [beq_false_of_ne q] at e; exact .tail _ (mem_of_lookup' e)
theorem apart_inj {x y : Str} {c : Addr} : ∀ {l : List (Str × Addr)}, l.Pairwise (fun x y => x.2 ≠ y.2) → (x, c) ∈ l → (y, c) ∈ l → x = y
  | p :: r, h, h1, h2 => by
    rw [List.pairwise_cons] at h
    rcases List.mem_cons.mp h1 with q | q <;> rcases List.mem_cons.mp h2 with q' | q'
    · exact congrArg Prod.fst (q.trans q'.symm)
    · exact absurd (by rw [← q]) (h.1 _ q')
    · exact absurd (by rw [← q']) (h.1 _ q)
    · exact apart_inj h.2 q q'
section
variable {C : Cx} {d : Nat} {sc : Scope} {A : Around} {env : Env} {ρ ρ₁ ρ₂ : List (Str × V)} {σ σ₁ σ₂ σ₃ : List Cell} {μ : List Addr} {s : Shared} {v v₁ v₂ : V} {vs ws : List V}
structure Ends (C : Cx) (d : Nat) (sc : Scope) (body : List Stmt) (ρ : List (Str × V)) (σ : List Cell) (v : V) (σ' : List Cell) : Prop where
  run : ∀ {A env μ s}, Sit C sc d A env ρ σ μ s → wpAny (model C.prog C.w) A (execs body env) (fun fl s' => ∃ val, (fl = .ret val ∨ fl = .next ∧ val = .none) ∧ ∃ μ', Step (Own env) μ μ' s s' ∧ HI C σ' μ' s'.heap ∧ Rep μ' s'.heap v val) NoE s
theorem Ends.ret {body : List Stmt} (h : Exs C d sc body ρ σ (.ret v σ₁)) : Ends C d sc body ρ σ v σ₁ := .mk <| fun S =>
  wpAny_mono (h.run S) (fun _ _ ⟨val, e, r⟩ => ⟨val, .inl e, r⟩) fun _ _ f => f
theorem Ends.next {body : List Stmt} (h : Exs C d sc body ρ σ (.next ρ₁ σ₁)) : Ends C d sc body ρ σ .none σ₁ := .mk <| fun S =>
  wpAny_mono (h.run S) (fun _ _ ⟨e, μ', st, S'⟩ => ⟨.none, .inr ⟨e, rfl⟩, μ', st, S'.heap, .none⟩) fun _ _ f => f
theorem Call.introG {f : Str} {pa : Arguments} {body : List Stmt} {args : List V} {σ' : List Cell} (hd : theDefIn f PySem.Challenge.pw_xm0157_01.main.body = some ⟨pa, body, sc⟩)
    (hb : Ends C d sc body ((pa.args.map (·.arg)).zip args) σ v₁ σ₁) (hfin : ∀ {μ ν : List Addr} {h h' : Heap} {val : Value}, μ.length = σ.length → HI C σ μ h → HI C σ₁ (μ ++ ν) h' → Rep (μ ++ ν) h' v₁ val → HI C σ' μ h' ∧ Rep μ h' v val)
    (hbind : ∀ pm cd doc vals, vals.length = args.length → bindArgs (Calls.docDef f pa body sc pm cd doc) ⟨vals, []⟩ = pure ((pa.args.map (·.arg)).zip vals))
    (hvar : (pa.args.map (·.arg)).all (isVar sc) = true) (hnd : (pa.args.map (·.arg)).Nodup) (hlen : pa.args.length = args.length)
    (hk : sc.kind = .function) (hco : sc.isCoroutine = false) (hgen : sc.isGenerator = false) : Call C (d + 1) f args σ v σ' := by
  refine .mk fun {A μ s a vals} W L hg H R => ?_
  obtain ⟨a', o, pm, cd, doc, hg', ho, hdat, hcr⟩ := W.fns f _ hd
  rw [hg] at hg'; cases hg'
  have hl : vals.length = args.length := R.length.symm
  refine codeAny_call_function (fd := Calls.docDef f pa body sc pm cd doc) (body := body) L.room (H.base _ _ ho) hdat hco hgen rfl (hcr.keeps H.base) ?_
  rw [hbind pm cd doc vals hl]
  refine wpAny_pure (wpAny_newFunctionEnv_cells (scope := sc) hk (fun x hx => ?_) fun env he s₂ x => ?_)
  · have hm : x.1 ∈ pa.args.map (·.arg) := by
      have := List.mem_map_of_mem (f := (·.1)) hx
      rwa [zip_names (by rw [List.length_map, hl, hlen])] at this
    have hv := List.all_eq_true.mp hvar _ hm
    rcases isVar_cases hv with q | q
    · exact .inl q
    · exact .inr ⟨q, cellsFrom_some _ _ _ (.inl q)⟩
  · obtain ⟨h₂, tk, e₂, keep⟩ := x.done
    have g : Grow s s₂ := ⟨⟨h₂, tk, e₂⟩, by rw [e₂]; exact keep⟩
    have hsc : env.scope = sc := by rw [he]; rfl
    have hloc : env.locals = s.heap.objs.size := by rw [he]; rfl
    have hnoB : ∀ b, s.heap.objs.size ≤ b → C.B.get? b = none := fun b hb => by
      cases q : C.B.get? b with
      | none => rfl
      | some o => exact absurd (Heap.lt_size (H.base _ _ q)) (Nat.not_lt.mpr hb)
    have hnoS : ∀ b, s.heap.objs.size ≤ b → s.heap.get? b = none := fun b hb => by
      cases q : s.heap.get? b with
      | none => rfl
      | some o => exact absurd (Heap.lt_size q) (Nat.not_lt.mpr hb)
    have hcellAbove : ∀ n c, env.cells.lookup n = some c → s.heap.objs.size ≤ c := fun n c e => Nat.le_of_lt (hloc ▸ x.above n c (mem_of_lookup' e))
    have HI₂ := H.grow g
    have EI : EnvI C env ((pa.args.map (·.arg)).zip args) μ s₂.heap := by
      refine ⟨by rw [hsc]; exact hk, by rw [he]; rfl, by rw [he]; rfl, hnoB _ (Nat.le_of_eq hloc.symm), fun m => ?_, ⟨_, x.toInCall.ns, fun y u hy => ?_⟩, fun y c hc => ⟨hnoB c (hcellAbove y c hc), _, x.cell y c hc⟩, fun y hy => ?_, fun y z c h1 h2 => apart_inj x.apart (mem_of_lookup' h1) (mem_of_lookup' h2)⟩
      · obtain ⟨o', q, _⟩ := H.alive m
        rw [hnoS _ (Nat.le_of_eq hloc.symm)] at q; cases q
      · obtain ⟨val, e, r⟩ := zip_lookup R hy
        refine ⟨val, r.still g.still, ?_⟩
        have hm : y ∈ pa.args.map (·.arg) := by
          have := List.mem_map_of_mem (f := (·.1)) (mem_of_lookup' e)
          rwa [zip_names (by rw [List.length_map, hl, hlen])] at this
        have hnd' : (((pa.args.map (·.arg)).zip vals).map (·.1)).Nodup := by rw [zip_names (by rw [List.length_map, hl, hlen])]; exact hnd
        rcases isVar_cases (List.all_eq_true.mp hvar _ hm) with q | q
        · have q' : env.kindOf y = some .local := by show env.scope.names.lookup y = _; rw [hsc]; exact q
          exact .inl ⟨q', bindL_at q' hnd' e⟩
        · have q' : env.kindOf y = some .cell := by show env.scope.names.lookup y = _; rw [hsc]; exact q
          have hcs : (env.cells.lookup y).isSome = true := by rw [he]; exact cellsFrom_some _ _ _ (.inl q)
          obtain ⟨c, hc⟩ := Option.isSome_iff_exists.mp hcs
          refine .inr ⟨.inl q', c, hc, ?_⟩
          have := x.cell y c hc
          rwa [bindC_at q' hnd' e] at this
      · have q : sc.names.lookup y = some .cell := by rw [← hsc]; exact hy
        rw [he]; exact cellsFrom_some _ _ _ (.inl q)
    refine ⟨(W.nolimit.keeps H.base).keeps g.keep, codeAny_func ?_⟩
    have Sb : Sit C sc d (A.deeper env) env ((pa.args.map (·.arg)).zip args) σ μ s₂ := ⟨W, L.deeper, hsc, EI, HI₂⟩
    refine wpAny_mono (hb.run Sb) (fun fl s' ⟨val, e, μ', st, H', r⟩ => ?_) fun _ _ f => f.elim
    obtain ⟨ν, rfl, hν⟩ := st.ext
    obtain ⟨q1, q2⟩ := hfin H.len H H' r
    refine ⟨val, by rcases e with e | ⟨e, e'⟩ <;> subst e <;> first | rfl | (subst e'; rfl), ?_, q1, q2⟩
    have hown : ∀ b, Own env b → s.heap.get? b = none := by
      rintro b (rfl | ⟨y, hy⟩)
      · exact hnoS _ (Nat.le_of_eq hloc.symm)
      · exact hnoS _ (hcellAbove y b hy)
    refine ⟨?_, fun b ob _ hm e => st.keep b ob (fun q => by rw [hown b q] at e; cases e) hm (g.keep b ob e), fun b ob e => st.live b ob (g.keep b ob e), [], by simp, fun _ m => nomatch m⟩
    obtain ⟨h', tk', e'⟩ := st.same
    exact ⟨h', tk', by rw [e', e₂]⟩
theorem Call.intro {f : Str} {pa : Arguments} {body : List Stmt} {args : List V} {σ' : List Cell} (hd : theDefIn f PySem.Challenge.pw_xm0157_01.main.body = some ⟨pa, body, sc⟩)
    (hb : Exs C d sc body ((pa.args.map (·.arg)).zip args) σ (.ret v₁ σ₁)) (hf : Frz σ.length σ₁ v₁ v) (hc : FrzC σ.length σ₁ (σ₁.take σ.length) σ')
    (hbind : ∀ pm cd doc vals, vals.length = args.length → bindArgs (Calls.docDef f pa body sc pm cd doc) ⟨vals, []⟩ = pure ((pa.args.map (·.arg)).zip vals))
    (hvar : (pa.args.map (·.arg)).all (isVar sc) = true) (hnd : (pa.args.map (·.arg)).Nodup) (hlen : pa.args.length = args.length)
    (hk : sc.kind = .function) (hco : sc.isCoroutine = false) (hgen : sc.isGenerator = false) : Call C (d + 1) f args σ v σ' :=
  Call.introG hd (.ret hb) (fun {μ ν h h' val} hl H H' r => by rw [← hl] at hf hc; exact ⟨H'.frz hc, r.frz H' hf⟩) hbind hvar hnd hlen hk hco hgen
/-- a def that makes no cell -/
theorem Call.intro0 {f : Str} {pa : Arguments} {body : List Stmt} {args : List V} {σ' : List Cell} (hd : theDefIn f PySem.Challenge.pw_xm0157_01.main.body = some ⟨pa, body, sc⟩)
    (hb : Exs C d sc body ((pa.args.map (·.arg)).zip args) σ (.ret v σ')) (hsz : σ'.length = σ.length)
    (hbind : ∀ pm cd doc vals, vals.length = args.length → bindArgs (Calls.docDef f pa body sc pm cd doc) ⟨vals, []⟩ = pure ((pa.args.map (·.arg)).zip vals))
    (hvar : (pa.args.map (·.arg)).all (isVar sc) = true) (hnd : (pa.args.map (·.arg)).Nodup) (hlen : pa.args.length = args.length)
    (hk : sc.kind = .function) (hco : sc.isCoroutine = false) (hgen : sc.isGenerator = false) : Call C (d + 1) f args σ v σ' :=
  Call.introG hd (.ret hb) (fun {μ ν h h' val} hl H H' r => by
    have e : ν = [] := by
      have := H'.len
      rw [List.length_append, hl, hsz] at this
      exact List.eq_nil_of_length_eq_zero (by omega)
    subst e
    rw [List.append_nil] at H' r
    exact ⟨H', r⟩) hbind hvar hnd hlen hk hco hgen
/-- a def that falls off its end -/
theorem Call.introN {f : Str} {pa : Arguments} {body : List Stmt} {args : List V} {σ' : List Cell} (hd : theDefIn f PySem.Challenge.pw_xm0157_01.main.body = some ⟨pa, body, sc⟩)
    (hb : Exs C d sc body ((pa.args.map (·.arg)).zip args) σ (.next ρ σ')) (hsz : σ'.length = σ.length)
    (hbind : ∀ pm cd doc vals, vals.length = args.length → bindArgs (Calls.docDef f pa body sc pm cd doc) ⟨vals, []⟩ = pure ((pa.args.map (·.arg)).zip vals))
    (hvar : (pa.args.map (·.arg)).all (isVar sc) = true) (hnd : (pa.args.map (·.arg)).Nodup) (hlen : pa.args.length = args.length)
    (hk : sc.kind = .function) (hco : sc.isCoroutine = false) (hgen : sc.isGenerator = false) : Call C (d + 1) f args σ .none σ' :=
  Call.introG hd (.next hb) (fun {μ ν h h' val} hl H H' r => by
    have e : ν = [] := by
      have := H'.len
      rw [List.length_append, hl, hsz] at this
      exact List.eq_nil_of_length_eq_zero (by omega)
    subst e
    rw [List.append_nil] at H' r
    exact ⟨H', r⟩) hbind hvar hnd hlen hk hco hgen
/-! refs that stand in the cells are old ones -/
mutual
theorem Rep.frzOld {μ h cs} : ∀ {v : V} {x : Value}, Rep μ h v x → Frz μ.length cs v v
  | _, _, .none => .none
  | _, _, .bool b => .bool b
  | _, _, .int i t => .int i
  | _, _, .tup _ _ r => .tup (RepL.frzOld r)
  | _, _, .lst _ _ r => .lst (RepL.frzOld r)
  | _, _, .ref e => .old (List.getElem?_eq_some_iff.mp e).1
theorem RepL.frzOld {μ h cs} : ∀ {vs : List V} {xs : List Value}, RepL μ h vs xs → FrzL μ.length cs vs vs
  | _, _, .nil => .nil
  | _, _, .cons a r => .cons (Rep.frzOld a) (RepL.frzOld r)
end
theorem frzC_all {k : Nat} {cs : List Cell} : ∀ (l : List Cell), (∀ vs, Cell.lst vs ∈ l → FrzL k cs vs vs) → FrzC k cs l l
  | [], _ => .nil
  | .lst vs :: l, h => .lst (h vs (.head _)) (frzC_all l fun us m => h us (.tail _ m))
  | .dic ks :: l, h => .dic (frzC_all l fun us m => h us (.tail _ m))
theorem HI.frzOld {μ h cs} (H : HI C σ μ h) : FrzC μ.length cs σ σ := frzC_all σ fun vs m => by
  obtain ⟨i, e⟩ := List.getElem?_of_mem m
  have hi : i < μ.length := H.len ▸ (List.getElem?_eq_some_iff.mp e).1
  obtain ⟨xs, n, _, q, _⟩ := H.cells i _ _ (List.getElem?_eq_getElem hi) e
  exact q.frzOld
/-- a def that makes cells of its own and lets the others be -/
theorem Call.introP {f : Str} {pa : Arguments} {body : List Stmt} {args : List V} {cs : List Cell} (hd : theDefIn f PySem.Challenge.pw_xm0157_01.main.body = some ⟨pa, body, sc⟩)
    (hb : Exs C d sc body ((pa.args.map (·.arg)).zip args) σ (.ret v₁ (σ ++ cs))) (hf : Frz σ.length (σ ++ cs) v₁ v)
    (hbind : ∀ pm cd doc vals, vals.length = args.length → bindArgs (Calls.docDef f pa body sc pm cd doc) ⟨vals, []⟩ = pure ((pa.args.map (·.arg)).zip vals))
    (hvar : (pa.args.map (·.arg)).all (isVar sc) = true) (hnd : (pa.args.map (·.arg)).Nodup) (hlen : pa.args.length = args.length)
    (hk : sc.kind = .function) (hco : sc.isCoroutine = false) (hgen : sc.isGenerator = false) : Call C (d + 1) f args σ v σ :=
  Call.introG hd (.ret hb) (fun {μ ν h h' val} hl H H' r => by
    rw [← hl] at hf
    refine ⟨H'.frz ?_, r.frz H' hf⟩
    rw [hl, List.take_left, ← hl]
    exact H.frzOld) hbind hvar hnd hlen hk hco hgen
/-! ## while -/
noncomputable def PostC (C : Cx) (sc : Scope) (d : Nat) (A : Around) (env : Env) (out : Out) (μ : List Addr) (s : Shared) (r : Result) (s' : Shared) : Prop :=
  ∃ f, r = .ok f ∧ PostS C sc d A env out μ s f s'
theorem PostC.after {μ₁ s₁ out f s₂} (st : Step (Own env) μ μ₁ s s₁) (p : PostC C sc d A env out μ₁ s₁ f s₂) : PostC C sc d A env out μ s f s₂ := by
  obtain ⟨f, e, q⟩ := p; exact ⟨f, e, q.after st⟩
structure Wh (C : Cx) (d : Nat) (sc : Scope) (t : Expr) (b : List Stmt) (ρ : List (Str × V)) (σ : List Cell) (out : Out) : Prop where
  run : ∀ {A env μ s}, Sit C sc d A env ρ σ μ s → codeAny (model C.prog C.w) A (.whileLoop t b [] env) (PostC C sc d A env out μ s) s
/-- one turn of the loop -/
theorem while_turn {t b} {R : Result → Shared → Prop} (h : wpAny (model C.prog C.w) A (isTrue t env (eval t env)) (fun c s₂ =>
      if c = true then wpAny (model C.prog C.w) A (execs b env) (fun f s₃ => match f with
        | .next | .cont => codeAny (model C.prog C.w) A (.whileLoop t b [] env) R s₃
        | .brk => R (.ok .next) s₃
        | .ret v => R (.ok (.ret v)) s₃) NoE s₂
      else wpAny (model C.prog C.w) A (execs [] env) (fun f s₃ => R (.ok f) s₃) NoE s₂) NoE s) : codeAny (model C.prog C.w) A (.whileLoop t b [] env) R s := by
  refine codeAny_of_tree ?_
  show wpAny _ A ((whileTurn t b [] env).onRaise (fun x => do noteFrame x env; theTreesLotGoes x)) _ _ s
  refine wpAny_noted ?_
  simp only [whileTurn]
  refine wpAny_bind (wpAny_mono h (fun c s₂ h₂ => ?_) fun _ _ f => f.elim)
  cases c with
  | false =>
    simp only [Bool.false_eq_true, if_false] at h₂ ⊢
    exact wpAny_bind (wpAny_mono h₂ (fun f s₃ h₃ => wpAny_pure h₃) fun _ _ f => f.elim)
  | true =>
    simp only [if_true] at h₂ ⊢
    refine wpAny_bind (wpAny_mono h₂ (fun f s₃ h₃ => ?_) fun _ _ f => f.elim)
    cases f with
    | next => exact wpAny_pure ⟨rfl, h₃⟩
    | cont => exact wpAny_pure ⟨rfl, h₃⟩
    | brk => exact wpAny_pure h₃
    | ret v => exact wpAny_pure h₃
theorem Wh.done {t b} (h : Tr C d sc t ρ σ false σ₁) : Wh C d sc t b ρ σ (.next ρ σ₁) := .mk <| fun S =>
  while_turn (h.use S fun _ _ st S' => by rw [if_neg Bool.false_ne_true]; exact wpAny_execs_nil ⟨_, rfl, rfl, _, st.own, S'⟩)
theorem Wh.turn {t b out} (h : Tr C d sc t ρ σ true σ₁) (hb : Exs C d sc b ρ σ₁ (.next ρ₂ σ₂)) (hw : Wh C d sc t b ρ₂ σ₂ out) : Wh C d sc t b ρ σ out := .mk <| fun S =>
  while_turn (h.use S fun _ _ st S' => by
    rw [if_pos rfl]
    refine wpAny_mono (hb.run S') (fun f _ ⟨e, _, st', S''⟩ => ?_) fun _ _ f => f
    subst e
    exact codeAny_mono (hw.run S'') fun _ _ p => (p.after st').after st.own)
theorem Wh.ret {t b} (h : Tr C d sc t ρ σ true σ₁) (hb : Exs C d sc b ρ σ₁ (.ret v σ₂)) : Wh C d sc t b ρ σ (.ret v σ₂) := .mk <| fun S =>
  while_turn (h.use S fun _ _ st S' => by
    rw [if_pos rfl]
    refine wpAny_mono (hb.run S') (fun f _ p => ?_) fun _ _ f => f
    obtain ⟨val, e, r⟩ := id p
    subst e
    exact ⟨_, rfl, p.after st.own⟩)
theorem Ex.while {t b pos out} (h : Wh C d sc t b ρ σ out) : Ex C d sc (.While t b [] pos) ρ σ out := .mk <| fun S =>
  wpAny_While (codeAny_mono (h.run S) fun r s' ⟨f, e, p⟩ => by subst e; exact p)
end
end
section

theorem extBut_grow {s : Shared} {h' : Heap} (h : Heap.ExtBut s.heap.objs.size s.heap h') : Grow s { s with heap := h' } :=
  ⟨⟨_, _, rfl⟩, fun b o e => h b o (Nat.ne_of_lt (Heap.lt_size e)) e⟩
noncomputable def updAll (ρ : List (Str × V)) : List (Str × V) → List (Str × V)
  | [] => ρ
  | (x, v) :: r => updAll (upd ρ x v) r
section
variable {C : Cx} {d : Nat} {sc : Scope} {A : Around} {env : Env} {ρ ρ₁ ρ₂ : List (Str × V)} {σ σ₁ σ₂ σ₃ : List Cell} {μ : List Addr} {s : Shared} {v v₁ v₂ : V} {vs ws : List V}
theorem Sit.stillS (S : Sit C sc d A env ρ σ μ s) {μ' s'} (st : Step (Own env) μ μ' s s') : Still μ s.heap μ' s'.heap := st.still S.env.ownData
/-! ## targets -/
structure As (C : Cx) (d : Nat) (sc : Scope) (t : Expr) (v : V) (ρ : List (Str × V)) (σ : List Cell) (ρ' : List (Str × V)) (σ' : List Cell) : Prop where
  run : ∀ {A env μ s val}, Sit C sc d A env ρ σ μ s → Rep μ s.heap v val → wpAny (model C.prog C.w) A (assign t env val) (fun _ s' => ∃ μ', Step (Own env) μ μ' s s' ∧ Sit C sc d A env ρ' σ' μ' s') NoE s
structure AsL (C : Cx) (d : Nat) (sc : Scope) (ts : List Expr) (vs : List V) (ρ : List (Str × V)) (σ : List Cell) (ρ' : List (Str × V)) (σ' : List Cell) : Prop where
  run : ∀ {A env μ s xs}, Sit C sc d A env ρ σ μ s → RepL μ s.heap vs xs → wpAny (model C.prog C.w) A (assignInOrder ((assignEach ts env).map (·.2)) xs) (fun _ s' => ∃ μ', Step (Own env) μ μ' s s' ∧ Sit C sc d A env ρ' σ' μ' s') NoE s
theorem As.name {x p} (hx : isVar sc x = true := by rfl) : As C d sc (.Name x p) v ρ σ (upd ρ x v) σ := .mk <| fun S r =>
  wpAny_assign_Name (S.store r hx fun _ st S' => ⟨_, st, S'⟩)
theorem AsL.nil : AsL C d sc [] [] ρ σ ρ σ := .mk <| fun S _ => by
  show wpAny _ _ (assignInOrder [] _) _ _ _
  unfold assignInOrder
  exact wpAny_pure ⟨_, Step.refl, S⟩
noncomputable abbrev NoStarT (t : Expr) : Prop := ∀ ts env, assignEach (t :: ts) env = (false, assign t env) :: assignEach ts env
theorem AsL.cons {t ts} (h1 : As C d sc t v ρ σ ρ₁ σ₁) (h2 : AsL C d sc ts vs ρ₁ σ₁ ρ₂ σ₂) (hs : NoStarT t := by intro _ _; rfl) : AsL C d sc (t :: ts) (v :: vs) ρ σ ρ₂ σ₂ := .mk <| fun {A env μ s xs} S r => by
  rw [hs ts env]
  cases r with
  | cons a r => exact wpAny_assignInOrder_more (wpAny_mono (h1.run S a) (fun _ _ ⟨_, st, S'⟩ => wpAny_mono (h2.run S' (r.still (S.stillS st))) (fun _ _ ⟨_, st', S''⟩ => ⟨_, st.trans st', S''⟩) fun _ _ f => f) fun _ _ f => f)
noncomputable abbrev Plain (ts : List Expr) (n : Nat) : Prop := ∀ env, (assignEach ts env).length = n ∧ List.findIdx? (fun x => x.1) (assignEach ts env) = none
theorem As.tuple {ts k p} (h : AsL C d sc ts vs ρ σ ρ₁ σ₁) (hp : Plain ts vs.length := by intro _; exact ⟨rfl, rfl⟩) : As C d sc (.Tuple ts k p) (.tup vs) ρ σ ρ₁ σ₁ := .mk <| fun {A env μ s val} S r => by
  cases r with
  | tup ht hm q =>
    rename_i a xs
    refine wpAny_assign_Tuple S.lim.1 ht ((hp env).1.trans (q.length.trans (List.size_toArray ..).symm)) (hp env).2 fun h' hx => ?_
    have g := extBut_grow hx
    refine wpAny_mono (h.run (S.grow g) (by simpa using q.still g.still)) (fun _ _ ⟨_, st, S'⟩ => ⟨_, (g.step (X := Own env)).trans st, S'⟩) fun _ _ f => f
/-- a list taken apart -/
theorem As.tupleL {ts k p} (h : AsL C d sc ts vs ρ σ ρ₁ σ₁) (hp : Plain ts vs.length := by intro _; exact ⟨rfl, rfl⟩) : As C d sc (.Tuple ts k p) (.lst vs) ρ σ ρ₁ σ₁ := .mk <| fun {A env μ s val} S r => by
  obtain ⟨a, xs, rfl, il, q⟩ := lst_at S.heap r rfl
  rw [assign_Tuple]
  refine wpAny_bind (wpAny_standAt ?_)
  unfold unpack
  have e : (assignEach ts env).length = xs.toArray.size := (hp env).1.trans (q.length.trans (List.size_toArray ..).symm)
  rw [e, (hp env).2]
  refine wpAny_bind (wpAny_holding (kun_itemsOf S.lim.1 il fun h' hx => ?_))
  have g := extBut_grow hx
  refine wpAny_mono (h.run (S.grow g) (by simpa using q.still g.still)) (fun _ _ ⟨_, st, S'⟩ => ⟨_, (g.step (X := Own env)).trans st, S'⟩) fun _ _ f => f
/-- t1, t2 = value -/
theorem Ex.unpack {ts k p e pos} (h : Ev C d sc e ρ σ v σ₁) (ht : As C d sc (.Tuple ts k p) v ρ σ₁ ρ₂ σ₂)
    (hs : ∀ env, swapsWithSole [.Tuple ts k p] e pos.line env = pure false := by intro _; rfl) (hw : ∀ env, env.scope = sc → swappedStores [.Tuple ts k p] e env = pure none := by intro e h; cases e; cases h; rfl) :
    Ex C d sc (.Assign [.Tuple ts k p] e pos) ρ σ (.next ρ₂ σ₂) := .mk <| fun {A env μ s} S =>
  Assign_Tuple (h.use S fun _ _ _ st S' r => wpAny_mono (ht.run S' r) (fun _ _ ⟨_, st', S''⟩ => ⟨rfl, _, st.own.trans st', S''⟩) fun _ _ f => f) (hs env) (hw env S.sc)
theorem useStores (names : List Str) : ∀ (vs : List V) (ρ : List (Str × V)) (s : Shared) (xs : List Value), Sit C sc d A env ρ σ μ s → RepL μ s.heap vs xs → names.all (isVar sc) = true → names.length = vs.length →
    ∀ (Q : Unit → Shared → Prop), (∀ s', Step (Own env) μ μ s s' → Sit C sc d A env (updAll ρ (names.zip vs)) σ μ s' → Q () s') → wpAny (model C.prog C.w) A (assignInOrder (names.map fun n => bindName env n) xs) Q NoE s := by
  induction names with
  | nil =>
    intro vs ρ s xs S r _ hl Q k
    cases vs with
    | cons _ _ => simp at hl
    | nil =>
      show wpAny _ _ (assignInOrder [] _) _ _ _
      unfold assignInOrder
      exact wpAny_pure (k s Step.refl S)
  | cons n ns ih =>
    intro vs ρ s xs S r hv hl Q k
    cases vs with
    | nil => simp at hl
    | cons v vs =>
      cases r with
      | cons a r =>
        rw [List.all_cons, Bool.and_eq_true] at hv
        rw [List.map_cons]
        refine wpAny_assignInOrder_more (wpAny_bindName (S.store a hv.1 fun s' st S' => ?_))
        exact ih vs (upd ρ n v) s' _ S' (r.still (S.stillS st)) hv.2 (by simpa using hl) Q fun s'' st' S'' => k s'' (st.trans st') S''
theorem RepL.rev {μ h} {vs : List V} {xs : List Value} (r : RepL μ h vs xs) : RepL μ h vs.reverse xs.reverse := r.reverse
/-- x, y = e1, e2 to names of the frame, stored from the last on -/
theorem Ex.swap {ts k p e pos} {names : List Str} (h : Ev C d sc e ρ σ (.tup vs) σ₁) (hv : names.reverse.all (isVar sc) = true) (hl : vs.length = names.length)
    (hw : ∀ env, env.scope = sc → swappedStores [.Tuple ts k p] e env = pure (some names))
    (hs : ∀ env, swapsWithSole [.Tuple ts k p] e pos.line env = pure false := by intro _; rfl) : Ex C d sc (.Assign [.Tuple ts k p] e pos) ρ σ (.next (updAll ρ (names.reverse.zip vs.reverse)) σ₁) := .mk <| fun {A env μ s} S =>
  Assign_Tuple_swapped (h.use S fun _ _ _ st S' r => by
    cases r with
    | tup ht hm q =>
      rename_i a xs
      have e : names.length = xs.toArray.size := by rw [← hl, q.length, List.size_toArray]
      rw [e]
      refine wpAny_unpackItems_tuple S'.lim.1 ht fun h' hx => ?_
      have g := extBut_grow hx
      exact useStores names.reverse vs.reverse _ _ xs.reverse (S'.grow g) (q.still g.still).rev hv (by simp [hl]) _ fun _ st' S'' => ⟨rfl, _, (st.own.trans g.step).trans st', S''⟩) (hs env) (hw env S.sc)
/-! ## cells written -/
theorem setCell {s s' : Shared} {a : Addr} {i : Nat} {c : Cell} (S : Sit C sc d A env ρ σ μ s) (hi : μ[i]? = some a) (hsame : ∃ h tk, s' = { s with heap := h, toks := tk }) (hk : ∀ b, b ≠ a → s'.heap.get? b = s.heap.get? b)
    (hlive : ∃ o, s'.heap.get? a = some o) (hc : CellRep C μ s'.heap a c) : Step (Loc env) μ μ s s' ∧ Sit C sc d A env ρ (σ.set i c) μ s' := by
  have ha : a ∈ μ := List.mem_of_getElem? hi
  have st : Step (fun _ => False) μ μ s s' := ⟨hsame, fun b o _ hm e => (hk b fun q => hm (q ▸ ha)).trans e, fun b o e => by
    by_cases q : b = a
    · subst q; exact hlive
    · exact ⟨o, (hk b q).trans e⟩, [], by simp, fun _ m => nomatch m⟩
  have K : Still μ s.heap μ s'.heap := st.still fun _ _ h => h.elim
  refine ⟨st.mono fun _ h => h.elim, S.wd, S.lim, S.sc, S.env.step S.heap st (fun _ _ h => h.elim) (fun h => h) (fun _ _ _ h => h), ?_⟩
  refine ⟨fun b o e => (hk b fun q => ?_).trans (S.heap.base b o e), by rw [List.length_set]; exact S.heap.len, S.heap.nodup, S.heap.new, fun j b c' e1 e2 => ?_⟩
  · rw [q, S.heap.new a ha] at e; cases e
  · by_cases q : j = i
    · subst q
      rw [hi] at e1; cases e1
      have : j < σ.length := S.heap.len ▸ (List.getElem?_eq_some_iff.mp hi).1
      rw [List.getElem?_set_self this] at e2
      cases e2
      exact hc
    · rw [List.getElem?_set_ne (Ne.symm q)] at e2
      refine (S.heap.cells j b c' e1 e2).still K fun o e => (hk b fun z => q ?_).trans e
      subst z
      have h1 := (List.getElem?_eq_some_iff.mp e1)
      have h2 := (List.getElem?_eq_some_iff.mp hi)
      exact (List.getElem?_inj h1.1 S.heap.nodup).mp (e1.trans hi.symm)
theorem refAt {n val} (S : Sit C sc d A env ρ σ μ s) (r : Rep μ s.heap (.ref n) val) (hc : σ[n]? = some (.lst vs)) :
    ∃ a xs k, val = .ref a ∧ μ[n]? = some a ∧ s.heap.get? a = some (listOf (List.toArray xs) k) ∧ RepL μ s.heap vs xs ∧ xs.length ≤ 1000000 := by
  cases r with
  | ref e =>
    obtain ⟨xs, k, e', q, l⟩ := S.heap.cells n _ _ e hc
    exact ⟨_, xs, k, rfl, e, e', q, l⟩
/-- a list's cell changed by a rule -/
theorem updCell {a : Addr} {i : Nat} {xs ys : List Value} {k : Nat} (S : Sit C sc d A env ρ σ μ s) (hi : μ[i]? = some a) (ho : s.heap.get? a = some (listOf (List.toArray xs) k)) (f : Array Value → Array Value) (hf : f (List.toArray xs) = List.toArray ys)
    (r : RepL μ s.heap ws ys) (hl : ys.length ≤ 1000000) : Step (Loc env) μ μ s { s with heap := s.heap.update a (Obj.mapSeq f) } ∧ Sit C sc d A env ρ (σ.set i (.lst ws)) μ { s with heap := s.heap.update a (Obj.mapSeq f) } := by
  have q := PySem.IsL.update (show PySem.IsL s.heap a (List.toArray xs) k from ho) f
  have hk : ∀ b, b ≠ a → (s.heap.update a (Obj.mapSeq f)).get? b = s.heap.get? b := fun b hb => Heap.get?_update_other _ _ (Ne.symm hb)
  have hm : a ∈ μ := List.mem_of_getElem? hi
  have K : Still μ s.heap μ (s.heap.update a (Obj.mapSeq f)) := ⟨fun b o e _ hn => (hk b fun z => hn (z ▸ hm)).trans e, [], by simp, fun _ m => nomatch m⟩
  rw [hf] at q
  exact setCell S hi ⟨_, _, rfl⟩ hk ⟨_, q⟩ ⟨ys, _, q, r.still K, hl⟩
/-- xs[k] = v -/
theorem useSetItem {n k t val} {j : Nat} {lval : Value} (S : Sit C sc d A env ρ σ μ s) (rl : Rep μ s.heap (.ref n) lval) (hc : σ[n]? = some (.lst vs)) (rv : Rep μ s.heap v val) (hj : k = (j : Int)) (hlt : j < vs.length)
    {Q : Unit → Shared → Prop} (h : ∀ s', Step (Loc env) μ μ s s' → Sit C sc d A env ρ (σ.set n (.lst (vs.set j v))) μ s' → Q () s') :
    wpAny (model C.prog C.w) A (setItem lval (.int k t) val) Q NoE s := by
  obtain ⟨a, xs, m, rfl, hi, ho, q, l⟩ := refAt S rl hc
  subst hj
  have hx := q.length
  obtain ⟨st, S'⟩ := updCell (ys := xs.set j val) S hi ho (fun z => z.setIfInBounds j val) (by simp) (q.set j rv) (by rw [List.length_set]; exact l)
  exact ki_setAt ho (by omega) (by omega) (by rw [List.size_toArray]; omega) (h _ st S')
theorem As.item {o i p} {n j : Nat} {k : Int} (ho : Ev C d sc o ρ σ (.ref n) σ₁) (hi : Ev C d sc i ρ σ₁ (.int k) σ₂) (hc : σ₂[n]? = some (.lst vs)) (hj : k = (j : Int)) (hlt : j < vs.length)
    (ha : ∀ env val, assign (.Subscript o i p) env val = (do let ov ← holding [val] (eval o env); let iv ← holding [val, ov] (eval i env); standAt p; holding [val, ov, iv] (setItem ov iv val); release [val, ov, iv] []) := by intro _ _; rfl) :
    As C d sc (.Subscript o i p) v ρ σ ρ (σ₂.set n (.lst (vs.set j v))) := .mk <| fun {A env μ s val} S r => by
  rw [ha]
  refine wpAny_bind (wpAny_holding (ho.use S fun _ ov _ st₁ S₁ r₁ => wpAny_bind (wpAny_holding (hi.use S₁ fun _ iv _ st₂ S₂ r₂ => wpAny_bind (wpAny_standAt (wpAny_bind (wpAny_holding ?_)))))))
  have rv := (r.still (S.still st₁)).still (S₁.still st₂)
  have rl := r₁.still (S₁.still st₂)
  cases r₂
  exact useSetItem S₂ rl hc rv hj hlt fun s' st S' => wpAny_release ⟨_, ((st₁.trans st₂).trans st).own, S'⟩
end
end
section
open PyProof.V
theorem fitsIdx {j : Nat} (h : j ≤ 1000000) : ¬(!Builtin.List.listFitsIndex (j : Int)) = true := by
  have : Builtin.List.listFitsIndex (j : Int) = true := by
    unfold Builtin.List.listFitsIndex
    rw [Bool.and_eq_true, decide_eq_true_eq, decide_eq_true_eq]
    omega
  rw [this]; decide
theorem sameInt (a b : Int) : PySem.Spec.same (.int a) (.int b) = decide (a = b) := by
  rw [Bool.eq_iff_iff]; simp [PySem.Spec.same]
section
variable {C : Cx} {d : Nat} {sc : Scope} {A : Around} {env : Env} {ρ ρ₁ ρ₂ : List (Str × V)} {σ σ₁ σ₂ σ₃ : List Cell} {μ : List Addr} {s : Shared} {v v₁ v₂ : V} {vs ws : List V}
/-- o[i] = e -/
theorem Ex.setItem {o i p e pos} {n j : Nat} {k : Int} (he : Ev C d sc e ρ σ v σ₁) (ho : Ev C d sc o ρ σ₁ (.ref n) σ₂) (hi : Ev C d sc i ρ σ₂ (.int k) σ₃) (hc : σ₃[n]? = some (.lst vs)) (hj : k = (j : Int)) (hlt : j < vs.length)
    (hs : ∀ env, swapsWith e (some (.Subscript o i p)) pos.line env = pure false := by intro _; rfl) : Ex C d sc (.Assign [.Subscript o i p] e pos) ρ σ (.next ρ (σ₃.set n (.lst (vs.set j v)))) := .mk <| fun S =>
  wpAny_Assign_Subscript (he.use S fun _ _ _ st S' r => ho.use S' fun _ _ _ st₁ S₁ r₁ => hi.use S₁ fun _ _ _ st₂ S₂ r₂ => by
    have rv := (r.still (S'.still st₁)).still (S₁.still st₂)
    have rl := r₁.still (S₁.still st₂)
    cases r₂
    exact useSetItem S₂ rl hc rv hj hlt fun s' st' S'' => ⟨rfl, _, (((st.trans st₁).trans st₂).trans st').own, S''⟩) (hs _)
noncomputable abbrev MethEq (o : Expr) (name : Str) (ap pos : Pos) (args : List Expr) : Prop :=
  ∃ pl : Env → Sem Bool, ∀ env, eval ((o.Attribute name ap).Call args [] pos) env = (do
    let ov ← eval o env
    standAt ap.atName
    let __x ← holding [ov] (getMethod ov name (pl env))
    match __x with
    | (f, first) => callWith pos f first (backTo pos (starEach args env)) (backToKw pos (keywordEach [] env)))
theorem rep1 {μ h} {xs : List Value} (r : RepL μ h [v] xs) : ∃ x, xs = [x] ∧ Rep μ h v x := by
  cases r with
  | cons a r => cases r; exact ⟨_, rfl, a⟩
theorem rep2 {μ h} {xs : List Value} (r : RepL μ h [v, v₁] xs) : ∃ x y, xs = [x, y] ∧ Rep μ h v x ∧ Rep μ h v₁ y := by
  cases r with
  | cons a r => cases r with
    | cons b r => cases r; exact ⟨_, _, rfl, a, b⟩
theorem listDict {n us val} (S : Sit C sc d A env ρ σ μ s) (r : Rep μ s.heap (.ref n) val) (hc : σ[n]? = some (.lst us)) : ∃ a o, val = .ref a ∧ s.heap.get? a = some o ∧ o.cls = .type "list" ∧ o.dict = none := by
  obtain ⟨a, xs, k, rfl, _, ho, _⟩ := refAt S r hc
  exact ⟨a, _, rfl, ho, rfl, rfl⟩
/-- l.append(e) -/
theorem Ex.append {o ap p e pos} {n : Nat} {us : List V} (ho : Ev C d sc o ρ σ (.ref n) σ₁) (h1 : σ₁[n]? = some (.lst us)) (he : Ev C d sc e ρ σ₁ v σ₂) (hc : σ₂[n]? = some (.lst vs)) (hl : vs.length < 1000000)
    (hm : MethEq o "append" ap p [e] := by exact ⟨_, fun _ => by with_unfolding_all rfl⟩) (hs : NoStar e := by intro _ _; rfl)
    (hi : sc.kind = .function := by rfl) (hw : ∀ env, swapsWith ((o.Attribute "append" ap).Call [e] [] p) none pos.line env = pure false := by intro _; rfl) :
    Ex C d sc (.Expr ((o.Attribute "append" ap).Call [e] [] p) pos) ρ σ (.next ρ (σ₂.set n (.lst (vs ++ [v])))) := .mk <| fun {A env μ s} S => by
  obtain ⟨pl, hm⟩ := hm
  refine wpAny_Expr_any (methodCall_KW (pl := pl env) (ho.use S fun _ ov s₁ st S' r => ?_) (hm env)) (by unfold interactive; rw [S.sc, hi]; rfl) (hw env)
  obtain ⟨a, oo, rfl, hob, hcl, hdi⟩ := listDict S' r h1
  refine getMethod_list_append hob hcl hdi (PyProof.Rows.callWith_method1 (EvL.use (he.arg hs) S' fun _ xs s₂ st₂ S₂ r₂ => ?_) (hs _ _) rfl)
  obtain ⟨xv, rfl, rv⟩ := rep1 r₂
  · have rl := r.still (S'.still st₂)
    obtain ⟨a', xs, m, e', hi', ho', q, l⟩ := refAt S₂ rl hc
    cases e'
    obtain ⟨st', S''⟩ := updCell (ys := xs ++ [xv]) S₂ hi' ho' (fun z => z.push xv) (by simp) (q.append (.one rv)) (by rw [List.length_append]; have := q.length; simp only [List.length_cons, List.length_nil]; omega)
    refine call_meets PySem.F.slot_list_append ⟨_, ho', rfl⟩ PySem.F.entry_list_append (PySem.F.args_list_append_2 _ _) (AutoListH.list_append_list_val_0 a xs.toArray m _ (by rw [List.size_toArray]; show _ ≤ 2 ^ 24; omega)) ⟨ho', ?_⟩
    exact ⟨rfl, _, ((st.trans st₂).trans st').own, S''⟩
/-- l.insert(k, e), k within -/
theorem Ex.insert {o ap p e i pos} {n j : Nat} {k : Int} {us : List V} (ho : Ev C d sc o ρ σ (.ref n) σ₁) (h1 : σ₁[n]? = some (.lst us)) (hi : Ev C d sc i ρ σ₁ (.int k) σ₂) (he : Ev C d sc e ρ σ₂ v σ₃) (hc : σ₃[n]? = some (.lst vs)) (hl : vs.length < 1000000)
    (hj : k = (j : Int)) (hlt : j ≤ vs.length)
    (hm : MethEq o "insert" ap p [i, e] := by exact ⟨_, fun _ => by with_unfolding_all rfl⟩) (hs : NoStar i := by intro _ _; rfl) (hs' : NoStar e := by intro _ _; rfl) (ha : NoStars [e] := by intro _ _; rfl)
    (hin : sc.kind = .function := by rfl) (hw : ∀ env, swapsWith ((o.Attribute "insert" ap).Call [i, e] [] p) none pos.line env = pure false := by intro _; rfl) :
    Ex C d sc (.Expr ((o.Attribute "insert" ap).Call [i, e] [] p) pos) ρ σ (.next ρ (σ₃.set n (.lst (vs.take j ++ v :: vs.drop j)))) := .mk <| fun {A env μ s} S => by
  obtain ⟨pl, hm⟩ := hm
  refine wpAny_Expr_any (methodCall_KW (pl := pl env) (ho.use S fun _ ov s₁ st S' r => ?_) (hm env)) (by unfold interactive; rw [S.sc, hin]; rfl) (hw env)
  obtain ⟨a, oo, rfl, hob, hcl, hdi⟩ := listDict S' r h1
  refine getMethod_builtin (T := "list") (id := "list.insert") ⟨_, hob, hcl⟩ PySem.F.plainAttrs_list PySem.F.slot_list_insert PySem.F.type_list_insert (fun b e => by cases e; exact ⟨oo, hob, hdi⟩)
    (PyProof.Rows.callWith_method1 (EvL.use (hi.arg2 he hs hs') S' fun _ xs s₂ st₂ S₂ r₂ => ?_) (hs _ _) (ha _ _))
  obtain ⟨xi, xv, rfl, ri, rv⟩ := rep2 r₂
  · · obtain ⟨tk, rfl⟩ : ∃ tk, xi = .int k tk := by cases ri; exact ⟨_, rfl⟩
      have rl := r.still (S'.still st₂)
      obtain ⟨a', xs, m, e', hi', ho', q, l⟩ := refAt S₂ rl hc
      cases e'
      have hx := q.length
      obtain ⟨st', S''⟩ := updCell (ys := xs.take j ++ xv :: xs.drop j) S₂ hi' ho' (fun zs => have q := if k < 0 then (k + ((zs.size : Nat) : Int)).toNat else min k.toNat zs.size; (zs.extract 0 q).push xv ++ zs.extract q) (by
          apply Array.toList_inj.mp
          have h0 : ¬ (k < 0) := by omega
          have hmin : min k.toNat xs.length = j := by omega
          have htk : List.take (xs.length - j) (List.drop j xs) = List.drop j xs := List.take_of_length_le (by simp)
          simp [h0, hmin, htk]) ((q.take j).append (.cons rv (q.drop j))) (by simp only [List.length_append, List.length_cons, List.length_take, List.length_drop]; omega)
      have hz : xs.toArray.size ≤ sizeLine := by rw [List.size_toArray]; show _ ≤ 2 ^ 24; omega
      have hj1 : j ≤ 1000000 := Nat.le_trans hlt (Nat.le_of_lt hl)
      have hfi : ¬(!Builtin.List.listFitsIndex k) = true := by rw [hj]; exact fitsIdx hj1
      have M := PySem.AutoSeq1.list_insert_list_int_val_1 a xs.toArray m k tk xv hfi hz
      refine call_meets PySem.F.slot_list_insert ⟨_, ho', rfl⟩ PySem.F.entry_list_insert (PySem.F.args_list_insert_3 _ _ _) M ⟨ho', ?_⟩
      exact ⟨rfl, _, ((st.trans st₂).trans st').own, S''⟩
/-! ## the dict whose keys are tuples of ints -/
theorem Sit.notSys (S : Sit C sc d A env ρ σ μ s) : (s.heap.objs.size == sysModules) = false := by
  obtain ⟨mc, ⟨o, _, _, e, _⟩, _⟩ := S.wd.nolimit
  have h : cStatics < s.heap.objs.size := Heap.lt_size (S.heap.base _ _ e)
  refine beq_false_of_ne fun q => ?_
  rw [q] at h
  exact absurd h (by decide)
theorem Ev.dict0 {pos} : Ev C d sc (.Dict [] [] pos) ρ σ (.ref σ.length) (σ ++ [.dic []]) := .mk <| fun {A env μ s} S =>
  wpAny_Dict_empty (Post.newCell (c := .dic []) S Grow.push fresh_of ⟨S.notSys, [], ⟨_, _, _, Heap.get?_push_size _ rfl, ⟨rfl, rfl, rfl⟩, rfl, rfl, (fun _ h => by cases h), List.nodup_nil⟩, rfl, fun _ h => by cases h⟩)
noncomputable def boolTab (xs : List (List Int × Addr × Value)) : List (PyData × PyData) := xs.map fun x => (encTuple PyData.int x.1, .bool true)
theorem boolTab_flat : ∀ {xs : List (List Int × Addr × Value)}, (∀ x ∈ xs, x.2.2 = Value.bool true) → FlatPairs (encTuple PyData.int) (kvsOf xs) (boolTab xs)
  | [], _ => .nil
  | x :: r, h => by
    have e := h x (.head _)
    refine .cons ?_ (boolTab_flat fun y hy => h y (.tail _ hy))
    rw [e]; exact .bool _
theorem boolTab_look (k : List Int) : ∀ (xs : List (List Int × Addr × Value)), (lookup (encTuple PyData.int k) (boolTab xs)).isSome = (xs.map (·.1)).contains k
  | [] => rfl
  | x :: r => by
    have he : same (encTuple PyData.int x.1) (encTuple PyData.int k) = decide (x.1 = k) := same_encTuple sameInt _ _
    show (if same (encTuple PyData.int x.1) (encTuple PyData.int k) = true then some (PyData.bool true) else lookup (encTuple PyData.int k) (boolTab r)).isSome = _
    rw [he, List.map_cons, List.contains_cons]
    by_cases q : x.1 = k
    · simp [q]
    · rw [decide_eq_false q, if_neg Bool.false_ne_true, boolTab_look k r, beq_false_of_ne (Ne.symm q), Bool.false_or]
theorem items_of {μ h} : ∀ {ks : List Int} {xs : List Value}, RepL μ h (ks.map V.int) xs → PySem.ItemsAre (intKind C.prog C.w) ks xs
  | [], _, .nil => .nil
  | _ :: _, _, .cons (.int _ _) r => .cons (by simp [intKind, Value.isInt]) (items_of r)
theorem keyAt {ks : List Int} {val} (r : Rep μ s.heap (.tup (ks.map V.int)) val) : ∃ a, val = .ref a ∧ a ∉ μ ∧ IsTupleKey (intKind C.prog C.w) s.heap ks a := by
  cases r with
  | tup ht hm q => obtain ⟨o, e, c, n, dd⟩ := ht; exact ⟨_, rfl, hm, o, _, n, e, c, dd, by simpa using items_of q⟩
theorem dicAt {n val ks} (S : Sit C sc d A env ρ σ μ s) (r : Rep μ s.heap (.ref n) val) (hc : σ[n]? = some (.dic ks)) : ∃ a, val = .ref a ∧ μ[n]? = some a ∧ DicRep C μ s.heap a ks := by
  cases r with
  | ref e => exact ⟨_, rfl, e, S.heap.cells n _ _ e hc⟩
theorem Tr.notInDic {l r pos} {n : Nat} {k : List Int} {ks : List (List Int)} (h1 : Ev C d sc l ρ σ (.tup (k.map V.int)) σ₁) (h2 : Ev C d sc r ρ σ₁ (.ref n) σ₂) (hc : σ₂[n]? = some (.dic ks)) (hm : behindInMarks .NotIn r = false := by rfl) :
    Tr C d sc (.Compare l [.NotIn] [r] pos) ρ σ (!ks.contains k) σ₂ := .mk <| fun S =>
  wpAny_isTrue_Compare1 (h1.use S fun _ _ _ st₁ S₁ r₁ => h2.use S₁ fun _ _ s₂ st₂ S₂ r₂ => by
    obtain ⟨a, rfl, _, hk⟩ := keyAt (C := C) (r₁.still (S₁.still st₂))
    obtain ⟨b, rfl, _, lo, xs, hd, hm, hv⟩ := dicAt S₂ r₂ hc
    refine notin_tabH (knd := tupleKind (intKind C.prog C.w)) (enc := encTuple PyData.int) (D := boolTab xs) (same_encTuple sameInt) (tupleKind_room_in1 (by have := S₂.lim.units; omega)) hk ⟨lo, xs, hd, boolTab_flat fun x hx => (hv x hx).1⟩ (wpAny_truthy_bool ?_)
    rw [boolTab_look, hm]
    exact ((PostT.grow S₂ Grow.toks).after st₂).after st₁) hm
/-- d[k] = True, k new -/
theorem Ex.dicSet {o i p pos kk kp} {n : Nat} {k : List Int} {ks : List (List Int)} (ho : Ev C d sc o ρ σ (.ref n) σ₁) (hi : Ev C d sc i ρ σ₁ (.tup (k.map V.int)) σ₂) (hc : σ₂[n]? = some (.dic ks)) (hnew : ks.contains k = false) (hl : ks.length ≤ 1000000)
    (hs : ∀ env, swapsWith (.Constant (.bool true) kk kp) (some (.Subscript o i p)) pos.line env = pure false := by intro _; rfl) : Ex C d sc (.Assign [.Subscript o i p] (.Constant (.bool true) kk kp) pos) ρ σ (.next ρ (σ₂.set n (.dic (ks ++ [k])))) := .mk <| fun S =>
  wpAny_Assign_Subscript (Ev.cBool.use S fun _ _ _ st S' r => ho.use S' fun _ _ _ st₁ S₁ r₁ => hi.use S₁ fun _ _ s₂ st₂ S₂ r₂ => by
    cases r
    obtain ⟨a, rfl, ha, hk⟩ := keyAt (C := C) r₂
    obtain ⟨b, rfl, hb, lo, xs, hd, hm, hv⟩ := dicAt S₂ (r₁.still (S₁.still st₂)) hc
    have hx : xs.length ≤ 1000000 := by rw [← hm, List.length_map] at hl; exact hl
    refine wpAny_setItem_heap (hsz := by show _ ≤ 2 ^ 24; omega) (knd := tupleKind (intKind C.prog C.w)) (tupleKind_room_in1 (by have := S₂.lim.units; omega)) hk hd fun h' hd' hb' => ?_
    have hat : atKey xs k = none := by
      rw [← hm] at hnew
      unfold atKey
      rw [Option.map_eq_none_iff, List.find?_eq_none]
      intro x hx q
      have : k ∈ xs.map (·.1) := List.mem_map.mpr ⟨x, hx, of_decide_eq_true q⟩
      rw [List.contains_iff_mem.mpr this] at hnew
      cases hnew
    rw [storedH_new hat] at hd'
    have hset := setCell (s' := { s₂ with heap := h', toks := s₂.toks + (tupleKind (intKind C.prog C.w)).draws k }) (c := .dic (ks ++ [k])) S₂ hb ⟨_, _, rfl⟩ (fun c hc => hb'.2 c hc) (by obtain ⟨o, _, _, e, _⟩ := hd'; exact ⟨o, e⟩) ?_
    · exact ⟨rfl, _, (((st.trans st₁).trans st₂).trans hset.1).own, hset.2⟩
    · refine ⟨lo, _, hd', by rw [List.map_append, hm]; rfl, fun x hx => ?_⟩
      rcases List.mem_append.mp hx with q | q
      · exact hv x q
      · rw [List.mem_singleton.mp q]; exact ⟨rfl, ha⟩) (hs _)
end
end
section
open PyProof.V
/-! ## what a loop runs over -/
inductive Src where
  | lst (v : V) (i : Nat)
  | tup (vs : List V) (i : Nat)
  | rng (a : Int) (n : Nat)
  | enm (v : V) (i : Nat)
  | rev (vs : List V) (i : Nat)
noncomputable def Src.next (σ : List Cell) : Src → Option (V × Src)
  | .lst v i => match lstOf σ v with
    | some vs => match vs[i]? with
      | some x => some (x, .lst v (i + 1))
      | none => none
    | none => none
  | .tup vs i => match vs[i]? with
    | some x => some (x, .tup vs (i + 1))
    | none => none
  | .rng _ 0 => none
  | .rng a (n + 1) => some (.int a, .rng (a + 1) n)
  | .enm v i => match lstOf σ v with
    | some vs => match vs[i]? with
      | some x => some (.tup [.int i, x], .enm v (i + 1))
      | none => none
    | none => none
  | .rev _ 0 => none
  | .rev vs (i + 1) => match vs[i]? with
    | some x => some (x, .rev vs i)
    | none => none
/-- the source has come to its end -/
noncomputable def Src.over (σ : List Cell) : Src → Bool
  | .lst v i => match lstOf σ v with
    | some vs => match vs[i]? with
      | some _ => false
      | none => true
    | none => false
  | .tup vs i => match vs[i]? with
    | some _ => false
    | none => true
  | .rng _ 0 => true
  | .rng _ (_ + 1) => false
  | .enm v i => match lstOf σ v with
    | some vs => match vs[i]? with
      | some _ => false
      | none => true
    | none => false
  | .rev _ 0 => true
  | .rev _ (_ + 1) => false
noncomputable def SrcAt (μ : List Addr) (h : Heap) (it : Value) (Is : List Addr) : Src → Prop
  | .lst v i => ∃ I l, it = .ref I ∧ Is = [I] ∧ h.IsListIter I l i ∧ Rep μ h v (.ref l)
  | .tup vs i => ∃ I l, it = .ref I ∧ Is = [I] ∧ h.IsTupleIter I l i ∧ Rep μ h (.tup vs) (.ref l)
  | .rng a n => ∃ I, it = .ref I ∧ Is = [I] ∧ IsRangeIter h I a n 1
  | .enm v i => ∃ e I l old, it = .ref e ∧ Is = [e, I] ∧ e ≠ I ∧ IsEnum h e I (i : Int) old ∧ h.IsListIter I l i ∧ Rep μ h v (.ref l)
  | .rev vs i => ∃ I l, it = .ref I ∧ Is = [I] ∧ h.IsRevIter I l ((i : Int) - 1) ∧ Rep μ h (.lst vs) (.ref l)
/-- an object of plain fields: no list, no names, no cell -/
noncomputable def Fld (h : Heap) (b : Addr) : Prop := ∃ o vs, h.get? b = some o ∧ o.data = .fields vs
theorem SrcAt.fld {μ h it Is src} (a : SrcAt μ h it Is src) : ∀ b ∈ Is, Fld h b := by
  cases src with
  | lst v i =>
    obtain ⟨I, l, _, rfl, ⟨o, e, _, d⟩, _⟩ := a
    intro b m; rw [List.mem_singleton.mp m]; exact ⟨o, _, e, d⟩
  | tup vs i =>
    obtain ⟨I, l, _, rfl, ⟨o, e, _, d⟩, _⟩ := a
    intro b m; rw [List.mem_singleton.mp m]; exact ⟨o, _, e, d⟩
  | rng x n =>
    obtain ⟨I, _, rfl, e⟩ := a
    intro b m; rw [List.mem_singleton.mp m]; exact ⟨_, _, e, rfl⟩
  | enm v i =>
    obtain ⟨e, I, l, old, _, rfl, _, e1, ⟨o, e2, _, d⟩, _⟩ := a
    intro b m
    rcases List.mem_cons.mp m with q | m
    · rw [q]; exact ⟨_, _, e1, rfl⟩
    · rw [List.mem_singleton.mp m]; exact ⟨o, _, e2, d⟩
  | rev vs i =>
    obtain ⟨I, l, _, rfl, ⟨o, e, _, d⟩, _⟩ := a
    intro b m; rw [List.mem_singleton.mp m]; exact ⟨o, _, e, d⟩
/-- carried over a change that keeps the source's own objects -/
theorem SrcAt.still {μ μ' h h' it Is src} (a : SrcAt μ h it Is src) (K : Still μ h μ' h') (k : ∀ b ∈ Is, ∀ o, h.get? b = some o → h'.get? b = some o) : SrcAt μ' h' it Is src := by
  cases src with
  | lst v i => obtain ⟨I, l, e, rfl, ⟨o, q, r⟩, rp⟩ := a; exact ⟨I, l, e, rfl, ⟨o, k I (.head _) o q, r⟩, rp.still K⟩
  | tup vs i => obtain ⟨I, l, e, rfl, ⟨o, q, r⟩, rp⟩ := a; exact ⟨I, l, e, rfl, ⟨o, k I (.head _) o q, r⟩, rp.still K⟩
  | rng x n => obtain ⟨I, e, rfl, q⟩ := a; exact ⟨I, e, rfl, k I (.head _) _ q⟩
  | enm v i => obtain ⟨e, I, l, old, q1, rfl, q2, q3, ⟨o, q, r⟩, rp⟩ := a; exact ⟨e, I, l, old, q1, rfl, q2, k e (.head _) _ q3, ⟨o, k I (.tail _ (.head _)) o q, r⟩, rp.still K⟩
  | rev vs i => obtain ⟨I, l, e, rfl, ⟨o, q, r⟩, rp⟩ := a; exact ⟨I, l, e, rfl, ⟨o, k I (.head _) o q, r⟩, rp.still K⟩
section
variable {C : Cx} {d : Nat} {sc : Scope} {A : Around} {env : Env} {ρ ρ₁ ρ₂ : List (Str × V)} {σ σ₁ σ₂ σ₃ : List Cell} {μ : List Addr} {s : Shared} {v v₁ v₂ : V} {vs ws : List V}
theorem Sit.fldNotMem (S : Sit C sc d A env ρ σ μ s) {b} (f : Fld s.heap b) : b ∉ μ := fun m => by
  obtain ⟨o, vs, e, dd⟩ := f
  obtain ⟨o', e', d'⟩ := S.heap.alive m
  rw [e] at e'; cases e'
  rcases d' with ⟨_, _, q⟩ | ⟨_, _, q⟩ <;> rw [dd] at q <;> cases q
theorem Sit.fldNotOwn (S : Sit C sc d A env ρ σ μ s) {b} (f : Fld s.heap b) : ¬ Own env b := by
  obtain ⟨o, vs, e, dd⟩ := f
  rintro (rfl | ⟨x, hc⟩)
  · obtain ⟨m, ⟨o', es, ep, e', d', _⟩, _⟩ := S.env.see
    rw [e] at e'; cases e'; rw [dd] at d'; cases d'
  · obtain ⟨q, d'⟩ := S.env.cellData hc o e
    rw [dd] at d'; cases d'
/-- a change of objects of plain fields alone -/
theorem Sit.fields (S : Sit C sc d A env ρ σ μ s) {Is : List Addr} {s'} (hf : ∀ b ∈ Is, Fld s.heap b) (hB : ∀ b ∈ Is, C.B.get? b = none) (hsame : ∃ h tk, s' = { s with heap := h, toks := tk }) (hk : ∀ b o, b ∉ Is → s.heap.get? b = some o → s'.heap.get? b = some o)
    (hl : ∀ b ∈ Is, ∃ o, s'.heap.get? b = some o) : Step (· ∈ Is) μ μ s s' ∧ Sit C sc d A env ρ σ μ s' := by
  have st : Step (· ∈ Is) μ μ s s' := ⟨hsame, fun b o hx _ e => hk b o hx e, fun b o e => by
    by_cases q : b ∈ Is
    · exact hl b q
    · exact ⟨o, hk b o q e⟩, [], by simp, fun _ m => nomatch m⟩
  have hseq : ∀ b o, b ∈ Is → s.heap.get? b = some o → ∀ xs n, o.data ≠ .seq xs n := fun b o m e xs n dd => by
    obtain ⟨o', vs, e', d'⟩ := hf b m
    rw [e] at e'; cases e'; rw [dd] at d'; cases d'
  have K := st.still hseq
  refine ⟨st, S.wd, S.lim, S.sc, S.env.step S.heap st hseq (fun m => S.fldNotOwn (hf _ m) (.inl rfl)) (fun x c hc m => S.fldNotOwn (hf _ m) (.inr ⟨x, hc⟩)), ?_⟩
  exact ⟨fun b o e => hk b o (fun m => by rw [hB b m] at e; cases e) (S.heap.base b o e), S.heap.len, S.heap.nodup, S.heap.new, fun i a c e1 e2 => (S.heap.cells i a c e1 e2).still K fun o e => hk a o (fun m => S.fldNotMem (hf a m) (List.mem_of_getElem? e1)) e⟩
noncomputable def SrcIn (C : Cx) (μ : List Addr) (h : Heap) (it : Value) (Is : List Addr) (src : Src) : Prop := SrcAt μ h it Is src ∧ ∀ b ∈ Is, C.B.get? b = none
noncomputable def Tgt (target : Expr) (src : Src) (v : V) : Prop := match src with
  | .enm _ _ => ∃ es k p, target = .Tuple es k p
  | .lst _ _ => (∃ x p, target = .Name x p) ∨ ((∃ es k p, target = .Tuple es k p) ∧ ((∃ us, v = .tup us) ∨ ∃ us, v = .lst us))
  | _ => ∃ x p, target = .Name x p
theorem sameBut_one {s : Shared} {I : Addr} {h' : Heap} {tk : Nat} (hs : Heap.SameBut I s.heap h') (hl : ∃ o, h'.get? I = some o) :
    (∀ b o, b ∉ [I] → s.heap.get? b = some o → ({ s with heap := h', toks := tk } : Shared).heap.get? b = some o) ∧ ∀ b ∈ [I], ∃ o, ({ s with heap := h', toks := tk } : Shared).heap.get? b = some o :=
  ⟨fun b o hb e => (hs.2 b (by simpa using hb)).trans e, fun b m => by rw [List.mem_singleton.mp m]; exact hl⟩
theorem srcTurn {target it Is src src'} (S : Sit C sc d A env ρ σ μ s) (a : SrcIn C μ s.heap it Is src) (e : src.next σ = some (v, src')) (ht : Tgt target src v) {Q : Value → Shared → Prop}
    (k : ∀ s' x, Step (· ∈ Is) μ μ s s' → Sit C sc d A env ρ σ μ s' → SrcIn C μ s'.heap it Is src' → Rep μ s'.heap v x → Q x s') :
    wpAny (model C.prog C.w) A (pyNext it) (fun r s₁ => match r with
      | none => False
      | some x => wpAny (model C.prog C.w) A (letOwnedTupleGo target it x) (fun _ s₂ => Q x s₂) NoE s₁) NoE s := by
  obtain ⟨a, hB⟩ := a
  have hfld := a.fld
  have mk : ∀ h' : Heap, (∀ b o, b ∉ Is → s.heap.get? b = some o → h'.get? b = some o) → Still μ s.heap μ h' := fun h' k1 => ⟨fun b o eb ⟨zs, n, dd⟩ _ => k1 b o (fun m => by
    obtain ⟨o', vs, e2, d2⟩ := hfld b m
    rw [eb] at e2; cases e2; rw [dd] at d2; cases d2) eb, [], by simp, fun _ m => nomatch m⟩
  cases src with
  | lst u i =>
    obtain ⟨I, l, rfl, rfl, hit, ru⟩ := a
    simp only [Src.next] at e
    split at e
    · rename_i us hus
      split at e
      · rename_i x hx
        cases e
        obtain ⟨l', xs, e', il, q⟩ := lst_at S.heap ru hus
        cases e'
        obtain ⟨y, hy, ry⟩ := q.get hx
        refine wpAny_pyNext_list_item hit il (by simpa using hy) fun h' hit' hs => ?_
        obtain ⟨k1, k2⟩ := sameBut_one (tk := s.toks) hs (by obtain ⟨o, e, _⟩ := hit'; exact ⟨o, e⟩)
        obtain ⟨st, S'⟩ := S.fields hfld hB ⟨h', s.toks, rfl⟩ k1 k2
        have K := mk _ k1
        have fin := k _ y st S' ⟨⟨I, l, rfl, rfl, hit', ru.still K⟩, hB⟩ (ry.still K)
        rcases ht with ⟨x, p, rfl⟩ | ⟨⟨es, kk, p, rfl⟩, hv⟩
        · exact wpAny_pure fin
        · obtain ⟨T, rfl⟩ : ∃ T, y = .ref T := by
            rcases hv with ⟨us, rfl⟩ | ⟨us, rfl⟩ <;> cases ry <;> exact ⟨_, rfl⟩
          exact wpAny_letOwnedTupleGo_listiter hit' fin
      · cases e
    · cases e
  | tup us i =>
    obtain ⟨I, l, rfl, rfl, hit, ru⟩ := a
    simp only [Src.next] at e
    split at e
    · rename_i x hx
      cases e
      cases ru with
      | tup htu hm q =>
        obtain ⟨y, hy, ry⟩ := q.get hx
        refine wpAny_pyNext_tuple_item hit htu (by simpa using hy) fun h' hit' hs => ?_
        obtain ⟨k1, k2⟩ := sameBut_one (tk := s.toks) hs (by obtain ⟨o, e, _⟩ := hit'; exact ⟨o, e⟩)
        obtain ⟨st, S'⟩ := S.fields hfld hB ⟨h', s.toks, rfl⟩ k1 k2
        have K := mk _ k1
        have fin := k _ y st S' ⟨⟨I, l, rfl, rfl, hit', (Rep.tup htu hm q).still K⟩, hB⟩ (ry.still K)
        obtain ⟨x, p, rfl⟩ := ht
        exact wpAny_pure fin
    · cases e
  | rng x n =>
    obtain ⟨I, rfl, rfl, hit⟩ := a
    cases n with
    | zero => cases e
    | succ n =>
      simp only [Src.next] at e
      cases e
      refine wpAny_pyNext_range_item hit (by omega) fun h' hit' hs => ?_
      obtain ⟨k1, k2⟩ := sameBut_one (tk := s.toks + 1) hs ⟨_, hit'⟩
      obtain ⟨st, S'⟩ := S.fields hfld hB ⟨h', s.toks + 1, rfl⟩ k1 k2
      have hit'' : IsRangeIter h' I (x + 1) ((n : Nat) : Int) 1 := by
        have e : ((n + 1 : Nat) : Int) - 1 = (n : Int) := by omega
        rw [← e]; exact hit'
      have fin := k _ (.int x s.toks) st S' ⟨⟨I, rfl, rfl, hit''⟩, hB⟩ (.int _ _)
      obtain ⟨x, p, rfl⟩ := ht
      exact wpAny_pure fin
  | rev us i =>
    obtain ⟨I, l, rfl, rfl, hit, ru⟩ := a
    cases i with
    | zero => cases e
    | succ i =>
      simp only [Src.next] at e
      split at e
      · rename_i x hx
        cases e
        obtain ⟨l', xs, e', il, q⟩ := lst_at S.heap ru rfl
        cases e'
        obtain ⟨y, hy, ry⟩ := q.get hx
        have hit0 : s.heap.IsRevIter I l (i : Int) := by
          have e : ((i + 1 : Nat) : Int) - 1 = (i : Int) := by omega
          rw [← e]; exact hit
        refine wpAny_pyNext_rev_item hit0 il (by simpa using hy) fun h' hit' hs => ?_
        obtain ⟨k1, k2⟩ := sameBut_one (tk := s.toks) hs (by obtain ⟨o, e, _⟩ := hit'; exact ⟨o, e⟩)
        obtain ⟨st, S'⟩ := S.fields hfld hB ⟨h', s.toks, rfl⟩ k1 k2
        have K := mk _ k1
        have fin := k _ y st S' ⟨⟨I, l, rfl, rfl, hit', ru.still K⟩, hB⟩ (ry.still K)
        obtain ⟨x, p, rfl⟩ := ht
        exact wpAny_pure fin
      · cases e
  | enm u i =>
    obtain ⟨en, I, l, old, rfl, rfl, hne, hen, hit, ru⟩ := a
    simp only [Src.next] at e
    split at e
    · rename_i us hus
      split at e
      · rename_i x hx
        cases e
        obtain ⟨l', xs, e', il, q⟩ := lst_at S.heap ru hus
        cases e'
        obtain ⟨y, hy, ry⟩ := q.get hx
        obtain ⟨es, kk, p, rfl⟩ := ht
        refine wpAny_pyNext_enum_item hen hit il (by simpa using hy) hne fun h' hout hit' htup hsz hkeep => ?_
        have hlt : ∀ b o, s.heap.get? b = some o → b ≠ s.heap.objs.size := fun b o e => Nat.ne_of_lt (Heap.lt_size e)
        refine wpAny_letOwnedTupleGo_enum hout fun h'' hen' hs' => ?_
        have heni : ∃ o, s.heap.get? en = some o := ⟨_, hen⟩
        have k1 : ∀ b o, b ∉ [en, I] → s.heap.get? b = some o → h''.get? b = some o := fun b o hb eb => by
          simp only [List.mem_cons, List.not_mem_nil, or_false, not_or] at hb
          exact (hs'.2 b hb.1).trans (hkeep b o hb.1 hb.2 eb)
        have hit'' : h''.IsListIter I l (i + 1) := by
          obtain ⟨o, e2, r⟩ := hit'
          exact ⟨o, (hs'.2 I (Ne.symm hne)).trans e2, r⟩
        have hit2 : IsEnum h'' en I ((i + 1 : Nat) : Int) y := by
          have e : ((i + 1 : Nat) : Int) = (i : Int) + 1 := by omega
          rw [e]; exact hen'
        have k2 : ∀ b ∈ [en, I], ∃ o, h''.get? b = some o := fun b m => by
          rcases List.mem_cons.mp m with q | m
          · rw [q]; exact ⟨_, hit2⟩
          · rw [List.mem_singleton.mp m]; obtain ⟨o, e2, _⟩ := hit''; exact ⟨o, e2⟩
        obtain ⟨st, S'⟩ := S.fields (s' := { s with heap := h'', toks := s.toks + 1 }) hfld hB ⟨h'', s.toks + 1, rfl⟩ k1 k2
        have K := mk _ k1
        obtain ⟨oe, he⟩ := heni
        have hfresh : s.heap.objs.size ≠ en := Ne.symm (hlt en oe he)
        have htup' : h''.get? s.heap.objs.size = some { cls := .type "tuple", data := .seq #[.int (i : Int) s.toks, y] } := (hs'.2 _ hfresh).trans htup
        refine k _ _ st S' ⟨⟨en, I, l, y, rfl, rfl, hne, hit2, hit'', ru.still K⟩, hB⟩ (.tup (xs := [.int (i : Int) s.toks, y]) ⟨_, htup', rfl, 0, rfl⟩ (fun m => ?_) (.cons (.int _ _) (.one (ry.still K))))
        obtain ⟨o, e2, _⟩ := S.heap.alive m
        exact absurd rfl (hlt _ o e2)
      · cases e
    · cases e
end
end
section
open PyProof.V
/-- a change that may leave the loop's own iterators in any state -/
structure StepI (X : Addr → Prop) (Is : List Addr) (μ μ' : List Addr) (s s' : Shared) : Prop where
  same : ∃ h tk, s' = { s with heap := h, toks := tk }
  keep : ∀ b o, ¬ X b → b ∉ Is → b ∉ μ → s.heap.get? b = some o → s'.heap.get? b = some o
  live : ∀ b o, b ∉ Is → s.heap.get? b = some o → ∃ o', s'.heap.get? b = some o'
  ext : ∃ ν, μ' = μ ++ ν ∧ ∀ a ∈ ν, s.heap.get? a = none
theorem StepI.before {X : Addr → Prop} {Is μ μ₁ μ₂ s s₁ s₂} (a : Step (fun b => X b ∨ b ∈ Is) μ μ₁ s s₁) (b : StepI X Is μ₁ μ₂ s₁ s₂) : StepI X Is μ μ₂ s s₂ := by
  refine ⟨?_, fun c o hx hi hm e => b.keep c o hx hi (a.notin e hm) (a.keep c o (fun q => q.elim hx hi) hm e), fun c o hi e => ?_, ?_⟩
  · obtain ⟨h, tk, rfl⟩ := a.same; obtain ⟨h', tk', rfl⟩ := b.same; exact ⟨_, _, rfl⟩
  · obtain ⟨o', e'⟩ := a.live c o e; exact b.live c o' hi e'
  · obtain ⟨ν, rfl, h1⟩ := a.ext
    obtain ⟨ν', rfl, h2⟩ := b.ext
    refine ⟨ν ++ ν', by rw [List.append_assoc], fun c m => ?_⟩
    rcases List.mem_append.mp m with m | m
    · exact h1 c m
    · cases q : s.heap.get? c with
      | none => rfl
      | some o => obtain ⟨o', e'⟩ := a.live c o q; rw [h2 c m] at e'; cases e'
/-- the loop as a whole: its iterators were new -/
theorem StepI.whole {X : Addr → Prop} {Is μ μ₁ μ₂ s s₁ s₂} (a : Step X μ μ₁ s s₁) (hf : ∀ b ∈ Is, s.heap.get? b = none) (b : StepI X Is μ₁ μ₂ s₁ s₂) : Step X μ μ₂ s s₂ := by
  have hi : ∀ c o, s.heap.get? c = some o → c ∉ Is := fun c o e m => by rw [hf c m] at e; cases e
  refine ⟨?_, fun c o hx hm e => b.keep c o hx (hi c o e) (a.notin e hm) (a.keep c o hx hm e), fun c o e => ?_, ?_⟩
  · obtain ⟨h, tk, rfl⟩ := a.same; obtain ⟨h', tk', rfl⟩ := b.same; exact ⟨_, _, rfl⟩
  · obtain ⟨o', e'⟩ := a.live c o e; exact b.live c o' (hi c o e) e'
  · obtain ⟨ν, rfl, h1⟩ := a.ext
    obtain ⟨ν', rfl, h2⟩ := b.ext
    refine ⟨ν ++ ν', by rw [List.append_assoc], fun c m => ?_⟩
    rcases List.mem_append.mp m with m | m
    · exact h1 c m
    · cases q : s.heap.get? c with
      | none => rfl
      | some o => obtain ⟨o', e'⟩ := a.live c o q; rw [h2 c m] at e'; cases e'
theorem Step.toI {X : Addr → Prop} {Is μ μ' s s'} (a : Step (fun b => X b ∨ b ∈ Is) μ μ' s s') : StepI X Is μ μ' s s' :=
  ⟨a.same, fun b o hx hi hm e => a.keep b o (fun q => q.elim hx hi) hm e, fun b o _ e => a.live b o e, a.ext⟩
section
variable {C : Cx} {d : Nat} {sc : Scope} {A : Around} {env : Env} {ρ ρ₁ ρ₂ : List (Str × V)} {σ σ₁ σ₂ σ₃ : List Cell} {μ : List Addr} {s : Shared} {v v₁ v₂ : V} {vs ws : List V} {Is : List Addr} {it : Value} {src src' : Src}
/-- at the end of what is run over -/
theorem srcEnd (S : Sit C sc d A env ρ σ μ s) (a : SrcIn C μ s.heap it Is src) (e : src.over σ = true) {Q : Option Value → Shared → Prop}
    (k : ∀ s', StepI (Loc env) Is μ μ s s' → Sit C sc d A env ρ σ μ s' → Q none s') : wpAny (model C.prog C.w) A (pyNext it) Q NoE s := by
  obtain ⟨a, hB⟩ := a
  have hfld := a.fld
  have fin : ∀ {I : Addr} {h' : Heap}, I ∈ Is → Heap.ExtBut I s.heap h' → Q none { s with heap := h' } := fun {I h'} hI hx => by
    have hI' : ∀ b o, s.heap.get? b = some o → b ≠ I → h'.get? b = some o := fun b o e q => hx b o q e
    have hne : ∀ b o, s.heap.get? b = some o → (∀ vs, o.data ≠ .fields vs) → b ≠ I := fun b o e hd q => by
      obtain ⟨o', vs, e', d'⟩ := hfld I hI
      rw [← q, e] at e'; cases e'; exact hd vs d'
    have st : StepI (Loc env) Is μ μ s { s with heap := h' } := ⟨⟨_, _, rfl⟩, fun b o _ hi _ e => hI' b o e (fun q => hi (q ▸ hI)), fun b o hi e => ⟨o, hI' b o e fun q => hi (q ▸ hI)⟩, [], by simp, fun _ m => nomatch m⟩
    refine k _ st ⟨S.wd, S.lim, S.sc, ?_, ?_⟩
    · obtain ⟨m, ⟨oL, es, ep, eL, dL, rest⟩, hs⟩ := S.env.see
      have K : Still μ s.heap μ h' := ⟨fun b o e ⟨xs, n, dd⟩ _ => hI' b o e (hne b o e fun vs q => by rw [dd] at q; cases q), [], by simp, fun _ m => nomatch m⟩
      have hcell : ∀ c v₀, s.heap.IsCell c v₀ → h'.IsCell c v₀ := fun c v₀ ⟨o, e, dd⟩ => ⟨o, hI' c o e (hne c o e fun vs q => by rw [dd] at q; cases q), dd⟩
      refine ⟨S.env.kind, S.env.glob, S.env.blt, S.env.lnew, S.env.lnot, ⟨m, ⟨oL, es, ep, hI' _ _ eL (hne _ _ eL fun vs q => by rw [dL] at q; cases q), dL, rest⟩, fun x v hv => ?_⟩, fun x c hc => ?_, S.env.cellAll, S.env.inj⟩
      · obtain ⟨val, r, se⟩ := hs x v hv
        refine ⟨val, r.still K, ?_⟩
        rcases se with se | ⟨kk, c, e1, e2⟩
        · exact .inl se
        · exact .inr ⟨kk, c, e1, hcell _ _ e2⟩
      · obtain ⟨b, v₀, e2⟩ := S.env.cells x c hc
        exact ⟨b, v₀, hcell _ _ e2⟩
    · have K : Still μ s.heap μ h' := ⟨fun b o e ⟨xs, n, dd⟩ _ => hI' b o e (hne b o e fun vs q => by rw [dd] at q; cases q), [], by simp, fun _ m => nomatch m⟩
      refine ⟨fun b o e => hI' b o (S.heap.base b o e) fun q => ?_, S.heap.len, S.heap.nodup, S.heap.new, fun i a c e1 e2 => (S.heap.cells i a c e1 e2).still K fun o e => hI' a o e (hne a o e fun vs q => ?_)⟩
      · rw [q, hB I hI] at e; cases e
      · obtain ⟨o', e', d'⟩ := S.heap.alive (List.mem_of_getElem? e1)
        rw [e] at e'; cases e'
        rcases d' with ⟨_, _, z⟩ | ⟨_, _, z⟩ <;> rw [q] at z <;> cases z
  cases src with
  | lst u i =>
    obtain ⟨I, l, rfl, rfl, hit, ru⟩ := a
    simp only [Src.over] at e
    split at e
    · rename_i us hus
      obtain ⟨l', xs, e', il, q⟩ := lst_at S.heap ru hus
      cases e'
      split at e
      · cases e
      · rename_i hx
        refine wpAny_pyNext_list_end S.lim.1 hit il ?_ fun h' hx => fin (.head _) hx
        have := List.getElem?_eq_none_iff.mp hx
        rw [q.length] at this
        simpa using this
    · cases e
  | tup us i =>
    obtain ⟨I, l, rfl, rfl, hit, ru⟩ := a
    simp only [Src.over] at e
    cases ru with
    | tup htu hm q =>
      split at e
      · cases e
      · rename_i hx
        refine wpAny_pyNext_tuple_end S.lim.1 hit htu ?_ fun h' hx => fin (.head _) hx
        have := List.getElem?_eq_none_iff.mp hx
        rw [q.length] at this
        simpa using this
  | rng x n =>
    obtain ⟨I, rfl, rfl, hit⟩ := a
    cases n with
    | succ n => cases e
    | zero => exact wpAny_pyNext_range_end S.lim.1 hit (by omega) fun h' hx => fin (.head _) hx
  | rev us i =>
    obtain ⟨I, l, rfl, rfl, hit, ru⟩ := a
    cases i with
    | succ i => cases e
    | zero => exact wpAny_pyNext_rev_end S.lim.1 hit fun h' hx => fin (.head _) hx
  | enm u i =>
    obtain ⟨en, I, l, old, rfl, rfl, hne, hen, hit, ru⟩ := a
    simp only [Src.over] at e
    split at e
    · rename_i us hus
      obtain ⟨l', xs, e', il, q⟩ := lst_at S.heap ru hus
      cases e'
      split at e
      · cases e
      · rename_i hx
        refine wpAny_pyNext_enum_end S.lim.1 hen hit il ?_ fun h' hx => fin (.tail _ (.head _)) hx
        have := List.getElem?_eq_none_iff.mp hx
        rw [q.length] at this
        simpa using this
    · cases e
/-! ## for -/
noncomputable def PostF (C : Cx) (sc : Scope) (d : Nat) (A : Around) (env : Env) (Is : List Addr) (out : Out) (μ : List Addr) (s : Shared) (r : Result) (s' : Shared) : Prop :=
  match out with
  | .next ρ σ => r = .ok .next ∧ ∃ μ', StepI (Own env) Is μ μ' s s' ∧ Sit C sc d A env ρ σ μ' s'
  | .ret v σ => ∃ val, r = .ok (.ret val) ∧ ∃ μ', StepI (Own env) Is μ μ' s s' ∧ HI C σ μ' s'.heap ∧ Rep μ' s'.heap v val
theorem PostF.after {μ₁ s₁ out r s₂} (st : Step (fun b => Own env b ∨ b ∈ Is) μ μ₁ s s₁) (p : PostF C sc d A env Is out μ₁ s₁ r s₂) : PostF C sc d A env Is out μ s r s₂ := by
  cases out with
  | next ρ σ => obtain ⟨e, μ₂, a, b⟩ := p; exact ⟨e, μ₂, a.before st, b⟩
  | ret v σ => obtain ⟨val, e, μ₂, a, b⟩ := p; exact ⟨val, e, μ₂, a.before st, b⟩
structure Fo (C : Cx) (d : Nat) (sc : Scope) (t : Expr) (b : List Stmt) (src : Src) (ρ : List (Str × V)) (σ : List Cell) (out : Out) : Prop where
  run : ∀ {A env μ s it Is}, Sit C sc d A env ρ σ μ s → SrcIn C μ s.heap it Is src → codeAny (model C.prog C.w) A (.forLoop t it b [] env) (PostF C sc d A env Is out μ s) s
theorem for_turn {t b} {R : Result → Shared → Prop} (h : wpAny (model C.prog C.w) A (pyNext it) (fun r s₁ => match r with
      | none => wpAny (model C.prog C.w) A (execs [] env) (fun f s₃ => R (.ok f) s₃) NoE s₁
      | some x => wpAny (model C.prog C.w) A (letOwnedTupleGo t it x) (fun _ s₁' => wpAny (model C.prog C.w) A (assign t env x) (fun _ s₂ =>
          wpAny (model C.prog C.w) A (execs b env) (fun f s₃ => match f with
            | .next | .cont => codeAny (model C.prog C.w) A (.forLoop t it b [] env) R s₃
            | .brk => R (.ok .next) s₃
            | .ret v => R (.ok (.ret v)) s₃) NoE s₂) NoE s₁') NoE s₁) NoE s) : codeAny (model C.prog C.w) A (.forLoop t it b [] env) R s := by
  refine codeAny_of_tree ?_
  show wpAny _ A ((forTurn t it b [] env).onRaise (fun x => do noteFrame x env; theTreesLotGoes x)) _ _ s
  refine wpAny_noted ?_
  simp only [forTurn]
  refine wpAny_bind (wpAny_standAt (wpAny_bind (wpAny_onRaise (wpAny_mono h (fun r s₁ h₁ => ?_) fun _ _ f => f.elim))))
  cases r with
  | none => exact wpAny_pure ⟨rfl, codeAny_block (wpAny_mono h₁ (fun _ _ p => p) fun _ _ f => f.elim)⟩
  | some v =>
    refine wpAny_bind (wpAny_mono h₁ (fun _ s₁' h₁' => ?_) fun _ _ f => f.elim)
    refine wpAny_bind (wpAny_mono h₁' (fun _ s₂ h₂ => wpAny_bind (wpAny_mono h₂ (fun f s₃ h₃ => ?_) fun _ _ f => f.elim)) fun _ _ f => f.elim)
    cases f with
    | next => exact wpAny_pure ⟨rfl, h₃⟩
    | cont => exact wpAny_pure ⟨rfl, h₃⟩
    | brk => exact wpAny_pure h₃
    | ret v => exact wpAny_pure h₃
theorem StepI.mono {X Y : Addr → Prop} {μ' s'} (a : StepI X Is μ μ' s s') (h : ∀ b, X b → Y b) : StepI Y Is μ μ' s s' := ⟨a.same, fun b o hy => a.keep b o fun hx => hy (h b hx), a.live, a.ext⟩
theorem Fo.done {t b} (e : src.over σ = true) : Fo C d sc t b src ρ σ (.next ρ σ) := .mk <| fun S a =>
  for_turn (srcEnd S a e fun s' st S' => wpAny_execs_nil ⟨rfl, _, st.mono fun _ h => .inl h, S'⟩)
theorem srcKept (S : Sit C sc d A env ρ σ μ s) (a : SrcIn C μ s.heap it Is src) {μ' s'} (st : Step (Own env) μ μ' s s') : SrcIn C μ' s'.heap it Is src :=
  ⟨a.1.still (S.stillS st) fun b m o e => st.keep b o (S.fldNotOwn (a.1.fld b m)) (S.fldNotMem (a.1.fld b m)) e, a.2⟩
theorem useTurn {t b out} (e : src.next σ = some (v, src')) (ht : Tgt t src v) (ha : As C d sc t v ρ σ ρ₁ σ₁) (S : Sit C sc d A env ρ σ μ s) (a : SrcIn C μ s.heap it Is src)
    (k : ∀ μ' s', Step (fun b => Own env b ∨ b ∈ Is) μ μ' s s' → Sit C sc d A env ρ₁ σ₁ μ' s' → SrcIn C μ' s'.heap it Is src' → wpAny (model C.prog C.w) A (execs b env) (fun f s₃ => match f with
            | .next | .cont => codeAny (model C.prog C.w) A (.forLoop t it b [] env) (PostF C sc d A env Is out μ s) s₃
            | .brk => PostF C sc d A env Is out μ s (.ok .next) s₃
            | .ret v => PostF C sc d A env Is out μ s (.ok (.ret v)) s₃) NoE s') : codeAny (model C.prog C.w) A (.forLoop t it b [] env) (PostF C sc d A env Is out μ s) s :=
  for_turn (wpAny_mono (srcTurn (Q := fun x s₂ => wpAny (model C.prog C.w) A (assign t env x) (fun _ s₂ =>
          wpAny (model C.prog C.w) A (execs b env) (fun f s₃ => match f with
            | .next | .cont => codeAny (model C.prog C.w) A (.forLoop t it b [] env) (PostF C sc d A env Is out μ s) s₃
            | .brk => PostF C sc d A env Is out μ s (.ok .next) s₃
            | .ret v => PostF C sc d A env Is out μ s (.ok (.ret v)) s₃) NoE s₂) NoE s₂) S a e ht fun s₁ x st S₁ a₁ r => wpAny_mono (ha.run S₁ r) (fun _ s₂ ⟨μ', st', S₂⟩ => k μ' s₂ ((st.mono fun _ h => .inr h).trans (st'.mono fun _ h => .inl h)) S₂ (srcKept S₁ a₁ st')) fun _ _ f => f)
    (fun r s₁ h => by cases r with
      | none => exact h.elim
      | some x => exact h) fun _ _ f => f)
theorem Fo.turn {t b out} (e : src.next σ = some (v, src')) (ht : Tgt t src v) (ha : As C d sc t v ρ σ ρ₁ σ₁) {ρ₂ σ₂} (hb : Exs C d sc b ρ₁ σ₁ (.next ρ₂ σ₂)) (hr : Fo C d sc t b src' ρ₂ σ₂ out) : Fo C d sc t b src ρ σ out := .mk <| fun S a =>
  useTurn e ht ha S a fun μ' s' st S' a' => wpAny_mono (hb.run S') (fun f s₃ ⟨e, μ₃, st', S₃⟩ => by
    subst e
    exact codeAny_mono (hr.run S₃ (srcKept S' a' st')) fun _ _ p => p.after (st.trans (st'.mono fun _ h => .inl h))) fun _ _ f => f
theorem Fo.ret {t b} (e : src.next σ = some (v, src')) (ht : Tgt t src v) (ha : As C d sc t v ρ σ ρ₁ σ₁) (hb : Exs C d sc b ρ₁ σ₁ (.ret v₂ σ₂)) : Fo C d sc t b src ρ σ (.ret v₂ σ₂) := .mk <| fun S a =>
  useTurn e ht ha S a fun μ' s' st S' a' => wpAny_mono (hb.run S') (fun f s₃ ⟨val, e, μ₃, st', H, r⟩ => by
    subst e
    exact ⟨val, rfl, μ₃, (st.trans (st'.mono fun _ h => .inl h)).toI, H, r⟩) fun _ _ f => f
/-- the head of a loop: what is run over, its iterator made -/
structure EvI (C : Cx) (d : Nat) (sc : Scope) (e : Expr) (ρ : List (Str × V)) (σ : List Cell) (src : Src) (σ' : List Cell) : Prop where
  run : ∀ {A env μ s}, Sit C sc d A env ρ σ μ s → wpAny (model C.prog C.w) A (eval e env) (fun x s₁ => wpAny (model C.prog C.w) A (pyIter x) (fun it s₂ =>
    ∃ μ' Is, Step (Loc env) μ μ' s s₂ ∧ Sit C sc d A env ρ σ' μ' s₂ ∧ SrcIn C μ' s₂.heap it Is src ∧ ∀ b ∈ Is, s.heap.get? b = none) NoE s₁) NoE s
theorem Ex.for {t i b pos out} (hi : EvI C d sc i ρ σ src σ₁) (hf : Fo C d sc t b src ρ σ₁ out) (hs : ∀ env x, foldedSetIterable i env x = pure x := by intro _ _; rfl) : Ex C d sc (.For t i b [] pos) ρ σ out := .mk <| fun {A env μ s} S =>
  wpAny_For (wpAny_mono (hi.run S) (fun x s₁ h => wpAny_mono h (fun it s₂ ⟨μ', Is, st, S', a, hfr⟩ => codeAny_mono (hf.run S' a) fun r s' p => by
    cases out with
    | next ρ₂ σ₂ => obtain ⟨e, μ₂, st', S₂⟩ := p; subst e; exact ⟨rfl, μ₂, StepI.whole st.own hfr st', S₂⟩
    | ret v σ₂ => obtain ⟨val, e, μ₂, st', H, r⟩ := p; subst e; exact ⟨val, rfl, μ₂, StepI.whole st.own hfr st', H, r⟩) fun _ _ f => f.elim) fun _ _ f => f) (hs env)
theorem Step.fresh {X : Addr → Prop} {μ' s'} (st : Step X μ μ' s s') {a} (h : s'.heap.get? a = none) : s.heap.get? a = none := by
  cases q : s.heap.get? a with
  | none => rfl
  | some o => obtain ⟨o', e'⟩ := st.live _ o q; rw [h] at e'; cases e'
theorem HI.fresh (H : HI C σ μ s.heap) {a} (h : s.heap.get? a = none) : C.B.get? a = none := by
  cases q : C.B.get? a with
  | none => rfl
  | some o => rw [H.base _ _ q] at h; cases h
theorem EvI.lst {e} (h : Ev C d sc e ρ σ v σ₁) (hl : (lstOf σ₁ v).isSome = true) : EvI C d sc e ρ σ (.lst v 0) σ₁ := .mk <| fun S =>
  h.use S fun μ' x s₁ st S' r => by
    obtain ⟨us, hus⟩ := Option.isSome_iff_exists.mp hl
    obtain ⟨a, xs, rfl, il, q⟩ := lst_at S'.heap r hus
    refine wpAny_pyIter_list il ?_
    have g : Grow s₁ { s₁ with heap := s₁.heap.push { cls := .type "list_iterator", data := .fields #[.ref a, .int 0 0] } } := Grow.push
    exact ⟨μ', [s₁.heap.objs.size], st.trans g.step, S'.grow g, ⟨⟨_, a, rfl, rfl, ⟨_, Heap.get?_push_size _ rfl, rfl, rfl⟩, r.still g.still⟩, fun b m => by rw [List.mem_singleton.mp m]; exact S'.heap.fresh fresh_of⟩, fun b m => by rw [List.mem_singleton.mp m]; exact st.fresh fresh_of⟩
theorem EvI.tup {e} (h : Ev C d sc e ρ σ (.tup vs) σ₁) : EvI C d sc e ρ σ (.tup vs 0) σ₁ := .mk <| fun S =>
  h.use S fun μ' x s₁ st S' r => by
    obtain ⟨a, xs, rfl, il⟩ : ∃ a xs, x = .ref a ∧ s₁.heap.IsTuple a xs := by cases r with | tup ht _ _ => exact ⟨_, _, rfl, ht⟩
    refine wpAny_pyIter_tuple il ?_
    have g : Grow s₁ { s₁ with heap := s₁.heap.push { cls := .type "tuple_iterator", data := .fields #[.ref a, .int 0 0] } } := Grow.push
    exact ⟨μ', [s₁.heap.objs.size], st.trans g.step, S'.grow g, ⟨⟨_, a, rfl, rfl, ⟨_, Heap.get?_push_size _ rfl, rfl, rfl⟩, r.still g.still⟩, fun b m => by rw [List.mem_singleton.mp m]; exact S'.heap.fresh fresh_of⟩, fun b m => by rw [List.mem_singleton.mp m]; exact st.fresh fresh_of⟩
theorem pushFresh {h : Heap} (o : Obj) : h.get? (h.push o).objs.size = none := by
  rw [Heap.size_push]
  cases z : h.get? (h.objs.size + 1) with
  | none => rfl
  | some o => exact absurd (Heap.lt_size z) (Nat.not_lt.mpr (Nat.le_succ _))
theorem rangeIter {a b : Int} {t u w : Tok} {r : Addr} (hr : IsRange s.heap r a b 1 t u w) (ha : a.natAbs < 1000000000) (hb : b.natAbs < 1000000000) {Q : Value → Shared → Prop}
    (k : ∀ s', Grow s s' → IsRangeIter s'.heap s.heap.objs.size a ((b - a).toNat : Int) 1 → Q (.ref s.heap.objs.size) s') : wpAny (model C.prog C.w) A (pyIter (.ref r)) Q NoE s := by
  refine wpAny_pyIter_range hr (small_one (by omega) (by omega) (by omega) (by omega)) (k _ Grow.push ?_)
  rw [rangeSize_nat]
  exact Heap.get?_push_size _ rfl
theorem EvI.range1 {p pos e} {n : Int} (h : Ev C d sc e ρ σ (.int n) σ₁) (hn : n.natAbs < 1000000000) (hk : Gi sc "range" := by rfl) (hs : NoStar e := by intro _ _; rfl) (hc : CallEq "range" p pos [e] := by intro _; rfl) :
    EvI C d sc ((Expr.Name "range" p).Call [e] [] pos) ρ σ (.rng 0 n.toNat) σ₁ := .mk <| fun S =>
  useCall hk (by simp) PyProof.Rows.Boot.range (.inr ⟨_, rfl⟩) (h.arg hs) S (fun μ' _ s₁ st S' r => by
    obtain ⟨x, rfl, rx⟩ := rep1 r
    cases rx
    refine call_range_1 ?_
    refine rangeIter (C := C) (Heap.get?_push_size _ rfl) (by decide) hn fun s₂ g hit => ?_
    have g' : Grow s₁ s₂ := Grow.push.trans g
    refine ⟨μ', [_], st.trans g'.step, S'.grow g', ⟨⟨_, rfl, rfl, by rw [Int.sub_zero] at hit; exact hit⟩, fun b m => by rw [List.mem_singleton.mp m]; exact S'.heap.fresh (pushFresh _)⟩, fun b m => by rw [List.mem_singleton.mp m]; exact st.fresh (pushFresh _)⟩) hs (fun _ _ => rfl) hc
theorem EvI.range2 {p pos e e'} {a b : Int} (h : Ev C d sc e ρ σ (.int a) σ₁) (h' : Ev C d sc e' ρ σ₁ (.int b) σ₂) (ha : a.natAbs < 1000000000) (hb : b.natAbs < 1000000000) (hk : Gi sc "range" := by rfl) (hs : NoStar e := by intro _ _; rfl) (hs' : NoStar e' := by intro _ _; rfl)
    (hst : NoStars [e'] := by intro _ _; rfl) (hc : CallEq "range" p pos [e, e'] := by intro _; rfl) :
    EvI C d sc ((Expr.Name "range" p).Call [e, e'] [] pos) ρ σ (.rng a (b - a).toNat) σ₂ := .mk <| fun S =>
  useCall hk (by simp) PyProof.Rows.Boot.range (.inr ⟨_, rfl⟩) (h.arg2 h' hs hs') S (fun μ' _ s₁ st S' r => by
    obtain ⟨x, y, rfl, rx, ry⟩ := rep2 r
    cases rx; cases ry
    refine call_range_2 ?_
    refine rangeIter (C := C) (Heap.get?_push_size _ rfl) ha hb fun s₂ g hit => ?_
    have g' : Grow s₁ s₂ := Grow.push.trans g
    refine ⟨μ', [_], st.trans g'.step, S'.grow g', ⟨⟨_, rfl, rfl, hit⟩, fun b m => by rw [List.mem_singleton.mp m]; exact S'.heap.fresh (pushFresh _)⟩, fun b m => by rw [List.mem_singleton.mp m]; exact st.fresh (pushFresh _)⟩) hs hst hc
theorem EvI.enum {p pos e} (h : Ev C d sc e ρ σ v σ₁) (hl : (lstOf σ₁ v).isSome = true) (hk : Gi sc "enumerate" := by rfl) (hs : NoStar e := by intro _ _; rfl) (hc : CallEq "enumerate" p pos [e] := by intro _; rfl) :
    EvI C d sc ((Expr.Name "enumerate" p).Call [e] [] pos) ρ σ (.enm v 0) σ₁ := .mk <| fun S =>
  useCall hk (by simp) PyProof.Rows.Boot.enumerate (.inr ⟨_, rfl⟩) (h.arg hs) S (fun μ' _ s₁ st S' r => by
    obtain ⟨x, rfl, rx⟩ := rep1 r
    obtain ⟨us, hus⟩ := Option.isSome_iff_exists.mp hl
    obtain ⟨a, xs, rfl, il, q⟩ := lst_at S'.heap rx hus
    refine call_enumerate_list il fun h' hen hit hsz hkeep => wpAny_pyIter_enum hen ?_
    have g : Grow s₁ { s₁ with heap := h' } := ⟨⟨_, _, rfl⟩, hkeep⟩
    have hfr : s₁.heap.get? (s₁.heap.objs.size + 1) = none := by
      cases z : s₁.heap.get? (s₁.heap.objs.size + 1) with
      | none => rfl
      | some o => exact absurd (Heap.lt_size z) (Nat.not_lt.mpr (Nat.le_succ _))
    have hall : ∀ b ∈ [s₁.heap.objs.size + 1, s₁.heap.objs.size], s₁.heap.get? b = none := fun b m => by
      rcases List.mem_cons.mp m with q | m
      · rw [q]; exact hfr
      · rw [List.mem_singleton.mp m]; exact fresh_of
    refine ⟨μ', [s₁.heap.objs.size + 1, s₁.heap.objs.size], st.trans g.step, S'.grow g, ⟨⟨_, _, a, _, rfl, rfl, Nat.ne_of_gt (Nat.lt_succ_self _), hen, hit, rx.still g.still⟩, fun b m => S'.heap.fresh (hall b m)⟩, fun b m => st.fresh (hall b m)⟩) hs (fun _ _ => rfl) hc
theorem EvI.reversed {p pos e} (h : Ev C d sc e ρ σ v σ₁) (hl : v = .lst vs) (hk : Gi sc "reversed" := by rfl) (hs : NoStar e := by intro _ _; rfl) (hc : CallEq "reversed" p pos [e] := by intro _; rfl) :
    EvI C d sc ((Expr.Name "reversed" p).Call [e] [] pos) ρ σ (.rev vs vs.length) σ₁ := .mk <| fun S =>
  useCall hk (by simp) PyProof.Rows.Boot.reversed (.inr ⟨_, rfl⟩) (h.arg hs) S (fun μ' _ s₁ st S' r => by
    obtain ⟨x, rfl, rx⟩ := rep1 r
    subst hl
    obtain ⟨a, xs, rfl, il, q⟩ := lst_at S'.heap rx rfl
    refine call_reversed_list il ?_
    have g : Grow s₁ { s₁ with heap := s₁.heap.push (revObj a (((List.toArray xs).size : Int) - 1)) } := Grow.push
    have hit : (s₁.heap.push (revObj a (((List.toArray xs).size : Int) - 1))).IsRevIter s₁.heap.objs.size a ((vs.length : Int) - 1) := by
      rw [q.length, ← List.size_toArray]
      exact ⟨_, Heap.get?_push_size _ rfl, rfl, rfl⟩
    refine wpAny_pyIter_revIter hit ?_
    refine ⟨μ', [s₁.heap.objs.size], st.trans g.step, S'.grow g, ⟨⟨_, a, rfl, rfl, hit, rx.still g.still⟩, fun b m => by rw [List.mem_singleton.mp m]; exact S'.heap.fresh fresh_of⟩, fun b m => by rw [List.mem_singleton.mp m]; exact st.fresh fresh_of⟩) hs (fun _ _ => rfl) hc
end
end
section
open PyProof.V
/-! ## the frame of a comprehension -/
noncomputable def clOf (cells : List (Str × Addr)) : List (Str × NameKind) → List (Str × Addr) → List (Str × Addr)
  | [], acc => acc
  | (n, k) :: r, acc => if k == .free then clOf cells r ((n, (cells.lookup n).getD 0) :: acc) else clOf cells r acc
theorem closure_loop {env : Env} (f : Str × NameKind → List (Str × Addr) → Sem (ForInStep (List (Str × Addr))))
    (hf : ∀ n k cs, f (n, k) cs = if k == .free then (do let a ← cellOf env n; pure (.yield ((n, a) :: cs))) else pure (.yield cs)) :
    ∀ (names : List (Str × NameKind)) (acc : List (Str × Addr)), (∀ n, (n, NameKind.free) ∈ names → (env.cells.lookup n).isSome = true) → (forIn names acc f : Sem _) = pure (clOf env.cells names acc)
  | [], acc, _ => by rw [List.forIn_nil]; rfl
  | (n, k) :: r, acc, h => by
    have ih := fun acc => closure_loop f hf r acc fun m hm => h m (.tail _ hm)
    rw [List.forIn_cons, hf]
    unfold clOf
    by_cases hk : (k == NameKind.free) = true
    · have hk' : k = .free := eq_of_beq hk
      subst hk'
      obtain ⟨a, ha⟩ := Option.isSome_iff_exists.mp (h n (.head _))
      rw [if_pos hk, if_pos hk, ha]
      have hc : cellOf env n = pure a := by unfold cellOf; rw [ha]
      rw [hc]
      exact ih _
    · rw [if_neg hk, if_neg hk]
      exact ih _
theorem closure_eq {scope : Scope} {env : Env} (h : ∀ n, (n, NameKind.free) ∈ scope.names → (env.cells.lookup n).isSome = true) : closureFor scope env = pure (clOf env.cells scope.names []) := by
  unfold closureFor
  show (forIn scope.names [] _ >>= fun cs => pure cs : Sem _) = _
  rw [closure_loop (env := env) _ (fun n k cs => by cases hk : k == NameKind.free <;> simp [hk]) _ _ h]
  rfl
theorem clOf_lookup {cells : List (Str × Addr)} {x : Str} : ∀ {names : List (Str × NameKind)} {acc : List (Str × Addr)}, (names.map (·.1)).Nodup →
    (names.lookup x = some .free → (clOf cells names acc).lookup x = some ((cells.lookup x).getD 0)) ∧ (names.lookup x ≠ some .free → (clOf cells names acc).lookup x = acc.lookup x)
  | [], acc, _ => ⟨fun h => (by cases h), fun _ => rfl⟩
  | (n, k) :: r, acc, hn => by
    rw [List.map_cons, List.nodup_cons] at hn
    have ih := fun acc => clOf_lookup (cells := cells) (x := x) (names := r) (acc := acc) hn.2
    rw [List.lookup_cons]
    unfold clOf
    by_cases q : x = n
    · subst q
      simp only [beq_self_eq_true]
      have hx : r.lookup x ≠ some .free := fun e => hn.1 (List.mem_map.mpr ⟨_, mem_of_lookup' e, rfl⟩)
      by_cases hk : k = .free
      · subst hk
        refine ⟨fun _ => ?_, fun h => absurd rfl h⟩
        rw [if_pos (by decide), (ih _).2 hx, List.lookup_cons]; simp
      · refine ⟨fun e => absurd (Option.some.inj e) hk, fun _ => ?_⟩
        rw [if_neg (by simpa using hk), (ih _).2 hx]
    · rw [beq_false_of_ne q]
      by_cases hk : (k == NameKind.free) = true
      · rw [if_pos hk]
        refine ⟨(ih _).1, fun h => ?_⟩
        rw [(ih _).2 h, List.lookup_cons, beq_false_of_ne q]
      · rw [if_neg hk]
        exact ih _
theorem cellsFrom_acc : ∀ (names : List (Str × NameKind)) (n : Nat) (acc : List (Str × Addr)), cellsFrom n names acc = cellsFrom n names [] ++ acc
  | [], _, _ => rfl
  | (x, k) :: r, n, acc => by
    unfold cellsFrom
    split
    · rw [cellsFrom_acc r (n + 1) ((x, n) :: acc), cellsFrom_acc r (n + 1) [(x, n)], List.append_assoc]; rfl
    · exact cellsFrom_acc r n acc
theorem cellsFrom_mem : ∀ {names : List (Str × NameKind)} {n : Nat} {x : Str} {c : Addr}, (x, c) ∈ cellsFrom n names [] → (x, NameKind.cell) ∈ names
  | [], _, _, _, h => by cases h
  | (y, k) :: r, n, x, c, h => by
    unfold cellsFrom at h
    split at h
    · rename_i hk
      have hk' : k = .cell := eq_of_beq hk
      rw [cellsFrom_acc] at h
      rcases List.mem_append.mp h with m | m
      · exact .tail _ (cellsFrom_mem m)
      · rw [List.mem_singleton] at m; cases m; subst hk'; exact .head _
    · exact .tail _ (cellsFrom_mem h)
theorem lookup_app {x : Str} : ∀ {a b : List (Str × Addr)}, (a ++ b).lookup x = match a.lookup x with | some c => some c | none => b.lookup x
  | [], _ => rfl
  | (y, c) :: r, b => by
    rw [List.cons_append, List.lookup_cons, List.lookup_cons]
    cases h : x == y with
    | true => rfl
    | false => exact lookup_app
theorem lookup_none {x : Str} : ∀ {a : List (Str × Addr)}, (∀ c, (x, c) ∉ a) → a.lookup x = none
  | [], _ => rfl
  | (y, c) :: r, h => by
    rw [List.lookup_cons]
    by_cases q : x = y
    · subst q; exact absurd (.head _) (h c)
    · rw [beq_false_of_ne q]; exact lookup_none fun c m => h c (.tail _ m)
theorem lookup_of_mem_nodup' {x : Str} {k : NameKind} : ∀ {names : List (Str × NameKind)}, (names.map (·.1)).Nodup → (x, k) ∈ names → names.lookup x = some k
  | (y, k') :: r, hn, h => by
    rw [List.map_cons, List.nodup_cons] at hn
    rw [List.lookup_cons]
    rcases List.mem_cons.mp h with q | m
    · cases q; simp
    · have : x ≠ y := fun q => hn.1 (q ▸ List.mem_map.mpr ⟨_, m, rfl⟩)
      rw [beq_false_of_ne this]; exact lookup_of_mem_nodup' hn.2 m
/-- what the comprehension's frame sees of the frame around -/
noncomputable def capt (names : List (Str × NameKind)) (ρ : List (Str × V)) : List (Str × V) := ρ.filter fun p => names.lookup p.1 == some NameKind.free
theorem capt_lookup {names : List (Str × NameKind)} {x : Str} {u : V} : ∀ {ρ : List (Str × V)}, (capt names ρ).lookup x = some u → names.lookup x = some .free ∧ ρ.lookup x = some u
  | [], h => by cases h
  | (y, w) :: r, h => by
    unfold capt at h
    rw [List.filter_cons] at h
    by_cases q : x = y
    · subst q
      split at h
      · rename_i hy
        simp only [List.lookup_cons, beq_self_eq_true] at h
        refine ⟨by simpa using hy, by rw [List.lookup_cons]; simpa using h⟩
      · rename_i hy
        obtain ⟨h1, _⟩ := capt_lookup (ρ := r) h
        exact absurd (by simpa using h1) hy
    · rw [List.lookup_cons, beq_false_of_ne q]
      split at h
      · rw [List.lookup_cons, beq_false_of_ne q] at h
        exact capt_lookup (ρ := r) h
      · exact capt_lookup (ρ := r) h
/-- the comprehension's names, the free ones as cells where the frame around has them so -/
noncomputable def relab (scope sc : Scope) : Scope := { scope with names := scope.names.map fun (n, k) => if (k == .free && sc.kind == .function && sc.names.lookup n == some .cell) then (n, .cell) else (n, k) }
theorem relab_eq {scope sc : Scope} {env : Env} (h : env.scope = sc) : relabel scope env = relab scope sc := by subst h; rfl
theorem relab_lookup {sc : Scope} {x : Str} : ∀ {names : List (Str × NameKind)}, (names.map fun (n, k) => if (k == NameKind.free && sc.kind == .function && sc.names.lookup n == some .cell) then (n, NameKind.cell) else (n, k)).lookup x =
    (names.lookup x).map fun k => if (k == .free && sc.kind == .function && sc.names.lookup x == some .cell) then .cell else k
  | [] => rfl
  | (n, k) :: r => by
    have ih := @relab_lookup sc x r
    rw [List.map_cons]
    show List.lookup x ((if (k == NameKind.free && sc.kind == .function && sc.names.lookup n == some .cell) = true then (n, NameKind.cell) else (n, k)) :: _) = _
    by_cases q : x = n
    · subst q
      by_cases z : (k == NameKind.free && sc.kind == .function && sc.names.lookup x == some .cell) = true
      · rw [if_pos z]; simp only [List.lookup_cons, beq_self_eq_true, Option.map_some, if_pos z]
      · rw [if_neg z]; simp only [List.lookup_cons, beq_self_eq_true, Option.map_some, if_neg z]
    · have e1 : ∀ b : NameKind, List.lookup x ((n, b) :: r.map fun (n, k) => if (k == NameKind.free && sc.kind == .function && sc.names.lookup n == some .cell) then (n, NameKind.cell) else (n, k)) = (r.map fun (n, k) => if (k == NameKind.free && sc.kind == .function && sc.names.lookup n == some .cell) then (n, NameKind.cell) else (n, k)).lookup x := fun b => by
        rw [List.lookup_cons, beq_false_of_ne q]
      have e2 : List.lookup x ((n, k) :: r) = r.lookup x := by rw [List.lookup_cons, beq_false_of_ne q]
      rw [e2, ← ih]
      split
      · exact e1 _
      · exact e1 _
/-- the names that a comprehension takes from around are cells there -/
noncomputable def capOk (scope sc : Scope) : Bool := scope.names.all fun p => p.2 != .free || sc.names.lookup p.1 == some .cell
section
variable {C : Cx} {d : Nat} {sc : Scope} {A : Around} {env : Env} {ρ ρ₁ ρ₂ : List (Str × V)} {σ σ₁ σ₂ σ₃ : List Cell} {μ : List Addr} {s : Shared} {v v₁ v₂ : V} {vs ws : List V} {Is : List Addr} {it : Value} {src src' : Src}
/-- the comprehension's frame is made -/
theorem compFrame {scope : Scope} (S : Sit C sc d A env ρ σ μ s) (hk : scope.kind = .function) (hn : (scope.names.map (·.1)).Nodup) (hc : capOk scope sc = true) {Q : Env → Shared → Prop}
    (k : ∀ cenv s', Grow s s' → cenv.locals = s.heap.objs.size → (∀ x c, scope.names.lookup x ≠ some .free → cenv.cells.lookup x = some c → s.heap.get? c = none) →
      Sit C (relab scope sc) d A { cenv with scope := relabel scope env } (capt scope.names ρ) σ μ s' → Q cenv s') :
    wpAny (model C.prog C.w) A (newFunctionEnv scope env.globals (clOf env.cells scope.names []) [] env.qual none .none (some env)) Q NoE s := by
  simp only [newFunctionEnv, Option.isSome_some, if_true]
  refine wpAny_bind (wpAny_alloc ?_)
  refine wpAny_bind (wpAny_layCells _ (fun name kind cells => by cases hkc : kind == NameKind.cell <;> simp [hkc]) _ _ _ _ ?_)
  rw [show ({ s with heap := s.heap.push { cls := .type "dict", data := .dict #[] } } : Shared).heap.objs.size = s.heap.objs.size + 1 from Heap.size_push ..]
  refine wpAny_bind (wpAny_pure ?_)
  have ok := cellsFrom_ok scope.names (s.heap.push { cls := .type "dict", data := .dict #[] }) (s.heap.objs.size + 1) [] ⟨fun _ _ hm => (nomatch hm), List.Pairwise.nil⟩ (by rw [Heap.size_push]; exact Nat.le_refl _)
  rw [Heap.size_push] at ok
  rw [cellsFrom_acc]
  generalize hnew : cellsFrom (s.heap.objs.size + 1) scope.names [] = new at ok ⊢
  generalize hh : pushCells (s.heap.push { cls := .type "dict", data := .dict #[] }) scope.names = h' at ok ⊢
  have keep : ∀ b o, s.heap.get? b = some o → h'.get? b = some o := fun b o e => hh ▸ pushCells_keeps _ _ b o (Heap.get?_push_of_some _ e)
  have g : Grow s { s with heap := h' } := ⟨⟨_, _, rfl⟩, keep⟩
  have hLns : h'.Ns s.heap.objs.size (fun _ => none) := hh ▸ (Heap.Ns.new s.heap (.type "dict")).keeps (pushCells_keeps _ _)
  have hnewCell : ∀ x c, new.lookup x = some c → scope.names.lookup x = some .cell := fun x c e => lookup_of_mem_nodup' hn (cellsFrom_mem (hnew ▸ mem_of_lookup' e))
  have hcap : ∀ x, scope.names.lookup x = some .free → sc.names.lookup x = some .cell := fun x e => by
    have := List.all_eq_true.mp hc _ (mem_of_lookup' e)
    simpa using this
  have hfree : ∀ x, scope.names.lookup x = some .free → ∃ c, env.cells.lookup x = some c ∧ (new ++ clOf env.cells scope.names []).lookup x = some c := fun x e => by
    obtain ⟨c, hcx⟩ := Option.isSome_iff_exists.mp (S.env.cellAll x (by show env.scope.names.lookup x = _; rw [S.sc]; exact hcap x e))
    refine ⟨c, hcx, ?_⟩
    rw [lookup_app]
    have : new.lookup x = none := by
      cases q : new.lookup x with
      | none => rfl
      | some c' => rw [hnewCell x c' q] at e; cases e
    rw [this]
    show (clOf env.cells scope.names []).lookup x = some c
    rw [(clOf_lookup hn).1 e, hcx]; rfl
  have hlook : ∀ x c, (new ++ clOf env.cells scope.names []).lookup x = some c → (new.lookup x = some c ∧ scope.names.lookup x = some .cell) ∨ (scope.names.lookup x = some .free ∧ env.cells.lookup x = some c) := fun x c e => by
    rw [lookup_app] at e
    cases q : new.lookup x with
    | some c' => rw [q] at e; cases e; exact .inl ⟨rfl, hnewCell x _ q⟩
    | none =>
      rw [q] at e
      have e' : (clOf env.cells scope.names []).lookup x = some c := e
      by_cases z : scope.names.lookup x = some .free
      · obtain ⟨c', h1, _⟩ := hfree x z
        rw [(clOf_lookup hn).1 z, h1] at e'
        cases e'
        exact .inr ⟨z, h1⟩
      · rw [(clOf_lookup hn).2 z] at e'; cases e'
  have hnewFresh : ∀ x c, new.lookup x = some c → s.heap.get? c = none := fun x c e => by
    have := (ok.empty x c (mem_of_lookup' e)).2
    cases q : s.heap.get? c with
    | none => rfl
    | some o => exact absurd (Heap.lt_size q) (Nat.not_lt.mpr (Nat.le_of_succ_le this))
  have hI := S.heap.grow g
  refine wpAny_pure (k (newEnv scope s.heap.objs.size env.globals (new ++ clOf env.cells scope.names []) env.qual none .none (some env) builtinsNs) { s with heap := h' } g rfl (fun x c hx e => ?_) ⟨S.wd, S.lim, relab_eq S.sc, ?_, hI⟩)
  · rcases hlook x c e with ⟨q, _⟩ | ⟨q, _⟩
    · exact hnewFresh x c q
    · exact absurd q hx
  have hLfresh : s.heap.get? s.heap.objs.size = none := fresh_of
  obtain ⟨m, hm, hs⟩ := S.env.see
  refine ⟨hk, S.env.glob, S.env.blt, S.heap.fresh hLfresh, S.heap.notIn hLfresh, ⟨_, hLns, fun x u hx => ?_⟩, fun x c e => ?_, fun x hx => ?_, fun x y c h1 h2 => ?_⟩
  · have hxx : scope.names.lookup x = some .free ∧ ρ.lookup x = some u := capt_lookup hx
    obtain ⟨val, r, se⟩ := hs x u hxx.2
    refine ⟨val, r.still g.still, .inr ⟨.inl ?_, ?_⟩⟩
    · show (relabel scope env).names.lookup x = some .cell
      rw [relab_eq S.sc]
      show List.lookup x (scope.names.map _) = _
      rw [relab_lookup, hxx.1]
      have hscf : (sc.kind == ScopeKind.function) = true := by
        have := S.env.kind; rw [S.sc] at this; rw [this]; rfl
      simp [hscf, hcap x hxx.1]
    · obtain ⟨c, h1, h2⟩ := hfree x hxx.1
      refine ⟨c, h2, ?_⟩
      rcases se with ⟨q, _⟩ | ⟨_, c', e1, o, e2, e3⟩
      · have : env.scope.names.lookup x = some .local := q
        rw [S.sc, hcap x hxx.1] at this; cases this
      · rw [h1] at e1; cases e1
        exact ⟨o, keep _ _ e2, e3⟩
  · rcases hlook x c e with ⟨q, _⟩ | ⟨_, q⟩
    · exact ⟨S.heap.fresh (hnewFresh x c q), none, (ok.empty x c (mem_of_lookup' q)).1⟩
    · obtain ⟨b, v₀, o, e2, e3⟩ := S.env.cells x c q
      exact ⟨b, v₀, o, keep _ _ e2, e3⟩
  · have hx' : (relabel scope env).names.lookup x = some .cell := hx
    rw [relab_eq S.sc] at hx'
    have hx2 : List.lookup x (scope.names.map fun (n, k) => if (k == NameKind.free && sc.kind == .function && sc.names.lookup n == some .cell) then (n, NameKind.cell) else (n, k)) = some .cell := hx'
    rw [relab_lookup] at hx2
    cases z : scope.names.lookup x with
    | none => rw [z] at hx2; cases hx2
    | some k' =>
      by_cases q : k' = .free
      · subst q
        obtain ⟨c, _, h2⟩ := hfree x z
        show ((new ++ clOf env.cells scope.names []).lookup x).isSome = true
        rw [h2]; rfl
      · have q' : k' = .cell := by
          rw [z] at hx2
          have : (k' == NameKind.free) = false := by simpa using q
          simp only [Option.map_some, this, Bool.false_and, Bool.false_eq_true, if_false, Option.some.injEq] at hx2
          exact hx2
        subst q'
        show ((new ++ clOf env.cells scope.names []).lookup x).isSome = true
        rw [lookup_app]
        have : (new.lookup x).isSome = true := hnew ▸ cellsFrom_some _ _ _ (.inl z)
        obtain ⟨c, hc'⟩ := Option.isSome_iff_exists.mp this
        rw [hc']; rfl
  · have hold : ∀ z c', env.cells.lookup z = some c' → ∃ o, s.heap.get? c' = some o := fun z c' e => by obtain ⟨_, v₀, o, e2, _⟩ := S.env.cells z c' e; exact ⟨o, e2⟩
    rcases hlook x c h1 with ⟨q, _⟩ | ⟨_, q⟩ <;> rcases hlook y c h2 with ⟨q', _⟩ | ⟨_, q'⟩
    · exact apart_inj ok.apart (mem_of_lookup' q) (mem_of_lookup' q')
    · obtain ⟨o, e⟩ := hold y c q'
      rw [hnewFresh x c q] at e; cases e
    · obtain ⟨o, e⟩ := hold x c q
      rw [hnewFresh y c q'] at e; cases e
    · exact S.env.inj x y c q q'
end
end
section
open PyProof.V
section
variable {C : Cx} {d : Nat} {sc : Scope} {A : Around} {env : Env} {ρ ρ₁ ρ₂ ρ' : List (Str × V)} {σ σ₁ σ₂ σ₃ σ' : List Cell} {μ : List Addr} {s : Shared} {v v₁ v₂ : V} {vs ws : List V} {Is : List Addr} {it : Value} {src src' : Src}
theorem srcSelf (a : SrcIn C μ s.heap it Is src) {Q : Value → Shared → Prop} (h : Q it s) : wpAny (model C.prog C.w) A (pyIter it) Q NoE s := by
  obtain ⟨a, _⟩ := a
  cases src with
  | lst u i => obtain ⟨I, l, rfl, rfl, hit, _⟩ := a; exact wpAny_pyIter_listiter hit h
  | tup us i => obtain ⟨I, l, rfl, rfl, hit, _⟩ := a; exact wpAny_pyIter_tupleiter hit h
  | rng x n => obtain ⟨I, rfl, rfl, hit⟩ := a; exact wpAny_pyIter_rangeiter hit h
  | rev us i => obtain ⟨I, l, rfl, rfl, hit, _⟩ := a; exact wpAny_pyIter_revIter hit h
  | enm u i => obtain ⟨e, I, l, old, rfl, rfl, _, hen, _⟩ := a; exact wpAny_pyIter_enum hen h
noncomputable abbrev LC (elt : Expr) (x : Str) (px : Pos) (iter : Expr) (ifs : List Expr) (scope : Scope) (pos : Pos) : Expr := .ListComp elt [⟨.Name x px, iter, ifs, 0⟩] scope pos
/-- what stands behind the target's store -/
noncomputable abbrev Behind (C : Cx) (A : Around) (env : Env) (elt : Expr) (x : Str) (px : Pos) (iter : Expr) (ifs : List Expr) (scope : Scope) (pos : Pos) (it acc : Value) (R : Result → Shared → Prop) (s₂ : Shared) : Prop :=
  wpAny (model C.prog C.w) A (forIn ifs true fun c r => if r = true then do let ok ← isTrue c env (eval c env); pure (ForInStep.yield ok) else pure (ForInStep.yield r)) (fun ok s₃ =>
            if ok = true then wpAny (model C.prog C.w) A (eval elt env) (fun y s₄ =>
              wpAny (model C.prog C.w) A (call (.builtin "list.append") [acc, y]) (fun _ s₅ => codeAny (model C.prog C.w) A (.compLoop (LC elt x px iter ifs scope pos) 0 it acc env) R s₅) NoE s₄) NoE s₃
            else codeAny (model C.prog C.w) A (.compLoop (LC elt x px iter ifs scope pos) 0 it acc env) R s₃) NoE s₂
/-- one turn of a comprehension of one clause -/
theorem comp_turn {elt iter : Expr} {x : Str} {px pos : Pos} {ifs : List Expr} {scope : Scope} {acc : Value} {R : Result → Shared → Prop}
    (h : wpAny (model C.prog C.w) A (pyNext it) (fun r s₁ => match r with
      | none => R (.ok .next) s₁
      | some v => wpAny (model C.prog C.w) A (letOwnedTupleGo (.Name x px) it v) (fun _ s₁' => wpAny (model C.prog C.w) A (assign (.Name x px) env v) (fun _ s₂ => Behind C A env elt x px iter ifs scope pos it acc R s₂) NoE s₁') NoE s₁) NoE s) :
    codeAny (model C.prog C.w) A (.compLoop (LC elt x px iter ifs scope pos) 0 it acc env) R s := by
  refine codeAny_of_tree ?_
  show wpAny _ A ((compTurn (.ListComp elt [⟨.Name x px, iter, ifs, 0⟩] scope pos) 0 it acc env).onRaise (fun x => do noteFrame x env; theTreesLotGoes x)) _ _ s
  refine wpAny_noted ?_
  rw [compTurn_list]
  refine wpAny_bind (wpAny_standAt (wpAny_bind (wpAny_mono h (fun r s₁ h₁ => ?_) fun _ _ f => f.elim)))
  cases r with
  | none => exact wpAny_pure h₁
  | some v =>
    refine wpAny_bind (wpAny_mono h₁ (fun _ s₁' h₁ => ?_) fun _ _ f => f.elim)
    refine wpAny_bind (wpAny_mono h₁ (fun _ s₂ h₂ => wpAny_bind (wpAny_mono h₂ (fun ok s₃ h₃ => ?_) fun _ _ f => f.elim)) fun _ _ f => f.elim)
    cases ok with
    | false => exact wpAny_pure ⟨rfl, h₃⟩
    | true =>
      exact wpAny_bind (wpAny_bind (wpAny_mono h₃ (fun x s₄ h₄ => wpAny_bind (wpAny_mono h₄ (fun _ s₅ h₅ => wpAny_pure (wpAny_pure ⟨rfl, h₅⟩)) fun _ _ f => f.elim)) fun _ _ f => f.elim))
structure Co (C : Cx) (d : Nat) (sc : Scope) (elt : Expr) (x : Str) (px : Pos) (iter : Expr) (ifs : List Expr) (scope : Scope) (pos : Pos) (src : Src) (ρ : List (Str × V)) (σ : List Cell) (k : Nat) (σ' : List Cell) : Prop where
  run : ∀ {A env μ s it Is D}, Sit C sc d A env ρ σ μ s → SrcIn C μ s.heap it Is src → μ[k]? = some D →
    codeAny (model C.prog C.w) A (.compLoop (LC elt x px iter ifs scope pos) 0 it (.ref D) env) (fun r s' => r = .ok .next ∧ ∃ μ' ρ', StepI (At env x) Is μ μ' s s' ∧ Sit C sc d A env ρ' σ' μ' s') s
variable {elt iter : Expr} {x : Str} {px pos : Pos} {ifs : List Expr} {scope : Scope} {k : Nat}
theorem StepI.locAt {μ' s'} (a : StepI (Loc env) Is μ μ' s s') : StepI (At env x) Is μ μ' s s' := a.mono fun _ h => .inl h
theorem Co.done (e : src.over σ = true) : Co C d sc elt x px iter ifs scope pos src ρ σ k σ := .mk <| fun S a _ =>
  comp_turn (srcEnd S a e fun _ st S' => ⟨rfl, _, _, st.locAt, S'⟩)
theorem Co.use {D : Addr} {R : Result → Shared → Prop} (e : src.next σ = some (v, src')) (ht : Tgt (.Name x px) src v) (hx : isVar sc x = true) (S : Sit C sc d A env ρ σ μ s) (a : SrcIn C μ s.heap it Is src)
    (h : ∀ s', Step (fun b => At env x b ∨ b ∈ Is) μ μ s s' → Sit C sc d A env (upd ρ x v) σ μ s' → SrcIn C μ s'.heap it Is src' → Behind C A env elt x px iter ifs scope pos it (.ref D) R s') :
    codeAny (model C.prog C.w) A (.compLoop (LC elt x px iter ifs scope pos) 0 it (.ref D) env) R s :=
  comp_turn (wpAny_mono (srcTurn (Q := fun y s₂ => wpAny (model C.prog C.w) A (assign (.Name x px) env y) (fun _ s₂ => Behind C A env elt x px iter ifs scope pos it (.ref D) R s₂) NoE s₂) S a e ht fun s₁ y st S₁ a₁ r => wpAny_assign_Name (S₁.storeAt r hx fun s₂ st' S₂ =>
      h s₂ ((st.mono fun _ h => .inr h).trans (st'.mono fun _ h => .inl h)) S₂ (srcKept S₁ a₁ (st'.mono fun _ h => At.own h)))) (fun r s₁ h => by
        cases r with
        | none => exact h.elim
        | some y => exact h) fun _ _ f => f)
theorem appendAt {D : Addr} {val : Value} {μ₁} (S : Sit C sc d A env ρ σ μ₁ s) (hD : μ₁[k]? = some D) (hk : σ[k]? = some (.lst vs)) (hl : vs.length < 1000000) (r : Rep μ₁ s.heap v val) {Q : Value → Shared → Prop}
    (h : ∀ s', Step (Loc env) μ₁ μ₁ s s' → Sit C sc d A env ρ (σ.set k (.lst (vs ++ [v]))) μ₁ s' → Q .none s') : wpAny (model C.prog C.w) A (call (.builtin "list.append") [.ref D, val]) Q NoE s := by
  obtain ⟨xs, m, ho, q, l⟩ := S.heap.cells k _ _ hD hk
  obtain ⟨st', S''⟩ := updCell (ys := xs ++ [val]) S hD ho (fun z => z.push val) (by simp) (q.append (.one r)) (by rw [List.length_append]; have := q.length; simp only [List.length_cons, List.length_nil]; omega)
  exact call_meets PySem.F.slot_list_append ⟨_, ho, rfl⟩ PySem.F.entry_list_append (PySem.F.args_list_append_2 _ _) (AutoListH.list_append_list_val_0 D xs.toArray m _ (by rw [List.size_toArray]; show _ ≤ 2 ^ 24; omega)) ⟨ho, h _ st' S''⟩
theorem Step.atI {μ' s'} (a : Step (Loc env) μ μ' s s') : Step (fun b => At env x b ∨ b ∈ Is) μ μ' s s' := a.mono fun _ h => .inl (.inl h)
theorem Co.turn {vs : List V} (e : src.next σ = some (v, src')) (ht : Tgt (.Name x px) src v) (he : Ev C d sc elt (upd ρ x v) σ v₂ σ₁) (hk : σ₁[k]? = some (.lst vs)) (hl : vs.length < 1000000)
    (hr : Co C d sc elt x px iter [] scope pos src' (upd ρ x v) (σ₁.set k (.lst (vs ++ [v₂]))) k σ') (hx : isVar sc x = true := by rfl) : Co C d sc elt x px iter [] scope pos src ρ σ k σ' := .mk <| fun S a hD =>
  Co.use e ht hx S a fun s₁ st S₁ a₁ => by
    show wpAny _ _ (forIn [] true _) _ _ _
    rw [List.forIn_nil]
    refine wpAny_pure ?_
    rw [if_pos rfl]
    refine he.use S₁ fun μ₂ y s₂ st₂ S₂ r => ?_
    have hD₂ : μ₂[k]? = some _ := (S₁.still st₂).ref hD
    refine appendAt S₂ hD₂ hk hl r fun s₃ st₃ S₃ => ?_
    have hall := (st.trans (st₂.atI (Is := _))).trans (st₃.atI (Is := _))
    refine codeAny_mono (hr.run S₃ (srcKept S₂ (srcKept S₁ a₁ st₂.own) st₃.own) hD₂) fun r s' ⟨e', μ', ρ', st', S'⟩ => ⟨e', μ', ρ', st'.before hall, S'⟩
theorem Co.skip {c : Expr} (e : src.next σ = some (v, src')) (ht : Tgt (.Name x px) src v) (hc : Tr C d sc c (upd ρ x v) σ false σ₂)
    (hr : Co C d sc elt x px iter [c] scope pos src' (upd ρ x v) σ₂ k σ') (hx : isVar sc x = true := by rfl) : Co C d sc elt x px iter [c] scope pos src ρ σ k σ' := .mk <| fun S a hD =>
  Co.use e ht hx S a fun s₁ st S₁ a₁ => by
    show wpAny _ _ (forIn [c] true _) _ _ _
    rw [List.forIn_cons, if_pos rfl]
    refine wpAny_bind (wpAny_bind (hc.use S₁ fun μ₂ s₂ st₂ S₂ => wpAny_pure ?_))
    dsimp only
    rw [List.forIn_nil]
    refine wpAny_pure ?_
    rw [if_neg Bool.false_ne_true]
    have hall := st.trans (st₂.atI (Is := _))
    exact codeAny_mono (hr.run S₂ (srcKept S₁ a₁ st₂.own) ((S₁.still st₂).ref hD)) fun r s' ⟨e', μ', ρ', st', S'⟩ => ⟨e', μ', ρ', st'.before hall, S'⟩
end
end
section
open PyProof.V
noncomputable abbrev Nil : Addr → Prop := fun _ => False
section
variable {C : Cx} {d : Nat} {sc : Scope} {A : Around} {env : Env} {ρ ρ₁ ρ₂ ρ' : List (Str × V)} {σ σ₁ σ₂ σ₃ σ' : List Cell} {μ μ' : List Addr} {s s' : Shared} {v v₁ v₂ : V} {vs ws : List V} {Is : List Addr} {it : Value} {src src' : Src}
variable {elt iter : Expr} {x : Str} {px pos : Pos} {ifs : List Expr} {scope : Scope} {k : Nat}
theorem fld_ne {h : Heap} {b c : Addr} {o : Obj} (f : Fld h b) (e : h.get? c = some o) (hd : ∀ vs, o.data ≠ .fields vs) : c ≠ b := fun q => by
  obtain ⟨o', vs, e', d'⟩ := f
  rw [q] at e; rw [e] at e'; cases e'; exact hd vs d'
theorem StepI.still (T : StepI Nil Is μ μ' s s') (hf : ∀ b ∈ Is, Fld s.heap b) (hn : ∃ ν, μ' = μ ++ ν ∧ ∀ a ∈ ν, s.heap.get? a = none) : Still μ s.heap μ' s'.heap :=
  ⟨fun b o e ⟨xs, n, dd⟩ hm => T.keep b o (fun h => h) (fun m => fld_ne (hf b m) e (fun vs q => by rw [dd] at q; cases q) rfl) hm e, hn⟩
/-- the frame around, over a change that leaves it be -/
theorem EnvI.kept (I : EnvI C env ρ μ s.heap) (H : HI C σ μ s.heap) (T : StepI Nil Is μ μ' s s') (hf : ∀ b ∈ Is, Fld s.heap b) (hn : ∃ ν, μ' = μ ++ ν ∧ ∀ a ∈ ν, s.heap.get? a = none) : EnvI C env ρ μ' s'.heap := by
  have K := T.still hf hn
  have hk : ∀ b o, s.heap.get? b = some o → (∀ vs, o.data ≠ .fields vs) → b ∉ μ → s'.heap.get? b = some o := fun b o e hd hm => T.keep b o (fun h => h) (fun m => fld_ne (hf b m) e hd rfl) hm e
  have hcell : ∀ x c, env.cells.lookup x = some c → ∀ v₀, s.heap.IsCell c v₀ → s'.heap.IsCell c v₀ := fun x c e v₀ ⟨o, ho, dd⟩ => ⟨o, hk c o ho (fun vs q => by rw [dd] at q; cases q) (I.cellNot H e), dd⟩
  obtain ⟨m, ⟨oL, es, ep, eL, dL, rest⟩, hs⟩ := I.see
  have hL := hk _ _ eL (fun vs q => by rw [dL] at q; cases q) I.lnot
  have hnot : env.locals ∉ μ' := by
    obtain ⟨ν, rfl, hν⟩ := hn
    intro q
    rcases List.mem_append.mp q with q | q
    · exact I.lnot q
    · rw [hν _ q] at eL; cases eL
  refine ⟨I.kind, I.glob, I.blt, I.lnew, hnot, ⟨m, ⟨oL, es, ep, hL, dL, rest⟩, fun x v hv => ?_⟩, fun x c e => ?_, I.cellAll, I.inj⟩
  · obtain ⟨val, r, se⟩ := hs x v hv
    refine ⟨val, r.still K, ?_⟩
    rcases se with se | ⟨kk, c, e, hcl⟩
    · exact .inl se
    · exact .inr ⟨kk, c, e, hcell x c e _ hcl⟩
  · obtain ⟨b, v₀, hcl⟩ := I.cells x c e
    exact ⟨b, v₀, hcell x c e _ hcl⟩
/-- a heap that parts from another at one object of names alone -/
theorem HI.off {h h' : Heap} {L : Addr} (H : HI C σ μ h) (hs : Heap.SameBut L h h') (hL : ∃ m, h.Ns L m) (hm : L ∉ μ) (hB : C.B.get? L = none) : HI C σ μ h' := by
  obtain ⟨m, o, es, ep, e, dd, _⟩ := hL
  have K : Still μ h μ h' := ⟨fun b o' e' ⟨xs, n, d'⟩ _ => (hs.2 b fun q => by rw [q, e] at e'; cases e'; rw [dd] at d'; cases d').trans e', [], by simp, fun _ m => nomatch m⟩
  exact ⟨fun b o e => (hs.2 b fun q => by rw [q, hB] at e; cases e).trans (H.base b o e), H.len, H.nodup, H.new, fun i a c e1 e2 => (H.cells i a c e1 e2).still K fun o e => (hs.2 a fun q => hm (q ▸ List.mem_of_getElem? e1)).trans e⟩
noncomputable def compOk (scope sc : Scope) : Bool := scope.kind == .function && decide ((scope.names.map (·.1)).Nodup) && capOk scope sc && (scope.names.all fun y => y.2 != .local || scope.names.lookup y.1 == some .local)
/-- the comprehension runs; `fin` is asked where its list is whole -/
theorem useComp {use : Option (Value → Sem Unit)} (S : Sit C sc d A env ρ σ μ s) (hi : EvI C d sc iter ρ σ src σ₁) (hok : compOk scope sc = true) (hx : isVar scope x = true)
    (hco : Co C d (relab scope sc) elt x px iter ifs scope pos src (capt scope.names ρ) (σ₁ ++ [.lst []]) σ₁.length σ₂) (hs : ∀ z, foldedSetIterable iter env z = pure z) {Q : Value → Shared → Prop}
    (fin : ∀ μ₂ s₂ D ν Is s₃ L, Step (Loc env) μ μ₂ s s₂ → Sit C sc d A env ρ σ₁ μ₂ s₂ → (∀ b ∈ Is, Fld s₂.heap b) → (∀ b ∈ Is, s.heap.get? b = none) → StepI Nil Is μ₂ (μ₂ ++ D :: ν) s₂ s₃ → (∀ a ∈ D :: ν, s₂.heap.get? a = none) →
      HI C σ₂ (μ₂ ++ D :: ν) s₃.heap → (∃ m, s₃.heap.Ns L m) → L ∉ μ₂ ++ D :: ν → s₂.heap.get? L = none → compPost (model C.prog C.w) A NoE use Q (.ref D) L (.ok .next) s₃) :
    wpAny (model C.prog C.w) A (comprehension (LC elt x px iter ifs scope pos) scope env (firstIterPos [⟨.Name x px, iter, ifs, 0⟩] pos) (newList []) false (eval iter env) use) Q NoE s := by
  simp only [compOk, Bool.and_eq_true, decide_eq_true_eq] at hok
  obtain ⟨⟨⟨hk, hn⟩, hc⟩, hnm⟩ := hok
  have hk' : scope.kind = .function := eq_of_beq hk
  have hxx : scope.names.lookup x = some .local ∨ scope.names.lookup x = some .cell := isVar_cases hx
  have hcapx : ∀ n, (n, NameKind.free) ∈ scope.names → (env.cells.lookup n).isSome = true := fun n hm => by
    have := List.all_eq_true.mp hc _ hm
    have h2 : sc.names.lookup n = some .cell := by simpa using this
    exact S.env.cellAll n (by show env.scope.names.lookup n = _; rw [S.sc]; exact h2)
  refine wpAny_comprehension_free (g := ⟨.Name x px, iter, ifs, 0⟩) (gs := []) rfl hs (closure_eq hcapx) hk' (fun y hy hl => ?_) ?_
  · have := List.all_eq_true.mp hnm _ hy
    rw [hl] at this
    simpa using this
  · refine wpAny_mono (hi.run S) (fun z s₁ h => wpAny_mono h (fun it s₂ ⟨μ₂, Is, st₂, S₂, a₂, hfr⟩ => ?_) fun _ _ f => f) fun _ _ f => f
    refine wpAny_newList ?_
    have g3 : Grow s₂ { s₂ with heap := s₂.heap.push { cls := .type "list", data := .seq ([] : List Value).toArray } } := Grow.push
    have P3 := Post.newCell (c := .lst []) S₂ g3 fresh_of ⟨[], 0, Heap.get?_push_size _ rfl, .nil, Nat.zero_le _⟩
    obtain ⟨μ₃', st3, S₃, r3⟩ := P3
    generalize hs3 : ({ s₂ with heap := s₂.heap.push { cls := .type "list", data := .seq ([] : List Value).toArray } } : Shared) = s₃ at g3 st3 S₃ r3
    have hμ₃ : μ₃' = μ₂ ++ [s₂.heap.objs.size] := by
      obtain ⟨ν, e1, _⟩ := st3.ext
      subst e1
      have hl := S₃.heap.len
      rw [List.length_append, List.length_append, S₂.heap.len] at hl
      cases ν with
      | nil => simp at hl
      | cons a r =>
        have hr : r = [] := by simpa using hl
        subst hr
        cases r3 with
        | ref e =>
          rw [← S₂.heap.len, List.getElem?_append_right (Nat.le_refl _), Nat.sub_self] at e
          cases e; rfl
    subst hμ₃
    have a₃ : SrcIn C (μ₂ ++ [s₂.heap.objs.size]) s₃.heap it Is src := srcKept S₂ a₂ st3.own
    refine compFrame S₃ hk' hn hc fun cenv s₄ g4 hloc hnew S₄ => ?_
    have a₄ : SrcIn C (μ₂ ++ [s₂.heap.objs.size]) s₄.heap it Is src := ⟨a₃.1.still g4.still fun b _ o e => g4.keep b o e, a₃.2⟩
    have hD : (μ₂ ++ [s₂.heap.objs.size])[σ₁.length]? = some s₂.heap.objs.size := by
      rw [← S₂.heap.len, List.getElem?_append_right (Nat.le_refl _), Nat.sub_self]; rfl
    have key : codeAny (model C.prog C.w) A (.compLoop (LC elt x px iter ifs scope pos) 0 it (.ref s₂.heap.objs.size) { cenv with scope := relabel scope env }) (compPost (model C.prog C.w) A NoE use Q (.ref s₂.heap.objs.size) cenv.locals) s₄ := by
      refine codeAny_mono (hco.run S₄ a₄ hD) fun r s₅ ⟨e, μ₅, ρ₅, T, S₅⟩ => ?_
      subst e
      obtain ⟨ν, e5, hν⟩ := T.ext
      have e5' : μ₅ = μ₂ ++ s₂.heap.objs.size :: ν := by rw [e5, List.append_assoc]; rfl
      subst e5'
      have hAt : ∀ b o, s₃.heap.get? b = some o → ¬ At { cenv with scope := relabel scope env } x b := fun b o e => by
        rintro (q | q)
        · have q' : b = s₃.heap.objs.size := q.trans hloc
          rw [q'] at e; exact absurd (Heap.lt_size e) (Nat.lt_irrefl _)
        · have : scope.names.lookup x ≠ some .free := by rcases hxx with z | z <;> rw [z] <;> decide
          rw [hnew x b this q] at e; cases e
      have hfld : ∀ b ∈ Is, Fld s₂.heap b := a₂.1.fld
      have hnewAll : ∀ a ∈ s₂.heap.objs.size :: ν, s₂.heap.get? a = none := fun b m => by
        rcases List.mem_cons.mp m with q | m
        · rw [q]; exact fresh_of
        · cases z : s₂.heap.get? b with
          | none => rfl
          | some o => have := hν b m; rw [g4.keep b o (g3.keep b o z)] at this; cases this
      have T2 : StepI Nil Is μ₂ (μ₂ ++ s₂.heap.objs.size :: ν) s₂ s₅ := by
        refine ⟨?_, fun b o _ hI hm e => ?_, fun b o hI e => ?_, s₂.heap.objs.size :: ν, rfl, hnewAll⟩
        · obtain ⟨h3, t3, e3⟩ := g3.same
          obtain ⟨h4, t4, e4⟩ := g4.same
          obtain ⟨h5, t5, e5⟩ := T.same
          exact ⟨h5, t5, by rw [e5, e4, e3]⟩
        · have e3 := g3.keep b o e
          refine T.keep b o (hAt b o e3) hI (fun m => ?_) (g4.keep b o e3)
          rcases List.mem_append.mp m with m | m
          · exact hm m
          · rw [List.mem_singleton.mp m, fresh_of] at e; cases e
        · exact T.live b o hI (g4.keep b o (g3.keep b o e))
      obtain ⟨m5, hm5, _⟩ := S₅.env.see
      have hLfresh : s₂.heap.get? cenv.locals = none := by
        cases z : s₂.heap.get? cenv.locals with
        | none => rfl
        | some o =>
          have := g3.keep _ _ z
          rw [hloc] at this
          exact absurd (Heap.lt_size this) (Nat.lt_irrefl _)
      exact fin μ₂ s₂ s₂.heap.objs.size ν Is s₅ cenv.locals st₂ S₂ hfld hfr T2 hnewAll S₅.heap ⟨m5, hm5⟩ S₅.env.lnot hLfresh
    exact codeAny_compStart_list key (wpAny_mono (srcSelf (Q := fun it' s' => codeAny (model C.prog C.w) A (.compLoop (LC elt x px iter ifs scope pos) 0 it' (.ref s₂.heap.objs.size) { cenv with scope := relabel scope env }) (compPost (model C.prog C.w) A NoE use Q (.ref s₂.heap.objs.size) cenv.locals) s') a₄ key) (fun _ _ p => p) fun _ _ f => f.elim)
theorem StepI.off {D L : Addr} {ν : List Addr} {h' : Heap} (T : StepI Nil Is μ (μ ++ D :: ν) s s') (hs : Heap.SameBut L s'.heap h') (hL : s.heap.get? L = none) : StepI Nil Is μ (μ ++ D :: ν) s { s' with heap := h' } := by
  have hne : ∀ b o, s.heap.get? b = some o → b ≠ L := fun b o e q => by rw [q, hL] at e; cases e
  refine ⟨?_, fun b o hx hI hm e => (hs.2 b (hne b o e)).trans (T.keep b o hx hI hm e), fun b o hI e => ?_, T.ext⟩
  · obtain ⟨h, tk, e⟩ := T.same; exact ⟨h', tk, by rw [e]⟩
  · obtain ⟨o', e'⟩ := T.live b o hI e; exact ⟨o', (hs.2 b (hne b o e)).trans e'⟩
theorem StepI.shrink {D : Addr} (T : StepI Nil Is μ (μ ++ [D]) s s') : StepI Nil Is μ μ s s' := ⟨T.same, T.keep, T.live, [], by simp, fun _ m => nomatch m⟩
theorem nuNil {D : Addr} {ν : List Addr} (h1 : HI C σ μ s.heap) (h2 : HI C (σ ++ [.lst vs]) (μ ++ D :: ν) s'.heap) : ν = [] := by
  have e1 := h1.len
  have e2 := h2.len
  rw [List.length_append, List.length_append, e1] at e2
  simpa using e2
theorem atEnd {D : Addr} {ν : List Addr} (h : μ.length = σ.length) : (μ ++ D :: ν)[σ.length]? = some D := by
  rw [← h, List.getElem?_append_right (Nat.le_refl _), Nat.sub_self]; rfl
/-- the list, frozen -/
theorem frozenList {D : Addr} (h1 : HI C σ μ s.heap) (h2 : HI C (σ ++ [.lst vs]) (μ ++ [D]) s'.heap) (hf : FrzL σ.length (σ ++ [.lst vs]) vs ws) : HI C σ μ s'.heap ∧ Rep μ s'.heap (.lst ws) (.ref D) := by
  refine ⟨h2.frz ?_, ?_⟩
  · rw [h1.len, List.take_left, ← h1.len]; exact h1.frzOld
  · refine Rep.frz h2 (v := .ref σ.length) (.new (by rw [h1.len]; exact Nat.le_refl _) (by rw [List.getElem?_append_right (Nat.le_refl _), Nat.sub_self]; rfl) (by rw [h1.len]; exact hf)) (.ref (atEnd h1.len))
theorem Ev.comp (hi : EvI C d sc iter ρ σ src σ₁) (hco : Co C d (relab scope sc) elt x px iter ifs scope pos src (capt scope.names ρ) (σ₁ ++ [.lst []]) σ₁.length (σ₁ ++ [.lst vs])) (hf : FrzL σ₁.length (σ₁ ++ [.lst vs]) vs ws)
    (hok : compOk scope sc = true := by rfl) (hx : isVar scope x = true := by rfl) (hs : ∀ env z, foldedSetIterable iter env z = pure z := by intro _ _; rfl) : Ev C d sc (LC elt x px iter ifs scope pos) ρ σ (.lst ws) σ₁ := .mk <| fun {A env μ s} S => by
  show wpAny _ _ (eval (.ListComp elt [⟨.Name x px, iter, ifs, 0⟩] scope pos) env) _ _ _
  rw [eval_ListComp]
  refine useComp (use := none) S hi hok hx hco (hs env) fun μ₂ s₂ D ν Is s₃ L st S₂ hfld hfr T hnew H hL hLn hLf => ?_
  have e := nuNil S₂.heap H
  subst e
  refine ⟨_, hL.choose_spec, fun h' hb => ?_⟩
  have H' := H.off hb hL hLn (S₂.heap.fresh hLf)
  have T' := (T.off hb hLf).shrink
  obtain ⟨h1, h2⟩ := frozenList (s' := { s₃ with heap := h' }) S₂.heap H' hf
  exact ⟨μ₂, StepI.whole st hfr (T'.mono fun _ h => h.elim), ⟨S₂.wd, S₂.lim, S₂.sc, S₂.env.kept S₂.heap T' hfld ⟨[], by simp, fun _ m => nomatch m⟩, h1⟩, h2⟩
theorem Ev.compCell (hi : EvI C d sc iter ρ σ src σ₁) (hco : Co C d (relab scope sc) elt x px iter ifs scope pos src (capt scope.names ρ) (σ₁ ++ [.lst []]) σ₁.length σ₂)
    (hok : compOk scope sc = true := by rfl) (hx : isVar scope x = true := by rfl) (hs : ∀ env z, foldedSetIterable iter env z = pure z := by intro _ _; rfl) : Ev C d sc (LC elt x px iter ifs scope pos) ρ σ (.ref σ₁.length) σ₂ := .mk <| fun {A env μ s} S => by
  show wpAny _ _ (eval (.ListComp elt [⟨.Name x px, iter, ifs, 0⟩] scope pos) env) _ _ _
  rw [eval_ListComp]
  refine useComp (use := none) S hi hok hx hco (hs env) fun μ₂ s₂ D ν Is s₃ L st S₂ hfld hfr T hnew H hL hLn hLf => ?_
  refine ⟨_, hL.choose_spec, fun h' hb => ?_⟩
  have H' := H.off hb hL hLn (S₂.heap.fresh hLf)
  have T' := T.off hb hLf
  exact ⟨_, StepI.whole st hfr (T'.mono fun _ h => h.elim), ⟨S₂.wd, S₂.lim, S₂.sc, S₂.env.kept S₂.heap T' hfld ⟨_, rfl, hnew⟩, H'⟩, .ref (atEnd S₂.heap.len)⟩
theorem EnvI.off {h h' : Heap} {L : Addr} (I : EnvI C env ρ μ h) (hs : Heap.SameBut L h h') (hL : ∃ m, h.Ns L m) (h1 : env.locals ≠ L) : EnvI C env ρ μ h' := by
  obtain ⟨m', o', es', ep', e', dd', _⟩ := hL
  have K : Still μ h μ h' := ⟨fun b o e ⟨xs, n, d⟩ _ => (hs.2 b fun q => by rw [q, e'] at e; cases e; rw [dd'] at d; cases d).trans e, [], by simp, fun _ m => nomatch m⟩
  have hcell : ∀ c v₀, h.IsCell c v₀ → h'.IsCell c v₀ := fun c v₀ ⟨o, e, d⟩ => ⟨o, (hs.2 c fun q => by rw [q, e'] at e; cases e; rw [dd'] at d; cases d).trans e, d⟩
  obtain ⟨m, ⟨oL, es, ep, eL, dL, rest⟩, hsee⟩ := I.see
  refine ⟨I.kind, I.glob, I.blt, I.lnew, I.lnot, ⟨m, ⟨oL, es, ep, (hs.2 _ h1).trans eL, dL, rest⟩, fun x v hv => ?_⟩, fun x c e => ?_, I.cellAll, I.inj⟩
  · obtain ⟨val, r, se⟩ := hsee x v hv
    refine ⟨val, r.still K, ?_⟩
    rcases se with se | ⟨kk, c, e1, e2⟩
    · exact .inl se
    · exact .inr ⟨kk, c, e1, hcell _ _ e2⟩
  · obtain ⟨b, v₀, e2⟩ := I.cells x c e
    exact ⟨b, v₀, hcell _ _ e2⟩
theorem StepI.andStep {X : Addr → Prop} {s'' : Shared} (a : StepI X Is μ μ s s') (b : Step X μ μ s' s'') : StepI X Is μ μ s s'' := by
  refine ⟨?_, fun c o hx hi hm e => b.keep c o hx hm (a.keep c o hx hi hm e), fun c o hi e => ?_, [], by simp, fun _ m => nomatch m⟩
  · obtain ⟨h, tk, rfl⟩ := a.same; obtain ⟨h', tk', rfl⟩ := b.same; exact ⟨_, _, rfl⟩
  · obtain ⟨o', e'⟩ := a.live c o hi e; exact b.live c o' e'
theorem StepI.offL {X : Addr → Prop} {L : Addr} {h' : Heap} (T : StepI X Is μ μ s s') (hs : Heap.SameBut L s'.heap h') (hL : s.heap.get? L = none) : StepI X Is μ μ s { s' with heap := h' } := by
  have hne : ∀ b o, s.heap.get? b = some o → b ≠ L := fun b o e q => by rw [q, hL] at e; cases e
  refine ⟨?_, fun b o hx hI hm e => (hs.2 b (hne b o e)).trans (T.keep b o hx hI hm e), fun b o hI e => ?_, [], by simp, fun _ m => nomatch m⟩
  · obtain ⟨h, tk, e⟩ := T.same; exact ⟨h', tk, by rw [e]⟩
  · obtain ⟨o', e'⟩ := T.live b o hI e; exact ⟨o', (hs.2 b (hne b o e)).trans e'⟩
/-- y = [..], the list handed to the name before the comprehension's names go -/
theorem Ex.assignComp {y : Str} {py spos : Pos} (hi : EvI C d sc iter ρ σ src σ₁) (hco : Co C d (relab scope sc) elt x px iter ifs scope pos src (capt scope.names ρ) (σ₁ ++ [.lst []]) σ₁.length (σ₁ ++ [.lst vs])) (hf : FrzL σ₁.length (σ₁ ++ [.lst vs]) vs ws)
    (hy : sc.names.lookup y = some .local := by rfl) (hok : compOk scope sc = true := by rfl) (hx : isVar scope x = true := by rfl) (hs : ∀ env z, foldedSetIterable iter env z = pure z := by intro _ _; rfl)
    (hsw : ∀ env : Env, env.scope = sc → swapsWith (LC elt x px iter ifs scope pos) (some (.Name y py)) spos.line env = pure true := by intro e h; cases e; cases h; rfl) :
    Ex C d sc (.Assign [.Name y py] (LC elt x px iter ifs scope pos) spos) ρ σ (.next (upd ρ y (.lst ws)) σ₁) := .mk <| fun {A env μ s} S => by
  rw [exec_Assign_Name_used _ _ _ _ (hsw env S.sc)]
  refine wpAny_bind (wpAny_standAt (wpAny_bind ?_))
  show wpAny _ A (do let _ ← comprehension (LC elt x px iter ifs scope pos) scope env (firstIterPos [⟨.Name x px, iter, ifs, 0⟩] pos) (newList []) false (eval iter env) (some (PySem.assign (.Name y py) env))) _ _ s
  refine wpAny_bind (useComp (use := some (PySem.assign (.Name y py) env)) (Q := fun _ s' => wpAny _ A (pure ()) (fun _ s' => wpAny _ A (pure Flow.next) _ _ s') _ s') S hi hok hx hco (hs env) fun μ₂ s₂ D ν Is s₃ L st S₂ hfld hfr T hnew H hL hLn hLf => ?_)
  have e := nuNil S₂.heap H
  subst e
  have hyv : isVar sc y = true := by unfold isVar; rw [hy]
  obtain ⟨h1, h2⟩ := frozenList S₂.heap H hf
  have S₃ : Sit C sc d A env ρ σ₁ μ₂ s₃ := ⟨S₂.wd, S₂.lim, S₂.sc, S₂.env.kept S₂.heap T.shrink hfld ⟨[], by simp, fun _ m => nomatch m⟩, h1⟩
  show wpAny _ A (PySem.assign (.Name y py) env (.ref D)) _ _ _
  refine wpAny_assign_Name (S₃.storeAt h2 hyv fun s₄ st4 S₄ => ?_)
  have hLloc : env.locals ≠ L := fun q => by
    obtain ⟨m, ⟨o, _, _, e, _⟩, _⟩ := S₂.env.see
    rw [q, hLf] at e; cases e
  have hLcell : env.cells.lookup y ≠ some L := fun q => by
    obtain ⟨_, v₀, o, e, _⟩ := S₂.env.cells y L q
    rw [hLf] at e; cases e
  have hLμ : L ∉ μ₂ := fun m => hLn (List.mem_append_left _ m)
  have hL4 : ∃ m, s₄.heap.Ns L m := by
    obtain ⟨m, o, es, ep, e, rest⟩ := hL
    exact ⟨m, o, es, ep, st4.keep L o (fun q => q.elim (fun z => hLloc z.symm) hLcell) hLμ e, rest⟩
  refine ⟨_, hL4.choose_spec, fun h' hb => wpAny_pure (wpAny_pure ⟨rfl, μ₂, ?_, ⟨S₂.wd, S₂.lim, S₂.sc, S₄.env.off hb hL4 hLloc, S₄.heap.off hb hL4 hLμ (S₂.heap.fresh hLf)⟩⟩)⟩
  refine StepI.whole st.own hfr ?_
  exact ((T.shrink.mono fun _ h => h.elim).andStep (st4.mono fun _ h => At.own h)).offL hb hLf
end
end
section

section
variable {C : Cx} {d : Nat} {sc : Scope} {A : Around} {env : Env} {ρ : List (Str × V)} {σ σ₁ σ₂ σ₃ : List Cell} {μ : List Addr} {s : Shared} {v v₁ v₂ : V} {vs ws : List V}
theorem Ev.andT {x y pos} (h1 : Ev C d sc x ρ σ (.bool true) σ₁) (h2 : Ev C d sc y ρ σ₁ v σ₂) : Ev C d sc (.BoolOp .And [x, y] pos) ρ σ v σ₂ := .mk <| fun S =>
  wpAny_And2 (h1.use S fun _ _ _ st S' r => by
    cases r
    exact wpAny_truthy_bool (by rw [if_pos rfl]; exact wpAny_mono (h2.run S') (fun _ _ p => p.after st) fun _ _ f => f))
theorem Ev.andF {x y pos} (h1 : Ev C d sc x ρ σ (.bool false) σ₁) : Ev C d sc (.BoolOp .And [x, y] pos) ρ σ (.bool false) σ₁ := .mk <| fun S =>
  wpAny_And2 (h1.use S fun _ _ _ st S' r => by
    cases r
    exact wpAny_truthy_bool (by rw [if_neg Bool.false_ne_true]; exact ⟨_, st, S', .bool _⟩))
theorem RepL.replicate {μ h} {v : V} {x : Value} (r : Rep μ h v x) : ∀ n : Nat, RepL μ h (List.replicate n v) (List.replicate n x)
  | 0 => .nil
  | n + 1 => .cons r (RepL.replicate r n)
theorem flat_one {α : Type} (x : α) : ∀ n : Nat, (List.replicate n [x]).flatten = List.replicate n x
  | 0 => rfl
  | n + 1 => by rw [List.replicate_succ, List.flatten_cons, flat_one x n]; rfl
theorem useRep {l r pos} {k : Int} (h1 : Ev C d sc l ρ σ (.lst [v]) σ₁) (h2 : Ev C d sc r ρ σ₁ (.int k) σ₂) (hk : k.toNat ≤ 1000000) (hb : k.natAbs ≤ 1000000) (S : Sit C sc d A env ρ σ μ s) {Q : Value → Shared → Prop}
    (h : ∀ μ₁ s₁ x h', Step (Loc env) μ μ₁ s s₁ → Sit C sc d A env ρ σ₂ μ₁ s₁ → Rep μ₁ s₁.heap v x → Grow s₁ { s₁ with heap := h' } → h'.get? s₁.heap.objs.size = some (listOf (List.toArray (List.replicate k.toNat x)) 0) → Q (.ref s₁.heap.objs.size) { s₁ with heap := h' }) :
    wpAny (model C.prog C.w) A (eval (.BinOp l .Mult r pos) env) Q NoE s :=
  wpAny_BinOp (h1.use S fun _ _ _ st₁ S₁ r₁ => h2.use S₁ fun _ _ s₂ st₂ S₂ r₂ => by
    obtain ⟨a, xs, rfl, hl, q⟩ := lst_at S₂.heap (r₁.still (S₁.still st₂)) (vs := [v]) rfl
    obtain ⟨x, rfl, rx⟩ : ∃ x, xs = [x] ∧ Rep _ _ v x := by
      cases q with
      | cons a b => cases b; exact ⟨_, rfl, a⟩
    cases r₂
    obtain ⟨⟨cls, d, data, sl⟩, ho, hcl, n, hd⟩ := id hl
    simp only at hcl hd
    subst hcl hd
    refine wpAny_binaryOp_repeat_ref (T := "list") (U := "int") (by decide) ⟨_, ho, rfl⟩ (fun s' => typeIs_int s' k _) noFill_list_mul PySem.F.fills_int_mul PySem.F.slot_int_rmul repeat_list PySem.F.slot_int_index.lookup
      (call_meets PySem.F.slot_int_rmul (typeIs_int s₂ k _) PySem.F.entry_int_rmul (PySem.F.args_int_rmul_2 _ _) (lm_int_rmul_list_any k _ a [x].toArray n d sl)
        ⟨ho, rfl, ⟨_, ho, rfl⟩, call_meets PySem.F.slot_list_mul ⟨_, ho, rfl⟩ PySem.F.entry_list_mul (PySem.F.args_list_mul_2 _ _)
          (lm_list_mul_any a [x].toArray n d sl k _ (by simp [Builtin.List.listFitsIndex]; omega) (by simp; omega) (by simp [Builtin.List.listTooLong, sizeLine]; omega))
          ⟨ho, ?_⟩⟩)
    refine h _ _ x _ (st₁.trans st₂) S₂ rx Grow.push ?_
    rw [Heap.get?_push_size _ rfl, listMul_foldl_if]
    simp only [flat_one])
theorem Ev.rep {l r pos} {k : Int} (h1 : Ev C d sc l ρ σ (.lst [v]) σ₁) (h2 : Ev C d sc r ρ σ₁ (.int k) σ₂) (hk : 0 ≤ k ∧ k ≤ 1000000) : Ev C d sc (.BinOp l .Mult r pos) ρ σ (.lst (List.replicate k.toNat v)) σ₂ := .mk <| fun S =>
  useRep h1 h2 (by omega) (by omega) S fun _ _ x h' st S' rx g e => (Post.newLst S' g fresh_of e (RepL.replicate rx _)).after st
theorem Ev.repCell {l r pos} {k : Int} (h1 : Ev C d sc l ρ σ (.lst [v]) σ₁) (h2 : Ev C d sc r ρ σ₁ (.int k) σ₂) (hk : 0 ≤ k ∧ k ≤ 1000000) : Ev C d sc (.BinOp l .Mult r pos) ρ σ (.ref σ₂.length) (σ₂ ++ [.lst (List.replicate k.toNat v)]) := .mk <| fun S =>
  useRep h1 h2 (by omega) (by omega) S fun _ _ x h' st S' rx g e =>
    (Post.newCell (c := .lst (List.replicate k.toNat v)) S' g fresh_of ⟨_, 0, e, (RepL.replicate rx _).still (stillNew g fresh_of), by simp; omega⟩).after st
/-! ## comprehensions of one clause over what does not change -/
theorem lstOf_ext {c : Cell} (h : lstOf σ v = some vs) : lstOf (σ ++ [c]) v = some vs := by
  unfold lstOf at h ⊢
  cases v <;> simp_all
  rename_i n
  cases q : σ[n]? with
  | none => rw [q] at h; cases h
  | some c' => rw [List.getElem?_append_left (List.getElem?_eq_some_iff.mp q).1, q]; rw [q] at h; exact h
theorem upd_upd : ∀ (ρ : List (Str × V)) (x : Str) (u v : V), upd (upd ρ x u) x v = upd ρ x v
  | [], x, u, v => by simp [upd]
  | (y, w) :: r, x, u, v => by
    cases h : x == y with
    | true => simp [upd, h]
    | false => simp [upd, h, upd_upd r x u v]
noncomputable def Src.succ : Src → Src
  | .lst v i => .lst v (i + 1)
  | .tup vs i => .tup vs (i + 1)
  | .rng a n => .rng (a + 1) (n - 1)
  | .enm v i => .enm v (i + 1)
  | .rev vs i => .rev vs (i - 1)
/-- what a comprehension's source still gives -/
inductive Gives (σ : List Cell) : Src → List V → Prop
  | nil {src} : src.over σ = true → Gives σ src []
  | cons {src : Src} {u us} : src.next σ = some (u, src.succ) → (∀ x px, Tgt (.Name x px) src u) → Gives σ src.succ us → Gives σ src (u :: us)
theorem coAll {elt iter : Expr} {x : Str} {px pos : Pos} {scope : Scope} {α : Type} (emb : α → V) (g : α → V) {k : Nat} (hx : isVar sc x = true) (hk : k = σ.length) :
    ∀ {as : List α} {src : Src} {acc : List V}, (∀ acc, Gives (σ ++ [.lst acc]) src (as.map emb)) → acc.length + as.length ≤ 1000000 →
    (∀ a ∈ as, ∀ acc ρ', (ρ' = ρ ∨ ∃ u, ρ' = upd ρ x u) → Ev C d sc elt (upd ρ' x (emb a)) (σ ++ [.lst acc]) (g a) (σ ++ [.lst acc])) → ∀ ρ', (ρ' = ρ ∨ ∃ u, ρ' = upd ρ x u) →
    Co C d sc elt x px iter [] scope pos src ρ' (σ ++ [.lst acc]) k (σ ++ [.lst (acc ++ as.map g)])
  | [], src, acc, hs, _, _, ρ', _ => by
    have q := hs acc
    cases q with
    | nil h => simpa using Co.done h
  | a :: as, src, acc, hs, hl, he, ρ', hr => by
    have q := hs acc
    rw [List.map_cons] at q
    cases q with
    | cons h ht hq =>
      have hkk : ∀ c : Cell, (σ ++ [c])[k]? = some c := fun c => by rw [hk, List.getElem?_append_right (Nat.le_refl _), Nat.sub_self]; rfl
      refine Co.turn h (ht _ _) (he a (.head _) acc ρ' hr) (hkk _) (by simp at hl; omega) ?_ hx
      have hset : (σ ++ [Cell.lst acc]).set k (.lst (acc ++ [g a])) = σ ++ [.lst (acc ++ [g a])] := by
        rw [hk, List.set_append_right _ _ (Nat.le_refl _), Nat.sub_self]; rfl
      rw [hset]
      have := coAll (elt := elt) (iter := iter) (px := px) (pos := pos) (scope := scope) emb g hx hk (as := as) (src := src.succ) (acc := acc ++ [g a]) (fun acc' => by
        have q := hs acc'
        rw [List.map_cons] at q
        cases q with
        | cons _ _ q' => exact q') (by simp at hl ⊢; omega) (fun a' m => he a' (.tail _ m)) (upd ρ' x (emb a)) (.inr (by
          rcases hr with rfl | ⟨u, rfl⟩
          · exact ⟨_, rfl⟩
          · exact ⟨emb a, upd_upd _ _ _ _⟩))
      rw [List.append_assoc] at this
      exact this
theorem plains_map {α : Type} {g : α → V} : ∀ {as : List α}, (∀ a ∈ as, (g a).plain = true) → V.plains (as.map g) = true
  | [], _ => rfl
  | a :: as, h => by
    rw [List.map_cons]; unfold V.plains
    rw [h a (.head _), plains_map fun b m => h b (.tail _ m)]; rfl
theorem gives_lst {v : V} {us : List V} (h : lstOf σ v = some us) (ht : ∀ u ∈ us, ∀ x px, Tgt (.Name x px) (.lst v 0) u) : Gives σ (.lst v 0) us := by
  have : ∀ (ws : List V) (i : Nat), us.drop i = ws → Gives σ (.lst v i) ws := by
    intro ws
    induction ws with
    | nil =>
      intro i e
      refine .nil ?_
      have hl : us.length ≤ i := List.drop_eq_nil_iff.mp e
      show (match lstOf σ v with | some vs => (match vs[i]? with | some _ => false | none => true) | none => false) = true
      rw [h]
      simp only [List.getElem?_eq_none hl]
    | cons w ws ih =>
      intro i e
      have hi : i < us.length := by
        rcases Nat.lt_or_ge i us.length with q | q
        · exact q
        · rw [List.drop_eq_nil_of_le q] at e; cases e
      rw [List.drop_eq_getElem_cons hi] at e
      injection e with e1 e2
      refine .cons ?_ (fun x px => .inl ⟨_, _, rfl⟩) (ih (i + 1) e2)
      show (match lstOf σ v with | some vs => (match vs[i]? with | some y => some (y, Src.lst v (i + 1)) | none => none) | none => none) = _
      rw [h]
      simp only [List.getElem?_eq_getElem hi, e1]
      rfl
  exact this us 0 rfl
theorem gives_rng : ∀ (n : Nat) (a : Int), Gives σ (.rng a n) ((List.range' 0 n).map fun i => V.int (a + (i : Nat)))
  | 0, a => .nil rfl
  | n + 1, a => by
    rw [List.range'_succ, List.map_cons]
    have := gives_rng n (a + 1)
    refine .cons (by simp [Src.next, Src.succ]) (fun x px => ⟨_, _, rfl⟩) ?_
    show Gives σ (.rng (a + 1) n) _
    refine cast ?_ this
    congr 1
    rw [List.range'_eq_map_range, List.range'_eq_map_range, List.map_map, List.map_map]
    refine List.map_congr_left fun i _ => ?_
    simp; omega
theorem Ev.compA {elt iter : Expr} {x : Str} {px pos : Pos} {scope : Scope} {src : Src} {α : Type} (emb : α → V) (g : α → V) (as : List α) (hi : EvI C d sc iter ρ σ src σ₁) (hg : ∀ acc, Gives (σ₁ ++ [.lst acc]) src (as.map emb)) (hl : as.length ≤ 1000000)
    (he : ∀ a ∈ as, ∀ acc ρ', (ρ' = capt scope.names ρ ∨ ∃ u, ρ' = upd (capt scope.names ρ) x u) → Ev C d (relab scope sc) elt (upd ρ' x (emb a)) (σ₁ ++ [.lst acc]) (g a) (σ₁ ++ [.lst acc])) (hp : ∀ a ∈ as, (g a).plain = true)
    (hok : compOk scope sc = true := by rfl) (hx : isVar scope x = true := by rfl) (hx' : isVar (relab scope sc) x = true := by rfl) (hs : ∀ env z, foldedSetIterable iter env z = pure z := by intro _ _; rfl) : Ev C d sc (LC elt x px iter [] scope pos) ρ σ (.lst (as.map g)) σ₁ :=
  Ev.comp hi (coAll emb g hx' rfl (acc := []) hg (by simpa using hl) he _ (.inl rfl)) (FrzL.plain (plains_map hp)) hok hx hs
theorem Ev.compL {elt iter : Expr} {x : Str} {px pos : Pos} {scope : Scope} {α : Type} (emb : α → V) (g : α → V) (as : List α) (hi : EvI C d sc iter ρ σ (.lst v 0) σ₁) (hv : lstOf σ₁ v = some (as.map emb)) (hl : as.length ≤ 1000000)
    (he : ∀ a ∈ as, ∀ acc, Ev C d (relab scope sc) elt (upd (capt scope.names ρ) x (emb a)) (σ₁ ++ [.lst acc]) (g a) (σ₁ ++ [.lst acc])) (hp : ∀ a ∈ as, (g a).plain = true)
    (hok : compOk scope sc = true := by rfl) (hx : isVar scope x = true := by rfl) (hx' : isVar (relab scope sc) x = true := by rfl) (hs : ∀ env z, foldedSetIterable iter env z = pure z := by intro _ _; rfl) : Ev C d sc (LC elt x px iter [] scope pos) ρ σ (.lst (as.map g)) σ₁ :=
  Ev.compA emb g as hi (fun acc => gives_lst (lstOf_ext hv) fun _ _ _ _ => .inl ⟨_, _, rfl⟩) hl (fun a m acc ρ' h => by
    have e : upd ρ' x (emb a) = upd (capt scope.names ρ) x (emb a) := by
      rcases h with rfl | ⟨u, rfl⟩
      · rfl
      · exact upd_upd _ _ _ _
    rw [e]; exact he a m acc) hp hok hx hx' hs
theorem Ev.compR {elt iter : Expr} {x : Str} {px pos : Pos} {scope : Scope} {n : Nat} (g : Nat → V) (hi : EvI C d sc iter ρ σ (.rng 0 n) σ₁) (hl : n ≤ 1000000)
    (he : ∀ i < n, ∀ acc, Ev C d (relab scope sc) elt (upd (capt scope.names ρ) x (.int i)) (σ₁ ++ [.lst acc]) (g i) (σ₁ ++ [.lst acc])) (hp : ∀ i < n, (g i).plain = true)
    (hok : compOk scope sc = true := by rfl) (hx : isVar scope x = true := by rfl) (hx' : isVar (relab scope sc) x = true := by rfl) (hs : ∀ env z, foldedSetIterable iter env z = pure z := by intro _ _; rfl) : Ev C d sc (LC elt x px iter [] scope pos) ρ σ (.lst ((List.range n).map g)) σ₁ :=
  Ev.compA (fun i : Nat => V.int i) g (List.range n) hi (fun acc => by
    have := gives_rng (σ := σ₁ ++ [.lst acc]) n 0
    rw [List.range'_eq_map_range, List.map_map] at this
    refine cast ?_ this
    congr 1
    refine List.map_congr_left fun i _ => ?_
    simp) (by simpa using hl) (fun a m acc ρ' h => by
    have e : upd ρ' x (.int a) = upd (capt scope.names ρ) x (.int a) := by
      rcases h with rfl | ⟨u, rfl⟩
      · rfl
      · exact upd_upd _ _ _ _
    rw [e]; exact he a (List.mem_range.mp m) acc) (fun a m => hp a (List.mem_range.mp m)) hok hx hx' hs
theorem Ex.augSub {x p e pos} {a b : Int} (h0 : ρ.lookup x = some (.int a)) (h : Ev C d sc e ρ σ (.int b) σ₁) (hx : isVar sc x = true := by rfl) : Ex C d sc (.AugAssign (.Name x p) .Sub e pos) ρ σ (.next (upd ρ x (.int (a - b))) σ₁) := .mk <| fun S =>
  wpAny_AugAssign_Name (useName S h0 fun val r => h.use S fun _ _ _ st S' r' => by
    cases r; cases r'
    refine PyProof.Rows.isub_int ((S'.grow Grow.toks).store (.int _ _) hx fun _ st' S'' => ⟨rfl, _, st.own.trans (Grow.toks.step.trans st'), S''⟩))
theorem Ex.expr {e pos} (h : Ev C d sc e ρ σ v σ₁) (hi : sc.kind = .function := by rfl) (hw : ∀ env, swapsWith e none pos.line env = pure false := by intro _; rfl) : Ex C d sc (.Expr e pos) ρ σ (.next ρ σ₁) := .mk <| fun {A env μ s} S =>
  wpAny_Expr_any (h.use S fun μ' _ _ st S' _ => ⟨rfl, μ', st.own, S'⟩) (by unfold interactive; rw [S.sc, hi]; rfl) (hw env)
theorem Ex.assignCompA {y : Str} {py spos : Pos} {elt iter : Expr} {x : Str} {px pos : Pos} {scope : Scope} {src : Src} {α : Type} (emb : α → V) (g : α → V) (as : List α) (hi : EvI C d sc iter ρ σ src σ₁) (hg : ∀ acc, Gives (σ₁ ++ [.lst acc]) src (as.map emb)) (hl : as.length ≤ 1000000)
    (he : ∀ a ∈ as, ∀ acc, Ev C d (relab scope sc) elt (upd (capt scope.names ρ) x (emb a)) (σ₁ ++ [.lst acc]) (g a) (σ₁ ++ [.lst acc])) (hp : ∀ a ∈ as, (g a).plain = true)
    (hy : sc.names.lookup y = some .local := by rfl) (hok : compOk scope sc = true := by rfl) (hx : isVar scope x = true := by rfl) (hx' : isVar (relab scope sc) x = true := by rfl) (hs : ∀ env z, foldedSetIterable iter env z = pure z := by intro _ _; rfl)
    (hsw : ∀ env : Env, env.scope = sc → swapsWith (LC elt x px iter [] scope pos) (some (.Name y py)) spos.line env = pure true := by intro e h; cases e; cases h; rfl) :
    Ex C d sc (.Assign [.Name y py] (LC elt x px iter [] scope pos) spos) ρ σ (.next (upd ρ y (.lst (as.map g))) σ₁) :=
  Ex.assignComp hi (coAll emb g hx' rfl (acc := []) hg (by simpa using hl) (fun a m acc ρ' h => by
    have e : upd ρ' x (emb a) = upd (capt scope.names ρ) x (emb a) := by
      rcases h with rfl | ⟨u, rfl⟩
      · rfl
      · exact upd_upd _ _ _ _
    rw [e]; exact he a m acc) _ (.inl rfl)) (FrzL.plain (plains_map hp)) hy hok hx hs hsw
theorem Ex.assignCompR {y : Str} {py spos : Pos} {elt iter : Expr} {x : Str} {px pos : Pos} {scope : Scope} {n : Nat} {ρ₂ : List (Str × V)} {w : V} (g : Nat → V) (hi : EvI C d sc iter ρ σ (.rng 0 n) σ₁) (hl : n ≤ 1000000)
    (he : ∀ i < n, ∀ acc, Ev C d (relab scope sc) elt (upd (capt scope.names ρ) x (.int i)) (σ₁ ++ [.lst acc]) (g i) (σ₁ ++ [.lst acc])) (hp : ∀ i < n, (g i).plain = true) (hw : .lst ((List.range n).map g) = w) (hu : upd ρ y w = ρ₂)
    (hy : sc.names.lookup y = some .local := by rfl) (hok : compOk scope sc = true := by rfl) (hx : isVar scope x = true := by rfl) (hx' : isVar (relab scope sc) x = true := by rfl) (hs : ∀ env z, foldedSetIterable iter env z = pure z := by intro _ _; rfl)
    (hsw : ∀ env : Env, env.scope = sc → swapsWith (LC elt x px iter [] scope pos) (some (.Name y py)) spos.line env = pure true := by intro e h; cases e; cases h; rfl) :
    Ex C d sc (.Assign [.Name y py] (LC elt x px iter [] scope pos) spos) ρ σ (.next ρ₂ σ₁) := by
  subst hu hw
  exact Ex.assignCompA (fun i : Nat => V.int i) g (List.range n) hi (fun acc => by
    have := gives_rng (σ := σ₁ ++ [.lst acc]) n 0
    rw [List.range'_eq_map_range, List.map_map] at this
    refine cast ?_ this
    congr 1
    refine List.map_congr_left fun i _ => ?_
    simp) (by simpa using hl) (fun a m acc => he a (List.mem_range.mp m) acc) (fun a m => hp a (List.mem_range.mp m)) hy hok hx hx' hs hsw
end
end
section

noncomputable abbrev LC2 (elt : Expr) (x : Str) (px : Pos) (iter : Expr) (y : Str) (py : Pos) (iter2 : Expr) (scope : Scope) (pos : Pos) : Expr := .ListComp elt [⟨.Name x px, iter, [], 0⟩, ⟨.Name y py, iter2, [], 0⟩] scope pos
section
variable (elt : Expr) (x : Str) (px : Pos) (iter : Expr) (y : Str) (py : Pos) (iter2 : Expr) (scope : Scope) (pos : Pos) (it acc : Value) (env : Env)
theorem compTurn_two1 :
    compTurn (LC2 elt x px iter y py iter2 scope pos) 1 it acc env = (standAt iter2.pos >>= fun _ => pyNext it >>= fun r => match r with
      | none => pure (.done .next)
      | some v => letOwnedTupleGo (.Name y py) it v >>= fun _ => assign (.Name y py) env v >>= fun _ =>
        (eval elt env >>= fun z => call (.builtin "list.append") [acc, z] >>= fun _ => pure ()) >>= fun _ =>
          again (.compLoop (LC2 elt x px iter y py iter2 scope pos) 1 it acc env)) := by rfl
theorem compTurn_two0 :
    compTurn (LC2 elt x px iter y py iter2 scope pos) 0 it acc env = (standAt iter.pos >>= fun _ => pyNext it >>= fun r => match r with
      | none => pure (.done .next)
      | some v => letOwnedTupleGo (.Name x px) it v >>= fun _ => assign (.Name x px) env v >>= fun _ =>
        eval iter2 env >>= fun z => standAt iter2.pos >>= fun _ => foldedSetIterable iter2 env z >>= fun z => holding [z] (pyIter z) >>= fun it2 =>
          runOwn (.compStart (LC2 elt x px iter y py iter2 scope pos) 1 it2 acc env) env >>= fun _ =>
          again (.compLoop (LC2 elt x px iter y py iter2 scope pos) 0 it acc env)) := by rfl
end
section
variable {prog : Program} {w : World} {A : Around} {E : Value → Shared → Prop} {R : Result → Shared → Prop} {s : Shared}
variable {elt : Expr} {x : Str} {px : Pos} {iter : Expr} {y : Str} {py : Pos} {iter2 : Expr} {scope : Scope} {pos : Pos} {it acc : Value} {env : Env}
theorem two_turn1
    (h : wpAny (model prog w) A (pyNext it) (fun r s₁ => match r with
      | none => R (.ok .next) s₁
      | some v => wpAny (model prog w) A (letOwnedTupleGo (.Name y py) it v) (fun _ s₁' => wpAny (model prog w) A (assign (.Name y py) env v) (fun _ s₂ => wpAny (model prog w) A (eval elt env) (fun z s₄ =>
              wpAny (model prog w) A (call (.builtin "list.append") [acc, z]) (fun _ s₅ => codeAny (model prog w) A (.compLoop (LC2 elt x px iter y py iter2 scope pos) 1 it acc env) R s₅) NoE s₄) NoE s₂) NoE s₁') NoE s₁) NoE s) :
    codeAny (model prog w) A (.compLoop (LC2 elt x px iter y py iter2 scope pos) 1 it acc env) R s := by
  refine codeAny_of_tree ?_
  show wpAny _ A ((compTurn (LC2 elt x px iter y py iter2 scope pos) 1 it acc env).onRaise (fun x => do noteFrame x env; theTreesLotGoes x)) _ _ s
  refine wpAny_noted ?_
  rw [compTurn_two1]
  refine wpAny_bind (wpAny_standAt (wpAny_bind (wpAny_mono h (fun r s₁ h₁ => ?_) fun _ _ f => f.elim)))
  cases r with
  | none => exact wpAny_pure h₁
  | some v =>
    refine wpAny_bind (wpAny_mono h₁ (fun _ s₁' h₁ => ?_) fun _ _ f => f.elim)
    refine wpAny_bind (wpAny_mono h₁ (fun _ s₂ h₂ => ?_) fun _ _ f => f.elim)
    exact wpAny_bind (wpAny_bind (wpAny_mono h₂ (fun x s₄ h₄ => wpAny_bind (wpAny_mono h₄ (fun _ s₅ h₅ => wpAny_pure (wpAny_pure ⟨rfl, h₅⟩)) fun _ _ f => f.elim)) fun _ _ f => f.elim))
theorem two_start1
    (h0 : codeAny (model prog w) A (.compLoop (LC2 elt x px iter y py iter2 scope pos) 1 it acc env) R s)
    (h : wpAny (model prog w) A (pyIter it) (fun it' s' => codeAny (model prog w) A (.compLoop (LC2 elt x px iter y py iter2 scope pos) 1 it' acc env) R s') NoE s) :
    codeAny (model prog w) A (.compStart (LC2 elt x px iter y py iter2 scope pos) 1 it acc env) R s := by
  refine codeAny_of_tree ?_
  show wpAny _ _ ((compStart (LC2 elt x px iter y py iter2 scope pos) 1 it acc env).onRaise (fun x => do noteFrame x env; standAt theWindowsPlace)) _ _ s
  refine wpAny_notedAt ?_
  unfold compStart
  show wpAny _ _ (ask >>= _) _ _ s
  refine wpAny_bind (wpAny_askSetting (wpAny_ite ?_))
  split
  · first
      | exact wpAny_bind (wpAny_pure (wpAny_pure (And.intro rfl h0)))
      | exact wpAny_pure (And.intro rfl h0)
  · refine wpAny_bind (wpAny_rule ?_)
    show wpAny _ _ (standAt iter2.pos >>= _) _ _ s
    exact wpAny_bind (wpAny_standAt (wpAny_bind (wpAny_mono h (fun it' s' h' => wpAny_pure (And.intro rfl h')) fun _ _ x => x.elim)))
theorem two_turn0 (hs : ∀ z, foldedSetIterable iter2 env z = pure z)
    (h : wpAny (model prog w) A (pyNext it) (fun r s₁ => match r with
      | none => R (.ok .next) s₁
      | some v => wpAny (model prog w) A (letOwnedTupleGo (.Name x px) it v) (fun _ s₁' => wpAny (model prog w) A (assign (.Name x px) env v) (fun _ s₂ => wpAny (model prog w) A (eval iter2 env) (fun z s₃ => wpAny (model prog w) A (pyIter z) (fun it2 s₄ =>
              codeAny (model prog w) A (.compStart (LC2 elt x px iter y py iter2 scope pos) 1 it2 acc env) (fun r s₅ => r = .ok .next ∧ codeAny (model prog w) A (.compLoop (LC2 elt x px iter y py iter2 scope pos) 0 it acc env) R s₅) s₄) NoE s₃) NoE s₂) NoE s₁') NoE s₁) NoE s) :
    codeAny (model prog w) A (.compLoop (LC2 elt x px iter y py iter2 scope pos) 0 it acc env) R s := by
  refine codeAny_of_tree ?_
  show wpAny _ A ((compTurn (LC2 elt x px iter y py iter2 scope pos) 0 it acc env).onRaise (fun x => do noteFrame x env; theTreesLotGoes x)) _ _ s
  refine wpAny_noted ?_
  rw [compTurn_two0]
  refine wpAny_bind (wpAny_standAt (wpAny_bind (wpAny_mono h (fun r s₁ h₁ => ?_) fun _ _ f => f.elim)))
  cases r with
  | none => exact wpAny_pure h₁
  | some v =>
    refine wpAny_bind (wpAny_mono h₁ (fun _ s₁' h₁ => ?_) fun _ _ f => f.elim)
    refine wpAny_bind (wpAny_mono h₁ (fun _ s₂ h₂ => ?_) fun _ _ f => f.elim)
    refine wpAny_bind (wpAny_mono h₂ (fun z s₃ h₃ => ?_) fun _ _ f => f.elim)
    refine wpAny_bind (wpAny_standAt (wpAny_bind (wpAny_of_eq (hs z) (wpAny_bind (wpAny_holding (wpAny_mono h₃ (fun it2 s₄ h₄ => ?_) fun _ _ f => f.elim))))))
    refine wpAny_bind (wpAny_runOwn (codeAny_mono h₄ fun r s₅ ⟨e, h₅⟩ => ?_))
    subst e
    exact wpAny_pure ⟨rfl, h₅⟩
end
structure Co2 (C : Cx) (d : Nat) (sc : Scope) (elt : Expr) (x : Str) (px : Pos) (iter : Expr) (y : Str) (py : Pos) (iter2 : Expr) (scope : Scope) (pos : Pos) (dep : Nat) (src : Src) (ρ : List (Str × V)) (σ : List Cell) (k : Nat) (ρ' : List (Str × V)) (σ' : List Cell) : Prop where
  run : ∀ {A env μ s it Is D}, Sit C sc d A env ρ σ μ s → SrcIn C μ s.heap it Is src → μ[k]? = some D →
    codeAny (model C.prog C.w) A (.compLoop (LC2 elt x px iter y py iter2 scope pos) dep it (.ref D) env) (fun r s' => r = .ok .next ∧ ∃ μ', StepI (fun b => At env x b ∨ At env y b) Is μ μ' s s' ∧ Sit C sc d A env ρ' σ' μ' s') s
section
variable {C : Cx} {d : Nat} {sc : Scope} {A : Around} {env : Env} {ρ ρ₁ ρ' : List (Str × V)} {σ σ₁ σ₂ σ' : List Cell} {μ : List Addr} {s : Shared} {v v₂ : V} {vs : List V} {src src' src2 : Src} {it : Value} {Is : List Addr}
variable {elt : Expr} {x : Str} {px : Pos} {iter : Expr} {y : Str} {py : Pos} {iter2 : Expr} {scope : Scope} {pos : Pos} {k : Nat}
theorem Co2.done1 (e : src.over σ = true) : Co2 C d sc elt x px iter y py iter2 scope pos 1 src ρ σ k ρ σ := .mk <| fun S a _ =>
  two_turn1 (srcEnd S a e fun _ st S' => ⟨rfl, _, st.mono fun _ h => .inl (.inl h), S'⟩)
theorem Co2.done0 (hs : ∀ env z, foldedSetIterable iter2 env z = pure z) (e : src.over σ = true) : Co2 C d sc elt x px iter y py iter2 scope pos 0 src ρ σ k ρ σ := .mk <| fun S a _ =>
  two_turn0 (hs _) (srcEnd S a e fun _ st S' => ⟨rfl, _, st.mono fun _ h => .inl (.inl h), S'⟩)
theorem Co2.turn1 (e : src.next σ = some (v, src')) (ht : Tgt (.Name y py) src v) (hy : isVar sc y = true) (he : Ev C d sc elt (upd ρ y v) σ v₂ σ₁) (hk : σ₁[k]? = some (.lst vs)) (hl : vs.length < 1000000)
    (hr : Co2 C d sc elt x px iter y py iter2 scope pos 1 src' (upd ρ y v) (σ₁.set k (.lst (vs ++ [v₂]))) k ρ' σ') : Co2 C d sc elt x px iter y py iter2 scope pos 1 src ρ σ k ρ' σ' := .mk <| fun {A env μ s it Is D} S a hD => by
  refine two_turn1 (wpAny_mono (srcTurn (Q := fun w s₂ => wpAny (model C.prog C.w) A (assign (.Name y py) env w) (fun _ s₂ => wpAny (model C.prog C.w) A (eval elt env) (fun z s₄ =>
              wpAny (model C.prog C.w) A (call (.builtin "list.append") [.ref D, z]) (fun _ s₅ => codeAny (model C.prog C.w) A (.compLoop (LC2 elt x px iter y py iter2 scope pos) 1 it (.ref D) env) (fun r s' => r = .ok .next ∧ ∃ μ', StepI (fun b => At env x b ∨ At env y b) Is μ μ' s s' ∧ Sit C sc d A env ρ' σ' μ' s') s₅) NoE s₄) NoE s₂) NoE s₂) S a e ht fun s₁ w st S₁ a₁ r => wpAny_assign_Name (S₁.storeAt r hy fun s₂ st' S₂ => ?_)) (fun r s₁ h => by
        cases r with
        | none => exact h.elim
        | some w => exact h) fun _ _ f => f)
  have a₂ := srcKept S₁ a₁ (st'.mono fun _ h => At.own h)
  refine he.use S₂ fun μ₃ z s₃ st₃ S₃ r => ?_
  have hD₃ : μ₃[k]? = some _ := (S₂.still st₃).ref hD
  refine appendAt S₃ hD₃ hk hl r fun s₄ st₄ S₄ => ?_
  have hall : Step (fun b => (At env x b ∨ At env y b) ∨ b ∈ Is) μ μ₃ s s₄ :=
    (((st.mono fun _ h => .inr h).trans (st'.mono fun _ h => .inl (.inr h))).trans (st₃.mono fun _ h => .inl (.inl (.inl h)))).trans (st₄.mono fun _ h => .inl (.inl (.inl h)))
  exact codeAny_mono (hr.run S₄ (srcKept S₃ (srcKept S₂ a₂ st₃.own) st₄.own) hD₃) fun r s' ⟨e', μ', st', S'⟩ => ⟨e', μ', st'.before hall, S'⟩
theorem Co2.turn0 (hs : ∀ env z, foldedSetIterable iter2 env z = pure z) (e : src.next σ = some (v, src')) (ht : Tgt (.Name x px) src v) (hx : isVar sc x = true) (hi : EvI C d sc iter2 (upd ρ x v) σ src2 σ₁)
    (hin : Co2 C d sc elt x px iter y py iter2 scope pos 1 src2 (upd ρ x v) σ₁ k ρ₁ σ₂) (hr : Co2 C d sc elt x px iter y py iter2 scope pos 0 src' ρ₁ σ₂ k ρ' σ') : Co2 C d sc elt x px iter y py iter2 scope pos 0 src ρ σ k ρ' σ' := .mk <| fun {A env μ s it Is D} S a hD => by
  refine two_turn0 (hs _) (wpAny_mono (srcTurn (Q := fun w s₂ => wpAny (model C.prog C.w) A (assign (.Name x px) env w) (fun _ s₂ => wpAny (model C.prog C.w) A (eval iter2 env) (fun z s₃ => wpAny (model C.prog C.w) A (pyIter z) (fun it2 s₄ =>
              codeAny (model C.prog C.w) A (.compStart (LC2 elt x px iter y py iter2 scope pos) 1 it2 (.ref D) env) (fun r s₅ => r = .ok .next ∧ codeAny (model C.prog C.w) A (.compLoop (LC2 elt x px iter y py iter2 scope pos) 0 it (.ref D) env) (fun r s' => r = .ok .next ∧ ∃ μ', StepI (fun b => At env x b ∨ At env y b) Is μ μ' s s' ∧ Sit C sc d A env ρ' σ' μ' s') s₅) s₄) NoE s₃) NoE s₂) NoE s₂) S a e ht fun s₁ w st S₁ a₁ r => wpAny_assign_Name (S₁.storeAt r hx fun s₂ st' S₂ => ?_)) (fun r s₁ h => by
        cases r with
        | none => exact h.elim
        | some w => exact h) fun _ _ f => f)
  have a₂ := srcKept S₁ a₁ (st'.mono fun _ h => At.own h)
  refine wpAny_mono (hi.run S₂) (fun z s₃ h => wpAny_mono h (fun it2 s₄ ⟨μ₄, Is2, st₄, S₄, b₄, hfr⟩ => ?_) fun _ _ f => f) fun _ _ f => f
  have hD₄ : μ₄[k]? = some _ := (S₂.still st₄).ref hD
  have key : codeAny (model C.prog C.w) A (.compLoop (LC2 elt x px iter y py iter2 scope pos) 1 it2 (.ref D) env) (fun r s₅ => r = .ok .next ∧ codeAny (model C.prog C.w) A (.compLoop (LC2 elt x px iter y py iter2 scope pos) 0 it (.ref D) env) (fun r s' => r = .ok .next ∧ ∃ μ', StepI (fun b => At env x b ∨ At env y b) Is μ μ' s s' ∧ Sit C sc d A env ρ' σ' μ' s') s₅) s₄ := by
    refine codeAny_mono (hin.run S₄ b₄ hD₄) fun r s₅ ⟨e5, μ₅, st₅, S₅⟩ => ⟨e5, ?_⟩
    have stW : Step (fun b => At env x b ∨ At env y b) μ μ₅ s₂ s₅ := StepI.whole (st₄.mono fun _ h => .inl (.inl h)) hfr st₅
    have hall : Step (fun b => (At env x b ∨ At env y b) ∨ b ∈ Is) μ μ₅ s s₅ :=
      ((st.mono fun _ h => .inr h).trans (st'.mono fun _ h => .inl (.inl h))).trans (stW.mono fun _ h => .inl h)
    have stO : Step (Own env) μ μ₅ s₂ s₅ := stW.mono fun _ h => h.elim At.own At.own
    have hD₅ : μ₅[k]? = some D := (S₂.stillS stO).ref hD
    exact codeAny_mono (hr.run S₅ (srcKept S₂ a₂ stO) hD₅) fun r s' ⟨e', μ', st', S'⟩ => ⟨e', μ', st'.before hall, S'⟩
  exact two_start1 key (srcSelf b₄ key)
variable {ρ₂ : List (Str × V)} {ws : List V}
theorem useComp2 {use : Option (Value → Sem Unit)} (S : Sit C sc d A env ρ σ μ s) (hi : EvI C d sc iter ρ σ src σ₁) (hok : compOk scope sc = true) (hx : isVar scope x = true) (hy : isVar scope y = true)
    (hco : Co2 C d (relab scope sc) elt x px iter y py iter2 scope pos 0 src (capt scope.names ρ) (σ₁ ++ [.lst []]) σ₁.length ρ₂ σ₂) (hs : ∀ z, foldedSetIterable iter env z = pure z) {Q : Value → Shared → Prop}
    (fin : ∀ μ₂ s₂ D ν Is s₃ L, Step (Loc env) μ μ₂ s s₂ → Sit C sc d A env ρ σ₁ μ₂ s₂ → (∀ b ∈ Is, Fld s₂.heap b) → (∀ b ∈ Is, s.heap.get? b = none) → StepI Nil Is μ₂ (μ₂ ++ D :: ν) s₂ s₃ → (∀ a ∈ D :: ν, s₂.heap.get? a = none) →
      HI C σ₂ (μ₂ ++ D :: ν) s₃.heap → (∃ m, s₃.heap.Ns L m) → L ∉ μ₂ ++ D :: ν → s₂.heap.get? L = none → compPost (model C.prog C.w) A NoE use Q (.ref D) L (.ok .next) s₃) :
    wpAny (model C.prog C.w) A (comprehension (LC2 elt x px iter y py iter2 scope pos) scope env (firstIterPos [⟨.Name x px, iter, [], 0⟩, ⟨.Name y py, iter2, [], 0⟩] pos) (newList []) false (eval iter env) use) Q NoE s := by
  simp only [compOk, Bool.and_eq_true, decide_eq_true_eq] at hok
  obtain ⟨⟨⟨hk, hn⟩, hc⟩, hnm⟩ := hok
  have hk' : scope.kind = .function := eq_of_beq hk
  have hxx : scope.names.lookup x = some .local ∨ scope.names.lookup x = some .cell := isVar_cases hx
  have hyy : scope.names.lookup y = some .local ∨ scope.names.lookup y = some .cell := isVar_cases hy
  have hcapx : ∀ n, (n, NameKind.free) ∈ scope.names → (env.cells.lookup n).isSome = true := fun n hm => by
    have := List.all_eq_true.mp hc _ hm
    have h2 : sc.names.lookup n = some .cell := by simpa using this
    exact S.env.cellAll n (by show env.scope.names.lookup n = _; rw [S.sc]; exact h2)
  refine wpAny_comprehension_free (g := ⟨.Name x px, iter, [], 0⟩) (gs := [⟨.Name y py, iter2, [], 0⟩]) rfl hs (closure_eq hcapx) hk' (fun q hq hl => ?_) ?_
  · have := List.all_eq_true.mp hnm _ hq
    rw [hl] at this
    simpa using this
  · refine wpAny_mono (hi.run S) (fun z s₁ h => wpAny_mono h (fun it s₂ ⟨μ₂, Is, st₂, S₂, a₂, hfr⟩ => ?_) fun _ _ f => f) fun _ _ f => f
    refine wpAny_newList ?_
    have g3 : Grow s₂ { s₂ with heap := s₂.heap.push { cls := .type "list", data := .seq ([] : List Value).toArray } } := Grow.push
    have P3 := Post.newCell (c := .lst []) S₂ g3 fresh_of ⟨[], 0, Heap.get?_push_size _ rfl, .nil, Nat.zero_le _⟩
    obtain ⟨μ₃', st3, S₃, r3⟩ := P3
    generalize hs3 : ({ s₂ with heap := s₂.heap.push { cls := .type "list", data := .seq ([] : List Value).toArray } } : Shared) = s₃ at g3 st3 S₃ r3
    have hμ₃ : μ₃' = μ₂ ++ [s₂.heap.objs.size] := by
      obtain ⟨ν, e1, _⟩ := st3.ext
      subst e1
      have hl := S₃.heap.len
      rw [List.length_append, List.length_append, S₂.heap.len] at hl
      cases ν with
      | nil => simp at hl
      | cons a r =>
        have hr : r = [] := by simpa using hl
        subst hr
        cases r3 with
        | ref e =>
          rw [← S₂.heap.len, List.getElem?_append_right (Nat.le_refl _), Nat.sub_self] at e
          cases e; rfl
    subst hμ₃
    have a₃ : SrcIn C (μ₂ ++ [s₂.heap.objs.size]) s₃.heap it Is src := srcKept S₂ a₂ st3.own
    refine compFrame S₃ hk' hn hc fun cenv s₄ g4 hloc hnew S₄ => ?_
    have a₄ : SrcIn C (μ₂ ++ [s₂.heap.objs.size]) s₄.heap it Is src := ⟨a₃.1.still g4.still fun b _ o e => g4.keep b o e, a₃.2⟩
    have hD : (μ₂ ++ [s₂.heap.objs.size])[σ₁.length]? = some s₂.heap.objs.size := by
      rw [← S₂.heap.len, List.getElem?_append_right (Nat.le_refl _), Nat.sub_self]; rfl
    have key : codeAny (model C.prog C.w) A (.compLoop (LC2 elt x px iter y py iter2 scope pos) 0 it (.ref s₂.heap.objs.size) { cenv with scope := relabel scope env }) (compPost (model C.prog C.w) A NoE use Q (.ref s₂.heap.objs.size) cenv.locals) s₄ := by
      refine codeAny_mono (hco.run S₄ a₄ hD) fun r s₅ ⟨e, μ₅, T, S₅⟩ => ?_
      subst e
      obtain ⟨ν, e5, hν⟩ := T.ext
      have e5' : μ₅ = μ₂ ++ s₂.heap.objs.size :: ν := by rw [e5, List.append_assoc]; rfl
      subst e5'
      have hAt1 : ∀ z, (scope.names.lookup z = some .local ∨ scope.names.lookup z = some .cell) → ∀ b o, s₃.heap.get? b = some o → ¬ At { cenv with scope := relabel scope env } z b := fun z hz b o e => by
        rintro (q | q)
        · have q' : b = s₃.heap.objs.size := q.trans hloc
          rw [q'] at e; exact absurd (Heap.lt_size e) (Nat.lt_irrefl _)
        · have : scope.names.lookup z ≠ some .free := by rcases hz with w | w <;> rw [w] <;> decide
          rw [hnew z b this q] at e; cases e
      have hAt : ∀ b o, s₃.heap.get? b = some o → ¬ (At { cenv with scope := relabel scope env } x b ∨ At { cenv with scope := relabel scope env } y b) := fun b o e h => h.elim (hAt1 x hxx b o e) (hAt1 y hyy b o e)
      have hfld : ∀ b ∈ Is, Fld s₂.heap b := a₂.1.fld
      have hnewAll : ∀ a ∈ s₂.heap.objs.size :: ν, s₂.heap.get? a = none := fun b m => by
        rcases List.mem_cons.mp m with q | m
        · rw [q]; exact fresh_of
        · cases z : s₂.heap.get? b with
          | none => rfl
          | some o => have := hν b m; rw [g4.keep b o (g3.keep b o z)] at this; cases this
      have T2 : StepI Nil Is μ₂ (μ₂ ++ s₂.heap.objs.size :: ν) s₂ s₅ := by
        refine ⟨?_, fun b o _ hI hm e => ?_, fun b o hI e => ?_, s₂.heap.objs.size :: ν, rfl, hnewAll⟩
        · obtain ⟨h3, t3, e3⟩ := g3.same
          obtain ⟨h4, t4, e4⟩ := g4.same
          obtain ⟨h5, t5, e5⟩ := T.same
          exact ⟨h5, t5, by rw [e5, e4, e3]⟩
        · have e3 := g3.keep b o e
          refine T.keep b o (hAt b o e3) hI (fun m => ?_) (g4.keep b o e3)
          rcases List.mem_append.mp m with m | m
          · exact hm m
          · rw [List.mem_singleton.mp m, fresh_of] at e; cases e
        · exact T.live b o hI (g4.keep b o (g3.keep b o e))
      obtain ⟨m5, hm5, _⟩ := S₅.env.see
      have hLfresh : s₂.heap.get? cenv.locals = none := by
        cases z : s₂.heap.get? cenv.locals with
        | none => rfl
        | some o =>
          have := g3.keep _ _ z
          rw [hloc] at this
          exact absurd (Heap.lt_size this) (Nat.lt_irrefl _)
      exact fin μ₂ s₂ s₂.heap.objs.size ν Is s₅ cenv.locals st₂ S₂ hfld hfr T2 hnewAll S₅.heap ⟨m5, hm5⟩ S₅.env.lnot hLfresh
    exact codeAny_compStart_list key (wpAny_mono (srcSelf (Q := fun it' s' => codeAny (model C.prog C.w) A (.compLoop (LC2 elt x px iter y py iter2 scope pos) 0 it' (.ref s₂.heap.objs.size) { cenv with scope := relabel scope env }) (compPost (model C.prog C.w) A NoE use Q (.ref s₂.heap.objs.size) cenv.locals) s') a₄ key) (fun _ _ p => p) fun _ _ f => f.elim)
theorem Ex.assignComp2 {z : Str} {pz spos : Pos} (hi : EvI C d sc iter ρ σ src σ₁) (hco : Co2 C d (relab scope sc) elt x px iter y py iter2 scope pos 0 src (capt scope.names ρ) (σ₁ ++ [.lst []]) σ₁.length ρ₂ (σ₁ ++ [.lst vs])) (hf : FrzL σ₁.length (σ₁ ++ [.lst vs]) vs ws)
    (hz : sc.names.lookup z = some .local := by rfl) (hok : compOk scope sc = true := by rfl) (hx : isVar scope x = true := by rfl) (hy : isVar scope y = true := by rfl) (hs : ∀ env w, foldedSetIterable iter env w = pure w := by intro _ _; rfl)
    (hsw : ∀ env : Env, env.scope = sc → swapsWith (LC2 elt x px iter y py iter2 scope pos) (some (.Name z pz)) spos.line env = pure true := by intro e h; cases e; cases h; rfl) :
    Ex C d sc (.Assign [.Name z pz] (LC2 elt x px iter y py iter2 scope pos) spos) ρ σ (.next (upd ρ z (.lst ws)) σ₁) := .mk <| fun {A env μ s} S => by
  rw [exec_Assign_Name_used _ _ _ _ (hsw env S.sc)]
  refine wpAny_bind (wpAny_standAt (wpAny_bind ?_))
  show wpAny _ A (do let _ ← comprehension (LC2 elt x px iter y py iter2 scope pos) scope env (firstIterPos [⟨.Name x px, iter, [], 0⟩, ⟨.Name y py, iter2, [], 0⟩] pos) (newList []) false (eval iter env) (some (PySem.assign (.Name z pz) env))) _ _ s
  refine wpAny_bind (useComp2 (use := some (PySem.assign (.Name z pz) env)) (Q := fun _ s' => wpAny _ A (pure ()) (fun _ s' => wpAny _ A (pure Flow.next) _ _ s') _ s') S hi hok hx hy hco (hs env) fun μ₂ s₂ D ν Is s₃ L st S₂ hfld hfr T hnew H hL hLn hLf => ?_)
  have e := nuNil S₂.heap H
  subst e
  have hyv : isVar sc z = true := by unfold isVar; rw [hz]
  obtain ⟨h1, h2⟩ := frozenList S₂.heap H hf
  have S₃ : Sit C sc d A env ρ σ₁ μ₂ s₃ := ⟨S₂.wd, S₂.lim, S₂.sc, S₂.env.kept S₂.heap T.shrink hfld ⟨[], by simp, fun _ m => nomatch m⟩, h1⟩
  show wpAny _ A (PySem.assign (.Name z pz) env (.ref D)) _ _ _
  refine wpAny_assign_Name (S₃.storeAt h2 hyv fun s₄ st4 S₄ => ?_)
  have hLloc : env.locals ≠ L := fun q => by
    obtain ⟨m, ⟨o, _, _, e, _⟩, _⟩ := S₂.env.see
    rw [q, hLf] at e; cases e
  have hLcell : env.cells.lookup z ≠ some L := fun q => by
    obtain ⟨_, v₀, o, e, _⟩ := S₂.env.cells z L q
    rw [hLf] at e; cases e
  have hLμ : L ∉ μ₂ := fun m => hLn (List.mem_append_left _ m)
  have hL4 : ∃ m, s₄.heap.Ns L m := by
    obtain ⟨m, o, es, ep, e, rest⟩ := hL
    exact ⟨m, o, es, ep, st4.keep L o (fun q => q.elim (fun z => hLloc z.symm) hLcell) hLμ e, rest⟩
  refine ⟨_, hL4.choose_spec, fun h' hb => wpAny_pure (wpAny_pure ⟨rfl, μ₂, ?_, ⟨S₂.wd, S₂.lim, S₂.sc, S₄.env.off hb hL4 hLloc, S₄.heap.off hb hL4 hLμ (S₂.heap.fresh hLf)⟩⟩)⟩
  refine StepI.whole st.own hfr ?_
  exact ((T.shrink.mono fun _ h => h.elim).andStep (st4.mono fun _ h => At.own h)).offL hb hLf
end
end
section

noncomputable def srtGal : Bool → Keyed → Array Keyed → Nat → Nat → Nat → StateT SortSt Sem (Option Nat) := sortPriv% PySem.Builtin.gallop
noncomputable def srtLo : Array Keyed → Array Keyed → StateT SortSt Sem (Array Keyed) := sortPriv% PySem.Builtin.mergeLo
noncomputable def lessI (ns : List Int) (i j : Nat) : Bool := decide (ns.getD i 0 < ns.getD j 0)
noncomputable def itm (ns : List Int) (tok : Nat → Tok) (i : Nat) : Keyed := (.int (ns.getD i 0) (tok i), .int (ns.getD i 0) (tok i))
noncomputable def pat (p : Array Nat) (i : Nat) : Nat := p.getD i 0
noncomputable abbrev stS (ns : List Int) (tok : Nat → Tok) (p : Array Nat) (pend : Array (Nat × Nat × Nat)) : SortSt := SortSt.mk' oneType' (p.map (itm ns tok)) pend 7 none
section
variable {prog : Program} {w : World} {A : Around} {E : Value → Shared → Prop} {s : Shared}
variable {ns : List Int} {tok : Nat → Tok} {p : Array Nat} {pend : Array (Nat × Nat × Nat)}
theorem s_range {M : Model} {τ β : Type} {a b : Nat} {c : β} {f : Nat → β → StateT τ Sem (ForInStep β)} {Q : β → τ → Prop} {st : τ} (h : wpS M A E s (forIn (List.range' a (b - a)) c f) Q st) : wpS M A E s (forIn [a:b] c f) Q st := by
  rw [Std.Legacy.Range.forIn_eq_forIn_range']
  have hsz : ([a:b] : Std.Legacy.Range).size = b - a := by simp [Std.Legacy.Range.size]
  show wpS M A E s (forIn (List.range' a ([a:b] : Std.Legacy.Range).size 1) c f) Q st
  rw [hsz]; exact h
theorem s_nil {M : Model} {τ β : Type} {b : β} {f : Nat → β → StateT τ Sem (ForInStep β)} {Q : β → τ → Prop} {st : τ} (h : Q b st) : wpS M A E s (forIn ([] : List Nat) b f) Q st := by
  rw [List.forIn_nil]; exact wpS_pure h
theorem s_cons {M : Model} {τ β : Type} {x : Nat} {l : List Nat} {b : β} {f : Nat → β → StateT τ Sem (ForInStep β)} {Q : β → τ → Prop} {st : τ}
    (h : wpS M A E s (f x b) (fun r st' => match r with | .done b' => Q b' st' | .yield b' => wpS M A E s (forIn l b' f) Q st') st) : wpS M A E s (forIn (x :: l) b f) Q st := by
  rw [List.forIn_cons]
  refine wpS_bind (wpS_mono h fun r st' h' => ?_)
  cases r with
  | done b' => exact wpS_pure h'
  | yield b' => exact h'
theorem s_get {i : Nat} (hi : i < p.size) : (p.map (itm ns tok))[i]? = some (itm ns tok (pat p i)) := by
  rw [Array.getElem?_map, getElem?_pos p i hi]; simp [pat, Array.getD, hi]
theorem s_elem {i : Nat} {Q : Keyed → SortSt → Prop} {st : SortSt} (hi : i < p.size) (h : Q (itm ns tok (pat p i)) st) : wpS (model prog w) A E s (elem' (p.map (itm ns tok)) i) Q st := by
  rw [elem'_eq, s_get hi]; exact wpS_pure h
theorem s_lt {x y : Nat} {Q : Option Bool → SortSt → Prop} {st : SortSt} (hk : kindOf st = oneType') (h : Q (some (lessI ns x y)) st) : wpS (model prog w) A E s (lt' (itm ns tok x) (itm ns tok y)) Q st := by
  rw [lt'_eq]
  refine wpS_bind (wpS_get ?_)
  rw [hk, keyLt'_oneType]
  refine wpS_bind (wpS_lift (wpAny_attempt (oneLt_int ⟨rfl, ?_⟩)))
  exact wpS_pure h
theorem s_ltAt {i j : Nat} {Q : Option Bool → SortSt → Prop} (hi : i < p.size) (hj : j < p.size) (h : Q (some (lessI ns (pat p i) (pat p j))) (stS ns tok p pend)) : wpS (model prog w) A E s (ltAt' i j) Q (stS ns tok p pend) :=
  wpS_ltAt rfl (s_get hi) (s_get hj) h
/-- a loop by a pure step: none where it leaves the road, (true, t') on, (false, t') done -/
noncomputable def iterL {τ : Type} (step : Nat → τ → Option (Bool × τ)) : List Nat → τ → Option τ
  | [], t => some t
  | x :: l, t => match step x t with
    | none => none
    | some (true, t') => iterL step l t'
    | some (false, t') => some t'
theorem s_loop {M : Model} {ζ τ β : Type} {step : Nat → τ → Option (Bool × τ)} (c : τ → β) (g : τ → ζ) {f : Nat → β → StateT ζ Sem (ForInStep β)} {Q : β → ζ → Prop}
    (hb : ∀ x t b t', step x t = some (b, t') → wpS M A E s (f x (c t)) (fun r st' => st' = g t' ∧ r = if b = true then .yield (c t') else .done (c t')) (g t)) :
    ∀ (l : List Nat) (t t' : τ), iterL step l t = some t' → Q (c t') (g t') → wpS M A E s (forIn l (c t) f) Q (g t)
  | [], t, t', h, hq => by cases h; exact s_nil hq
  | x :: l, t, t', h, hq => by
    unfold iterL at h
    refine s_cons ?_
    cases hs : step x t with
    | none => rw [hs] at h; cases h
    | some bt =>
      obtain ⟨b, t1⟩ := bt
      rw [hs] at h
      refine wpS_mono (hb x t b t1 hs) fun r st' ⟨e1, e2⟩ => ?_
      subst e1
      cases b with
      | false =>
        cases h
        rw [if_neg (by simp)] at e2
        subst e2
        exact hq
      | true =>
        rw [if_pos rfl] at e2
        subst e2
        exact s_loop c g hb l t1 t' h hq
/-! ## the insertion -/
noncomputable def stIn (ns : List Int) (lo : Nat) (p : Array Nat) (k : Nat) (_ : Nat) (t : Nat × Nat) : Option (Bool × (Nat × Nat)) :=
  if t.1 ≥ t.2 then some (false, t) else
    if lo + k < p.size ∧ lo + (t.1 + t.2) / 2 < p.size then
      (if lessI ns (pat p (lo + k)) (pat p (lo + (t.1 + t.2) / 2)) = true then some (true, (t.1, (t.1 + t.2) / 2)) else some (true, ((t.1 + t.2) / 2 + 1, t.2)))
    else none
noncomputable def mvL (l : List Nat) (k j : Nat) : List Nat := l.take j ++ (l.getD k 0 :: ((l.drop j).take (k - j) ++ l.drop (k + 1)))
theorem bub_eq {l : List Nat} {k j : Nat} (hk : k < l.length) (hj : j ≤ k) : bubble l.toArray k (k - j) = (mvL l k j).toArray := by
  apply Array.ext_getElem?
  intro i
  rw [getElem?_bubble (by simpa using hk) _ (by omega), show k - (k - j) = j by omega]
  simp only [List.getElem?_toArray, mvL]
  rw [List.getElem?_append]
  have hlj : (l.take j).length = j := by rw [List.length_take]; omega
  rw [hlj]
  by_cases h1 : i < j
  · rw [if_neg (by omega), if_neg (by omega), if_pos h1, List.getElem?_take, if_pos h1]
  · rw [if_neg h1]
    by_cases h2 : i = j
    · subst h2
      rw [if_pos rfl, Nat.sub_self, List.getElem?_cons_zero, List.getElem?_eq_getElem hk]
      simp [List.getD, List.getElem?_eq_getElem hk]
    · rw [if_neg h2]
      obtain ⟨e, rfl⟩ : ∃ e, i = j + (e + 1) := ⟨i - j - 1, by omega⟩
      rw [show j + (e + 1) - j = e + 1 by omega, List.getElem?_cons_succ, List.getElem?_append]
      have hl2 : ((l.drop j).take (k - j)).length = k - j := by rw [List.length_take, List.length_drop]; omega
      rw [hl2]
      by_cases h3 : e < k - j
      · rw [if_pos (by omega), if_pos h3, List.getElem?_take, if_pos h3, List.getElem?_drop]; congr 1
      · rw [if_neg (by omega), if_neg h3, List.getElem?_drop]; congr 1; omega
noncomputable def stBin (ns : List Int) (lo k : Nat) (p : Array Nat) : Option (Bool × Array Nat) := match iterL (stIn ns lo p k) (List.range' 0 (k - 0)) (0, k) with
  | none => none
  | some t => if lo + k < p.size ∧ t.1 ≤ k then some (true, (mvL p.toList (lo + k) (lo + t.1)).toArray) else none
noncomputable def binP (ns : List Int) (lo n ok : Nat) (p : Array Nat) : Option (Array Nat) := iterL (stBin ns lo) (List.range' (max ok 1) (n - max ok 1)) p
theorem s_move {k l : Nat} {Q : Unit → SortSt → Prop} (h : Q () (stS ns tok (bubble p k (k - l)) pend)) : wpS (model prog w) A E s (moveDown' k l) Q (stS ns tok p pend) := by
  rw [moveDown'_eq]
  refine wpS_modify ?_
  have e : bubble (p.map (itm ns tok)) k (k - l) = (bubble p k (k - l)).map (itm ns tok) := kas_swaps_map (itm ns tok) (fun i => k - i) (fun i => k - i - 1) _ p
  show Q () (SortSt.mk' oneType' (bubble (p.map (itm ns tok)) k (k - l)) pend 7 none)
  rw [e]; exact h
theorem s_bin {lo n ok : Nat} {p' : Array Nat} {Q : Bool → SortSt → Prop} (hp : binP ns lo n ok p = some p') (h : Q true (stS ns tok p' pend)) : wpS (model prog w) A E s (binarySort' lo n ok) Q (stS ns tok p pend) := by
  rw [binarySort'_eq]
  refine wpS_bind (s_range (s_loop (step := stBin ns lo) (fun _ => (none, ())) (fun p => stS ns tok p pend) ?_ _ p p' hp (wpS_pure h)))
  intro k p b p1 hst
  unfold stBin at hst
  split at hst
  · cases hst
  · rename_i t' hin
    split at hst
    rotate_left
    · cases hst
    rename_i hszk
    cases hst
    dsimp only
    have eb : bubble p (lo + k) ((lo + k) - (lo + t'.1)) = (mvL p.toList (lo + k) (lo + t'.1)).toArray := by
      rw [← bub_eq (by simpa using hszk.1) (by omega)]
    rw [← eb]
    refine wpS_bind (s_range (s_loop (step := stIn ns lo p k) (fun t => (none, t.1, t.2)) (fun _ => stS ns tok p pend) ?_ _ (0, k) t' hin ?_))
    · intro x t b t1 h1
      unfold stIn at h1
      dsimp only
      split at h1
      · rename_i hge
        cases h1
        rw [if_pos hge]
        exact wpS_pure ⟨rfl, rfl⟩
      · rename_i hge
        rw [if_neg hge]
        split at h1
        · rename_i hsz
          refine wpS_bind (s_ltAt hsz.1 hsz.2 ?_)
          split at h1
          · rename_i hl
            cases h1
            dsimp only
            rw [if_pos hl]
            exact wpS_pure ⟨rfl, rfl⟩
          · rename_i hl
            cases h1
            dsimp only
            rw [if_neg hl]
            exact wpS_pure ⟨rfl, rfl⟩
        · cases h1
    · dsimp only
      exact wpS_bind (s_move (wpS_pure ⟨rfl, rfl⟩))
/-! ## a run: two rise, the third falls -/
noncomputable def cntOk (ns : List Int) (lo nrem : Nat) (p : Array Nat) : Bool :=
  decide (lo + 2 < p.size) && decide (2 < nrem) && !lessI ns (pat p (lo + 1)) (pat p lo) && lessI ns (pat p (lo + 2)) (pat p (lo + 1)) && lessI ns (pat p lo) (pat p (lo + 1))
theorem s_cnt {lo nrem : Nat} {Q : Option Nat → SortSt → Prop} (hp : cntOk ns lo nrem p = true) (h : Q (some 2) (stS ns tok p pend)) : wpS (model prog w) A E s (countRun' lo nrem) Q (stS ns tok p pend) := by
  simp only [cntOk, Bool.and_eq_true, decide_eq_true_eq, Bool.not_eq_true'] at hp
  obtain ⟨⟨⟨⟨h1, h2⟩, h3⟩, h4⟩, h5⟩ := hp
  rw [countRun'_eq]
  refine wpS_bind (s_range ?_)
  obtain ⟨r, rfl⟩ : ∃ r, nrem = r + 3 := ⟨nrem - 3, by omega⟩
  show wpS _ _ _ _ (forIn (1 :: 2 :: List.range' 3 r) _ _) _ _
  refine s_cons (wpS_bind (s_ltAt (by omega) (by omega) ?_))
  dsimp only
  rw [show lo + 1 - 1 = lo by omega, h3, if_neg (by simp)]
  refine wpS_pure (s_cons (wpS_bind (s_ltAt (by omega) (by omega) ?_)))
  dsimp only
  rw [show lo + (1 + 1) - 1 = lo + 1 by omega, show lo + (1 + 1) = lo + 2 by omega, h4, if_pos rfl]
  refine wpS_pure ?_
  dsimp only
  rw [if_neg (by simp), if_pos (by decide)]
  refine wpS_bind (s_ltAt (by omega) (by omega) ?_)
  dsimp only
  rw [show lo + (1 + 1) - 1 = lo + 1 by omega, h5, if_pos rfl]
  exact wpS_pure h
/-! ## the two gallops -/
noncomputable def stG2 (ns : List Int) (left : Bool) (x : Nat) (p : Array Nat) (base : Nat) (_ : Nat) (t : Nat × Nat) : Option (Bool × (Nat × Nat)) :=
  if t.1 ≥ t.2 then some (false, t) else
    if base + (t.1 + (t.2 - t.1) / 2) < p.size then
      (if (if left = true then lessI ns (pat p (base + (t.1 + (t.2 - t.1) / 2))) x else !lessI ns x (pat p (base + (t.1 + (t.2 - t.1) / 2)))) = true then some (true, (t.1 + (t.2 - t.1) / 2 + 1, t.2)) else some (true, (t.1, t.1 + (t.2 - t.1) / 2)))
    else none
noncomputable def stGR (ns : List Int) (x : Nat) (p : Array Nat) (base n hint : Nat) (_ : Nat) (t : Nat × Nat) : Option (Bool × (Nat × Nat)) :=
  if t.2 ≥ n - hint then some (false, t) else
    if base + (hint + t.2) < p.size then (if lessI ns x (pat p (base + (hint + t.2))) = true then some (false, t) else some (true, (t.2, 2 * t.2 + 1))) else none
noncomputable def galR (ns : List Int) (x : Nat) (p : Array Nat) (base n hint : Nat) : Option Nat :=
  if base + hint < p.size ∧ lessI ns x (pat p (base + hint)) = false then
    match iterL (stGR ns x p base n hint) (List.range' 0 (n - 0)) (0, 1) with
    | none => none
    | some t => match iterL (stG2 ns false x p base) (List.range' 0 (n - 0)) (hint + t.1 + 1, hint + min t.2 (n - hint)) with
      | none => none
      | some u => some u.2
  else none
theorem s_galR {x base n hint k : Nat} {Q : Option Nat → SortSt → Prop} {st : SortSt} (hk : kindOf st = oneType') (hp : galR ns x p base n hint = some k) (h : Q (some k) st) :
    wpS (model prog w) A E s (srtGal false (itm ns tok x) (p.map (itm ns tok)) base n hint) Q st := by
  unfold galR at hp
  split at hp
  · rename_i h0
    split at hp
    · cases hp
    · rename_i t ht
      split at hp
      · cases hp
      · rename_i u hu
        cases hp
        refine wpS_bind (wpS_bind (s_elem h0.1 ?_))
        rw [if_neg (by simp)]
        refine wpS_bind (s_lt hk (wpS_pure ?_))
        rw [h0.2]
        dsimp only [Option.map]
        rw [if_pos (by rfl)]
        refine wpS_bind (s_range (s_loop (step := stGR ns x p base n hint) (fun t => (none, t.1, t.2)) (fun _ => st) ?_ _ (0, 1) t ht ?_))
        · intro y t b t1 h1
          unfold stGR at h1
          dsimp only
          split at h1
          · rename_i hge
            cases h1
            rw [if_pos hge]
            exact wpS_pure ⟨rfl, rfl⟩
          · rename_i hge
            rw [if_neg hge]
            split at h1
            · rename_i hsz
              refine wpS_bind (wpS_bind (s_elem hsz ?_))
              rw [if_neg (by simp)]
              refine wpS_bind (s_lt hk (wpS_pure ?_))
              split at h1
              · rename_i hl
                cases h1
                rw [hl]
                dsimp only [Option.map]
                rw [if_pos (by rfl)]
                exact wpS_pure ⟨rfl, rfl⟩
              · rename_i hl
                cases h1
                rw [Bool.not_eq_true] at hl
                rw [hl]
                dsimp only [Option.map]
                rw [if_neg (by simp)]
                exact wpS_pure ⟨rfl, rfl⟩
            · cases h1
        · dsimp only
          refine wpS_bind (s_range (s_loop (step := stG2 ns false x p base) (fun t => (none, t.1, t.2)) (fun _ => st) ?_ _ (hint + t.1 + 1, hint + min t.2 (n - hint)) u hu ?_))
          · intro y t b t1 h1
            unfold stG2 at h1
            dsimp only
            split at h1
            · rename_i hge
              cases h1
              rw [if_pos hge]
              exact wpS_pure ⟨rfl, rfl⟩
            · rename_i hge
              rw [if_neg hge]
              split at h1
              · rename_i hsz
                refine wpS_bind (wpS_bind (s_elem hsz ?_))
                rw [if_neg (by simp)]
                refine wpS_bind (s_lt hk (wpS_pure ?_))
                simp only [Bool.false_eq_true, if_false] at h1
                dsimp only [Option.map]
                split at h1
                · rename_i hl
                  cases h1
                  rw [if_pos hl]
                  exact wpS_pure ⟨rfl, rfl⟩
                · rename_i hl
                  cases h1
                  rw [if_neg hl]
                  exact wpS_pure ⟨rfl, rfl⟩
              · cases h1
          · exact wpS_pure h
  · cases hp
noncomputable def stGL (ns : List Int) (x : Nat) (p : Array Nat) (base hint : Nat) (_ : Nat) (t : Nat × Nat) : Option (Bool × (Nat × Nat)) :=
  if t.2 ≥ hint + 1 then some (false, t) else
    if base + (hint - t.2) < p.size then (if lessI ns (pat p (base + (hint - t.2))) x = true then some (false, t) else some (true, (t.2, 2 * t.2 + 1))) else none
noncomputable def galL (ns : List Int) (x : Nat) (p : Array Nat) (base n hint : Nat) : Option Nat :=
  if base + hint < p.size ∧ lessI ns (pat p (base + hint)) x = false then
    match iterL (stGL ns x p base hint) (List.range' 0 (n - 0)) (0, 1) with
    | none => none
    | some t => match iterL (stG2 ns true x p base) (List.range' 0 (n - 0)) (hint + 1 - min t.2 (hint + 1), hint - t.1) with
      | none => none
      | some u => some u.2
  else none
theorem s_galL {x base n hint k : Nat} {Q : Option Nat → SortSt → Prop} {st : SortSt} (hk : kindOf st = oneType') (hp : galL ns x p base n hint = some k) (h : Q (some k) st) :
    wpS (model prog w) A E s (srtGal true (itm ns tok x) (p.map (itm ns tok)) base n hint) Q st := by
  unfold galL at hp
  split at hp
  · rename_i h0
    split at hp
    · cases hp
    · rename_i t ht
      split at hp
      · cases hp
      · rename_i u hu
        cases hp
        refine wpS_bind (wpS_bind (s_elem h0.1 ?_))
        rw [if_pos rfl]
        refine s_lt hk ?_
        rw [h0.2]
        dsimp only
        rw [if_neg (by simp)]
        refine wpS_bind (s_range (s_loop (step := stGL ns x p base hint) (fun t => (none, t.1, t.2)) (fun _ => st) ?_ _ (0, 1) t ht ?_))
        · intro y t b t1 h1
          unfold stGL at h1
          dsimp only
          split at h1
          · rename_i hge
            cases h1
            rw [if_pos hge]
            exact wpS_pure ⟨rfl, rfl⟩
          · rename_i hge
            rw [if_neg hge]
            split at h1
            · rename_i hsz
              refine wpS_bind (wpS_bind (s_elem hsz ?_))
              rw [if_pos rfl]
              refine s_lt hk ?_
              split at h1
              · rename_i hl
                cases h1
                dsimp only
                rw [if_pos hl]
                exact wpS_pure ⟨rfl, rfl⟩
              · rename_i hl
                cases h1
                dsimp only
                rw [if_neg hl]
                exact wpS_pure ⟨rfl, rfl⟩
            · cases h1
        · dsimp only
          refine wpS_bind (s_range (s_loop (step := stG2 ns true x p base) (fun t => (none, t.1, t.2)) (fun _ => st) ?_ _ (hint + 1 - min t.2 (hint + 1), hint - t.1) u hu ?_))
          · intro y t b t1 h1
            unfold stG2 at h1
            dsimp only
            split at h1
            · rename_i hge
              cases h1
              rw [if_pos hge]
              exact wpS_pure ⟨rfl, rfl⟩
            · rename_i hge
              rw [if_neg hge]
              split at h1
              · rename_i hsz
                refine wpS_bind (wpS_bind (s_elem hsz ?_))
                rw [if_pos rfl]
                refine s_lt hk ?_
                simp only [if_true] at h1
                dsimp only
                split at h1
                · rename_i hl
                  cases h1
                  rw [if_pos hl]
                  exact wpS_pure ⟨rfl, rfl⟩
                · rename_i hl
                  cases h1
                  rw [if_neg hl]
                  exact wpS_pure ⟨rfl, rfl⟩
              · cases h1
          · exact wpS_pure h
  · cases hp
noncomputable abbrev MS := Option (Array Nat) × Array Nat × Nat × Nat × Nat × Nat
noncomputable def stLo (ns : List Int) (x y : Array Nat) (_ : Nat) (t : MS) : Option (Bool × MS) :=
  if t.2.2.2.1 < y.size ∧ t.2.2.1 < x.size then
    if lessI ns (pat y t.2.2.2.1) (pat x t.2.2.1) = true then
      if (t.2.2.2.1 + 1 == y.size) = true then some (false, (some (t.2.1.push (pat y t.2.2.2.1) ++ x.extract t.2.2.1 x.size ++ y.extract (t.2.2.2.1 + 1) y.size), t.2.1.push (pat y t.2.2.2.1), t.2.2.1, t.2.2.2.1 + 1, 0, t.2.2.2.2.2 + 1))
      else if t.2.2.2.2.2 + 1 ≥ 7 then none else some (true, (none, t.2.1.push (pat y t.2.2.2.1), t.2.2.1, t.2.2.2.1 + 1, 0, t.2.2.2.2.2 + 1))
    else
      if (t.2.2.1 + 1 + 1 == x.size) = true then some (false, (some (t.2.1.push (pat x t.2.2.1) ++ y.extract t.2.2.2.1 y.size ++ x.extract (t.2.2.1 + 1) x.size), t.2.1.push (pat x t.2.2.1), t.2.2.1 + 1, t.2.2.2.1, t.2.2.2.2.1 + 1, 0))
      else if t.2.2.2.2.1 + 1 ≥ 7 then none else some (true, (none, t.2.1.push (pat x t.2.2.1), t.2.2.1 + 1, t.2.2.2.1, t.2.2.2.2.1 + 1, 0))
  else none
noncomputable def mloP (ns : List Int) (x y : Array Nat) : Option (Array Nat) := if 1 < y.size ∧ 1 < x.size then (match iterL (stLo ns x y) (List.range' 0 (x.size + y.size - 0)) (none, #[pat y 0], 0, 1, 0, 0) with
  | some (some r, _) => some r
  | _ => none) else none
theorem s_neg {M : Model} {ζ α : Type} {c : Prop} [Decidable c] {a b : StateT ζ Sem α} {Q : α → ζ → Prop} {st : ζ} (hc : ¬ c) (h : wpS M A E s b Q st) : wpS M A E s (if c then a else b) Q st := by rw [if_neg hc]; exact h
theorem s_at0 {M : Model} {ζ β : Type} {l l' : List Nat} {c : β} {f : Nat → β → StateT ζ Sem (ForInStep β)} {Q : β → ζ → Prop} {st : ζ} (e : l = l') (h : wpS M A E s (forIn l' c f) Q st) : wpS M A E s (forIn l c f) Q st := by rw [e]; exact h
theorem s_lo {x y r : Array Nat} {Q : Array Keyed → SortSt → Prop} {st : SortSt} (hk : kindOf st = oneType') (hg : gallopOf st = 7) (hp : mloP ns x y = some r) (h : Q (r.map (itm ns tok)) st) :
    wpS (model prog w) A E s (srtLo (x.map (itm ns tok)) (y.map (itm ns tok))) Q st := by
  unfold mloP at hp
  split at hp
  rotate_left
  · cases hp
  rename_i h12
  obtain ⟨h1, h2⟩ := h12
  split at hp
  rotate_left
  · cases hp
  rename_i r' u hit
  cases hp
  have hgal : ∀ {n : Nat}, ¬ n ≥ 7 → ¬ n ≥ gallopOf st := fun h => by rw [hg]; exact h
  have e0 : #[itm ns tok (pat y 0)] = (#[pat y 0] : Array Nat).map (itm ns tok) := by simp
  have hx : (x.map (itm ns tok)).size = x.size := Array.size_map
  have hy : (y.map (itm ns tok)).size = y.size := Array.size_map
  rw [← hx, ← hy] at hit
  obtain ⟨l, hl⟩ : ∃ l, List.range' 0 ((x.map (itm ns tok)).size + (y.map (itm ns tok)).size - 0) = 0 :: l := by
    obtain ⟨m, hm⟩ : ∃ m, (x.map (itm ns tok)).size + (y.map (itm ns tok)).size - 0 = m + 1 := ⟨x.size + y.size - 1, by omega⟩
    exact ⟨List.range' 1 m, by rw [hm, List.range'_succ]⟩
  refine wpS_bind (wpS_lift (wpAny_rule ⟨rfl, wpS_bind (s_elem (by omega) (s_neg (by rw [hy]; simp; omega) (s_neg (by rw [hx]; simp; omega) (wpS_bind (wpS_get (wpS_bind (s_range ?_)))))))⟩))
  rw [e0]
  refine s_at0 hl (s_cons ?_)
  refine wpS_bind (s_range (s_loop (step := stLo ns x y) (fun t : MS => (t.1.map fun a => a.map (itm ns tok), t.2.1.map (itm ns tok), t.2.2)) (fun _ => st) ?_ _ (none, #[pat y 0], 0, 1, 0, 0) _ hit ?_))
  · rintro z ⟨t0, out, ia, ib, ac, bc⟩ b t1 h1
    unfold stLo at h1
    dsimp only at h1 ⊢
    split at h1
    rotate_left
    · cases h1
    rename_i hsz
    refine wpS_bind (s_elem hsz.1 (wpS_bind (s_elem hsz.2 (wpS_bind (s_lt hk ?_)))))
    dsimp only
    rw [hx, hy]
    split at h1
    · rename_i hl
      rw [if_pos hl]
      refine wpS_bind (s_elem hsz.1 ?_)
      split at h1
      · rename_i he
        rw [if_pos he]
        cases h1
        refine wpS_pure ⟨rfl, ?_⟩
        simp [Array.map_push, Array.map_append, Array.map_extract]
      · rename_i he
        rw [if_neg he]
        split at h1
        · cases h1
        · rename_i hb
          cases h1
          rw [if_neg (hgal hb)]
          refine wpS_pure ⟨rfl, ?_⟩
          simp [Array.map_push]
    · rename_i hl
      rw [if_neg hl]
      refine wpS_bind (s_elem hsz.2 ?_)
      split at h1
      · rename_i he
        rw [if_pos he]
        cases h1
        refine wpS_pure ⟨rfl, ?_⟩
        simp [Array.map_push, Array.map_append, Array.map_extract]
      · rename_i he
        rw [if_neg he]
        split at h1
        · cases h1
        · rename_i hb
          cases h1
          rw [if_neg (hgal hb)]
          refine wpS_pure ⟨rfl, ?_⟩
          simp [Array.map_push]
  · exact wpS_pure (wpS_pure h)
noncomputable def srtAt : Nat → StateT SortSt Sem Bool := sortPriv% PySem.Builtin.mergeAt
theorem s_set {M : Model} {ζ : Type} {st st' : ζ} {Q : PUnit → ζ → Prop} (h : Q ⟨⟩ st') : wpS M A E s (set st' : StateT ζ Sem PUnit) Q st := by
  unfold wpS; rw [StateT.run_set]; exact wpAny_pure ⟨rfl, h⟩
noncomputable def putAt (b : Nat) (r p : Array Nat) : Array Nat := r.toList.zipIdx.foldl (fun a x => a.setIfInBounds (b + x.2) x.1) p
theorem putAt_go {f : Nat → Keyed} {b : Nat} : ∀ (l : List (Nat × Nat)) (p : Array Nat), (l.map (Prod.map f _root_.id)).foldl (fun a x => a.setIfInBounds (b + x.2) x.1) (p.map f) = (l.foldl (fun a x => a.setIfInBounds (b + x.2) x.1) p).map f
  | [], p => rfl
  | x :: l, p => by
    rw [List.map_cons, List.foldl_cons, List.foldl_cons, ← putAt_go l]
    congr 1
    simp [Array.map_setIfInBounds]
theorem putAt_map {f : Nat → Keyed} {b : Nat} {r p : Array Nat} : (r.map f).toList.zipIdx.foldl (fun a x => a.setIfInBounds (b + x.2) x.1) (p.map f) = (putAt b r p).map f := by
  rw [Array.toList_map, List.zipIdx_map]
  exact putAt_go _ _
noncomputable def atP' (ns : List Int) (p : Array Nat) (sa na sb nb : Nat) : Option (Array Nat) :=
  if sb < p.size then match galR ns (pat p sb) p sa na 0 with
    | none => none
    | some k => if (na - k == 0) = true then none else if sa + k + (na - k) - 1 < p.size then match galL ns (pat p (sa + k + (na - k) - 1)) p sb nb (nb - 1) with
        | none => none
        | some m => if (m == 0) = true then none else if na - k ≤ m then match mloP ns (p.extract (sa + k) sb) (p.extract sb (sb + m)) with
            | none => none
            | some r => some (putAt (sa + k) r p)
          else none
      else none
  else none
theorem s_at {sa na pw sb nb pw2 : Nat} {p' : Array Nat} {Q : Bool → SortSt → Prop} (hp : atP' ns p sa na sb nb = some p') (h : Q true (stS ns tok p' #[(sa, na + nb, pw)])) :
    wpS (model prog w) A E s (mergeAt' 0) Q (stS ns tok p #[(sa, na, pw), (sb, nb, pw2)]) := by
  unfold atP' at hp
  split at hp
  rotate_left
  · cases hp
  rename_i h1
  split at hp
  · cases hp
  rename_i k hk
  split at hp
  · cases hp
  rename_i hk0
  split at hp
  rotate_left
  · cases hp
  rename_i h2
  split at hp
  · cases hp
  rename_i m hm
  split at hp
  · cases hp
  rename_i hm0
  split at hp
  rotate_left
  · cases hp
  rename_i hle
  split at hp
  · cases hp
  rename_i r hr
  cases hp
  refine wpS_bind (wpS_get ?_)
  have ep : ((#[(sa, na, pw), (sb, nb, pw2)] : Array (Nat × Nat × Nat)).setIfInBounds 0 (sa, na + nb, pw)).eraseIdxIfInBounds (0 + 1) = #[(sa, na + nb, pw)] := by simp [Array.eraseIdxIfInBounds, Array.setIfInBounds]
  refine wpS_bind (s_set ?_)
  dsimp only
  rw [ep]
  refine wpS_bind (s_elem h1 ?_)
  refine wpS_bind (s_galR rfl hk ?_)
  dsimp only
  rw [if_neg hk0]
  refine wpS_bind (s_elem h2 ?_)
  refine wpS_bind (s_galL rfl hm ?_)
  dsimp only
  rw [if_neg hm0, if_pos hle]
  rw [← Array.map_extract, ← Array.map_extract]
  refine wpS_bind (s_lo rfl rfl hr ?_)
  refine wpS_bind (wpS_modify ?_)
  refine wpS_bind (wpS_get ?_)
  have e := putAt_map (f := itm ns tok) (b := sa + k) (r := r) (p := p)
  dsimp only
  rw [e]
  exact wpS_pure h
/-! ## 72 items, two runs of 36 -/
noncomputable def p72 : Array Nat := (List.range 72).toArray
noncomputable def runsP (ns : List Int) : Option (Array Nat) :=
  if cntOk ns 0 72 p72 = true then match binP ns 0 36 2 p72 with
    | none => none
    | some p1 => if cntOk ns 36 36 p1 = true then match binP ns 36 36 2 p1 with
        | none => none
        | some p2 => atP' ns p2 0 36 36 36
      else none
  else none
theorem s_runs {p' : Array Nat} {Q : Unit → SortSt → Prop} (hp : runsP ns = some p') (h : ∀ pend, Q () (stS ns tok p' pend)) : wpS (model prog w) A E s sortRuns' Q (stS ns tok p72 #[]) := by
  unfold runsP at hp
  split at hp
  rotate_left
  · cases hp
  rename_i c1
  split at hp
  · cases hp
  rename_i p1 b1
  split at hp
  rotate_left
  · cases hp
  rename_i c2
  split at hp
  · cases hp
  rename_i p2 b2
  rw [sortRuns'_eq]
  refine wpS_bind (wpS_get ?_)
  have hsz : (p72.map (itm ns tok)).size = 72 := by rw [Array.size_map]; rfl
  have hmr : minRun' 72 72 0 = 36 := by rfl
  dsimp only
  rw [hsz, hmr]
  refine wpS_bind (s_range ?_)
  show wpS _ _ _ _ (forIn (0 :: 1 :: 2 :: List.range' 3 69) _ _) _ _
  refine s_cons ?_
  dsimp only
  rw [if_neg (by decide)]
  refine wpS_bind (s_cnt c1 ?_)
  dsimp only
  rw [if_pos (by decide)]
  refine wpS_bind (wpS_lift (wpAny_rule ⟨rfl, ?_⟩))
  refine wpS_bind (s_bin b1 ?_)
  rw [if_neg (by simp)]
  refine wpS_bind (wpS_get ?_)
  rw [show (pendingOf (stS ns tok p1 #[])).back? = none from rfl]
  dsimp only
  refine wpS_bind (wpS_modify (wpS_pure ?_))
  dsimp only
  rw [show 0 + min (72 - 0) 36 = 36 from rfl]
  refine s_cons ?_
  dsimp only
  rw [if_neg (by decide)]
  refine wpS_bind (s_cnt (p := p1) (pend := #[(0, 36, 0)]) c2 ?_)
  dsimp only
  rw [if_pos (by decide)]
  refine wpS_bind (wpS_lift (wpAny_rule ⟨rfl, ?_⟩))
  refine wpS_bind (s_bin b2 ?_)
  rw [if_neg (by simp)]
  refine wpS_bind (wpS_get ?_)
  rw [show (pendingOf (stS ns tok p2 #[(0, 36, 0)])).back? = some (0, 36, 0) from rfl]
  dsimp only
  refine wpS_bind (s_range ?_)
  show wpS _ _ _ _ (forIn (0 :: List.range' 1 71) _ _) _ _
  refine s_cons (wpS_bind (wpS_get ?_))
  rw [show (pendingOf (stS ns tok p2 #[(0, 36, 0)])).size = 1 from rfl, if_neg (by decide)]
  dsimp only
  refine wpS_pure ?_
  dsimp only
  generalize power' _ _ _ _ = pw
  refine wpS_bind (wpS_modify (wpS_bind (wpS_modify (wpS_pure ?_))))
  dsimp only
  rw [show 36 + min (72 - 36) 36 = 72 from rfl]
  refine s_cons ?_
  dsimp only
  rw [if_pos (by decide)]
  refine wpS_pure ?_
  dsimp only
  refine wpS_bind (s_range ?_)
  show wpS _ _ _ _ (forIn (0 :: 1 :: List.range' 2 70) _ _) _ (stS ns tok p2 #[(0, 36, pw), (36, 36, 0)])
  refine s_cons (wpS_bind (wpS_get ?_))
  rw [if_neg (show ¬ (pendingOf (stS ns tok p2 #[(0, 36, pw), (36, 36, 0)])).size ≤ 1 from by show ¬ 2 ≤ 1; decide)]
  refine wpS_bind (s_at hp ?_)
  rw [if_neg (by simp)]
  refine wpS_pure (s_cons (wpS_bind (wpS_get ?_)))
  rw [if_pos (show (pendingOf (stS ns tok p' #[(0, 36 + 36, pw)])).size ≤ 1 from Nat.le_refl 1)]
  refine wpS_pure ?_
  exact wpS_pure (h _)
end
end
section

theorem toks_of : ∀ {vs : List Value} {ns : List Int}, IntsAre vs ns → ∃ tok : Nat → Tok, ∀ i, i < vs.length → vs[i]? = some (.int (ns.getD i 0) (tok i))
  | _, _, .nil => ⟨fun _ => default, fun i h => absurd h (Nat.not_lt_zero i)⟩
  | _, _, .cons n t h => by
    obtain ⟨f, hf⟩ := toks_of h
    refine ⟨fun i => match i with | 0 => t | i + 1 => f i, fun i hi => ?_⟩
    cases i with
    | zero => rfl
    | succ i => simpa using hf i (by simpa using hi)
theorem pairs72 {vs : List Value} {ns : List Int} {tok : Nat → Tok} (hl : vs.length = 72) (ht : ∀ i, i < vs.length → vs[i]? = some (.int (ns.getD i 0) (tok i))) : vs.toArray.zip vs.toArray = p72.map (itm ns tok) := by
  apply Array.toList_inj.mp
  apply List.ext_getElem?
  intro i
  by_cases hi : i < 72
  · have h1 := ht i (by omega)
    have h2 : p72[i]? = some i := by simp [p72, hi]
    simp [List.getElem?_zip_eq_some, h1, itm, p72, hi]
  · have h1 : vs[i]? = none := by rw [List.getElem?_eq_none]; omega
    have h2 : (List.range 72)[i]? = none := by rw [List.getElem?_eq_none]; simp; omega
    simp [p72, h2, List.zip, h1]
theorem ints_out {ns : List Int} {tok : Nat → Tok} : ∀ (l : List Nat), IntsAre ((l.map (itm ns tok)).map (·.2)) (l.map fun i => ns.getD i 0)
  | [] => .nil
  | _ :: l => .cons _ _ (ints_out l)
section
variable {prog : Program} {w : World} {A : Around} {E : Value → Shared → Prop} {s : Shared}
theorem sort72 {a : Addr} {vs : List Value} {ns ms : List Int} {n : Nat} {p' : Array Nat} {P : PySem.Fin → Shared → Prop} (ho : s.heap.get? a = some (seqObj "list" vs.toArray n))
    (hI : IntsAre vs ns) (hl : vs.length = 72) (hp : runsP ns = some p') (hm : p'.toList.map (fun i => ns.getD i 0) = ms) (hz : ms.length ≤ 1000)
    (h : ∀ out : Array Value, IntsAre out.toList ms → P (.done (.ret .none)) { s with heap := sortedHeap s.heap a vs out }) :
    wpAny (model prog w) A (Builtin.«list.sort» ⟨[.ref a], []⟩) P E s := by
  obtain ⟨tok, ht⟩ := toks_of hI
  obtain ⟨v₁, v₂, rest, e⟩ : ∃ v₁ v₂ rest, vs = v₁ :: v₂ :: rest := by
    match vs, hl with
    | v₁ :: v₂ :: rest, _ => exact ⟨_, _, _, rfl⟩
  have hkind : keyKind' vs.toArray = pure oneType' := by subst e; exact keyKind_ints hI
  clear e
  have hlt : a < s.heap.objs.size := Heap.lt_size ho
  have hvz : vs.toArray.size = 72 := by simp [hl]
  rw [list_sort_plain]
  refine wpAny_bind (listItems_at ho rfl (wpAny_bind (listUpdate_at ho rfl ?_ (by rw [hvz, sizeLine_eq]; decide) (Nat.zero_le _))))
  obtain ⟨k, ho1⟩ : ∃ k, (s.heap.update a (Obj.mapSeq fun _ => #[])).get? a = some (seqObj "list" #[] k) := ⟨_, get?_update_seq ho fun _ => #[]⟩
  refine wpAny_bind (seqEpoch_at ho1 rfl (wpAny_bind (wpAny_newTuple (wpAny_bind (wpAny_newList (wpAny_holding ?_) (Nat.zero_le _))) (by show vs.length ≤ _; rw [hl, sizeLine_eq]; decide))))
  have ho2 : (((s.heap.update a (Obj.mapSeq fun _ => #[])).push (seqObj "tuple" vs.toArray 0)).push (seqObj "list" #[] 0)).get? a = some (seqObj "list" #[] k) :=
    Heap.get?_push_of_some _ (Heap.get?_push_of_some _ ho1)
  rw [if_neg (by rw [hvz]; decide), if_neg (by rw [hvz]; decide), hkind]
  refine wpAny_bind (wpAny_pure ?_)
  rw [pairs72 hl ht]
  refine wpAny_bind (wpAny_mono (s_runs (ns := ns) (tok := tok) (Q := fun _ st' => ∃ pend, st' = stS ns tok p' pend) hp fun pend => ⟨pend, rfl⟩) ?_ fun _ _ e => e)
  rintro ⟨⟨⟩, st'⟩ s' ⟨rfl, pend, rfl⟩
  dsimp only
  have hout : ((p'.map (itm ns tok)).map (·.2)).toList = (p'.toList.map (itm ns tok)).map (·.2) := by simp
  have hsz : ((p'.map (itm ns tok)).map (·.2)).size = ms.length := by rw [← hm]; simp
  refine wpAny_bind (seqEpoch_at ho2 rfl (wpAny_bind (listUpdate_at ho2 rfl ?_ (Nat.zero_le _) (Nat.le_trans (Nat.le_of_eq hsz) (by rw [sizeLine_eq]; omega)))))
  simp only [bne_self_eq_false, Bool.false_eq_true, if_false]
  exact wpAny_pure (h _ (by rw [hout, ← hm]; exact ints_out _))
theorem sorted72 {l : Addr} {vs : List Value} {ns ms : List Int} {p' : Array Nat} {Q : Value → Shared → Prop} (hl : s.heap.IsList l vs.toArray)
    (hI : IntsAre vs ns) (hn : vs.length = 72) (hp : runsP ns = some p') (hm : p'.toList.map (fun i => ns.getD i 0) = ms) (hz : ms.length ≤ 1000)
    (h : ∀ out : Array Value, IntsAre out.toList ms → Q (.ref (s.heap.objs.size + 1)) { s with heap := sortedAll s.heap vs out }) :
    wpAny (model prog w) A (call (.builtin "sorted") [.ref l]) Q E s := by
  refine Calls.call_function_entry kind_sorted plain_sorted entry_sorted (args_sorted1 _) ?_
  unfold Builtin.«sorted»
  have hle : vs.length ≤ sizeLine := by rw [hn, sizeLine_eq]; decide
  refine wpAny_bind (m := checkCount "sorted" 1 1 _) (wpAny_pure (wpAny_bind (collect_list hl (wpAny_bind (wpAny_newList ?_ hle)) hle)))
  have hz1 : ((s.heap.push (seqObj "list" #[] 0)).update s.heap.objs.size (Obj.mapSeq (· ++ vs.toArray))).objs.size = s.heap.objs.size + 1 := by rw [Heap.size_update, size_push']
  have ho : (((s.heap.push (seqObj "list" #[] 0)).update s.heap.objs.size (Obj.mapSeq (· ++ vs.toArray))).push (seqObj "list" vs.toArray 0)).get? (s.heap.objs.size + 1) = some (seqObj "list" vs.toArray 0) := by
    rw [← hz1]; exact Heap.get?_push_size _ rfl
  show wpAny _ _ _ _ _ { s with heap := ((s.heap.push (seqObj "list" #[] 0)).update s.heap.objs.size (Obj.mapSeq (· ++ vs.toArray))).push (seqObj "list" vs.toArray 0) }
  rw [hz1]
  exact wpAny_bind (wpAny_holding (wpAny_call_entry slot_list_sort ⟨_, ho, rfl⟩ entry_list_sort (sort72 ho hI hn hp hm hz fun out ha => ⟨_, rfl, wpAny_pure ⟨_, rfl, h out ha⟩⟩) (args_list_sort _)))
end
noncomputable def srtP (ns : List Int) : Option (List Int) := (runsP ns).map fun p => p.toList.map fun i => ns.getD i 0
section
variable {C : Cx} {d : Nat} {sc : Scope} {ρ : List (Str × V)} {σ σ₁ : List Cell} {v : V}
theorem Ev.sorted72 {p pos e} {ns ms : List Int} {p' : Array Nat} (h : Ev C d sc e ρ σ v σ₁) (hl : lstOf σ₁ v = some (ns.map V.int)) (hn : ns.length = 72) (hp : runsP ns = some p') (hm : p'.toList.map (fun i => ns.getD i 0) = ms) (hz : ms.length ≤ 1000)
    (hk : Gi sc "sorted" := by rfl) (hs : NoStar e := by intro _ _; rfl) (hc : CallEq "sorted" p pos [e] := by intro _; rfl) :
    Ev C d sc ((Expr.Name "sorted" p).Call [e] [] pos) ρ σ (.lst (ms.map V.int)) σ₁ := .mk <| fun S =>
  useCall hk (by simp) PyProof.Rows.Boot.sorted (.inl ⟨_, rfl⟩) (h.arg hs) S (fun _ _ s' st S' r => by
    cases r with
    | cons r r' =>
      cases r'
      obtain ⟨a, xs, rfl, il, q⟩ := lst_at S'.heap r hl
      refine Mine.sorted72 il (IntsAre.ofRep q) (by rw [← q.length, List.length_map]; exact hn) hp hm hz fun out ha => ?_
      obtain ⟨e', he⟩ := sortedAll_at s'.heap xs out
      have g : Grow s' { s' with heap := sortedAll s'.heap xs out } := ⟨⟨_, _, rfl⟩, fun _ _ => sortedAll_old⟩
      refine (Post.newLst (xs := out.toList) (n := e') S' g ?_ (by simpa [listOf] using he) (IntsAre.toRep ha)).after st
      cases z : s'.heap.get? (s'.heap.objs.size + 1) with
      | none => rfl
      | some o => exact absurd (Heap.lt_size z) (Nat.not_lt.mpr (Nat.le_succ _))) hs (fun _ _ => rfl) hc
end
end
open PyProof.V
noncomputable def Sub (ρ' ρ : List (Str × V)) : Prop := ∀ x v, ρ.lookup x = some v → ρ'.lookup x = some v
inductive WStep (C : Cx) (d : Nat) (sc : Scope) (t : Expr) (body : List Stmt) {β : Type} (f : β → List (Str × V)) (g : β → List Cell) (P Q : β → Prop) (m : β → Nat) (out : Out) (b : β) : Prop
  | done : Tr C d sc t (f b) (g b) false (g b) → Q b → WStep C d sc t body f g P Q m out b
  | turn (b' : β) : Tr C d sc t (f b) (g b) true (g b) → Exs C d sc body (f b) (g b) (.next (f b') (g b')) → P b' → m b' < m b → WStep C d sc t body f g P Q m out b
  | ret {v σ'} : Tr C d sc t (f b) (g b) true (g b) → Exs C d sc body (f b) (g b) (.ret v σ') → out = .ret v σ' → WStep C d sc t body f g P Q m out b
inductive FStep (C : Cx) (d : Nat) (sc : Scope) (t : Expr) (body : List Stmt) {β : Type} (f : β → List (Str × V)) (g : β → List Cell) (P : Src → β → Prop) (Q : β → Prop) (m : Src → Nat) (out : Out) (src : Src) (b : β) : Prop
  | done : src.over (g b) = true → Q b → FStep C d sc t body f g P Q m out src b
  | turn {v src' ρ₁} (b' : β) : src.next (g b) = some (v, src') → Tgt t src v → As C d sc t v (f b) (g b) ρ₁ (g b) → Exs C d sc body ρ₁ (g b) (.next (f b') (g b')) → P src' b' → m src' < m src → FStep C d sc t body f g P Q m out src b
  | ret {v src' ρ₁ v' σ'} : src.next (g b) = some (v, src') → Tgt t src v → As C d sc t v (f b) (g b) ρ₁ (g b) → Exs C d sc body ρ₁ (g b) (.ret v' σ') → out = .ret v' σ' → FStep C d sc t body f g P Q m out src b
section
variable {C : Cx} {d : Nat} {sc : Scope} {ρ ρ₁ ρ₂ ρ₃ : List (Str × V)} {σ σ₁ σ₂ σ' : List Cell} {vs : List V} {v v₁ : V}
theorem upd_nil {x : Str} : upd [] x v = [(x, v)] := rfl
theorem upd_here {x : Str} {u r} : upd ((x, u) :: r) x v = (x, v) :: r := by simp [upd]
theorem upd_there {x y : Str} {u r r'} (h : (x == y) = false) (k : upd r x v = r') : upd ((y, u) :: r) x v = (y, u) :: r' := by rw [upd, h, k]
theorem Wh.loop {t : Expr} {b : List Stmt} {α : Type} (f : α → List (Str × V)) (g : α → List Cell) (m : α → Nat) (out : α → Out)
    (step : ∀ a, (∀ a', m a' < m a → Wh C d sc t b (f a') (g a') (out a')) → Wh C d sc t b (f a) (g a) (out a)) (a : α) : Wh C d sc t b (f a) (g a) (out a) := by
  have h : ∀ n a, m a = n → Wh C d sc t b (f a) (g a) (out a) := by
    intro n
    induction n using Nat.strongRecOn with
    | _ n ih => intro a e; exact step a fun a' h => ih _ (e ▸ h) a' rfl
  exact h _ a rfl
theorem Ex.swap2 {x y : Str} {px py p e pos k} {u w : V} (h : Ev C d sc e ρ σ (.tup [u, w]) σ₁) (hv : [y, x].all (isVar sc) = true)
    (hw : ∀ env, env.scope = sc → swappedStores [.Tuple [.Name x px, .Name y py] k p] e env = pure (some [x, y]))
    (hs : ∀ env, swapsWithSole [.Tuple [.Name x px, .Name y py] k p] e pos.line env = pure false) (h1 : upd ρ y w = ρ₁) (h2 : upd ρ₁ x u = ρ₂) :
    Ex C d sc (.Assign [.Tuple [.Name x px, .Name y py] k p] e pos) ρ σ (.next ρ₂ σ₁) := by
  subst h1 h2; exact Ex.swap (names := [x, y]) h hv rfl hw hs
theorem Ex.swap3 {x y z : Str} {px py pz p e pos k} {u w t : V} (h : Ev C d sc e ρ σ (.tup [u, w, t]) σ₁) (hv : [z, y, x].all (isVar sc) = true)
    (hw : ∀ env, env.scope = sc → swappedStores [.Tuple [.Name x px, .Name y py, .Name z pz] k p] e env = pure (some [x, y, z]))
    (hs : ∀ env, swapsWithSole [.Tuple [.Name x px, .Name y py, .Name z pz] k p] e pos.line env = pure false) (h1 : upd ρ z t = ρ₁) (h2 : upd ρ₁ y w = ρ₂) (h3 : upd ρ₂ x u = ρ₃) :
    Ex C d sc (.Assign [.Tuple [.Name x px, .Name y py, .Name z pz] k p] e pos) ρ σ (.next ρ₃ σ₁) := by
  subst h1 h2 h3; exact Ex.swap (names := [x, y, z]) h hv rfl hw hs
theorem As.nm {x p} (hx : isVar sc x = true) (he : upd ρ x v = ρ₁) : As C d sc (.Name x p) v ρ σ ρ₁ σ := by
  subst he; exact As.name hx
theorem Ex.set {x p e pos} (h : Ev C d sc e ρ σ v σ₁) (hx : isVar sc x = true) (hs : NoSwap sc e (some (.Name x p)) pos.line) (he : upd ρ x v = ρ₁) : Ex C d sc (.Assign [.Name x p] e pos) ρ σ (.next ρ₁ σ₁) := by
  subst he; exact Ex.assign h hx hs
theorem Ex.aug {x p e pos} {a b c : Int} (h0 : ρ.lookup x = some (.int a)) (h : Ev C d sc e ρ σ (.int b) σ₁) (hx : isVar sc x = true) (q : a + b = c) (he : upd ρ x (.int c) = ρ₁) : Ex C d sc (.AugAssign (.Name x p) .Add e pos) ρ σ (.next ρ₁ σ₁) := by
  subst q he; exact Ex.augAdd h0 h hx
theorem Ex.augS {x p e pos} {a b c : Int} (h0 : ρ.lookup x = some (.int a)) (h : Ev C d sc e ρ σ (.int b) σ₁) (hx : isVar sc x = true) (q : a - b = c) (he : upd ρ x (.int c) = ρ₁) : Ex C d sc (.AugAssign (.Name x p) .Sub e pos) ρ σ (.next ρ₁ σ₁) := by
  subst q he; exact Ex.augSub h0 h hx
theorem Call.i0 {f : Str} {pa : Arguments} {body : List Stmt} {args : List V} (h0 : 0 < d) (hd : theDefIn f PySem.Challenge.pw_xm0157_01.main.body = some ⟨pa, body, sc⟩)
    (hbind : ∀ pm cd doc vals, vals.length = args.length → bindArgs (Calls.docDef f pa body sc pm cd doc) ⟨vals, []⟩ = pure ((pa.args.map (·.arg)).zip vals))
    (hvar : (pa.args.map (·.arg)).all (isVar sc) = true) (hnd : (pa.args.map (·.arg)).Nodup) (hlen : pa.args.length = args.length)
    (hk : sc.kind = .function) (hco : sc.isCoroutine = false) (hgen : sc.isGenerator = false) (hr : (pa.args.map (·.arg)).zip args = ρ) (hb : Exs C (d - 1) sc body ρ σ (.ret v σ')) (hsz : σ'.length = σ.length) : Call C d f args σ v σ' := by
  subst hr
  obtain ⟨e, rfl⟩ : ∃ e, d = e + 1 := ⟨d - 1, by omega⟩
  exact Call.intro0 hd hb hsz hbind hvar hnd hlen hk hco hgen
theorem Call.n0 {f : Str} {pa : Arguments} {body : List Stmt} {args : List V} (h0 : 0 < d) (hd : theDefIn f PySem.Challenge.pw_xm0157_01.main.body = some ⟨pa, body, sc⟩)
    (hbind : ∀ pm cd doc vals, vals.length = args.length → bindArgs (Calls.docDef f pa body sc pm cd doc) ⟨vals, []⟩ = pure ((pa.args.map (·.arg)).zip vals))
    (hvar : (pa.args.map (·.arg)).all (isVar sc) = true) (hnd : (pa.args.map (·.arg)).Nodup) (hlen : pa.args.length = args.length)
    (hk : sc.kind = .function) (hco : sc.isCoroutine = false) (hgen : sc.isGenerator = false) (hr : (pa.args.map (·.arg)).zip args = ρ) (hsz : σ'.length = σ.length) (hb : Exs C (d - 1) sc body ρ σ (.next [] σ')) : Call C d f args σ .none σ' := by
  subst hr
  obtain ⟨e, rfl⟩ : ∃ e, d = e + 1 := ⟨d - 1, by omega⟩
  exact Call.introN hd hb hsz hbind hvar hnd hlen hk hco hgen
theorem Call.iP {f : Str} {pa : Arguments} {body : List Stmt} {args : List V} {cs : List Cell} (h0 : 0 < d) (hd : theDefIn f PySem.Challenge.pw_xm0157_01.main.body = some ⟨pa, body, sc⟩)
    (hbind : ∀ pm cd doc vals, vals.length = args.length → bindArgs (Calls.docDef f pa body sc pm cd doc) ⟨vals, []⟩ = pure ((pa.args.map (·.arg)).zip vals))
    (hvar : (pa.args.map (·.arg)).all (isVar sc) = true) (hnd : (pa.args.map (·.arg)).Nodup) (hlen : pa.args.length = args.length)
    (hk : sc.kind = .function) (hco : sc.isCoroutine = false) (hgen : sc.isGenerator = false) (hr : (pa.args.map (·.arg)).zip args = ρ) (hb : Exs C (d - 1) sc body ρ σ (.ret v₁ (σ ++ cs))) (hf : Frz σ.length (σ ++ cs) v₁ v) : Call C d f args σ v σ := by
  subst hr
  obtain ⟨e, rfl⟩ : ∃ e, d = e + 1 := ⟨d - 1, by omega⟩
  exact Call.introP hd hb hf hbind hvar hnd hlen hk hco hgen
theorem Ev.to {e : Expr} {w} (h : Ev C d sc e ρ σ v σ') (q : v = w) : Ev C d sc e ρ σ w σ' := q ▸ h
theorem Call.to {f args w} (h : Call C d f args σ v σ') (e : v = w) : Call C d f args σ w σ' := e ▸ h
theorem cell_at {c : Cell} : (σ ++ [c])[σ.length]? = some c := by rw [List.getElem?_append_right (Nat.le_refl _), Nat.sub_self]; rfl
theorem Ex.append1 {o ap p e pos} (ho : Ev C d sc o ρ (σ ++ [.lst vs]) (.ref σ.length) (σ ++ [.lst vs])) (he : Ev C d sc e ρ (σ ++ [.lst vs]) v (σ ++ [.lst vs])) (hl : vs.length < 1000000)
    (hm : MethEq o "append" ap p [e] := by exact ⟨_, fun _ => by with_unfolding_all rfl⟩) (hs : NoStar e := by intro _ _; rfl)
    (hi : sc.kind = .function := by rfl) (hw : ∀ env, swapsWith ((o.Attribute "append" ap).Call [e] [] p) none pos.line env = pure false := by intro _; rfl) :
    Ex C d sc (.Expr ((o.Attribute "append" ap).Call [e] [] p) pos) ρ (σ ++ [.lst vs]) (.next ρ (σ ++ [.lst (vs ++ [v])])) := by
  have := Ex.append ho cell_at he cell_at hl hm hs hi hw
  rwa [List.set_append_right _ _ (Nat.le_refl _), Nat.sub_self] at this
theorem Ex.setItem1 {o i p e pos} {j : Nat} {k : Int} (he : Ev C d sc e ρ (σ ++ [.lst vs]) v (σ ++ [.lst vs])) (ho : Ev C d sc o ρ (σ ++ [.lst vs]) (.ref σ.length) (σ ++ [.lst vs])) (hi : Ev C d sc i ρ (σ ++ [.lst vs]) (.int k) (σ ++ [.lst vs])) (hj : k = (j : Int)) (hlt : j < vs.length)
    (hs : ∀ env, swapsWith e (some (.Subscript o i p)) pos.line env = pure false := by intro _; rfl) :
    Ex C d sc (.Assign [.Subscript o i p] e pos) ρ (σ ++ [.lst vs]) (.next ρ (σ ++ [.lst (vs.set j v)])) := by
  have := Ex.setItem he ho hi cell_at hj hlt hs
  rwa [List.set_append_right _ _ (Nat.le_refl _), Nat.sub_self] at this
theorem Frz.cell1 (h : V.plains vs = true) : Frz σ.length (σ ++ [.lst vs]) (.ref σ.length) (.lst vs) := .new (Nat.le_refl _) cell_at (FrzL.plain h)
theorem Call.i1 {f : Str} {pa : Arguments} {body : List Stmt} {args : List V} (hp : V.plains vs = true) (h0 : 0 < d) (hd : theDefIn f PySem.Challenge.pw_xm0157_01.main.body = some ⟨pa, body, sc⟩)
    (hbind : ∀ pm cd doc vals, vals.length = args.length → bindArgs (Calls.docDef f pa body sc pm cd doc) ⟨vals, []⟩ = pure ((pa.args.map (·.arg)).zip vals))
    (hvar : (pa.args.map (·.arg)).all (isVar sc) = true) (hnd : (pa.args.map (·.arg)).Nodup) (hlen : pa.args.length = args.length)
    (hk : sc.kind = .function) (hco : sc.isCoroutine = false) (hgen : sc.isGenerator = false) (hr : (pa.args.map (·.arg)).zip args = ρ) (hb : Exs C (d - 1) sc body ρ σ (.ret (.ref σ.length) (σ ++ [.lst vs]))) : Call C d f args σ (.lst vs) σ :=
  Call.iP h0 hd hbind hvar hnd hlen hk hco hgen hr hb (Frz.cell1 hp)
noncomputable def nth (ns : List Int) (k : Int) : Int := ns.getD k.toNat 0
noncomputable def lastP (ns : List Int) : Int := ns.getD (ns.length - 1) 0
theorem Ev.itemL {e i pos} {ns : List Int} (h1 : Ev C d sc e ρ σ v σ₁) (h2 : Ev C d sc i ρ σ₁ (.int (-1)) σ₂) (hl : lstOf σ₂ v = some (ns.map .int)) (hk : 0 < ns.length ∧ ns.length ≤ 1000000) (hs : SubOk i := by intro _ _; rfl) :
    Ev C d sc (.Subscript e i pos) ρ σ (.int (lastP ns)) σ₂ := by
  refine Ev.item h1 h2 hl (by omega) (j := ns.length - 1) (by
    unfold idxOf
    rw [if_pos (by omega), List.length_map, if_neg (by omega)]
    congr 1; omega) ?_ hs
  have : ns.length - 1 < ns.length := by omega
  rw [List.getElem?_map, List.getElem?_eq_getElem this]
  simp [lastP, List.getD, List.getElem?_eq_getElem this]
theorem Ev.itemZ {e i pos} {ns : List Int} {k : Int} (h1 : Ev C d sc e ρ σ v σ₁) (h2 : Ev C d sc i ρ σ₁ (.int k) σ₂) (hl : lstOf σ₂ v = some (ns.map .int)) (hk : 0 ≤ k ∧ k.toNat < ns.length ∧ ns.length ≤ 1000000) (hs : SubOk i := by intro _ _; rfl) :
    Ev C d sc (.Subscript e i pos) ρ σ (.int (nth ns k)) σ₂ := by
  refine Ev.item h1 h2 hl (by omega) (j := k.toNat) (by unfold idxOf; rw [if_neg (by omega)]) ?_ hs
  rw [List.getElem?_map, List.getElem?_eq_getElem hk.2.1]
  simp [nth, List.getD, List.getElem?_eq_getElem hk.2.1]
theorem Sub.refl : Sub ρ ρ := fun _ _ h => h
theorem Sub.nil : Sub ρ [] := fun _ _ h => nomatch h
theorem Sub.cons {x : Str} {u : V} (h : ρ.lookup x = some u) (r : Sub ρ ρ₁) : Sub ρ ((x, u) :: ρ₁) := fun y v e => by
  rw [List.lookup_cons] at e
  by_cases q : y = x
  · subst q; rw [beq_self_eq_true] at e; cases e; exact h
  · rw [beq_false_of_ne q] at e; exact r y v e
theorem Sit.forget {A env μ s} (S : Sit C sc d A env ρ σ μ s) (h : Sub ρ ρ₁) : Sit C sc d A env ρ₁ σ μ s :=
  ⟨S.wd, S.lim, S.sc, { S.env with see := S.env.see.imp fun _ a => ⟨a.1, fun x v e => a.2 x v (h x v e)⟩ }, S.heap⟩
theorem Exs.drop (h : Sub ρ ρ₁) : Exs C d sc [] ρ σ (.next ρ₁ σ) := .mk <| fun S => Exs.nil.run (S.forget h)
theorem Exs.weak {sts out} (h : Exs C d sc sts ρ₁ σ out) (k : Sub ρ ρ₁) : Exs C d sc sts ρ σ out := .mk <| fun S => h.run (S.forget k)
theorem Wh.weak {t b out} (h : Wh C d sc t b ρ₁ σ out) (k : Sub ρ ρ₁) : Wh C d sc t b ρ σ out := .mk <| fun S => h.run (S.forget k)
theorem Fo.weak {t b src out} (h : Fo C d sc t b src ρ₁ σ out) (k : Sub ρ ρ₁) : Fo C d sc t b src ρ σ out := .mk <| fun S a => h.run (S.forget k) a
theorem Exs.while {t body rest pos} {out : Out} {β : Type} (f : β → List (Str × V)) (g : β → List Cell) (P Q : β → Prop) (m : β → Nat) (b : β) (h0 : Sub ρ (f b)) (hg : σ = g b) (hp : P b)
    (step : ∀ b, P b → WStep C d sc t body f g P Q m out b) (k : ∀ b, Q b → Exs C d sc rest (f b) (g b) out) : Exs C d sc (.While t body [] pos :: rest) ρ σ out := by
  subst hg
  refine Exs.weak ?_ h0
  have h : ∀ n b, m b = n → P b → (∃ b', Q b' ∧ Wh C d sc t body (f b) (g b) (.next (f b') (g b'))) ∨ (∃ v σ', out = .ret v σ' ∧ Wh C d sc t body (f b) (g b) (.ret v σ')) := by
    intro n
    induction n using Nat.strongRecOn with
    | _ n ih =>
      intro b e p
      cases step b p with
      | done h q => exact .inl ⟨b, q, Wh.done h⟩
      | turn b' h hb p' hm =>
        rcases ih _ (e ▸ hm) b' rfl p' with ⟨b'', q, w⟩ | ⟨v, σ', e, w⟩
        · exact .inl ⟨b'', q, Wh.turn h hb w⟩
        · exact .inr ⟨v, σ', e, Wh.turn h hb w⟩
      | ret h hb e => exact .inr ⟨_, _, e, Wh.ret h hb⟩
  rcases h _ b rfl hp with ⟨b', q, w⟩ | ⟨v, σ', e, w⟩
  · exact Exs.cons (Ex.while w) (k b' q)
  · subst e; exact Exs.stop (Ex.while w)
theorem Exs.for {t i body rest pos src} {out : Out} {β : Type} (f : β → List (Str × V)) (g : β → List Cell) (P : Src → β → Prop) (Q : β → Prop) (m : Src → Nat) (b : β) (hi : EvI C d sc i ρ σ src σ₁) (h0 : Sub ρ (f b)) (hg : σ₁ = g b) (hp : P src b)
    (step : ∀ src b, P src b → FStep C d sc t body f g P Q m out src b) (k : ∀ b, Q b → Exs C d sc rest (f b) (g b) out) (hs : ∀ env x, foldedSetIterable i env x = pure x := by intro _ _; rfl) : Exs C d sc (.For t i body [] pos :: rest) ρ σ out := by
  subst hg
  have h : ∀ n src b, m src = n → P src b → (∃ b', Q b' ∧ Fo C d sc t body src (f b) (g b) (.next (f b') (g b'))) ∨ (∃ v σ', out = .ret v σ' ∧ Fo C d sc t body src (f b) (g b) (.ret v σ')) := by
    intro n
    induction n using Nat.strongRecOn with
    | _ n ih =>
      intro src b e p
      cases step src b p with
      | done h q => exact .inl ⟨b, q, Fo.done h⟩
      | turn b' h ht ha hb p' hm =>
        rcases ih _ (e ▸ hm) _ b' rfl p' with ⟨b'', q, w⟩ | ⟨v, σ', e, w⟩
        · exact .inl ⟨b'', q, Fo.turn h ht ha hb w⟩
        · exact .inr ⟨v, σ', e, Fo.turn h ht ha hb w⟩
      | ret h ht ha hb e => exact .inr ⟨_, _, e, Fo.ret h ht ha hb⟩
  rcases h _ src b rfl hp with ⟨b', q, w⟩ | ⟨v, σ', e, w⟩
  · exact Exs.cons (Ex.for hi (w.weak h0) hs) (k b' q)
  · subst e; exact Exs.stop (Ex.for hi (w.weak h0) hs)
theorem Fo.fold {x : Str} {px : Pos} {body : List Stmt} {α β : Type} (emb : α → V) (f : β → List (Str × V)) (g : β → List Cell) (I : β → Prop) (F : β → α → Option β) {R : β} (hx : isVar sc x = true) :
    ∀ {its : List α} {src : Src} {b : β}, (∀ b, I b → Gives (g b) src (its.map emb)) → I b → its.foldlM F b = some R →
    (∀ a ∈ its, ∀ b b', I b → F b a = some b' → I b' ∧ Exs C d sc body (upd (f b) x (emb a)) (g b) (.next (f b') (g b'))) → Fo C d sc (.Name x px) body src (f b) (g b) (.next (f R) (g R)) ∧ I R
  | [], src, b, hs, hb, hR, _ => by
    have q := hs b hb
    cases q with
    | nil h => cases hR; exact ⟨Fo.done h, hb⟩
  | a :: its, src, b, hs, hb, hR, hbody => by
    rw [List.foldlM_cons] at hR
    cases e : F b a with
    | none => rw [e] at hR; cases hR
    | some b' =>
      rw [e] at hR
      obtain ⟨hb', hx'⟩ := hbody a (.head _) b b' hb e
      have q := hs b hb
      rw [List.map_cons] at q
      cases q with
      | cons h ht hq =>
        obtain ⟨r1, r2⟩ := Fo.fold (px := px) emb f g I F hx (its := its) (src := src.succ) (b := b') (fun b hb => by
          have q := hs b hb
          rw [List.map_cons] at q
          cases q with
          | cons _ _ q' => exact q') hb' hR (fun a m => hbody a (.tail _ m))
        exact ⟨Fo.turn h (ht _ _) (As.nm hx rfl) hx' r1, r2⟩
theorem Exs.fold {x : Str} {px : Pos} {i body rest pos src} {out : Out} {α β : Type} (emb : α → V) (its : List α) (f : β → List (Str × V)) (g : β → List Cell) (I : β → Prop) (F : β → α → Option β) (b R : β) (hi : EvI C d sc i ρ σ src σ₁) (h0 : Sub ρ (f b)) (hg : σ₁ = g b)
    (hs : ∀ b, I b → Gives (g b) src (its.map emb)) (hb : I b) (hR : its.foldlM F b = some R) (hx : isVar sc x = true)
    (hbody : ∀ a ∈ its, ∀ b b', I b → F b a = some b' → I b' ∧ Exs C d sc body (upd (f b) x (emb a)) (g b) (.next (f b') (g b')))
    (k : I R → Exs C d sc rest (f R) (g R) out) (hsi : ∀ env x, foldedSetIterable i env x = pure x := by intro _ _; rfl) : Exs C d sc (.For (.Name x px) i body [] pos :: rest) ρ σ out := by
  subst hg
  obtain ⟨r1, r2⟩ := Fo.fold (px := px) emb f g I F hx hs hb hR hbody
  exact Exs.cons (Ex.for hi (r1.weak h0) hsi) (k r2)
theorem gives_tup {vs : List V} : Gives σ (.tup vs 0) vs := by
  have : ∀ (ws : List V) (i : Nat), vs.drop i = ws → Gives σ (.tup vs i) ws := by
    intro ws
    induction ws with
    | nil =>
      intro i e
      refine .nil ?_
      have hl : vs.length ≤ i := List.drop_eq_nil_iff.mp e
      simp only [Src.over, List.getElem?_eq_none hl]
    | cons w ws ih =>
      intro i e
      have hi : i < vs.length := by
        rcases Nat.lt_or_ge i vs.length with q | q
        · exact q
        · rw [List.drop_eq_nil_of_le q] at e; cases e
      rw [List.drop_eq_getElem_cons hi] at e
      injection e with e1 e2
      exact .cons (by simp only [Src.next, List.getElem?_eq_getElem hi, e1]; rfl) (fun x px => ⟨_, _, rfl⟩) (ih (i + 1) e2)
  exact this vs 0 rfl
end
theorem sq_int (a : Int) : a ^ (2 : Int).toNat = a * a := Int.pow_succ a 1 |>.trans (by rw [Int.pow_succ]; simp)
theorem ln1 {α : Type} : ∀ {l : List α}, l.length = 1 → ∃ a, l = [a]
  | [_], _ => ⟨_, rfl⟩
theorem ln2 {α : Type} : ∀ {l : List α}, l.length = 2 → ∃ a b, l = [a, b]
  | [_, _], _ => ⟨_, _, rfl⟩
theorem ln3 {α : Type} : ∀ {l : List α}, l.length = 3 → ∃ a b c, l = [a, b, c]
  | [_, _, _], _ => ⟨_, _, _, rfl⟩
theorem ln4 {α : Type} : ∀ {l : List α}, l.length = 4 → ∃ a b c d, l = [a, b, c, d]
  | [_, _, _, _], _ => ⟨_, _, _, _, rfl⟩
theorem dep0 {k m d : Nat} (h : m ≤ d) (e : Nat.ble k m = true) : k ≤ d := Nat.le_trans (Nat.le_of_ble_eq_true e) h
theorem dep1 {k m d : Nat} (h : m ≤ d) (e : Nat.ble (k + 1) m = true) : k ≤ d - 1 := Nat.le_sub_of_add_le (Nat.le_trans (Nat.le_of_ble_eq_true e) h)
local macro_rules | `(tactic| walk_at "dep") => `(tactic| first | exact dep1 (by assumption) (by rfl) | exact dep0 (by assumption) (by rfl) | omega)
local macro_rules | `(tactic| walk_at "side") => `(tactic| first | assumption | omega | decide | rfl | (unfold Sm; omega) | (simp; omega) | (simp only [Sm] at *; omega))
local macro_rules | `(tactic| walk_at "look") => `(tactic| first | rfl | assumption)
local macro_rules | `(tactic| walk_at "lst") => `(tactic| first | rfl | assumption)
local macro_rules | `(tactic| walk_at "idx") => `(tactic| first | rfl | assumption)
local macro_rules | `(tactic| walk_at "cmp") => `(tactic| first | rfl | assumption | (simp only [cmpI, Option.some.injEq, decide_eq_true_eq, decide_eq_false_iff_not]; omega) | (simp only [cmpI, sq_int, Option.some.injEq, decide_eq_true_eq, decide_eq_false_iff_not]; omega) | (simp [cmpI]; done) | (simp [cmpI]; omega))
local macro_rules | `(tactic| walk_at "upd") => `(tactic| first | exact upd_nil | exact upd_there (by rfl) (by walk_at "upd") | exact upd_here)
local macro_rules | `(tactic| walk_at "bind") => `(tactic| (intro pm cd doc vals h; first | (obtain ⟨a, q⟩ := ln1 h; subst q; exact rfl) | (obtain ⟨a, b, q⟩ := ln2 h; subst q; exact rfl) | (obtain ⟨a, b, c, q⟩ := ln3 h; subst q; exact rfl) | (obtain ⟨a, b, c, e, q⟩ := ln4 h; subst q; exact rfl)))
local macro_rules | `(tactic| walk_at "def0") => `(tactic| refine Call.i0 (by walk_at "dep") (by rfl) (by walk_at "bind") (by rfl) (by decide +kernel) (by rfl) (by rfl) (by rfl) (by rfl) (by simp only [List.map_cons, List.map_nil, List.zip_cons_cons, List.zip_nil_left]; rfl) ?_ (by rfl))
local macro_rules | `(tactic| walk_at "def1") => `(tactic| refine Call.i1 ?_ (by walk_at "dep") (by rfl) (by walk_at "bind") (by rfl) (by decide +kernel) (by rfl) (by rfl) (by rfl) (by rfl) (by simp only [List.map_cons, List.map_nil, List.zip_cons_cons, List.zip_nil_left]; rfl) ?_)
local macro_rules | `(tactic| walk_at "sub") => `(tactic| first | exact Sub.nil | exact Sub.cons (by rfl) (by walk_at "sub"))
local macro_rules | `(tactic| walk_at "defN") => `(tactic| refine Call.n0 (by walk_at "dep") (by rfl) (by walk_at "bind") (by rfl) (by decide +kernel) (by rfl) (by rfl) (by rfl) (by rfl) (by simp only [List.map_cons, List.map_nil, List.zip_cons_cons, List.zip_nil_left]; rfl) ?_ ?_)
theorem fmod_nat (a b : Nat) : Int.fmod (a : Int) (b : Int) = ((a % b : Nat) : Int) := by
  rw [Int.fmod_eq_emod_of_nonneg _ (by omega)]; rfl
theorem fdiv_nat (a b : Nat) : Int.fdiv (a : Int) (b : Int) = ((a / b : Nat) : Int) := by
  rw [Int.fdiv_eq_ediv_of_nonneg _ (by omega)]; rfl
section
variable {C : Cx} {d : Nat} {σ : List Cell}
--KINDS rat a=T b=T
--KINDS rcompare a=T b=T
theorem gcd_call {a b : Int} (hd : 1 ≤ d) : Call C d "gcd" [.int a, .int b] σ (.int (Int.gcd a b)) σ := by
  walk_at "def0"
  refine Exs.cons (Ex.swap2 (Ev.tuple (EvL.cons (Ev.abs (Ev.name (by walk_at "look"))) (EvL.cons (Ev.abs (Ev.name (by walk_at "look"))) EvL.nil)) (by rfl)) (by rfl) (by intro e h; cases e; cases h; rfl) (by intro _; rfl) (by walk_at "upd") (by walk_at "upd")) ?_
  refine Exs.cons (Ex.while (Wh.loop (fun p : Nat × Nat => [("a", .int p.1), ("b", .int p.2)]) (fun _ => σ) (fun p => p.2) (fun p => .next [("a", .int (Nat.gcd p.1 p.2)), ("b", .int 0)] σ) ?_ (a.natAbs, b.natAbs))) ?_
  · rintro ⟨a, b⟩ ih
    cases b with
    | zero => rw [Nat.gcd_zero_right]; exact Wh.done (Tr.cmp (Ev.name (by walk_at "look")) Ev.cInt (by walk_at "cmp"))
    | succ b =>
      refine Wh.turn (Tr.cmp (Ev.name (by walk_at "look")) Ev.cInt (by walk_at "cmp")) ?_ (by have := ih (b + 1, a % (b + 1)) (Nat.mod_lt _ (by omega)); rw [Nat.gcd_comm a, Nat.gcd_rec, ← Nat.gcd_comm] ; exact this)
      refine Exs.cons (Ex.swap2 (Ev.tuple (EvL.cons (Ev.name (by walk_at "look")) (EvL.cons (Ev.mod (Ev.name (by walk_at "look")) (Ev.name (by walk_at "look")) (by walk_at "side")) EvL.nil)) (by rfl)) (by rfl) (by intro e h; cases e; cases h; rfl) (by intro _; rfl) (by walk_at "upd") (by walk_at "upd")) ?_
      rw [fmod_nat]
      exact Exs.nil
  · exact Exs.stop (Ex.ret (Ev.name (by walk_at "look")))
theorem rcompare_call {a b c e : Int} (ha : Sm a ∧ Sm c) (hd : 1 ≤ d) : Call C d "rcompare" [.tup [.int a, .int b], .tup [.int c, .int e]] σ (.int (b2i (decide (a * e - c * b > 0)) - b2i (decide (a * e - c * b < 0)))) σ := by
  have h1 := ha.1
  have h2 := ha.2
  walk_at "def0"
  refine Exs.cons (Ex.set (Ev.sub (Ev.mul (Ev.itemT (Ev.name (by walk_at "look")) Ev.cInt (by decide) (by rfl) (by rfl)) (Ev.itemT (Ev.name (by walk_at "look")) Ev.cInt (by decide) (by rfl) (by rfl)) (by walk_at "side")) (Ev.mul (Ev.itemT (Ev.name (by walk_at "look")) Ev.cInt (by decide) (by rfl) (by rfl)) (Ev.itemT (Ev.name (by walk_at "look")) Ev.cInt (by decide) (by rfl) (by rfl)) (by walk_at "side"))) (by rfl) (by intro _; rfl) (by walk_at "upd")) ?_
  exact Exs.stop (Ex.ret (Ev.subBool (Ev.cmp (Ev.name (by walk_at "look")) Ev.cInt (by walk_at "cmp")) (Ev.cmp (Ev.name (by walk_at "look")) Ev.cInt (by walk_at "cmp"))))
end
section
open PyProof.V
section
variable {C : Cx} {d : Nat} {σ : List Cell}
--KINDS rat a=T b=T
--SIDES rat=1 bits_of=1
noncomputable def ratP (a b : Int) : V := .tup [.int (a.fdiv (Int.gcd a b)), .int (b.fdiv (Int.gcd a b))]
theorem rat_call {a b : Int} (hd : 2 ≤ d) (hb : 0 < b ∧ Sm b) : Call C d "rat" [.int a, .int b] σ (ratP a b) σ := by
  have hg : (Int.gcd a b : Int) ≠ 0 := by
    intro e
    have : Int.gcd a b = 0 := by omega
    have := Int.gcd_eq_zero_iff.mp this
    omega
  have hs : Sm (Int.gcd a b : Int) := by
    have := Int.gcd_le_natAbs_right a (b := b) (by omega)
    have h := hb.2
    unfold Sm at h ⊢; omega
  have h0 := hb.1
  walk_at "def0"
  refine Exs.cons (Ex.ifF (Tr.cmp (Ev.name (by walk_at "look")) Ev.cInt (by walk_at "cmp")) Exs.nil) ?_
  refine Exs.cons (Ex.set (Ev.iteT (Tr.cmp (Ev.name (by walk_at "look")) Ev.cInt (by walk_at "cmp")) (Ev.call (by rfl) (EvL.cons (Ev.name (by walk_at "look")) (EvL.cons (Ev.name (by walk_at "look")) EvL.nil)) (gcd_call (by walk_at "dep")))) (by rfl) (by intro _; rfl) (by walk_at "upd")) ?_
  exact Exs.stop (Ex.ret (Ev.tuple (EvL.cons (Ev.fdiv (Ev.name (by walk_at "look")) (Ev.name (by walk_at "look")) (by walk_at "side") (by walk_at "side")) (EvL.cons (Ev.fdiv (Ev.name (by walk_at "look")) (Ev.name (by walk_at "look")) (by walk_at "side") (by walk_at "side")) EvL.nil)) (by rfl)))
noncomputable def bitsP (n : Nat) : Nat := if n < 2 then n else bitsP (n / 2) + 1
termination_by n
decreasing_by omega
theorem bitsP_small {n : Nat} : (bitsP n ≤ 2) ↔ n ≤ 3 := by
  constructor
  · intro h
    rw [bitsP] at h
    split at h
    · omega
    · rw [bitsP] at h
      split at h
      · omega
      · rw [bitsP] at h
        split at h <;> omega
  · intro h
    rw [bitsP]
    split
    · omega
    · rw [bitsP, if_pos (by omega)]; omega
noncomputable def lastB (n : Nat) : Nat := if n < 2 then n else 1
theorem bits_of_call {n : Nat} (hd : 1 ≤ d) (hn : n < 2 ^ 60) : Call C d "bits_of" [.int n] σ (.int (bitsP n)) σ := by
  have big : ∀ k : Nat, 60 ≤ k → cmpI .GtE (n : Int) ((2 : Int) ^ k) = some false := fun k hk => by
    have : 2 ^ 60 ≤ 2 ^ k := Nat.pow_le_pow_right (by omega) hk
    have h : ((2 ^ k : Nat) : Int) = (2 : Int) ^ k := by simp
    show some (decide _) = _
    congr 1
    rw [decide_eq_false_iff_not]
    generalize (2 : Int) ^ k = x at h
    omega
  have b1 := big (4096 : Int).toNat (by decide)
  have b2 := big (64 : Int).toNat (by decide)
  generalize hP : (2 : Int) ^ (4096 : Int).toNat = P at b1
  generalize hQ : (2 : Int) ^ (64 : Int).toNat = Q at b2
  clear big
  walk_at "def0"
  refine Exs.cons (Ex.set Ev.cInt (by rfl) (by intro _; rfl) (by walk_at "upd")) ?_
  refine Exs.cons (Ex.for (EvI.tup (Ev.tuple (EvL.cons Ev.cInt (EvL.cons Ev.cInt (EvL.cons Ev.cInt EvL.nil))) (by rfl))) (out := .next [("n", .int (lastB n)), ("found", .int (bitsP n + 0 - lastB n : Nat)), ("many", .int 1), ("step", .int 2)] σ) ?_) ?_
  · refine Fo.turn (by rfl) (by exact ⟨_, _, rfl⟩) (As.name (by rfl)) (ρ₂ := [("n", .int n), ("found", .int 0), ("many", .int 4096), ("step", .int P)]) (σ₂ := σ) ?_ ?_
    · refine Exs.cons (Ex.set (v := .int P) (hP ▸ (Ev.pow Ev.cInt (Ev.name (by walk_at "look")) (by walk_at "side") (by walk_at "side") (by walk_at "side"))) (by rfl) (by intro _; rfl) (by walk_at "upd")) ?_
      refine Exs.cons (Ex.while (Wh.done (Tr.cmp (Ev.name (by walk_at "look")) (Ev.name (by walk_at "look")) b1))) Exs.nil
    refine Fo.turn (by rfl) (by exact ⟨_, _, rfl⟩) (As.name (by rfl)) (ρ₂ := [("n", .int n), ("found", .int 0), ("many", .int 64), ("step", .int Q)]) (σ₂ := σ) ?_ ?_
    · show Exs _ _ _ _ [("n", .int n), ("found", .int 0), ("many", .int 64), ("step", .int P)] _ _
      refine Exs.cons (Ex.set (v := .int Q) (hQ ▸ (Ev.pow Ev.cInt (Ev.name (by walk_at "look")) (by walk_at "side") (by walk_at "side") (by walk_at "side"))) (by rfl) (by intro _; rfl) (by walk_at "upd")) ?_
      refine Exs.cons (Ex.while (Wh.done (Tr.cmp (Ev.name (by walk_at "look")) (Ev.name (by walk_at "look")) b2))) Exs.nil
    refine Fo.turn (by rfl) (by exact ⟨_, _, rfl⟩) (As.name (by rfl)) (ρ₂ := [("n", .int (lastB n)), ("found", .int (bitsP n + 0 - lastB n : Nat)), ("many", .int 1), ("step", .int 2)]) (σ₂ := σ) ?_ (Fo.done (by rfl))
    · show Exs _ _ _ _ [("n", .int n), ("found", .int 0), ("many", .int 1), ("step", .int Q)] _ _
      refine Exs.cons (Ex.set (v := .int 2) (Ev.to (Ev.pow Ev.cInt (Ev.name (by walk_at "look")) (by walk_at "side") (by walk_at "side") (by walk_at "side")) (by rfl)) (by rfl) (by intro _; rfl) (by walk_at "upd")) ?_
      refine Exs.cons (Ex.while (Wh.loop (fun p : Nat × Nat => [("n", .int p.1), ("found", .int p.2), ("many", .int 1), ("step", .int 2)]) (fun _ => σ) (fun p => p.1)
        (fun p => .next [("n", .int (lastB p.1)), ("found", .int (bitsP p.1 + p.2 - lastB p.1 : Nat)), ("many", .int 1), ("step", .int 2)] σ) ?_ (n, 0))) Exs.nil
      rintro ⟨n, k⟩ ih
      by_cases h : n < 2
      · have e : bitsP n = n := by rw [bitsP, if_pos h]
        have e2 : lastB n = n := by unfold lastB; rw [if_pos h]
        simp only [e, e2]
        rw [Nat.add_sub_cancel_left]
        exact Wh.done (Tr.cmp (Ev.name (by walk_at "look")) (Ev.name (by walk_at "look")) (by walk_at "cmp"))
      · have e : bitsP n = bitsP (n / 2) + 1 := by rw [bitsP, if_neg h]
        refine Wh.turn (Tr.cmp (Ev.name (by walk_at "look")) (Ev.name (by walk_at "look")) (by walk_at "cmp")) ?_ (ρ₂ := [("n", .int (n / 2 : Nat)), ("found", .int (k + 1 : Nat)), ("many", .int 1), ("step", .int 2)]) (σ₂ := σ) ?_
        · refine Exs.cons (Ex.swap2 (u := .int (n / 2 : Nat)) (w := .int (k + 1 : Nat)) (Ev.to (Ev.tuple (EvL.cons (Ev.fdiv (Ev.name (by walk_at "look")) (Ev.name (by walk_at "look")) (by walk_at "side") (by walk_at "side")) (EvL.cons (Ev.add (Ev.name (by walk_at "look")) (Ev.name (by walk_at "look"))) EvL.nil)) (by rfl)) (by show V.tup [.int (Int.fdiv (n : Int) ((2 : Nat) : Int)), .int ((k : Int) + 1)] = _; rw [fdiv_nat]; rfl)) (by rfl) (by intro e h; cases e; cases h; rfl) (by intro _; rfl) (by walk_at "upd") (by walk_at "upd")) Exs.nil
        · have := ih (n / 2, k + 1) (by show n / 2 < n; omega)
          have e2 : lastB n = lastB (n / 2) := by
            unfold lastB; rw [if_neg h]; split <;> omega
          simp only [e, e2]
          rw [Nat.add_right_comm, Nat.add_assoc]
          exact this
  · refine Exs.stop (Ex.ret (v := .int (bitsP n)) (Ev.to (Ev.add (Ev.name (by walk_at "look")) (Ev.name (by walk_at "look"))) ?_))
    have : lastB n ≤ bitsP n := by
      unfold lastB; rw [bitsP]; split <;> omega
    congr 1; omega
end
end
section
open PyProof.V
section
variable {C : Cx} {d : Nat} {σ : List Cell}
--SIDES rat=1 bits_of=1 root_of=1
theorem sq_lt {a b : Nat} (h : a * a < b * b) : a < b := by
  rcases Nat.lt_or_ge a b with h' | h'
  · exact h'
  · have := Nat.mul_le_mul h' h'; omega
theorem root_of_call {r : Nat} (hd : 2 ≤ d) (hr : r < 2 ^ 28) : Call C d "root_of" [.int (r * r : Nat), .int 2] σ (.int r) σ := by
  have hn : r * r < 2 ^ 58 := by have := Nat.mul_lt_mul'' hr hr; omega
  obtain ⟨n, en⟩ : ∃ n, n = r * r := ⟨_, rfl⟩
  rw [← en] at hn ⊢
  walk_at "def0"
  by_cases h3 : n ≤ 3
  · have := bitsP_small.mpr h3
    refine Exs.stop (Ex.ifT (Tr.cmp (Ev.name (by walk_at "look")) (Ev.call (by rfl) (EvL.cons (Ev.name (by walk_at "look")) EvL.nil) (bits_of_call (by walk_at "dep") (by walk_at "side"))) (by walk_at "cmp")) (Exs.stop (Ex.ret (Ev.to (Ev.min2 (Ev.name (by walk_at "look")) Ev.cInt) ?_))))
    congr 1
    have h1 : r < 2 := by
      rcases Nat.lt_or_ge r 2 with h | h
      · exact h
      · have := Nat.mul_le_mul h h; omega
    rcases Nat.lt_or_ge r 1 with h | h
    · have : r = 0 := by omega
      subst this; simp at en; subst en; rfl
    · have : r = 1 := by omega
      subst this; simp at en; subst en; rfl
  · have := (not_congr (bitsP_small (n := n))).mpr h3
    refine Exs.cons (Ex.ifF (Tr.cmp (Ev.name (by walk_at "look")) (Ev.call (by rfl) (EvL.cons (Ev.name (by walk_at "look")) EvL.nil) (bits_of_call (by walk_at "dep") (by walk_at "side"))) (by walk_at "cmp")) Exs.nil) ?_
    refine Exs.cons (Ex.unpack (Ev.tuple (EvL.cons Ev.cInt (EvL.cons Ev.cInt EvL.nil)) (by rfl)) (As.tuple (AsL.cons (As.nm (by rfl) (by walk_at "upd")) (AsL.cons (As.nm (by rfl) (by walk_at "upd")) AsL.nil)))) ?_
    refine Exs.while (fun p : Nat × Nat => [("n", .int n), ("k", .int 2), ("low", .int p.1), ("high", .int p.2)]) (fun _ => σ) (fun p => p.1 * p.1 ≤ n ∧ p.1 < p.2 ∧ p.2 ≤ 2 * n + 1) (fun p => p.1 * p.1 ≤ n ∧ p.1 < p.2 ∧ p.2 ≤ 2 * n + 1 ∧ n < p.2 * p.2) (fun p => n + 1 - p.1) (0, 1) (by walk_at "sub") rfl ⟨by omega, by omega, by omega⟩ ?_ ?_
    · rintro ⟨lo, hi⟩ ⟨p1, p2, p3⟩
      dsimp only at p1 p2 p3
      by_cases h : hi * hi ≤ n
      · have hle : hi ≤ hi * hi := Nat.le_mul_self hi
        refine .turn (hi, 2 * hi) (Tr.cmp (Ev.pow (Ev.name (by walk_at "look")) (Ev.name (by walk_at "look")) (by walk_at "side") (by walk_at "side") (by walk_at "side")) (Ev.name (by walk_at "look")) (by walk_at "cmp")) ?_ ⟨h, by show hi < 2 * hi; omega, by show 2 * hi ≤ _; omega⟩ (by show n + 1 - hi < n + 1 - lo; omega)
        refine Exs.cons (Ex.swap2 (Ev.tuple (EvL.cons (Ev.name (by walk_at "look")) (EvL.cons (Ev.mul Ev.cInt (Ev.name (by walk_at "look")) (by walk_at "side")) EvL.nil)) (by rfl)) (by rfl) (by intro e h; cases e; cases h; rfl) (by intro _; rfl) (by walk_at "upd") (by walk_at "upd")) ?_
        exact Exs.drop (by walk_at "sub")
      · exact .done (Tr.cmp (Ev.pow (Ev.name (by walk_at "look")) (Ev.name (by walk_at "look")) (by walk_at "side") (by walk_at "side") (by walk_at "side")) (Ev.name (by walk_at "look")) (by walk_at "cmp")) ⟨p1, p2, p3, by show n < hi * hi; omega⟩
    · rintro ⟨lo, hi⟩ ⟨p1, p2, p3, p4⟩
      dsimp only at p1 p2 p3 p4
      refine Exs.while (fun p : Nat × Nat => [("n", .int n), ("k", .int 2), ("low", .int p.1), ("high", .int p.2)]) (fun _ => σ) (fun p => p.1 * p.1 ≤ n ∧ p.1 < p.2 ∧ p.2 ≤ 2 * n + 1 ∧ n < p.2 * p.2) (fun p => p.1 * p.1 ≤ n ∧ n < (p.1 + 1) * (p.1 + 1)) (fun p => p.2 - p.1) (lo, hi) (by walk_at "sub") rfl ⟨p1, p2, p3, p4⟩ ?_ ?_
      · clear p1 p2 p3 p4 lo hi
        rintro ⟨lo, hi⟩ ⟨p1, p2, p3, p4⟩
        dsimp only at p1 p2 p3 p4
        by_cases h : 1 < hi - lo
        · have em : Int.fdiv ((lo : Int) + hi) 2 = (((lo + hi) / 2 : Nat) : Int) := fdiv_nat (lo + hi) 2
          obtain ⟨mid, emid⟩ : ∃ mid, mid = (lo + hi) / 2 := ⟨_, rfl⟩
          rw [← emid] at em
          by_cases hm : mid * mid ≤ n
          · refine .turn (mid, hi) (Tr.cmp (Ev.sub (Ev.name (by walk_at "look")) (Ev.name (by walk_at "look"))) Ev.cInt (by walk_at "cmp")) (Exs.cons (Ex.set (v := .int mid) (Ev.to (Ev.fdiv (Ev.add (Ev.name (by walk_at "look")) (Ev.name (by walk_at "look"))) Ev.cInt (by walk_at "side") (by walk_at "side")) (congrArg V.int em)) (by rfl) (by intro _; rfl) (by walk_at "upd")) (Exs.cons (Ex.ifT (Tr.cmp (Ev.pow (Ev.name (by walk_at "look")) (Ev.name (by walk_at "look")) (by walk_at "side") (by walk_at "side") (by walk_at "side")) (Ev.name (by walk_at "look")) (by walk_at "cmp")) ?_) Exs.nil)) ⟨hm, by show mid < hi; omega, p3, p4⟩ (by show hi - mid < hi - lo; omega)
            refine Exs.cons (Ex.set (Ev.name (by walk_at "look")) (by rfl) (by intro _; rfl) (by walk_at "upd")) ?_
            exact Exs.drop (by walk_at "sub")
          · refine .turn (lo, mid) (Tr.cmp (Ev.sub (Ev.name (by walk_at "look")) (Ev.name (by walk_at "look"))) Ev.cInt (by walk_at "cmp")) (Exs.cons (Ex.set (v := .int mid) (Ev.to (Ev.fdiv (Ev.add (Ev.name (by walk_at "look")) (Ev.name (by walk_at "look"))) Ev.cInt (by walk_at "side") (by walk_at "side")) (congrArg V.int em)) (by rfl) (by intro _; rfl) (by walk_at "upd")) (Exs.cons (Ex.ifF (Tr.cmp (Ev.pow (Ev.name (by walk_at "look")) (Ev.name (by walk_at "look")) (by walk_at "side") (by walk_at "side") (by walk_at "side")) (Ev.name (by walk_at "look")) (by walk_at "cmp")) ?_) Exs.nil)) ⟨p1, by show lo < mid; omega, by show mid ≤ _; omega, by show n < mid * mid; omega⟩ (by show mid - lo < hi - lo; omega)
            refine Exs.cons (Ex.set (Ev.name (by walk_at "look")) (by rfl) (by intro _; rfl) (by walk_at "upd")) ?_
            exact Exs.drop (by walk_at "sub")
        · have e : hi = lo + 1 := by omega
          subst e
          exact .done (Tr.cmp (Ev.sub (Ev.name (by walk_at "look")) (Ev.name (by walk_at "look"))) Ev.cInt (by walk_at "cmp")) ⟨p1, p4⟩
      · rintro ⟨lo, hi⟩ ⟨q1, q2⟩
        dsimp only at q1 q2
        have e : lo = r := by
          rw [en] at q1 q2
          have h1 := sq_lt q2
          rcases Nat.lt_or_ge r lo with h | h
          · have := Nat.mul_lt_mul'' h h; omega
          · omega
        subst e
        exact Exs.stop (Ex.ret (Ev.name (by walk_at "look")))
end
end
section
open PyProof.V
section
variable {C : Cx} {d : Nat} {σ : List Cell}
--SIDES rat=1 bits_of=1 root_of=1 is_square=1 least_divisor=1
theorem is_square_call {r : Nat} (hd : 3 ≤ d) (hr : r < 2 ^ 28) : Call C d "is_square" [.int (r * r : Nat)] σ (.bool true) σ := by
  obtain ⟨n, en⟩ : ∃ n, n = r * r := ⟨_, rfl⟩
  have hroot : Call C (d - 1) "root_of" [.int n, .int 2] σ (.int r) σ := en ▸ root_of_call (by walk_at "dep") hr
  rw [← en]
  walk_at "def0"
  have h1 : cmpI .GtE (n : Int) 0 = some true := by simp [cmpI]
  have h2 : cmpI .Eq ((r : Int) ^ (2 : Int).toNat) (n : Int) = some true := by
    rw [sq_int, en]; simp [cmpI]
  refine Exs.stop (Ex.ret (Ev.andT (Ev.cmp (Ev.name (by walk_at "look")) Ev.cInt h1) (Ev.cmp (Ev.pow (Ev.call (by rfl) (EvL.cons (Ev.name (by walk_at "look")) (EvL.cons Ev.cInt EvL.nil)) hroot) Ev.cInt (by walk_at "side") (by walk_at "side") (by walk_at "side")) (Ev.name (by walk_at "look")) h2)))
noncomputable def leastO : Nat → Nat → Nat → Option Nat
  | 0, _, _ => none
  | k + 1, n, f => if f * f ≤ n then (if n % f = 0 then some f else leastO k n (if f = 2 then 3 else f + 2)) else some n
theorem least_divisor_call {n f p : Nat} (k : Nat) (hd : 1 ≤ d) (hn : n < 2 ^ 58 ∧ 0 < f ∧ f ≤ 2 ^ 58 ∧ leastO k n f = some p) : Call C d "least_divisor" [.int n, .int f] σ (.int p) σ := by
  obtain ⟨hn, hf, hf', hp⟩ := hn
  walk_at "def0"
  refine Exs.cons (Ex.set (Ev.name (by walk_at "look")) (by rfl) (by intro _; rfl) (by walk_at "upd")) ?_
  refine Exs.while (fun q : Nat × Nat => [("n", .int n), ("found", .int q.2)]) (fun _ => σ) (fun q => 0 < q.2 ∧ q.2 ≤ 2 ^ 58 ∧ leastO q.1 n q.2 = some p) (fun q => n = p) (fun q => q.1) (k, f) (by walk_at "sub") rfl ⟨hf, hf', hp⟩ ?_ ?_
  · rintro ⟨k, f⟩ ⟨p1, p2, p3⟩
    dsimp only at p1 p2 p3
    cases k with
    | zero => cases p3
    | succ k =>
      unfold leastO at p3
      have e := fmod_nat n f
      by_cases h : f * f ≤ n
      · rw [if_pos h] at p3
        have hlt : f < 2 ^ 30 := sq_lt (by omega)
        by_cases h' : n % f = 0
        · rw [if_pos h'] at p3
          cases p3
          refine .ret (Tr.cmp (Ev.mul (Ev.name (by walk_at "look")) (Ev.name (by walk_at "look")) (by walk_at "side")) (Ev.name (by walk_at "look")) (by walk_at "cmp")) (Exs.stop (Ex.ifT (Tr.cmp (Ev.mod (Ev.name (by walk_at "look")) (Ev.name (by walk_at "look")) (by walk_at "side")) Ev.cInt (by rw [e, h']; rfl)) ?_)) rfl
          exact Exs.stop (Ex.ret (Ev.name (by walk_at "look")))
        · rw [if_neg h'] at p3
          have hc : cmpI .Eq (((n % f : Nat) : Int)) 0 = some false := by
            have : ¬ ((n % f : Nat) : Int) = 0 := by omega
            simp only [cmpI, beq_false_of_ne this]
          refine .turn (k, if f = 2 then 3 else f + 2) (Tr.cmp (Ev.mul (Ev.name (by walk_at "look")) (Ev.name (by walk_at "look")) (by walk_at "side")) (Ev.name (by walk_at "look")) (by walk_at "cmp")) (Exs.cons (Ex.ifF (Tr.cmp (Ev.mod (Ev.name (by walk_at "look")) (Ev.name (by walk_at "look")) (by walk_at "side")) Ev.cInt (by rw [e]; exact hc)) Exs.nil) ?_) ⟨by show 0 < ite _ _ _; split <;> omega, by show ite _ _ _ ≤ _; split <;> omega, p3⟩ (Nat.lt_succ_self _)
          by_cases h2 : f = 2
          · subst h2
            refine Exs.cons (Ex.aug (by walk_at "look") (Ev.iteT (Tr.cmp (Ev.name (by walk_at "look")) Ev.cInt (by walk_at "cmp")) Ev.cInt) (by rfl) (by rfl) (by walk_at "upd")) ?_
            exact Exs.drop (by walk_at "sub")
          · rw [if_neg h2]
            refine Exs.cons (Ex.aug (by walk_at "look") (Ev.iteF (Tr.cmp (Ev.name (by walk_at "look")) Ev.cInt (by walk_at "cmp")) Ev.cInt) (by rfl) (by rfl) (by walk_at "upd")) ?_
            exact Exs.drop (by walk_at "sub")
      · rw [if_neg h] at p3
        exact .done (Tr.cmp (Ev.mul (Ev.name (by walk_at "look")) (Ev.name (by walk_at "look")) (by walk_at "side")) (Ev.name (by walk_at "look")) (by walk_at "cmp")) (by injection p3)
  · rintro ⟨k, f⟩ e
    subst e
    exact Exs.stop (Ex.ret (Ev.name (by walk_at "look")))
end
end
section
open PyProof.V
section
variable {C : Cx} {d : Nat} {σ : List Cell}
--SIDES rat=1 bits_of=1 root_of=1 is_square=1 least_divisor=1
noncomputable def pairV (q : Nat × Nat) : V := .tup [.int q.1, .int q.2]
noncomputable def stripO : Nat → Nat → Nat → Nat → Option (Nat × Nat)
  | 0, _, _, _ => none
  | k + 1, n, p, m => if n % p = 0 then stripO k (n / p) p (m + 1) else some (n, m)
noncomputable def factO : Nat → Nat → Nat → List (Nat × Nat) → Option (List (Nat × Nat))
  | 0, _, _, _ => none
  | k + 1, n, pr, acc => if n ≤ 1 then some acc else match leastO 1000 n pr with
    | none => none
    | some p => match stripO 100 n p 0 with
      | none => none
      | some (n', m) => if 0 < p ∧ p ≤ 2 ^ 57 ∧ n' < 2 ^ 58 ∧ acc.length < 1000 then factO k n' (if p = 2 then 3 else p + 2) (acc ++ [(p, m)]) else none
theorem prime_factors_call {n : Nat} {ps : List (Nat × Nat)} (k : Nat) (hd : 2 ≤ d) (hn : n < 2 ^ 58 ∧ factO k n 2 [] = some ps) : Call C d "prime_factors" [.int n] σ (.lst (ps.map pairV)) σ := by
  obtain ⟨hn, hp⟩ := hn
  walk_at "def1"
  · exact plains_map fun _ _ => rfl
  refine Exs.cons (Ex.swap2 (Ev.tuple (EvL.cons (Ev.listCell EvL.nil) (EvL.cons Ev.cInt EvL.nil))) (by rfl) (by intro e h; cases e; cases h; rfl) (by intro _; rfl) (by walk_at "upd") (by walk_at "upd")) ?_
  refine Exs.while (fun q : Nat × Nat × Nat × List (Nat × Nat) => [("n", .int q.2.1), ("found", .ref σ.length), ("prime", .int q.2.2.1)]) (fun q => σ ++ [.lst (q.2.2.2.map pairV)]) (fun q => q.2.1 < 2 ^ 58 ∧ 0 < q.2.2.1 ∧ q.2.2.1 ≤ 2 ^ 58 ∧ factO q.1 q.2.1 q.2.2.1 q.2.2.2 = some ps) (fun q => q.2.2.2 = ps) (fun q => q.1) (k, n, 2, []) (by walk_at "sub") rfl ⟨hn, by show 0 < 2; decide, by show 2 ≤ 2 ^ 58; decide, hp⟩ ?_ ?_
  · clear hn hp
    rintro ⟨k, n, pr, acc⟩ ⟨p1, p2, p2', p3⟩
    dsimp only at p1 p2 p2' p3
    cases k with
    | zero => cases p3
    | succ k =>
      unfold factO at p3
      by_cases h : n ≤ 1
      · rw [if_pos h] at p3
        exact .done (Tr.cmp (Ev.name (by walk_at "look")) Ev.cInt (by walk_at "cmp")) (by injection p3)
      · rw [if_neg h] at p3
        split at p3
        · cases p3
        · rename_i p e1
          split at p3
          · cases p3
          · rename_i n' m e2
            split at p3
            · rename_i hg
              obtain ⟨g1, g2, g3, g4⟩ := hg
              have hl : Call C (d - 1) "least_divisor" [.int n, .int pr] (σ ++ [.lst (acc.map pairV)]) (.int p) (σ ++ [.lst (acc.map pairV)]) := least_divisor_call 1000 (by walk_at "dep") ⟨p1, p2, p2', e1⟩
              refine .turn (k, n', if p = 2 then 3 else p + 2, acc ++ [(p, m)]) (Tr.cmp (Ev.name (by walk_at "look")) Ev.cInt (by walk_at "cmp")) ?_ ⟨g3, by show 0 < ite _ _ _; split <;> omega, by show ite _ _ _ ≤ _; split <;> omega, p3⟩ (Nat.lt_succ_self _)
              refine Exs.cons (Ex.swap2 (Ev.tuple (EvL.cons (Ev.call (by rfl) (EvL.cons (Ev.name (by walk_at "look")) (EvL.cons (Ev.name (by walk_at "look")) EvL.nil)) hl) (EvL.cons Ev.cInt EvL.nil))) (by rfl) (by intro e h; cases e; cases h; rfl) (by intro _; rfl) (by walk_at "upd") (by walk_at "upd")) ?_
              refine Exs.while (fun q : Nat × Nat × Nat => [("n", .int q.2.1), ("found", .ref σ.length), ("prime", .int p), ("many", .int q.2.2)]) (fun _ => σ ++ [.lst (acc.map pairV)]) (fun q => stripO q.1 q.2.1 p q.2.2 = some (n', m)) (fun q => q.2 = (n', m)) (fun q => q.1) (100, n, 0) (by walk_at "sub") rfl e2 ?_ ?_
              · clear e2 p3 p1 h
                rintro ⟨k, n, m⟩ e2
                dsimp only at e2
                cases k with
                | zero => cases e2
                | succ k =>
                  unfold stripO at e2
                  have e := fmod_nat n p
                  have e' := fdiv_nat n p
                  by_cases h' : n % p = 0
                  · rw [if_pos h'] at e2
                    refine .turn (k, n / p, m + 1) (Tr.cmp (Ev.mod (Ev.name (by walk_at "look")) (Ev.name (by walk_at "look")) (by walk_at "side")) Ev.cInt (by rw [e, h']; rfl)) ?_ e2 (Nat.lt_succ_self _)
                    refine Exs.cons (Ex.swap2 (u := .int (n / p : Nat)) (w := .int (m + 1 : Nat)) (Ev.to (Ev.tuple (EvL.cons (Ev.fdiv (Ev.name (by walk_at "look")) (Ev.name (by walk_at "look")) (by walk_at "side") (by walk_at "side")) (EvL.cons (Ev.add (Ev.name (by walk_at "look")) Ev.cInt) EvL.nil)) (by rfl)) (by rw [e']; rfl)) (by rfl) (by intro e h; cases e; cases h; rfl) (by intro _; rfl) (by walk_at "upd") (by walk_at "upd")) ?_
                    exact Exs.drop (by walk_at "sub")
                  · rw [if_neg h'] at e2
                    refine .done (Tr.cmp (Ev.mod (Ev.name (by walk_at "look")) (Ev.name (by walk_at "look")) (by walk_at "side")) Ev.cInt (by
                      rw [e]
                      have : ¬ ((n % p : Nat) : Int) = 0 := by omega
                      simp only [cmpI, beq_false_of_ne this])) (by injection e2)
              · rintro ⟨k', n1, m1⟩ e
                cases e
                dsimp only
                rw [List.map_append]
                refine Exs.cons (Ex.append1 (Ev.name (by walk_at "look")) (Ev.tuple (EvL.cons (Ev.name (by walk_at "look")) (EvL.cons (Ev.name (by walk_at "look")) EvL.nil)) (by rfl)) (by rw [List.length_map]; omega)) ?_
                by_cases h2 : p = 2
                · subst h2
                  refine Exs.cons (Ex.set (Ev.iteT (Tr.cmp (Ev.name (by walk_at "look")) Ev.cInt (by walk_at "cmp")) Ev.cInt) (by rfl) (by intro _; rfl) (by walk_at "upd")) ?_
                  exact Exs.drop (by walk_at "sub")
                · rw [if_neg h2]
                  refine Exs.cons (Ex.set (Ev.iteF (Tr.cmp (Ev.name (by walk_at "look")) Ev.cInt (by walk_at "cmp")) (Ev.add (Ev.name (by walk_at "look")) Ev.cInt)) (by rfl) (by intro _; rfl) (by walk_at "upd")) ?_
                  exact Exs.drop (by walk_at "sub")
            · cases p3
  · rintro ⟨k, n, pr, acc⟩ e
    dsimp only at e
    subst e
    exact Exs.stop (Ex.ret (Ev.name (by walk_at "look")))
end
end
section
open PyProof.V
section
variable {C : Cx} {d : Nat} {σ : List Cell}
--SIDES rat=1 bits_of=1 root_of=1 is_square=1 least_divisor=1 ztrim=2 zdegree=1
--KINDS ztrim row=Z
noncomputable def trimN (ns : List Int) : Nat → Nat
  | 0 => 0
  | k + 1 => if nth ns k = 0 then trimN ns k else k + 1
noncomputable def trimP (ns : List Int) : List Int := ns.take (trimN ns ns.length)
theorem trimN_le (ns : List Int) : ∀ k, trimN ns k ≤ k
  | 0 => Nat.le_refl _
  | k + 1 => by unfold trimN; split; exact Nat.le_succ_of_le (trimN_le ns k); exact Nat.le_refl _
theorem cmpEq {a b : Int} (h : a = b) : cmpI .Eq a b = some true := by subst h; simp [cmpI]
theorem cmpEqF {a b : Int} (h : a ≠ b) : cmpI .Eq a b = some false := by simp only [cmpI, beq_false_of_ne h]
theorem cmpNeF {a b : Int} (h : a = b) : cmpI .NotEq a b = some false := by subst h; simp [cmpI]
theorem cmpNe {a b : Int} (h : a ≠ b) : cmpI .NotEq a b = some true := by simp only [cmpI, bne, beq_false_of_ne h]; rfl
theorem cmpGt {a b : Int} (h : b < a) : cmpI .Gt a b = some true := by simp only [cmpI, decide_eq_true h]
theorem cmpGtF {a b : Int} (h : ¬ b < a) : cmpI .Gt a b = some false := by simp only [cmpI, decide_eq_false h]
theorem cmpGe {a b : Int} (h : b ≤ a) : cmpI .GtE a b = some true := by simp only [cmpI, decide_eq_true h]
theorem cmpGeF {a b : Int} (h : ¬ b ≤ a) : cmpI .GtE a b = some false := by simp only [cmpI, decide_eq_false h]
theorem cmpLt {a b : Int} (h : a < b) : cmpI .Lt a b = some true := by simp only [cmpI, decide_eq_true h]
theorem cmpLtF {a b : Int} (h : ¬ a < b) : cmpI .Lt a b = some false := by simp only [cmpI, decide_eq_false h]
theorem cmpLe {a b : Int} (h : a ≤ b) : cmpI .LtE a b = some true := by simp only [cmpI, decide_eq_true h]
theorem cmpLeF {a b : Int} (h : ¬ a ≤ b) : cmpI .LtE a b = some false := by simp only [cmpI, decide_eq_false h]
theorem ztrim_call {v : V} {ns : List Int} (hd : 1 ≤ d) (hv : lstOf σ v = some (ns.map .int)) (hl : ns.length ≤ 1000) : Call C d "ztrim" [v] σ (.lst ((trimP ns).map .int)) σ := by
  walk_at "def0"
  refine Exs.cons (Ex.set (Ev.lenL (Ev.name (by walk_at "look")) (by walk_at "lst") (by walk_at "side")) (by rfl) (by intro _; rfl) (by walk_at "upd")) ?_
  refine Exs.while (fun q : Nat => [("row", v), ("size", .int q)]) (fun _ => σ) (fun q => q ≤ ns.length ∧ trimN ns q = trimN ns ns.length) (fun q => q = trimN ns ns.length) (fun q => q) ns.length ?_ rfl ⟨Nat.le_refl _, rfl⟩ ?_ ?_
  · rw [List.length_map]; walk_at "sub"
  · rintro q ⟨p1, p2⟩
    cases q with
    | zero => exact .done (Tr.andF (Tr.cmp (Ev.name (by walk_at "look")) Ev.cInt (by walk_at "cmp"))) p2
    | succ k =>
      have e1 : trimN ns (k + 1) = if nth ns k = 0 then trimN ns k else k + 1 := rfl
      rw [e1] at p2
      have e : (((k + 1 : Nat) : Int) - 1) = k := by omega
      have hk : 0 ≤ (((k + 1 : Nat) : Int) - 1) ∧ (((k + 1 : Nat) : Int) - 1).toNat < ns.length ∧ ns.length ≤ 1000000 := by rw [e]; simp; omega
      by_cases h : nth ns k = 0
      · rw [if_pos h] at p2
        refine .turn k (Tr.andT (Tr.cmp (Ev.name (by walk_at "look")) Ev.cInt (by walk_at "cmp")) (Tr.andT (Tr.cmp (Ev.itemZ (Ev.name (by walk_at "look")) (Ev.sub (Ev.name (by walk_at "look")) Ev.cInt) hv hk) Ev.cInt (by rw [e]; exact cmpEq h)) Tr.and0)) ?_ ⟨by omega, p2⟩ (Nat.lt_succ_self _)
        refine Exs.cons (Ex.augS (by rfl) Ev.cInt (by rfl) e (by walk_at "upd")) ?_
        exact Exs.drop (by walk_at "sub")
      · rw [if_neg h] at p2
        exact .done (Tr.andT (Tr.cmp (Ev.name (by walk_at "look")) Ev.cInt (by walk_at "cmp")) (Tr.andF (Tr.cmp (Ev.itemZ (Ev.name (by walk_at "look")) (Ev.sub (Ev.name (by walk_at "look")) Ev.cInt) hv hk) Ev.cInt (by rw [e]; exact cmpEqF h)))) p2
  · rintro q e
    subst e
    refine Exs.stop (Ex.ret (Ev.to (Ev.listOf (Ev.sliceTo (Ev.name (by walk_at "look")) (Ev.name (by walk_at "look")) (by walk_at "side") (by walk_at "lst") (by walk_at "side")) (by walk_at "lst") (by walk_at "side")) ?_))
    rw [trimP, List.map_take]
theorem zdegree_call {v : V} {vs : List V} (hd : 1 ≤ d) (hv : lstOf σ v = some vs) (hl : vs.length ≤ 1000) : Call C d "zdegree" [v] σ (.int (vs.length - 1)) σ := by
  walk_at "def0"
  exact Exs.stop (Ex.ret (Ev.sub (Ev.lenL (Ev.name (by walk_at "look")) (by walk_at "lst") (by walk_at "side")) Ev.cInt))
theorem sign_of_call {a : Int} (hd : 1 ≤ d) : Call C d "sign_of" [.int a] σ (.int (b2i (decide (0 < a)) - b2i (decide (a < 0)))) σ := by
  walk_at "def0"
  exact Exs.stop (Ex.ret (Ev.subBool (Ev.cmp (Ev.name (by walk_at "look")) Ev.cInt (by walk_at "cmp")) (Ev.cmp (Ev.name (by walk_at "look")) Ev.cInt (by walk_at "cmp"))))
end
end
section
open PyProof.V
section
variable {C : Cx} {d : Nat} {σ : List Cell}
--SIDES rat=1 bits_of=1 root_of=1 is_square=1 least_divisor=1 ztrim=2 zdegree=2 zneg=2 zadd=3 check_bottom=3 zsub=3 zscale=2 zraise=3
--KINDS ztrim row=Z
--KINDS zadd a=Z b=Z
noncomputable abbrev zl (ns : List Int) : V := .lst (ns.map .int)
noncomputable def atP (ns : List Int) (i : Nat) : Int := if i < ns.length then nth ns i else 0
noncomputable def addP (as bs : List Int) : List Int := trimP ((List.range (max as.length bs.length)).map fun i => atP as i + atP bs i)
theorem zneg_call {v : V} {ns : List Int} (hd : 1 ≤ d) (hv : lstOf σ v = some (ns.map .int)) (hl : ns.length ≤ 1000) : Call C d "zneg" [v] σ (zl (ns.map fun n => -n)) σ := by
  walk_at "def0"
  refine Exs.stop (Ex.ret (Ev.to (Ev.compL V.int (fun n : Int => V.int (-n)) ns (EvI.lst (Ev.name (by walk_at "look")) (by rw [hv]; rfl)) hv (by omega) (fun a _ acc => ?_) (fun _ _ => rfl)) (by simp [zl, List.map_map, Function.comp_def])))
  show Ev _ _ _ _ [("number", .int a)] _ _ _
  exact (Ev.neg (Ev.name (by walk_at "look")))
theorem zadd_call {v w : V} {as bs : List Int} (hd : 2 ≤ d) (hv : lstOf σ v = some (as.map .int)) (hw : lstOf σ w = some (bs.map .int)) (hl : as.length ≤ 1000 ∧ bs.length ≤ 1000) : Call C d "zadd" [v, w] σ (zl (addP as bs)) σ := by
  obtain ⟨hl1, hl2⟩ := hl
  walk_at "def0"
  refine Exs.cons (Ex.set (v := .int (max as.length bs.length : Nat)) (Ev.to (Ev.max2 (Ev.lenL (Ev.name (by walk_at "look")) (by walk_at "lst") (by walk_at "side")) (Ev.lenL (Ev.name (by walk_at "look")) (by walk_at "lst") (by walk_at "side"))) (by simp only [List.length_map]; congr 1; omega)) (by rfl) (by intro _; rfl) (by walk_at "upd")) ?_
  have hlen : ((List.range (max as.length bs.length)).map fun i => atP as i + atP bs i).length ≤ 1000 := by simp; omega
  refine Exs.stop (Ex.ret (Ev.call (by rfl) (EvL.cons (Ev.compR (fun i => .int (atP as i + atP bs i)) (EvI.range1 (n := (max as.length bs.length : Nat)) (Ev.name (by walk_at "look")) (by omega)) (by simp; omega) (fun i hi acc => ?_) (fun _ _ => rfl)) EvL.nil) (ztrim_call (by walk_at "dep") (ns := (List.range (max as.length bs.length)).map fun i => atP as i + atP bs i) (by simp [lstOf, List.map_map, Function.comp_def]) hlen)))
  show Ev _ _ _ _ [("a", v), ("b", w), ("at", .int i)] _ _ _
  have hv' := lstOf_ext (c := .lst acc) hv
  have hw' := lstOf_ext (c := .lst acc) hw
  refine Ev.add (σ₁ := σ ++ [.lst acc]) ?_ ?_
  · unfold atP
    by_cases h : i < as.length
    · rw [if_pos h]
      refine Ev.iteT (Tr.cmp (Ev.name (by walk_at "look")) (Ev.lenL (Ev.name (by walk_at "look")) (by walk_at "lst") (by walk_at "side")) (by simp [cmpI]; omega)) (Ev.itemZ (Ev.name (by walk_at "look")) (Ev.name (by walk_at "look")) (by walk_at "lst") (by walk_at "side"))
    · rw [if_neg h]
      refine Ev.iteF (Tr.cmp (Ev.name (by walk_at "look")) (Ev.lenL (Ev.name (by walk_at "look")) (by walk_at "lst") (by walk_at "side")) (by simp [cmpI]; omega)) Ev.cInt
  · unfold atP
    by_cases h : i < bs.length
    · rw [if_pos h]
      refine Ev.iteT (Tr.cmp (Ev.name (by walk_at "look")) (Ev.lenL (Ev.name (by walk_at "look")) (by walk_at "lst") (by walk_at "side")) (by simp [cmpI]; omega)) (Ev.itemZ (Ev.name (by walk_at "look")) (Ev.name (by walk_at "look")) (by walk_at "lst") (by walk_at "side"))
    · rw [if_neg h]
      refine Ev.iteF (Tr.cmp (Ev.name (by walk_at "look")) (Ev.lenL (Ev.name (by walk_at "look")) (by walk_at "lst") (by walk_at "side")) (by simp [cmpI]; omega)) Ev.cInt
noncomputable def subP (as bs : List Int) : List Int := addP as (bs.map fun n => -n)
theorem zsub_call {v w : V} {as bs : List Int} (hd : 3 ≤ d) (hv : lstOf σ v = some (as.map .int)) (hw : lstOf σ w = some (bs.map .int)) (hl : as.length ≤ 1000 ∧ bs.length ≤ 1000) : Call C d "zsub" [v, w] σ (zl (subP as bs)) σ := by
  obtain ⟨hl1, hl2⟩ := hl
  walk_at "def0"
  refine Exs.stop (Ex.ret (Ev.call (by rfl) (EvL.cons (Ev.name (by rfl)) (EvL.cons (Ev.call (by rfl) (EvL.cons (Ev.name (by rfl)) EvL.nil) (zneg_call (by walk_at "dep") hw hl2)) EvL.nil)) (zadd_call (by walk_at "dep") hv rfl ⟨hl1, by simpa using hl2⟩)))
theorem check_bottom_call {v : V} {vs : List V} (hd : 1 ≤ d) (hv : lstOf σ v = some vs) (hl : 0 < vs.length ∧ vs.length ≤ 1000) : Call C d "check_bottom" [v] σ .none σ := by
  obtain ⟨h0, hl⟩ := hl
  walk_at "defN"
  · rfl
  refine Exs.cons (Ex.ifF (Tr.cmp (Ev.lenL (Ev.name (by walk_at "look")) (by walk_at "lst") (by walk_at "side")) Ev.cInt (cmpEqF (by omega))) Exs.nil) ?_
  exact Exs.drop (by walk_at "sub")
noncomputable def scaleP (ns : List Int) (k : Int) : List Int := if k = 0 then [] else ns.map fun n => n * k
theorem zscale_call {v : V} {ns : List Int} {k : Int} (hd : 1 ≤ d) (hv : lstOf σ v = some (ns.map .int)) (hl : ns.length ≤ 1000 ∧ ∀ n ∈ ns, Sm n) : Call C d "zscale" [v, .int k] σ (zl (scaleP ns k)) σ := by
  obtain ⟨hl, hs⟩ := hl
  walk_at "def0"
  unfold scaleP
  by_cases h : k = 0
  · rw [if_pos h]
    exact Exs.stop (Ex.ret (Ev.iteF (Tr.cmp (Ev.name (by walk_at "look")) Ev.cInt (cmpNeF h)) (Ev.list EvL.nil (by rfl))))
  · rw [if_neg h]
    refine Exs.stop (Ex.ret (Ev.iteT (Tr.cmp (Ev.name (by walk_at "look")) Ev.cInt (cmpNe h)) (Ev.to (Ev.compL V.int (fun n : Int => V.int (n * k)) ns (EvI.lst (Ev.name (by walk_at "look")) (by rw [hv]; rfl)) hv (by omega) (fun a ha acc => ?_) (fun _ _ => rfl)) (by simp [zl, List.map_map, Function.comp_def]))))
    have := hs a ha
    show Ev _ _ _ _ [("k", .int k), ("number", .int a)] _ _ _
    exact (Ev.mul (Ev.name (by walk_at "look")) (Ev.name (by walk_at "look")) (by walk_at "side"))
noncomputable def raiseP (ns : List Int) (m : Nat) : List Int := if 0 < ns.length then List.replicate m 0 ++ ns else []
theorem zraise_call {v : V} {ns : List Int} {m : Int} (hd : 1 ≤ d) (hv : lstOf σ v = some (ns.map .int)) (hl : ns.length ≤ 1000 ∧ 0 ≤ m ∧ m ≤ 1000) : Call C d "zraise" [v, .int m] σ (zl (raiseP ns m.toNat)) σ := by
  obtain ⟨hl, h0, hm⟩ := hl
  walk_at "def0"
  unfold raiseP
  by_cases h : 0 < ns.length
  · rw [if_pos h]
    refine Exs.stop (Ex.ret (Ev.iteT (Tr.cmp (Ev.lenL (Ev.name (by walk_at "look")) (by walk_at "lst") (by walk_at "side")) Ev.cInt (cmpGt (by simp only [List.length_map]; omega))) (Ev.to (Ev.concat (Ev.rep (Ev.list (EvL.cons Ev.cInt EvL.nil) (by rfl)) (Ev.name (by walk_at "look")) (by omega)) (Ev.listOf (Ev.name (by walk_at "look")) (by walk_at "lst") (by walk_at "side")) rfl rfl (by simp; omega)) (by simp [zl]))))
  · rw [if_neg h]
    refine Exs.stop (Ex.ret (Ev.iteF (Tr.cmp (Ev.lenL (Ev.name (by walk_at "look")) (by walk_at "lst") (by walk_at "side")) Ev.cInt (cmpGtF (by simp only [List.length_map]; omega))) (Ev.list EvL.nil (by rfl))))
end
end
section
open PyProof.V
section
variable {C : Cx} {d : Nat} {σ : List Cell}
--SIDES rat=1 bits_of=1 root_of=1 is_square=1 least_divisor=1 ztrim=2 zdegree=2 zneg=2 zadd=3 check_bottom=2 zsub=3 zscale=2 zraise=2 sign_of=0
--KINDS linear_of x=T
--KINDS zexact a=Z b=Z rest=Z
noncomputable def sm (a : Int) : Bool := decide (a.natAbs < 2 ^ 64)
theorem sm_iff {a : Int} : sm a = true ↔ Sm a := by unfold sm Sm; exact decide_eq_true_iff
noncomputable def vsO (t b : Int) : List Int → Int → Int → Option Int
  | [], f, _ => some f
  | c :: r, f, s => if sm f && sm c && sm s then vsO t b r (f * t + c * s) (s * b) else none
noncomputable def sgn (f : Int) : Int := b2i (decide (0 < f)) - b2i (decide (f < 0))
theorem value_sign_call {ns : List Int} {t b F : Int} (hd : 2 ≤ d) (hl : ns.length ≤ 1000 ∧ vsO t b ns.reverse 0 1 = some F) : Call C d "value_sign" [zl ns, .tup [.int t, .int b]] σ (.int (sgn F)) σ := by
  obtain ⟨hl, hF⟩ := hl
  walk_at "def0"
  refine Exs.cons (Ex.unpack (Ev.name (by walk_at "look")) (As.tuple (AsL.cons (As.nm (by rfl) (by walk_at "upd")) (AsL.cons (As.nm (by rfl) (by walk_at "upd")) AsL.nil))) (by intro _; rfl) (by intro _ _; rfl)) ?_
  refine Exs.cons (Ex.unpack (Ev.tuple (EvL.cons Ev.cInt (EvL.cons Ev.cInt EvL.nil)) (by rfl)) (As.tuple (AsL.cons (As.nm (by rfl) (by walk_at "upd")) (AsL.cons (As.nm (by rfl) (by walk_at "upd")) AsL.nil)))) ?_
  refine Exs.for (fun q : Nat × Int × Int => [("top", .int t), ("bottom", .int b), ("found", .int q.2.1), ("scale", .int q.2.2)]) (fun _ => σ) (fun src q => src = .rev (ns.map .int) q.1 ∧ q.1 ≤ ns.length ∧ vsO t b (ns.take q.1).reverse q.2.1 q.2.2 = some F) (fun q => q.2.1 = F) (fun src => match src with | .rev _ n => n | _ => 0) (ns.length, 0, 1)
    (EvI.reversed (vs := ns.map .int) (Ev.name (by walk_at "look")) (by rfl)) (by walk_at "sub") rfl ⟨by rw [List.length_map], Nat.le_refl _, by rw [List.take_length]; exact hF⟩ ?_ ?_
  · rintro src ⟨n, f, s⟩ ⟨e, hn, hF⟩
    dsimp only at e hn hF
    subst e
    cases n with
    | zero => exact .done rfl (by simp [vsO] at hF; exact hF)
    | succ n =>
      have hn' : n < ns.length := by omega
      rw [List.take_succ_eq_append_getElem hn', List.reverse_append, List.reverse_singleton, List.singleton_append] at hF
      unfold vsO at hF
      split at hF
      · rename_i hg
        simp only [Bool.and_eq_true, sm_iff] at hg
        obtain ⟨⟨g1, g2⟩, g3⟩ := hg
        refine .turn (n, f * t + ns[n] * s, s * b) (v := .int ns[n]) (src' := .rev (ns.map .int) n) (by simp [Src.next, List.getElem?_map, List.getElem?_eq_getElem hn']) ⟨_, _, rfl⟩ (As.nm (by rfl) (by walk_at "upd")) ?_ ⟨rfl, by show n ≤ _; omega, hF⟩ (Nat.lt_succ_self _)
        refine Exs.cons (Ex.set (Ev.add (Ev.mul (Ev.name (by walk_at "look")) (Ev.name (by walk_at "look")) (by walk_at "side")) (Ev.mul (Ev.name (by walk_at "look")) (Ev.name (by walk_at "look")) (by walk_at "side"))) (by rfl) (by intro _; rfl) (by walk_at "upd")) ?_
        refine Exs.cons (Ex.set (Ev.mul (Ev.name (by walk_at "look")) (Ev.name (by walk_at "look")) (by walk_at "side")) (by rfl) (by intro _; rfl) (by walk_at "upd")) ?_
        exact Exs.drop (by walk_at "sub")
      · cases hF
  · rintro ⟨n, f, s⟩ e
    dsimp only at e
    subst e
    exact Exs.stop (Ex.ret (Ev.call (by rfl) (EvL.cons (Ev.name (by walk_at "look")) EvL.nil) (sign_of_call (by walk_at "dep"))))
theorem linear_of_call {t b : Int} (hd : 1 ≤ d) : Call C d "linear_of" [.tup [.int t, .int b]] σ (zl [-t, b]) σ := by
  walk_at "def0"
  exact Exs.stop (Ex.ret (Ev.list (EvL.cons (Ev.neg (Ev.itemT (Ev.name (by walk_at "look")) Ev.cInt (by decide) (by rfl) (by rfl))) (EvL.cons (Ev.itemT (Ev.name (by walk_at "look")) Ev.cInt (by decide) (by rfl) (by rfl)) EvL.nil)) (by rfl)))
end
end
section
open PyProof.V
section
variable {C : Cx} {d : Nat} {σ : List Cell}
--SIDES rat=1 bits_of=1 root_of=1 is_square=1 least_divisor=1 ztrim=2 zdegree=2 zneg=2 zadd=3 check_bottom=2 zsub=3 zscale=2 zraise=2 sign_of=0
--KINDS zexact a=Z b=Z rest=Z
noncomputable def exactO (b : List Int) : Nat → List Int → List Int → Option (List Int)
  | 0, _, _ => none
  | k + 1, rest, found =>
    if b.length ≤ rest.length then
      if (lastP rest).fmod (lastP b) = 0 then
        if sm (lastP b) && !(lastP b == 0) && b.all sm && decide (rest.length - b.length < found.length) && decide (rest.length ≤ 100) && decide (0 < b.length) && decide (found.length ≤ 100) then
          exactO b k (subP rest (raiseP (scaleP b ((lastP rest).fdiv (lastP b))) (rest.length - b.length))) (found.set (rest.length - b.length) ((lastP rest).fdiv (lastP b)))
        else none
      else none
    else if rest.length = 0 ∧ found.length ≤ 100 then some found else none
theorem scaleP_len (ns : List Int) (k : Int) : (scaleP ns k).length ≤ ns.length := by
  unfold scaleP; split <;> simp
theorem addP_len (as bs : List Int) : (addP as bs).length ≤ max as.length bs.length := by
  unfold addP trimP
  rw [List.length_take, List.length_map, List.length_range]
  exact Nat.min_le_right _ _
theorem raiseP_len (ns : List Int) (m : Nat) : (raiseP ns m).length ≤ m + ns.length := by
  unfold raiseP; split <;> simp
theorem plains_ints (ns : List Int) : V.plains (ns.map .int) = true := plains_map fun _ _ => rfl
theorem zexact_call {as b res : List Int} (k : Nat) (hd : 4 ≤ d) (hl : as.length ≤ 100 ∧ 0 < b.length ∧ b.length ≤ 100 ∧ exactO b k as (List.replicate (as.length + 1 - b.length) 0) = some res) : Call C d "zexact" [zl as, zl b] σ (zl (trimP res)) σ := by
  obtain ⟨hl, hb0, hb, hx⟩ := hl
  refine Call.iP (v₁ := zl (trimP res)) (cs := [.lst (res.map .int)]) (by omega) (by rfl) (by walk_at "bind") (by rfl) (by decide +kernel) (by rfl) (by rfl) (by rfl) (by rfl) (by simp only [List.map_cons, List.map_nil, List.zip_cons_cons, List.zip_nil_left]; rfl) ?_ (Frz.plain (plains_ints _))
  refine Exs.cons (Ex.expr (Ev.call (by rfl) (EvL.cons (Ev.name (by walk_at "look")) EvL.nil) (check_bottom_call (vs := b.map .int) (by omega) rfl (by simp; omega)))) ?_
  refine Exs.cons (Ex.swap2 (Ev.tuple (EvL.cons (Ev.listOf (Ev.name (by walk_at "look")) (by walk_at "lst") (by walk_at "side")) (EvL.cons (Ev.repCell (Ev.list (EvL.cons Ev.cInt EvL.nil) (by rfl)) (Ev.max2 Ev.cInt (Ev.add (Ev.sub (Ev.lenL (Ev.name (by walk_at "look")) (by walk_at "lst") (by walk_at "side")) (Ev.lenL (Ev.name (by walk_at "look")) (by walk_at "lst") (by walk_at "side"))) Ev.cInt)) (by simp only [List.length_map]; omega)) EvL.nil))) (by rfl) (by intro e h; cases e; cases h; rfl) (by intro _; rfl) (by walk_at "upd") (by walk_at "upd")) ?_
  refine Exs.while (fun q : Nat × List Int × List Int => [("a", zl as), ("b", zl b), ("rest", zl q.2.1), ("found", .ref σ.length)]) (fun q => σ ++ [.lst (q.2.2.map .int)]) (fun q => q.2.1.length ≤ 100 ∧ exactO b q.1 q.2.1 q.2.2 = some res) (fun q => q.2.1 = [] ∧ q.2.2 = res ∧ res.length ≤ 100) (fun q => q.1) (k, as, List.replicate (as.length + 1 - b.length) 0) (by walk_at "sub") (by
    congr 3
    simp only [List.length_map, List.map_replicate]
    congr 1; omega) ⟨hl, hx⟩ ?_ ?_
  · clear hx hl
    rintro ⟨k, rest, found⟩ ⟨hr, hx⟩
    dsimp only at hr hx
    cases k with
    | zero => cases hx
    | succ k =>
      unfold exactO at hx
      split at hx
      · rename_i h1
        split at hx
        · rename_i h2
          split at hx
          · rename_i hg
            simp only [Bool.and_eq_true, sm_iff, decide_eq_true_eq, List.all_eq_true, Bool.not_eq_true', beq_eq_false_iff_ne, ne_eq] at hg
            obtain ⟨⟨⟨⟨⟨⟨g1, g2⟩, g3⟩, g4⟩, g5⟩, g6⟩, g7⟩ := hg
            refine .turn (k, subP rest (raiseP (scaleP b ((lastP rest).fdiv (lastP b))) (rest.length - b.length)), found.set (rest.length - b.length) ((lastP rest).fdiv (lastP b))) (Tr.cmp (Ev.lenL (Ev.name (by walk_at "look")) (by walk_at "lst") (by walk_at "side")) (Ev.lenL (Ev.name (by walk_at "look")) (by walk_at "lst") (by walk_at "side")) (cmpGe (by simp only [List.length_map]; omega))) ?_ ⟨by
              have h1 := addP_len rest ((raiseP (scaleP b ((lastP rest).fdiv (lastP b))) (rest.length - b.length)).map fun n => -n)
              have h2 := raiseP_len (scaleP b ((lastP rest).fdiv (lastP b))) (rest.length - b.length)
              have h3 := scaleP_len b ((lastP rest).fdiv (lastP b))
              rw [List.length_map] at h1
              show (subP _ _).length ≤ 100
              unfold subP; omega, hx⟩ (Nat.lt_succ_self _)
            refine Exs.cons (Ex.ifF (Tr.cmp (Ev.mod (Ev.itemL (Ev.name (by walk_at "look")) (Ev.neg Ev.cInt) (by walk_at "lst") (by walk_at "side")) (Ev.itemL (Ev.name (by walk_at "look")) (Ev.neg Ev.cInt) (by walk_at "lst") (by walk_at "side")) (by walk_at "side")) Ev.cInt (cmpNeF h2)) Exs.nil) ?_
            refine Exs.cons (Ex.swap2 (Ev.tuple (EvL.cons (Ev.fdiv (Ev.itemL (Ev.name (by walk_at "look")) (Ev.neg Ev.cInt) (by walk_at "lst") (by walk_at "side")) (Ev.itemL (Ev.name (by walk_at "look")) (Ev.neg Ev.cInt) (by walk_at "lst") (by walk_at "side")) (by walk_at "side") (by walk_at "side")) (EvL.cons (Ev.sub (Ev.lenL (Ev.name (by walk_at "look")) (by walk_at "lst") (by walk_at "side")) (Ev.lenL (Ev.name (by walk_at "look")) (by walk_at "lst") (by walk_at "side"))) EvL.nil))) (by rfl) (by intro e h; cases e; cases h; rfl) (by intro _; rfl) (by walk_at "upd") (by walk_at "upd")) ?_
            refine Exs.cons (Ex.setItem1 (j := rest.length - b.length) (Ev.name (by walk_at "look")) (Ev.name (by walk_at "look")) (Ev.name (by walk_at "look")) (by simp only [List.length_map]; omega) (by simp only [List.length_map]; omega)) ?_
            have e3 : (found.map V.int).set (rest.length - b.length) (.int ((lastP rest).fdiv (lastP b))) = (found.set (rest.length - b.length) ((lastP rest).fdiv (lastP b))).map .int := by rw [List.map_set]
            rw [e3]
            have e4 : (((rest.map V.int).length : Int) - (b.map V.int).length) = ((rest.length - b.length : Nat) : Int) := by simp only [List.length_map]; omega
            rw [e4]
            have hsl := scaleP_len b ((lastP rest).fdiv (lastP b))
            have hrl : (raiseP (scaleP b ((lastP rest).fdiv (lastP b))) ((rest.length - b.length : Nat) : Int).toNat).length ≤ 1000 := by
              unfold raiseP; split
              · simp; omega
              · simp
            refine Exs.cons (Ex.set (Ev.call (by rfl) (EvL.cons (Ev.name (by rfl)) (EvL.cons (Ev.call (by rfl) (EvL.cons (Ev.call (by rfl) (EvL.cons (Ev.name (by walk_at "look")) (EvL.cons (Ev.name (by walk_at "look")) EvL.nil)) (zscale_call (by walk_at "dep") rfl ⟨by omega, g3⟩)) (EvL.cons (Ev.name (by rfl)) EvL.nil)) (zraise_call (by walk_at "dep") rfl ⟨by omega, by omega, by omega⟩)) EvL.nil)) (zsub_call (by walk_at "dep") rfl rfl ⟨by show rest.length ≤ 1000; omega, hrl⟩)) (by rfl) (by intro _; rfl) (by walk_at "upd")) ?_
            exact Exs.drop (by walk_at "sub")
          · cases hx
        · cases hx
      · rename_i h1
        split at hx
        · rename_i h2
          injection hx with hx
          subst hx
          exact .done (Tr.cmp (Ev.lenL (Ev.name (by walk_at "look")) (by walk_at "lst") (by walk_at "side")) (Ev.lenL (Ev.name (by walk_at "look")) (by walk_at "lst") (by walk_at "side")) (cmpGeF (by simp only [List.length_map]; omega))) ⟨List.eq_nil_of_length_eq_zero h2.1, rfl, h2.2⟩
        · cases hx
  · rintro ⟨k, rest, found⟩ ⟨e1, e2, e3⟩
    dsimp only at e1 e2
    subst e1 e2
    refine Exs.stop (Ex.ret (Ev.iteT (Tr.cmp (Ev.lenL (Ev.name (by rfl)) (vs := []) (by rfl) (by decide)) Ev.cInt (by rfl)) (Ev.call (by rfl) (EvL.cons (Ev.name (by walk_at "look")) EvL.nil) (ztrim_call (by walk_at "dep") (by rw [lstOf, cell_at]) (by omega)))))
end
end
section
open PyProof.V
section
variable {C : Cx} {d : Nat} {σ : List Cell}
--SIDES rat=1 divisors=1
--KINDS candidates f=Z
noncomputable def DivOk (C : Cx) (n : Nat) (ds : List Int) : Prop := ∀ {d σ}, 3 ≤ d → Call C d "divisors" [.int n] σ (zl ds) σ
theorem cellA {a b : Cell} : (σ ++ [a, b])[σ.length]? = some a := by rw [List.getElem?_append_right (Nat.le_refl _), Nat.sub_self]; rfl
theorem cellB {a b : Cell} : (σ ++ [a, b])[σ.length + 1]? = some b := by rw [List.getElem?_append_right (Nat.le_succ _), show σ.length.succ - σ.length = 1 by omega]; rfl
theorem setA {a b c : Cell} : (σ ++ [a, b]).set σ.length c = σ ++ [c, b] := by rw [List.set_append_right _ _ (Nat.le_refl _), Nat.sub_self]; rfl
theorem setB {a b c : Cell} : (σ ++ [a, b]).set (σ.length + 1) c = σ ++ [a, c] := by rw [List.set_append_right _ _ (Nat.le_succ _), show σ.length.succ - σ.length = 1 by omega]; rfl
noncomputable def ratI (a b : Int) : Int × Int := (a.fdiv (Int.gcd a b), b.fdiv (Int.gcd a b))
noncomputable def ratV (x : Int × Int) : V := .tup [.int x.1, .int x.2]
noncomputable def keyOf (x : Int × Int) : List Int := [x.1, x.2]
noncomputable def cand3 (xs : List (Int × Int)) (x : Int × Int) : Option (List (Int × Int)) := if (xs.map keyOf).contains (keyOf x) then some xs else if xs.length < 10000 then some (xs ++ [x]) else none
noncomputable def cand2 (top : Int) (xs : List (Int × Int)) (bottom : Int) : Option (List (Int × Int)) := if 0 < bottom ∧ sm bottom = true then [ratI top bottom, ratI (-top) bottom].foldlM cand3 xs else none
noncomputable def cand1 (bottoms : List Int) (xs : List (Int × Int)) (top : Int) : Option (List (Int × Int)) := bottoms.foldlM (cand2 top) xs
theorem Tr.to {e : Expr} {a b sc ρ σ'} (h : Tr C d sc e ρ σ a σ') (q : a = b) : Tr C d sc e ρ σ b σ' := q ▸ h
theorem candidates_call {f ds ts : List Int} {xs : List (Int × Int)} (hd : 4 ≤ d) (hl : 1 < f.length ∧ f.length ≤ 1000) (h1 : DivOk C (lastP f).natAbs ds) (h2 : DivOk C (nth f 0).natAbs ts) (hx : ts.foldlM (cand1 ds) [] = some xs) :
    Call C d "candidates" [zl f] σ (.lst (xs.map ratV)) σ := by
  obtain ⟨hl0, hl⟩ := hl
  refine Call.iP (v₁ := .ref (σ.length + 1)) (cs := [.dic (xs.map keyOf), .lst (xs.map ratV)]) (by omega) (by rfl) (by walk_at "bind") (by rfl) (by decide +kernel) (by rfl) (by rfl) (by rfl) (by rfl) (by simp only [List.map_cons, List.map_nil, List.zip_cons_cons, List.zip_nil_left]; rfl) ?_ (.new (Nat.le_succ _) cellB (FrzL.plain (plains_map fun _ _ => rfl)))
  refine Exs.cons (Ex.ifF (Tr.cmp (Ev.call (by rfl) (EvL.cons (Ev.name (by walk_at "look")) EvL.nil) (zdegree_call (vs := f.map .int) (by omega) rfl (by simpa using hl))) Ev.cInt (cmpLtF (by simp only [List.length_map]; omega))) Exs.nil) ?_
  refine Exs.cons (Ex.swap3 (Ev.tuple (EvL.cons Ev.dict0 (EvL.cons (Ev.listCell EvL.nil) (EvL.cons (Ev.call (by rfl) (EvL.cons (Ev.abs (Ev.itemL (Ev.name (by walk_at "look")) (Ev.neg Ev.cInt) (by walk_at "lst") (by walk_at "side"))) EvL.nil) (h1 (by walk_at "dep"))) EvL.nil)))) (by rfl) (by intro e h; cases e; cases h; rfl) (by intro _; rfl) (by walk_at "upd") (by walk_at "upd") (by walk_at "upd")) ?_
  refine Exs.fold (fun n : Int => V.int n) ts (fun _ => [("f", zl f), ("met", .ref σ.length), ("found", .ref (σ.length + 1)), ("bottoms", zl ds)]) (fun xs : List (Int × Int) => σ ++ [.dic (xs.map keyOf), .lst (xs.map ratV)]) (fun _ => True) (cand1 ds) [] xs
    (EvI.lst (Ev.call (by rfl) (EvL.cons (Ev.abs (Ev.itemZ (Ev.name (by walk_at "look")) Ev.cInt (by walk_at "lst") (by walk_at "side"))) EvL.nil) (h2 (by walk_at "dep"))) (by rfl)) (by
      rw [List.length_append]; walk_at "sub") (by simp) (fun _ _ => gives_lst rfl fun _ _ _ _ => .inl ⟨_, _, rfl⟩) trivial hx (by rfl) ?_ ?_
  · clear hx xs
    intro top _ xs xs' _ hx
    refine ⟨trivial, ?_⟩
    refine Exs.fold (fun n : Int => V.int n) ds (fun _ => [("f", zl f), ("met", .ref σ.length), ("found", .ref (σ.length + 1)), ("bottoms", zl ds), ("top", .int top)]) (fun xs : List (Int × Int) => σ ++ [.dic (xs.map keyOf), .lst (xs.map ratV)]) (fun _ => True) (cand2 top) xs xs'
      (EvI.lst (Ev.name (by rfl)) (by rfl)) (by walk_at "sub") rfl (fun _ _ => gives_lst rfl fun _ _ _ _ => .inl ⟨_, _, rfl⟩) trivial hx (by rfl) ?_ ?_
    · clear hx xs xs'
      intro bottom _ xs xs' _ hx
      refine ⟨trivial, ?_⟩
      unfold cand2 at hx
      split at hx
      · rename_i hb
        have hb' : 0 < bottom ∧ Sm bottom := ⟨hb.1, sm_iff.mp hb.2⟩
        refine Exs.fold ratV [ratI top bottom, ratI (-top) bottom] (fun _ => [("f", zl f), ("met", .ref σ.length), ("found", .ref (σ.length + 1)), ("bottoms", zl ds), ("top", .int top), ("bottom", .int bottom)]) (fun xs : List (Int × Int) => σ ++ [.dic (xs.map keyOf), .lst (xs.map ratV)]) (fun _ => True) cand3 xs xs'
          (EvI.tup (Ev.tuple (EvL.cons (Ev.call (by rfl) (EvL.cons (Ev.name (by walk_at "look")) (EvL.cons (Ev.name (by walk_at "look")) EvL.nil)) (rat_call (by walk_at "dep") hb')) (EvL.cons (Ev.call (by rfl) (EvL.cons (Ev.neg (Ev.name (by walk_at "look"))) (EvL.cons (Ev.name (by walk_at "look")) EvL.nil)) (rat_call (by walk_at "dep") hb')) EvL.nil)))) (by walk_at "sub") rfl (fun _ _ => gives_tup) trivial hx (by rfl) ?_ ?_
        · clear hx xs xs'
          intro x _ xs xs' _ hx
          refine ⟨trivial, ?_⟩
          unfold cand3 at hx
          split at hx
          · rename_i hc
            injection hx with hx; subst hx
            refine Exs.cons (Ex.ifF (Tr.to (Tr.notInDic (k := keyOf x) (Ev.name (by rfl)) (Ev.name (by rfl)) cellA) (by rw [hc]; rfl)) Exs.nil) ?_
            exact Exs.drop (by walk_at "sub")
          · rename_i hc
            split at hx
            · rename_i hlen
              injection hx with hx; subst hx
              have hc' : (xs.map keyOf).contains (keyOf x) = false := by simpa using hc
              refine Exs.cons (Ex.ifT (Tr.to (Tr.notInDic (k := keyOf x) (Ev.name (by rfl)) (Ev.name (by rfl)) cellA) (by rw [hc']; rfl)) ?_) Exs.nil
              refine Exs.cons (Ex.dicSet (k := keyOf x) (Ev.name (by rfl)) (Ev.name (by rfl)) cellA hc' (by rw [List.length_map]; omega)) ?_
              rw [setA]
              refine Exs.cons (Ex.append (Ev.name (by rfl)) cellB (Ev.name (by rfl)) cellB (by rw [List.length_map]; omega)) ?_
              rw [setB, List.map_append, List.map_append]
              exact Exs.drop (by walk_at "sub")
            · cases hx
        · intro _; exact Exs.drop (by walk_at "sub")
      · cases hx
    · intro _; exact Exs.drop (by walk_at "sub")
  · intro _
    exact Exs.stop (Ex.ret (Ev.name (by walk_at "look")))
end
end
section
open PyProof.V
section
variable {C : Cx} {d : Nat} {σ : List Cell}
--SIDES rat=1 divisors=1 rcompare=0
--KINDS tried_roots f=Z
--KINDS sorted_roots pair=T
--KINDS rational_roots left=Z
theorem Ev.most {sc ρ pos} (hk : sc.names.lookup ("MOST_DIVIDED" : Str) = some .globalImplicit := by rfl) : Ev C d sc (.Name ("MOST_DIVIDED" : Str) pos) ρ σ (.int 10000000000) σ := .mk <| fun S => by
  obtain ⟨t, e⟩ := S.wd.most
  exact useGlobal S hk e (Post.grow S Grow.refl (.int _ _))
noncomputable def TriedOk (C : Cx) (f : List Int) (xs : List (Int × Int)) : Prop := ∀ {d σ}, 5 ≤ d → Call C d "tried_roots" [zl f] σ (.lst (xs.map ratV)) σ
theorem tried1 {a b : Int} (hb : 0 < b ∧ Sm b) : TriedOk C [a, b] [ratI (-a) b] := by
  intro d σ hd
  walk_at "def0"
  refine Exs.stop (Ex.ifT (Tr.cmp (Ev.call (by rfl) (EvL.cons (Ev.name (by walk_at "look")) EvL.nil) (zdegree_call (vs := [a, b].map .int) (by omega) rfl (by simp))) Ev.cInt (by rfl)) (Exs.stop (Ex.ret (Ev.list (EvL.cons (Ev.call (by rfl) (EvL.cons (Ev.neg (a := a) (Ev.to (Ev.itemZ (ns := [a, b]) (Ev.name (by rfl)) Ev.cInt (by rfl) (by simp)) rfl)) (EvL.cons (Ev.to (Ev.itemZ (ns := [a, b]) (Ev.name (by rfl)) Ev.cInt (by rfl) (by simp)) rfl) EvL.nil)) (rat_call (by walk_at "dep") hb)) EvL.nil)))))
theorem tried3 {f ds ts : List Int} {xs : List (Int × Int)} (hl : 2 < f.length ∧ f.length ≤ 1000) (h1 : DivOk C (lastP f).natAbs ds) (h2 : DivOk C (nth f 0).natAbs ts) (hx : ts.foldlM (cand1 ds) [] = some xs) (hm : (nth f 0).natAbs ≤ 10000000000 ∧ (lastP f).natAbs ≤ 10000000000) : TriedOk C f xs := by
  intro d σ hd
  obtain ⟨hl0, hl⟩ := hl
  walk_at "def0"
  have hz : ∀ {d σ}, 1 ≤ d → Call C d "zdegree" [zl f] σ (.int ((f.map V.int).length - 1)) σ := fun hd => zdegree_call hd rfl (by simp; omega)
  refine Exs.cons (Ex.ifF (Tr.cmp (Ev.call (by rfl) (EvL.cons (Ev.name (by walk_at "look")) EvL.nil) (hz (by walk_at "dep"))) Ev.cInt (cmpEqF (by simp only [List.length_map]; omega))) Exs.nil) ?_
  refine Exs.stop (Ex.ifT (Tr.orF (Tr.cmp (Ev.call (by rfl) (EvL.cons (Ev.name (by walk_at "look")) EvL.nil) (hz (by walk_at "dep"))) Ev.cInt (cmpLtF (by simp only [List.length_map]; omega))) (Tr.orT (Tr.cmp (Ev.max2 (Ev.abs (Ev.itemZ (Ev.name (by walk_at "look")) Ev.cInt (by walk_at "lst") (by walk_at "side"))) (Ev.abs (Ev.itemL (Ev.name (by walk_at "look")) (Ev.neg Ev.cInt) (by walk_at "lst") (by walk_at "side")))) Ev.most (cmpLe (by omega))))) (Exs.stop (Ex.ret (Ev.call (by rfl) (EvL.cons (Ev.name (by walk_at "look")) EvL.nil) (candidates_call (by walk_at "dep") ⟨by omega, hl⟩ h1 h2 hx)))))
noncomputable abbrev Rt := (Int × Int) × Int
noncomputable def rtV (p : Rt) : V := .tup [ratV p.1, .int p.2]
noncomputable def offR (q p : Rt) : Int := q.1.1 * p.1.2 - p.1.1 * q.1.2
noncomputable def posN (p : Rt) : List Rt → Nat
  | [] => 0
  | q :: r => if offR q p < 0 then posN p r + 1 else 0
theorem posN_le (p : Rt) : ∀ fs, posN p fs ≤ fs.length
  | [] => Nat.le_refl _
  | q :: r => by
    unfold posN; split
    · have := posN_le p r; simp; omega
    · exact Nat.zero_le _
noncomputable def sortR (fs : List Rt) (p : Rt) : Option (List Rt) := if fs.all (fun q => sm q.1.1) && sm p.1.1 && decide (fs.length < 1000) then some (fs.take (posN p fs) ++ p :: fs.drop (posN p fs)) else none
theorem sgnLt {o : Int} : (b2i (decide (o > 0)) - b2i (decide (o < 0)) < 0) ↔ o < 0 := by
  unfold b2i
  by_cases h1 : o > 0 <;> by_cases h2 : o < 0 <;> simp [h1, h2] <;> omega
theorem sorted_roots_call {v : V} {ps res : List Rt} (hd : 2 ≤ d) (hv : lstOf σ v = some (ps.map rtV)) (hr : ps.foldlM sortR [] = some res) : Call C d "sorted_roots" [v] σ (.lst (res.map rtV)) σ := by
  walk_at "def1"
  · exact plains_map fun _ _ => rfl
  refine Exs.cons (Ex.set (Ev.listCell EvL.nil) (by rfl) (by intro _; rfl) (by walk_at "upd")) ?_
  refine Exs.fold rtV ps (fun _ => [("pairs", v), ("found", .ref σ.length)]) (fun fs : List Rt => σ ++ [.lst (fs.map rtV)]) (fun _ => True) sortR [] res
    (EvI.lst (Ev.name (by rfl)) (by rw [lstOf_ext hv]; rfl)) (by walk_at "sub") rfl (fun _ _ => gives_lst (lstOf_ext hv) fun u hu _ _ => .inl ⟨_, _, rfl⟩) trivial hr (by rfl) ?_ ?_
  · clear hr res
    intro p _ fs fs' _ hx
    refine ⟨trivial, ?_⟩
    unfold sortR at hx
    split at hx
    · rename_i hg
      simp only [Bool.and_eq_true, decide_eq_true_eq, List.all_eq_true, sm_iff] at hg
      obtain ⟨⟨g1, g2⟩, g3⟩ := hg
      injection hx with hx
      subst hx
      refine Exs.cons (Ex.set Ev.cInt (by rfl) (by intro _; rfl) (by walk_at "upd")) ?_
      refine Exs.while (fun k : Nat => [("pairs", v), ("found", .ref σ.length), ("pair", rtV p), ("at", .int k)]) (fun _ => σ ++ [.lst (fs.map rtV)]) (fun k => k ≤ fs.length ∧ posN p (fs.drop k) + k = posN p fs) (fun k => k = posN p fs) (fun k => fs.length - k) 0 (by walk_at "sub") rfl ⟨Nat.zero_le _, rfl⟩ ?_ ?_
      · rintro k ⟨hk, he⟩
        have hl : lstOf (σ ++ [.lst (fs.map rtV)]) (.ref σ.length) = some (fs.map rtV) := by rw [lstOf, cell_at]
        by_cases h : k < fs.length
        · rw [List.drop_eq_getElem_cons h, posN] at he
          have hi : (fs.map rtV)[k]? = some (rtV fs[k]) := by rw [List.getElem?_map, List.getElem?_eq_getElem h]; rfl
          have hev := rcompare_call (C := C) (d := d - 1) (σ := σ ++ [.lst (fs.map rtV)]) (a := fs[k].1.1) (b := fs[k].1.2) (c := p.1.1) (e := p.1.2) ⟨g1 _ (List.getElem_mem h), g2⟩ (by omega)
          have hidx : idxOf (fs.map rtV).length (k : Int) = some k := by unfold idxOf; rw [if_neg (by omega)]; rfl
          by_cases ho : offR fs[k] p < 0
          · rw [if_pos ho] at he
            refine .turn (k + 1) (Tr.andT (Tr.cmp (Ev.name (by rfl)) (Ev.lenL (Ev.name (by rfl)) hl (by simp; omega)) (cmpLt (by simp only [List.length_map]; omega))) (Tr.andT (Tr.cmp (Ev.call (by rfl) (EvL.cons (Ev.itemT (vs := [ratV fs[k].1, .int fs[k].2]) (Ev.item (Ev.name (by rfl)) (Ev.name (by rfl)) hl (by omega) hidx hi) Ev.cInt (by decide) (by rfl) (by rfl)) (EvL.cons (Ev.itemT (vs := [ratV p.1, .int p.2]) (Ev.name (by rfl)) Ev.cInt (by decide) (by rfl) (by rfl)) EvL.nil)) hev) Ev.cInt (cmpLt (sgnLt.mpr ho))) Tr.and0)) ?_ ⟨h, by omega⟩ (by omega)
            refine Exs.cons (Ex.aug (by walk_at "look") Ev.cInt (by rfl) (by rfl) (by walk_at "upd")) ?_
            exact Exs.drop (by walk_at "sub")
          · rw [if_neg ho] at he
            exact .done (Tr.andT (Tr.cmp (Ev.name (by rfl)) (Ev.lenL (Ev.name (by rfl)) hl (by simp; omega)) (cmpLt (by simp only [List.length_map]; omega))) (Tr.andF (Tr.cmp (Ev.call (by rfl) (EvL.cons (Ev.itemT (vs := [ratV fs[k].1, .int fs[k].2]) (Ev.item (Ev.name (by rfl)) (Ev.name (by rfl)) hl (by omega) hidx hi) Ev.cInt (by decide) (by rfl) (by rfl)) (EvL.cons (Ev.itemT (vs := [ratV p.1, .int p.2]) (Ev.name (by rfl)) Ev.cInt (by decide) (by rfl) (by rfl)) EvL.nil)) hev) Ev.cInt (cmpLtF (fun q => ho (sgnLt.mp q)))))) (by omega)
        · have e : k = fs.length := by omega
          refine .done (Tr.andF (Tr.cmp (Ev.name (by rfl)) (Ev.lenL (Ev.name (by rfl)) hl (by simp; omega)) (cmpLtF (by simp only [List.length_map]; omega)))) ?_
          rw [List.drop_eq_nil_of_le (by omega)] at he
          have e0 : posN p [] = 0 := rfl
          rw [e0] at he
          show k = _
          omega
      · intro k e
        subst e
        have hle := posN_le p fs
        refine Exs.cons (Ex.insert (Ev.name (by rfl)) cell_at (Ev.name (by rfl)) (Ev.name (by rfl)) cell_at (by simp; omega) rfl (by simpa using hle)) ?_
        rw [List.set_append_right _ _ (Nat.le_refl _), Nat.sub_self, List.map_append, List.map_cons, List.map_take, List.map_drop]
        exact Exs.drop (by walk_at "sub")
    · cases hx
  · intro _
    exact Exs.stop (Ex.ret (Ev.name (by walk_at "look")))
end
end
section
open PyProof.V
section
variable {C : Cx} {d : Nat} {σ : List Cell}
--SIDES rat=1 divisors=1 rcompare=0
--KINDS rational_roots left=Z
noncomputable def dropZ : List Int → List Int
  | [] => []
  | a :: r => if a = 0 then dropZ r else a :: r
noncomputable def stripR (x : Int × Int) : Nat → List Int → Nat → Option (List Int × Nat)
  | 0, _, _ => none
  | k + 1, left, m =>
    if left.length ≤ 100 then
      if 1 < left.length then
        match vsO x.1 x.2 left.reverse 0 1 with
        | none => none
        | some F => if F = 0 then match exactO [-x.1, x.2] 200 left (List.replicate (left.length + 1 - 2) 0) with
            | none => none
            | some res => stripR x k (trimP res) (m + 1)
          else some (left, m)
      else some (left, m)
    else none
noncomputable def rootR (q : List Int × List Rt) (x : Int × Int) : Option (List Int × List Rt) := match stripR x 200 q.1 0 with
  | none => none
  | some (left, m) => if q.2.length < 1000 then some (left, if 0 < m then q.2 ++ [(x, (m : Int))] else q.2) else none
noncomputable def found0 (f : List Int) : List Rt := if (dropZ f).length < f.length then [((0, 1), ((f.length - (dropZ f).length : Nat) : Int))] else []
theorem dropZ_le : ∀ f, (dropZ f).length ≤ f.length
  | [] => Nat.le_refl _
  | a :: r => by
    unfold dropZ; split
    · have := dropZ_le r; simp; omega
    · exact Nat.le_refl _
theorem sgn0 {F : Int} : sgn F = 0 ↔ F = 0 := by
  unfold sgn b2i
  by_cases h1 : 0 < F <;> by_cases h2 : F < 0 <;> simp [h1, h2] <;> omega
theorem rational_roots_call {f : List Int} {xs : List (Int × Int)} {L : List Int} {fnd res : List Rt} (hd : 6 ≤ d) (hl : f.length ≤ 100) (hT : TriedOk C (dropZ f) xs) (hF : xs.foldlM rootR (dropZ f, found0 f) = some (L, fnd)) (hS : fnd.foldlM sortR [] = some res) :
    Call C d "rational_roots" [zl f] σ (.lst (res.map rtV)) σ := by
  refine Call.iP (v₁ := .lst (res.map rtV)) (cs := [.lst (fnd.map rtV)]) (by omega) (by rfl) (by walk_at "bind") (by rfl) (by decide +kernel) (by rfl) (by rfl) (by rfl) (by rfl) (by simp only [List.map_cons, List.map_nil, List.zip_cons_cons, List.zip_nil_left]; rfl) ?_ (Frz.plain (plains_map fun _ _ => rfl))
  refine Exs.cons (Ex.swap2 (Ev.tuple (EvL.cons (Ev.name (by rfl)) (EvL.cons (Ev.listCell EvL.nil) EvL.nil))) (by rfl) (by intro e h; cases e; cases h; rfl) (by intro _; rfl) (by walk_at "upd") (by walk_at "upd")) ?_
  refine Exs.while (fun l : List Int => [("f", zl f), ("left", zl l), ("found", .ref σ.length)]) (fun _ => σ ++ [.lst []]) (fun l => l.length ≤ 100 ∧ dropZ l = dropZ f) (fun l => l = dropZ f) (fun l => l.length) f (by walk_at "sub") rfl ⟨hl, rfl⟩ ?_ ?_
  · rintro l ⟨h1, h2⟩
    cases l with
    | nil => exact .done (Tr.andF (Tr.cmp (Ev.lenL (Ev.name (by rfl)) (vs := []) (by rfl) (by decide)) Ev.cInt (by rfl))) h2
    | cons a r =>
      have e : dropZ (a :: r) = if a = 0 then dropZ r else a :: r := rfl
      rw [e] at h2
      have hlen : r.length + 1 ≤ 100 := by simpa using h1
      by_cases ha : a = 0
      · rw [if_pos ha] at h2
        refine .turn r (Tr.andT (Tr.cmp (Ev.lenL (Ev.name (by rfl)) (vs := (a :: r).map .int) (by rfl) (by simp; omega)) Ev.cInt (cmpGt (by simp only [List.length_map, List.length_cons]; omega))) (Tr.andT (Tr.cmp (Ev.itemZ (ns := a :: r) (Ev.name (by rfl)) Ev.cInt (by rfl) (by simp; try omega)) Ev.cInt (cmpEq (by show a = 0; exact ha))) Tr.and0)) ?_ ⟨by omega, h2⟩ (by simp)
        refine Exs.cons (Ex.set (Ev.sliceFrom (n := 1) (vs := (a :: r).map .int) (Ev.name (by rfl)) Ev.cInt (by rfl) (by rfl) (by simp; omega)) (by rfl) (by intro _; rfl) (by walk_at "upd")) ?_
        exact Exs.drop (by walk_at "sub")
      · rw [if_neg ha] at h2
        exact .done (Tr.andT (Tr.cmp (Ev.lenL (Ev.name (by rfl)) (vs := (a :: r).map .int) (by rfl) (by simp; omega)) Ev.cInt (cmpGt (by simp only [List.length_map, List.length_cons]; omega))) (Tr.andF (Tr.cmp (Ev.itemZ (ns := a :: r) (Ev.name (by rfl)) Ev.cInt (by rfl) (by simp; omega)) Ev.cInt (cmpEqF (by show a ≠ 0; exact ha))))) h2
  · rintro l e
    subst e
    have hdl := dropZ_le f
    refine Exs.cons (ρ₁ := [("f", zl f), ("left", zl (dropZ f)), ("found", .ref σ.length)]) (σ₁ := σ ++ [.lst ((found0 f).map rtV)]) ?_ ?_
    · unfold found0
      by_cases h : (dropZ f).length < f.length
      · rw [if_pos h]
        refine Ex.ifT (Tr.cmp (Ev.lenL (Ev.name (by walk_at "look")) (vs := (dropZ f).map .int) (by rfl) (by simp; omega)) (Ev.lenL (Ev.name (by walk_at "look")) (vs := f.map .int) (by rfl) (by simp; omega)) (cmpLt (by simp only [List.length_map]; omega))) ?_
        refine Exs.cons (Ex.append1 (Ev.name (by rfl)) (Ev.tuple (EvL.cons (Ev.tuple (EvL.cons Ev.cInt (EvL.cons Ev.cInt EvL.nil))) (EvL.cons (Ev.sub (Ev.lenL (Ev.name (by walk_at "look")) (vs := f.map .int) (by rfl) (by simp; omega)) (Ev.lenL (Ev.name (by walk_at "look")) (vs := (dropZ f).map .int) (by rfl) (by simp; omega))) EvL.nil))) (by decide)) ?_
        have e : (((f.map V.int).length : Int) - ((dropZ f).map V.int).length) = ((f.length - (dropZ f).length : Nat) : Int) := by simp only [List.length_map]; omega
        rw [e]
        exact Exs.nil
      · rw [if_neg h]
        exact Ex.ifF (Tr.cmp (Ev.lenL (Ev.name (by walk_at "look")) (vs := (dropZ f).map .int) (by rfl) (by simp; omega)) (Ev.lenL (Ev.name (by walk_at "look")) (vs := f.map .int) (by rfl) (by simp; omega)) (cmpLtF (by simp only [List.length_map]; omega))) Exs.nil
    refine Exs.fold ratV xs (fun q : List Int × List Rt => [("f", zl f), ("left", zl q.1), ("found", .ref σ.length)]) (fun q => σ ++ [.lst (q.2.map rtV)]) (fun _ => True) rootR (dropZ f, found0 f) (L, fnd)
      (EvI.lst (Ev.call (by rfl) (EvL.cons (Ev.name (by walk_at "look")) EvL.nil) (hT (by walk_at "dep"))) (by rfl)) (by walk_at "sub") rfl (fun _ _ => gives_lst rfl fun _ _ _ _ => .inl ⟨_, _, rfl⟩) trivial hF (by rfl) ?_ ?_
    · clear hF hS hT hl hdl
      rintro x _ ⟨left, fs⟩ ⟨left', fs'⟩ _ hx
      refine ⟨trivial, ?_⟩
      unfold rootR at hx
      split at hx
      · cases hx
      · rename_i l' m' hs
        split at hx
        · rename_i hlen
          injection hx with hx
          injection hx with hx1 hx2
          dsimp only at hlen hs hx2
          refine Exs.cons (Ex.set Ev.cInt (by rfl) (by intro _; rfl) (by walk_at "upd")) ?_
          refine Exs.while (fun q : Nat × List Int × Nat => [("f", zl f), ("left", zl q.2.1), ("found", .ref σ.length), ("x", ratV x), ("many", .int q.2.2)]) (fun _ => σ ++ [.lst (fs.map rtV)]) (fun q => stripR x q.1 q.2.1 q.2.2 = some (l', m')) (fun q => q.2 = (l', m')) (fun q => q.1) (200, left, 0) (by walk_at "sub") rfl hs ?_ ?_
          · clear hs hx1 hx2 left
            rintro ⟨k, left, m⟩ hs
            dsimp only at hs
            cases k with
            | zero => cases hs
            | succ k =>
              unfold stripR at hs
              split at hs
              · rename_i hl
                split at hs
                · rename_i h1
                  split at hs
                  · cases hs
                  · rename_i F hF
                    split at hs
                    · rename_i hF0
                      split at hs
                      · cases hs
                      · rename_i res hres
                        refine .turn (k, trimP res, m + 1) (Tr.andT (Tr.cmp (Ev.call (by rfl) (EvL.cons (Ev.name (by walk_at "look")) EvL.nil) (zdegree_call (vs := left.map .int) (by omega) rfl (by simp; omega))) Ev.cInt (cmpGt (by simp only [List.length_map]; omega))) (Tr.andT (Tr.cmp (Ev.call (by rfl) (EvL.cons (Ev.name (by walk_at "look")) (EvL.cons (Ev.name (by walk_at "look")) EvL.nil)) (value_sign_call (by walk_at "dep") ⟨by omega, hF⟩)) Ev.cInt (cmpEq (sgn0.mpr hF0))) Tr.and0)) ?_ hs (Nat.lt_succ_self _)
                        refine Exs.cons (Ex.set (Ev.call (by rfl) (EvL.cons (Ev.name (by rfl)) (EvL.cons (Ev.call (by rfl) (EvL.cons (Ev.name (by walk_at "look")) EvL.nil) (linear_of_call (t := x.1) (b := x.2) (by omega))) EvL.nil)) (zexact_call 200 (by walk_at "dep") ⟨hl, by simp, by simp, hres⟩)) (by rfl) (by intro _; rfl) (by walk_at "upd")) ?_
                        refine Exs.cons (Ex.aug (by walk_at "look") Ev.cInt (by rfl) (by rfl) (by walk_at "upd")) ?_
                        exact Exs.drop (by walk_at "sub")
                    · rename_i hF0
                      injection hs with hs
                      exact .done (Tr.andT (Tr.cmp (Ev.call (by rfl) (EvL.cons (Ev.name (by walk_at "look")) EvL.nil) (zdegree_call (vs := left.map .int) (by omega) rfl (by simp; omega))) Ev.cInt (cmpGt (by simp only [List.length_map]; omega))) (Tr.andF (Tr.cmp (Ev.call (by rfl) (EvL.cons (Ev.name (by walk_at "look")) (EvL.cons (Ev.name (by walk_at "look")) EvL.nil)) (value_sign_call (by walk_at "dep") ⟨by omega, hF⟩)) Ev.cInt (cmpEqF (fun q => hF0 (sgn0.mp q)))))) hs
                · rename_i h1
                  injection hs with hs
                  exact .done (Tr.andF (Tr.cmp (Ev.call (by rfl) (EvL.cons (Ev.name (by walk_at "look")) EvL.nil) (zdegree_call (vs := left.map .int) (by omega) rfl (by simp; omega))) Ev.cInt (cmpGtF (by simp only [List.length_map]; omega)))) hs
              · cases hs
          · rintro ⟨k, l, m⟩ e
            cases e
            dsimp only
            subst hx1 hx2
            by_cases h0 : 0 < m'
            · rw [if_pos h0]
              refine Exs.cons (Ex.ifT (Tr.cmp (Ev.name (by rfl)) Ev.cInt (cmpGt (by omega))) ?_) Exs.nil
              refine Exs.cons (Ex.append1 (Ev.name (by rfl)) (Ev.tuple (EvL.cons (Ev.name (by walk_at "look")) (EvL.cons (Ev.name (by walk_at "look")) EvL.nil))) (by simp; omega)) ?_
              rw [List.map_append]
              exact Exs.drop (by walk_at "sub")
            · rw [if_neg h0]
              refine Exs.cons (Ex.ifF (Tr.cmp (Ev.name (by rfl)) Ev.cInt (cmpGtF (by omega))) Exs.nil) ?_
              exact Exs.drop (by walk_at "sub")
        · cases hx
    · intro _
      exact Exs.stop (Ex.ret (Ev.call (by rfl) (EvL.cons (Ev.name (by walk_at "look")) EvL.nil) (sorted_roots_call (by walk_at "dep") (by rw [lstOf, cell_at]) hS)))
end
end
section
open PyProof.V
section
variable {C : Cx} {d : Nat} {σ : List Cell}
--KINDS whole_mul b=M row=Z
--KINDS whole_turned row=Z a=M
noncomputable abbrev matV (m : List (List Int)) : V := .lst (m.map fun r => zl r)
noncomputable def rowAt (m : List (List Int)) (k : Int) : List Int := m.getD k.toNat []
theorem Ev.itemM {sc ρ σ₁ σ₂ e i pos v} {m : List (List Int)} {k : Int} (h1 : Ev C d sc e ρ σ v σ₁) (h2 : Ev C d sc i ρ σ₁ (.int k) σ₂) (hl : lstOf σ₂ v = some (m.map fun r => zl r)) (hk : 0 ≤ k ∧ k.toNat < m.length ∧ m.length ≤ 1000000) (hs : SubOk i := by intro _ _; rfl) :
    Ev C d sc (.Subscript e i pos) ρ σ (zl (rowAt m k)) σ₂ := by
  refine Ev.item h1 h2 hl (by omega) (j := k.toNat) (by unfold idxOf; rw [if_neg (by omega)]) ?_ hs
  rw [List.getElem?_map, List.getElem?_eq_getElem hk.2.1]
  simp [rowAt, List.getD, List.getElem?_eq_getElem hk.2.1]
theorem rowAt_mem {m : List (List Int)} {i : Nat} (h : i < m.length) : rowAt m i ∈ m := by
  unfold rowAt
  rw [List.getD_eq_getElem?_getD, Int.toNat_natCast, List.getElem?_eq_getElem h]
  exact List.getElem_mem h
noncomputable def prods (row : List Int) (b : List (List Int)) (c : Nat) : List Int := (List.range b.length).map fun (i : Nat) => nth row i * nth (rowAt b i) c
noncomputable def mulP (a b : List (List Int)) : List (List Int) := a.map fun row => (List.range (rowAt b 0).length).map fun c => (prods row b c).sum
noncomputable def mulOk (a b : List (List Int)) : Bool := decide (0 < b.length) && decide (b.length ≤ 100) && decide (a.length ≤ 100) && b.all (fun r => decide ((rowAt b 0).length ≤ r.length) && decide (r.length ≤ 100)) &&
  a.all fun row => decide (b.length ≤ row.length) && decide (row.length ≤ 100) && row.all sm && (List.range (rowAt b 0).length).all fun c => sumOk 0 (prods row b c)
theorem plain_zl (r : List Int) : (zl r).plain = true := plains_ints r
theorem nth_mem {ns : List Int} {i : Nat} (h : i < ns.length) : nth ns i ∈ ns := by
  unfold nth
  rw [List.getD_eq_getElem?_getD, Int.toNat_natCast, List.getElem?_eq_getElem h]
  exact List.getElem_mem h
theorem whole_mul_call {a b : List (List Int)} (hd : 1 ≤ d) (ho : mulOk a b = true) : Call C d "whole_mul" [matV a, matV b] σ (matV (mulP a b)) σ := by
  simp only [mulOk, Bool.and_eq_true, decide_eq_true_eq, List.all_eq_true, sm_iff] at ho
  obtain ⟨⟨⟨⟨b0, b1⟩, a1⟩, hb⟩, ha⟩ := ho
  have hb0 := hb _ (rowAt_mem (m := b) (i := 0) b0)
  walk_at "def0"
  refine Exs.cons (Ex.set (v := .int (rowAt b 0).length) (Ev.iteT (Tr.cmp (Ev.lenL (Ev.name (by walk_at "look")) (by walk_at "lst") (by walk_at "side")) Ev.cInt (cmpGt (by simp only [List.length_map]; omega))) (Ev.to (Ev.lenL (Ev.itemM (m := b) (Ev.name (by rfl)) Ev.cInt (by rfl) ⟨by omega, b0, by omega⟩) (vs := (rowAt b 0).map .int) (by rfl) (by rw [List.length_map]; have := hb0.2; simp at this; omega)) (by rw [List.length_map]))) (by rfl) (by intro _; rfl) (by walk_at "upd")) ?_
  refine Exs.stop (Ex.ret (Ev.to (Ev.compL (fun r => zl r) (fun row => zl ((List.range (rowAt b 0).length).map fun c => (prods row b c).sum)) a (EvI.lst (Ev.name (by rfl)) (by rfl)) (by rfl) (by omega) (fun row hrow acc => ?_) (fun _ _ => plain_zl _)) (by simp [matV, mulP, List.map_map, Function.comp_def])))
  obtain ⟨⟨⟨r1, r2⟩, r3⟩, r4⟩ := ha row hrow
  show Ev _ _ _ _ [("b", matV b), ("width", .int (rowAt b 0).length), ("row", zl row)] _ _ _
  refine Ev.to (Ev.compR (n := (rowAt b 0).length) (fun c => .int (prods row b c).sum) (EvI.range1 (n := (rowAt b 0).length) (Ev.name (by rfl)) (by have := hb0.2; simp at this; omega)) (by have := hb0.2; simp at this; omega) (fun c hc acc' => ?_) (fun _ _ => rfl)) (by simp [zl, List.map_map, Function.comp_def])
  show Ev _ _ _ _ [("b", matV b), ("row", zl row), ("column", .int c)] _ _ _
  refine Ev.sum (ns := prods row b c) (Ev.compR (n := b.length) (fun i => .int (nth row i * nth (rowAt b i) c)) (EvI.range1 (n := b.length) (Ev.to (Ev.lenL (Ev.name (by rfl)) (vs := b.map fun r => zl r) (by rfl) (by rw [List.length_map]; omega)) (by rw [List.length_map])) (by omega)) (by omega) (fun i hi acc'' => ?_) (fun _ _ => rfl)) (by simp [lstOf, prods, List.map_map, Function.comp_def]) (r4 c (List.mem_range.mpr hc))
  show Ev _ _ _ _ [("b", matV b), ("row", zl row), ("column", .int c), ("at", .int i)] _ _ _
  have hbi := hb _ (rowAt_mem hi)
  have hsm := r3 _ (nth_mem (ns := row) (i := i) (by omega))
  refine Ev.mul (σ₁ := (((σ ++ [.lst acc]) ++ [.lst acc']) ++ [.lst acc''])) (Ev.itemZ (Ev.name (by rfl)) (Ev.name (by rfl)) (by rfl) (by omega)) (Ev.itemZ (Ev.itemM (Ev.name (by rfl)) (Ev.name (by rfl)) (by rfl) (by omega)) (Ev.name (by rfl)) (by rfl) (by omega)) hsm
end
end
section
open PyProof.V
section
variable {C : Cx} {d : Nat} {σ : List Cell}
--KINDS whole_turned row=Z a=M
--KINDS _law_mirrored rows=M row=Z
--KINDS _law_touch one=Z other=Z
noncomputable def turnedP (a : List (List Int)) (w : Nat) : List (List Int) := (List.range w).map fun (c : Nat) => a.map fun row => nth row c
theorem whole_turned_call {a : List (List Int)} {w : Nat} (hd : 1 ≤ d) (ho : a.length ≤ 100 ∧ w ≤ 100 ∧ ∀ row ∈ a, w ≤ row.length ∧ row.length ≤ 100) : Call C d "whole_turned" [matV a, .int w] σ (matV (turnedP a w)) σ := by
  obtain ⟨a1, w1, ha⟩ := ho
  walk_at "def0"
  refine Exs.stop (Ex.ret (Ev.to (Ev.compR (n := w) (fun c : Nat => zl (a.map fun row => nth row c)) (EvI.range1 (n := w) (Ev.name (by rfl)) (by omega)) (by omega) (fun c hc acc => ?_) (fun _ _ => plain_zl _)) (by simp [matV, turnedP, List.map_map, Function.comp_def])))
  show Ev _ _ _ _ [("a", matV a), ("column", .int c)] _ _ _
  refine Ev.to (Ev.compL (fun r => zl r) (fun row => .int (nth row c)) a (EvI.lst (Ev.name (by rfl)) (by rfl)) (by rfl) (by omega) (fun row hrow acc' => ?_) (fun _ _ => rfl)) (by simp [zl, List.map_map, Function.comp_def])
  have := ha row hrow
  show Ev _ _ _ _ [("column", .int c), ("row", zl row)] _ _ _
  exact Ev.itemZ (Ev.name (by rfl)) (Ev.name (by rfl)) (by rfl) (by omega)
noncomputable def mirRow (rows : List (List Int)) (i : Nat) : List Int := (List.range 4).map fun (c : Nat) => 2 * (rows.map fun row => nth row c).sum - 3 * nth (rowAt rows i) c
noncomputable def mirP (rows : List (List Int)) (i : Nat) : List (List Int) := rows.take i ++ [mirRow rows i] ++ rows.drop (i + 1)
theorem mirrored_call {rows : List (List Int)} {i : Nat} (hd : 1 ≤ d) (ho : rows.length ≤ 100 ∧ i < rows.length ∧ (∀ row ∈ rows, 4 ≤ row.length ∧ row.length ≤ 100) ∧ ∀ c : Nat, c < 4 → sumOk 0 (rows.map fun row => nth row c) = true) : Call C d "_law_mirrored" [matV rows, .int i] σ (matV (mirP rows i)) σ := by
  obtain ⟨a1, i1, ha, hs⟩ := ho
  walk_at "def0"
  refine Exs.cons (Ex.assignCompR (n := 4) (w := zl (mirRow rows i)) (fun c : Nat => .int (2 * (rows.map fun row => nth row c).sum - 3 * nth (rowAt rows i) c)) (EvI.range1 (n := 4) Ev.cInt (by decide)) (by decide) (fun c hc acc => ?_) (fun _ _ => rfl) (by simp [zl, mirRow, List.map_map, Function.comp_def]) (by walk_at "upd")) ?_
  · show Ev _ _ _ _ [("rows", matV rows), ("at", .int i), ("column", .int c)] _ _ _
    have hr := ha _ (rowAt_mem i1)
    refine Ev.sub (σ₁ := σ ++ [.lst acc]) (Ev.mul Ev.cInt (Ev.sum (ns := rows.map fun row => nth row c) (Ev.compL (fun r => zl r) (fun row => .int (nth row c)) rows (EvI.lst (Ev.name (by rfl)) (by rfl)) (by rfl) (by omega) (fun row hrow acc' => ?_) (fun _ _ => rfl)) (by simp [lstOf, List.map_map, Function.comp_def]) (hs c hc)) (by walk_at "side")) (Ev.mul Ev.cInt (Ev.itemZ (Ev.itemM (Ev.name (by rfl)) (Ev.name (by rfl)) (by rfl) (by omega)) (Ev.name (by rfl)) (by rfl) (by omega)) (by walk_at "side"))
    have := ha row hrow
    show Ev _ _ _ _ [("column", .int c), ("row", zl row)] _ _ _
    exact Ev.itemZ (Ev.name (by rfl)) (Ev.name (by rfl)) (by rfl) (by omega)
  · refine Exs.stop (Ex.ret (Ev.to (Ev.concat (Ev.concat (Ev.sliceTo (n := i) (vs := rows.map fun r => zl r) (Ev.name (by rfl)) (Ev.name (by rfl)) rfl (by rfl) (by simp; omega)) (Ev.list (EvL.cons (Ev.name (by rfl)) EvL.nil)) rfl rfl (by simp; omega)) (Ev.sliceFrom (n := i + 1) (vs := rows.map fun r => zl r) (Ev.name (by rfl)) (Ev.add (Ev.name (by rfl)) Ev.cInt) rfl (by rfl) (by simp; omega)) rfl rfl (by simp; omega)) ?_))
    simp [matV, mirP]
end
end
section
open PyProof.V
section
variable {C : Cx} {d : Nat} {σ : List Cell}
--KINDS _law_touch one=Z other=Z
noncomputable def lessM : List (List Int) := (List.range 4).map fun r => (List.range 4).map fun c => if r = c then 1 else -1
noncomputable def keepP (rows : List (List Int)) : List (List Int) := mulP (turnedP rows 4) (mulP lessM rows)
noncomputable def keepL : List (List Int) := [[0, -8, 0, 0], [-8, 0, 0, 0], [0, 0, 4, 0], [0, 0, 0, 4]]
noncomputable def rowsOk (rows : List (List Int)) : Bool := decide (rows.length = 4) && rows.all fun r => decide (r.length = 4)
noncomputable def keepOk (rows : List (List Int)) : Bool := rowsOk rows && mulOk lessM rows && mulOk (turnedP rows 4) (mulP lessM rows) && decide (keepP rows = keepL)
theorem keeps_call {rows : List (List Int)} (hd : 2 ≤ d) (ho : keepOk rows = true) : Call C d "_law_keeps" [matV rows] σ (.bool true) σ := by
  simp only [keepOk, rowsOk, Bool.and_eq_true, decide_eq_true_eq, List.all_eq_true] at ho
  obtain ⟨⟨⟨⟨h4, hr⟩, m1⟩, m2⟩, hk⟩ := ho
  walk_at "def0"
  refine Exs.cons (Ex.assignCompR (n := 4) (w := matV lessM) (fun r : Nat => zl ((List.range 4).map fun c => if r = c then 1 else -1)) (EvI.range1 (n := 4) Ev.cInt (by decide)) (by decide) (fun r hr acc => ?_) (fun _ _ => plain_zl _) (by rfl) (by walk_at "upd")) ?_
  · show Ev _ _ _ _ [("row", .int r)] _ _ _
    refine Ev.to (Ev.compR (n := 4) (fun c : Nat => .int (if r = c then 1 else -1)) (EvI.range1 (n := 4) Ev.cInt (by decide)) (by decide) (fun c hc acc' => ?_) (fun _ _ => rfl)) (by simp [zl, List.map_map, Function.comp_def])
    show Ev _ _ _ _ [("row", .int r), ("column", .int c)] _ _ _
    by_cases h : r = c
    · rw [if_pos h]
      exact Ev.iteT (Tr.cmp (Ev.name (by rfl)) (Ev.name (by rfl)) (cmpEq (by omega))) Ev.cInt
    · rw [if_neg h]
      exact Ev.iteF (Tr.cmp (Ev.name (by rfl)) (Ev.name (by rfl)) (cmpEqF (by omega))) (Ev.neg Ev.cInt)
  · refine Exs.cons (Ex.set (v := matV (keepP rows)) (Ev.call (by rfl) (EvL.cons (Ev.call (by rfl) (EvL.cons (Ev.name (by walk_at "look")) (EvL.cons Ev.cInt EvL.nil)) (whole_turned_call (w := 4) (by omega) ⟨by omega, by omega, fun row h => by have := hr row h; omega⟩)) (EvL.cons (Ev.call (by rfl) (EvL.cons (Ev.name (by walk_at "look")) (EvL.cons (Ev.name (by walk_at "look")) EvL.nil)) (whole_mul_call (by walk_at "dep") m1)) EvL.nil)) (whole_mul_call (by walk_at "dep") m2)) (by rfl) (by intro _; rfl) (by walk_at "upd")) ?_
    rw [hk]
    refine Exs.stop (Ex.ret (Ev.to (Ev.eqD (Ev.name (by rfl)) (Ev.list (EvL.cons (Ev.list (EvL.cons Ev.cInt (EvL.cons (Ev.neg Ev.cInt) (EvL.cons Ev.cInt (EvL.cons Ev.cInt EvL.nil)))) (by rfl)) (EvL.cons (Ev.list (EvL.cons (Ev.neg Ev.cInt) (EvL.cons Ev.cInt (EvL.cons Ev.cInt (EvL.cons Ev.cInt EvL.nil)))) (by rfl)) (EvL.cons (Ev.list (EvL.cons Ev.cInt (EvL.cons Ev.cInt (EvL.cons Ev.cInt (EvL.cons Ev.cInt EvL.nil)))) (by rfl)) (EvL.cons (Ev.list (EvL.cons Ev.cInt (EvL.cons Ev.cInt (EvL.cons Ev.cInt (EvL.cons Ev.cInt EvL.nil)))) (by rfl)) EvL.nil)))) (by rfl)) (by rfl) (by rfl) (by rfl) (by rfl)) (by rfl)))
noncomputable def pairOk (one other : List Int) : Bool :=
  let x := nth other 1 * nth one 2 - nth one 1 * nth other 2
  let y := nth other 1 * nth one 3 - nth one 1 * nth other 3
  sm (nth other 1) && sm (nth one 1) && sm x && sm y && sm (nth one 1 + nth other 1) && decide (x * x + y * y = (nth one 1 + nth other 1) ^ (2 : Int).toNat)
noncomputable def touchOk (rows : List (List Int)) : Bool := rowsOk rows && (List.range 4).all fun i => (rows.take i).all fun other => pairOk (rowAt rows i) other
theorem touch_call {rows : List (List Int)} (hd : 1 ≤ d) (ho : touchOk rows = true) : Call C d "_law_touch" [matV rows] σ (.bool true) σ := by
  simp only [touchOk, rowsOk, Bool.and_eq_true, decide_eq_true_eq, List.all_eq_true] at ho
  obtain ⟨⟨h4, hr⟩, ht⟩ := ho
  walk_at "def0"
  refine Exs.for (fun _ : Unit => [("rows", matV rows)]) (fun _ => σ) (fun src _ => ∃ i, src = .enm (matV rows) i ∧ i ≤ 4) (fun _ => True) (fun src => match src with | .enm _ i => 5 - i | _ => 0) () (EvI.enum (Ev.name (by rfl)) (by rfl)) (by walk_at "sub") rfl ⟨0, rfl, by omega⟩ ?_ ?_
  · rintro src ⟨⟩ ⟨i, e, hi⟩
    subst e
    by_cases h : i < 4
    · have hi' : i < rows.length := by omega
      have hrow : (rows.map fun r => zl r)[i]? = some (zl (rowAt rows i)) := by
        rw [List.getElem?_map, List.getElem?_eq_getElem hi']; simp [rowAt, List.getD, List.getElem?_eq_getElem hi']
      have hone := hr _ (rowAt_mem hi')
      refine .turn () (v := .tup [.int i, zl (rowAt rows i)]) (src' := .enm (matV rows) (i + 1)) (by simp only [Src.next, lstOf, hrow]) ⟨_, _, _, rfl⟩ (As.tuple (AsL.cons (As.nm (by rfl) (by walk_at "upd")) (AsL.cons (As.nm (by rfl) (by walk_at "upd")) AsL.nil))) ?_ ⟨i + 1, rfl, by omega⟩ (by show 5 - (i + 1) < 5 - i; omega)
      refine Exs.fold (fun r => zl r) (rows.take i) (fun _ : Unit => [("rows", matV rows), ("at", .int i), ("one", zl (rowAt rows i))]) (fun _ => σ) (fun _ => True) (fun _ _ => some ()) () () (EvI.lst (Ev.sliceTo (n := i) (vs := rows.map fun r => zl r) (Ev.name (by rfl)) (Ev.name (by rfl)) rfl (by rfl) (by simp; omega)) (by rfl)) (by walk_at "sub") rfl (fun _ _ => gives_lst (by simp [lstOf]) fun _ _ _ _ => .inl ⟨_, _, rfl⟩) trivial ?_ (by rfl) ?_ ?_
      · generalize rows.take i = l
        induction l with
        | nil => rfl
        | cons a l ih => exact ih
      · intro other hm _ _ _ _
        refine ⟨trivial, ?_⟩
        have hp := ht i (List.mem_range.mpr h) other hm
        have ho := hr _ (List.mem_of_mem_take hm)
        simp only [pairOk, Bool.and_eq_true, decide_eq_true_eq, sm_iff] at hp
        obtain ⟨⟨⟨⟨⟨p1, p2⟩, p3⟩, p4⟩, p5⟩, p6⟩ := hp
        refine Exs.cons (Ex.swap2 (Ev.tuple (EvL.cons (Ev.sub (Ev.mul (Ev.itemZ (Ev.name (by walk_at "look")) Ev.cInt (by walk_at "lst") (by walk_at "side")) (Ev.itemZ (Ev.name (by walk_at "look")) Ev.cInt (by walk_at "lst") (by walk_at "side")) (by walk_at "side")) (Ev.mul (Ev.itemZ (Ev.name (by walk_at "look")) Ev.cInt (by walk_at "lst") (by walk_at "side")) (Ev.itemZ (Ev.name (by walk_at "look")) Ev.cInt (by walk_at "lst") (by walk_at "side")) (by walk_at "side"))) (EvL.cons (Ev.sub (Ev.mul (Ev.itemZ (Ev.name (by walk_at "look")) Ev.cInt (by walk_at "lst") (by walk_at "side")) (Ev.itemZ (Ev.name (by walk_at "look")) Ev.cInt (by walk_at "lst") (by walk_at "side")) (by walk_at "side")) (Ev.mul (Ev.itemZ (Ev.name (by walk_at "look")) Ev.cInt (by walk_at "lst") (by walk_at "side")) (Ev.itemZ (Ev.name (by walk_at "look")) Ev.cInt (by walk_at "lst") (by walk_at "side")) (by walk_at "side"))) EvL.nil)) (by rfl)) (by rfl) (by intro e h; cases e; cases h; rfl) (by intro _; rfl) (by walk_at "upd") (by walk_at "upd")) ?_
        refine Exs.cons (Ex.ifF (Tr.cmp (Ev.add (Ev.mul (Ev.name (by walk_at "look")) (Ev.name (by walk_at "look")) (by walk_at "side")) (Ev.mul (Ev.name (by walk_at "look")) (Ev.name (by walk_at "look")) (by walk_at "side"))) (Ev.pow (Ev.add (Ev.itemZ (Ev.name (by walk_at "look")) Ev.cInt (by walk_at "lst") (by walk_at "side")) (Ev.itemZ (Ev.name (by walk_at "look")) Ev.cInt (by walk_at "lst") (by walk_at "side"))) Ev.cInt (by walk_at "side") (by walk_at "side") (by walk_at "side")) (cmpNeF p6)) Exs.nil) ?_
        exact Exs.drop (by walk_at "sub")
      · intro _; exact Exs.drop (by walk_at "sub")
    · have e : i = 4 := by omega
      subst e
      refine .done ?_ trivial
      have : (rows.map fun r => zl r)[4]? = none := by rw [List.getElem?_eq_none]; simp; omega
      simp only [Src.over, lstOf, this]
  · intro _ _
    exact Exs.stop (Ex.ret Ev.cBool)
end
end
section
open PyProof.V
section
variable {C : Cx} {d : Nat} {σ : List Cell}
noncomputable def ins (a : Int) : List Int → List Int
  | [] => [a]
  | b :: r => if a ≤ b then a :: b :: r else b :: ins a r
noncomputable def isort : List Int → List Int
  | [] => []
  | a :: r => ins a (isort r)
theorem ins_perm (a : Int) : ∀ l, (ins a l).Perm (a :: l)
  | [] => .refl _
  | b :: r => by
    unfold ins; split
    · exact .refl _
    · exact ((ins_perm a r).cons b).trans (.swap _ _ _)
theorem isort_perm : ∀ l, (isort l).Perm l
  | [] => .refl _
  | a :: r => (ins_perm a _).trans ((isort_perm r).cons a)
theorem ins_sorted (a : Int) : ∀ {l : List Int}, l.Pairwise (· ≤ ·) → (ins a l).Pairwise (· ≤ ·)
  | [], _ => by simp [ins]
  | b :: r, h => by
    unfold ins
    rw [List.pairwise_cons] at h
    split
    · rename_i q
      refine List.pairwise_cons.mpr ⟨fun x hx => ?_, List.pairwise_cons.mpr h⟩
      rcases List.mem_cons.mp hx with e | m
      · rw [e]; exact q
      · exact Int.le_trans q (h.1 x m)
    · rename_i q
      refine List.pairwise_cons.mpr ⟨fun x hx => ?_, ins_sorted a h.2⟩
      rcases List.mem_cons.mp ((ins_perm a r).mem_iff.mp hx) with e | m
      · rw [e]; omega
      · exact h.1 x m
theorem isort_sorted : ∀ l, (isort l).Pairwise (· ≤ ·)
  | [] => .nil
  | a :: r => ins_sorted a (isort_sorted r)
theorem Ev.isort {sc ρ σ₁ v p pos e} {ns : List Int} (h : Ev C d sc e ρ σ v σ₁) (hl : lstOf σ₁ v = some (ns.map V.int)) (hn : ns.length < 64)
    (hk : Gi sc "sorted" := by rfl) (hs : NoStar e := by intro _ _; rfl) (hc : CallEq "sorted" p pos [e] := by intro _; rfl) : Ev C d sc ((Expr.Name "sorted" p).Call [e] [] pos) ρ σ (zl (Mine.isort ns)) σ₁ :=
  Ev.sorted h hl hn (isort_perm ns) (isort_sorted ns) hk hs hc
noncomputable def leastO' : Nat → List Int → Option (List Int)
  | 0, _ => none
  | k + 1, f => if f.length = 4 ∧ sumOk 0 (f.take 3) = true then
      (if 2 * (f.take 3).sum - nth f 3 < nth f 3 then leastO' k (isort (f.take 3 ++ [2 * (f.take 3).sum - nth f 3])) else some f)
    else none
theorem least_call {bs res : List Int} (hd : 1 ≤ d) (hl : bs.length = 4) (hr : leastO' 60 (isort bs) = some res) : Call C d "_law_least" [zl bs] σ (zl res) σ := by
  walk_at "def0"
  refine Exs.cons (Ex.set (Ev.isort (ns := bs) (Ev.name (by rfl)) (by rfl) (by omega)) (by rfl) (by intro _; rfl) (by walk_at "upd")) ?_
  refine Exs.for (fun f : List Int => [("bends", zl bs), ("found", zl f)]) (fun _ => σ) (fun src f => ∃ a n, src = .rng a n ∧ leastO' n f = some res) (fun _ => False) (fun src => match src with | .rng _ n => n | _ => 0) (isort bs) (EvI.range1 (n := 60) Ev.cInt (by decide)) (by walk_at "sub") rfl ⟨0, 60, rfl, hr⟩ ?_ (fun _ h => h.elim)
  rintro src f ⟨a, n, e, hr⟩
  subst e
  cases n with
  | zero => cases hr
  | succ n =>
    unfold leastO' at hr
    split at hr
    · rename_i hg
      obtain ⟨h4, hs⟩ := hg
      have h3 : nth f 3 = nth f (3 : Int) := rfl
      have htake : (f.take 3).length = 3 := by rw [List.length_take]; omega
      by_cases h : 2 * (f.take 3).sum - nth f 3 < nth f 3
      · rw [if_pos h] at hr
        refine .turn (isort (f.take 3 ++ [2 * (f.take 3).sum - nth f 3])) (src' := .rng (a + 1) n) rfl ⟨_, _, rfl⟩ (As.nm (by rfl) (by walk_at "upd")) ?_ ⟨a + 1, n, rfl, hr⟩ (Nat.lt_succ_self _)
        refine Exs.cons (Ex.set (v := .int (2 * (f.take 3).sum - nth f 3)) (Ev.sub (Ev.mul Ev.cInt (Ev.sum (ns := f.take 3) (Ev.sliceTo (n := 3) (vs := f.map .int) (Ev.name (by rfl)) Ev.cInt (by rfl) (by rfl) (by simp; omega)) (by simp [lstOf, List.map_take]) hs) (by walk_at "side")) (Ev.itemZ (Ev.name (by rfl)) Ev.cInt (by rfl) (by simp; omega))) (by rfl) (by intro _; rfl) (by walk_at "upd")) ?_
        refine Exs.cons (Ex.ifF (Tr.cmp (Ev.name (by rfl)) (Ev.itemZ (ns := f) (Ev.name (by rfl)) Ev.cInt (by rfl) (by simp; omega)) (cmpGeF (by omega))) Exs.nil) ?_
        refine Exs.cons (Ex.set (Ev.isort (ns := f.take 3 ++ [2 * (f.take 3).sum - nth f 3]) (Ev.concat (Ev.sliceTo (n := 3) (vs := f.map .int) (Ev.name (by rfl)) Ev.cInt (by rfl) (by rfl) (by simp; omega)) (Ev.list (EvL.cons (Ev.name (by rfl)) EvL.nil)) rfl rfl (by simp; omega)) (by simp [lstOf, List.map_take]) (by simp; omega)) (by rfl) (by intro _; rfl) (by walk_at "upd")) ?_
        exact Exs.drop (by walk_at "sub")
      · rw [if_neg h] at hr
        injection hr with hr
        subst hr
        refine .ret (src' := .rng (a + 1) n) rfl ⟨_, _, rfl⟩ (As.nm (by rfl) (by walk_at "upd")) ?_ rfl
        refine Exs.cons (Ex.set (v := .int (2 * (f.take 3).sum - nth f 3)) (Ev.sub (Ev.mul Ev.cInt (Ev.sum (ns := f.take 3) (Ev.sliceTo (n := 3) (vs := f.map .int) (Ev.name (by rfl)) Ev.cInt (by rfl) (by rfl) (by simp; omega)) (by simp [lstOf, List.map_take]) hs) (by walk_at "side")) (Ev.itemZ (Ev.name (by rfl)) Ev.cInt (by rfl) (by simp; omega))) (by rfl) (by intro _; rfl) (by walk_at "upd")) ?_
        refine Exs.stop (Ex.ifT (Tr.cmp (Ev.name (by rfl)) (Ev.itemZ (ns := f) (Ev.name (by rfl)) Ev.cInt (by rfl) (by simp; omega)) (cmpGe (by omega))) (Exs.stop (Ex.ret (Ev.name (by rfl)))))
    · cases hr
noncomputable def tabP : List Nat := [0, 1, 1, 0, 1, 3, 0, 0]
noncomputable def drawP (ns : List Int) (k many : Nat) : Nat := if k < ns.length then (nth ns k).natAbs % many else tabP.getD (k % 8) 0 % many
noncomputable abbrev poolC (ns : List Int) (k : Nat) : List Cell := [.lst [zl ns, .int k]]
theorem draw_call {ns : List Int} {k many : Nat} (hd : 1 ≤ d) (ho : 0 < many ∧ ns.length ≤ 100 ∧ k ≤ 1000) : Call C d "_law_draw" [.ref 0, .int many] (poolC ns k) (.int (drawP ns k many)) (poolC ns (k + 1)) := by
  obtain ⟨hm, hn, hk⟩ := ho
  walk_at "def0"
  refine Exs.cons (Ex.set (v := .int k) (Ev.item (vs := [zl ns, .int k]) (Ev.name (by rfl)) Ev.cInt (by rfl) (by decide) (by rfl) (by rfl)) (by rfl) (by intro _; rfl) (by walk_at "upd")) ?_
  refine Exs.cons (Ex.setItem (j := 1) (vs := [zl ns, .int k]) (Ev.add (Ev.name (by rfl)) Ev.cInt) (Ev.name (by rfl)) Ev.cInt (by rfl) (by rfl) (by simp)) ?_
  show Exs _ _ _ _ _ (poolC ns (k + 1)) _
  unfold drawP
  by_cases h : k < ns.length
  · rw [if_pos h]
    refine Exs.stop (Ex.ifT (Tr.cmp (Ev.name (by rfl)) (Ev.to (Ev.lenL (Ev.item (j := 0) (vs := [zl ns, .int (k + 1 : Nat)]) (Ev.name (by rfl)) Ev.cInt (by rfl) (by decide) (by rfl) (by rfl)) (vs := ns.map .int) (by rfl) (by simp; omega)) (by rw [List.length_map])) (cmpLt (by omega))) (Exs.stop (Ex.ret (Ev.to (Ev.mod (Ev.abs (a := nth ns k) (Ev.itemZ (Ev.item (j := 0) (vs := [zl ns, .int (k + 1 : Nat)]) (Ev.name (by rfl)) Ev.cInt (by rfl) (by decide) (by rfl) (by rfl)) (Ev.name (by rfl)) (by rfl) (by omega))) (Ev.name (by rfl)) (by omega)) (by rw [fmod_nat])))))
  · rw [if_neg h]
    refine Exs.cons (Ex.ifF (Tr.cmp (Ev.name (by rfl)) (Ev.to (Ev.lenL (Ev.item (j := 0) (vs := [zl ns, .int (k + 1 : Nat)]) (Ev.name (by rfl)) Ev.cInt (by rfl) (by decide) (by rfl) (by rfl)) (vs := ns.map .int) (by rfl) (by simp; omega)) (by rw [List.length_map])) (cmpLtF (by omega))) Exs.nil) ?_
    have ht : ∀ j < 8, seqIndex? (j : Nat) 8 = some j ∧ ([.int 0, .int 1, .int 1, .int 0, .int 1, .int 3, .int 0, .int 0] : List V)[j]? = some (.int (tabP.getD j 0 : Nat)) := by
      intro j hj
      have : j = 0 ∨ j = 1 ∨ j = 2 ∨ j = 3 ∨ j = 4 ∨ j = 5 ∨ j = 6 ∨ j = 7 := by omega
      rcases this with rfl | rfl | rfl | rfl | rfl | rfl | rfl | rfl <;> exact ⟨rfl, rfl⟩
    obtain ⟨t1, t2⟩ := ht (k % 8) (by omega)
    have hk8 : Int.fmod (k : Int) 8 = ((k % 8 : Nat) : Int) := fmod_nat k 8
    refine Exs.stop (Ex.ret (Ev.to (Ev.mod (Ev.itemT (j := k % 8) (Ev.tuple (EvL.cons Ev.cInt (EvL.cons Ev.cInt (EvL.cons Ev.cInt (EvL.cons Ev.cInt (EvL.cons Ev.cInt (EvL.cons Ev.cInt (EvL.cons Ev.cInt (EvL.cons Ev.cInt EvL.nil)))))))) (by rfl)) (Ev.to (Ev.mod (Ev.name (by rfl)) Ev.cInt (by decide)) (by rw [hk8])) (by omega) t1 t2) (Ev.name (by rfl)) (by omega)) (by rw [fmod_nat])))
end
end
section
open PyProof.V
section
variable {C : Cx} {d : Nat} {σ : List Cell}
--KINDS _law_begin one=Z
noncomputable def rows0 (typ : Nat) : List (List Int) := if typ = 0 then [[1, -1, 0, 0], [0, 2, 1, 0], [0, 2, -1, 0], [1, 3, 0, 2]] else [[2, 0, 0, 1], [2, 0, 0, -1], [-1, 1, 0, 0], [3, 1, 2, 0]]
noncomputable def startRow (right up : Int) (t : Nat) (row : List Int) : List Int :=
  let far := nth row 0 + 2 * (right * nth row 2 + up * nth row 3) + nth row 1 * (right * right + up * up)
  if t = 1 then [nth row 1, far, nth row 2 + right * nth row 1, nth row 3 + up * nth row 1] else [far, nth row 1, nth row 2 + right * nth row 1, nth row 3 + up * nth row 1]
noncomputable def startP (typ : Nat) (right up : Int) (t : Nat) : List (List Int) := (rows0 typ).map (startRow right up t)
theorem Call.iG {sc : Scope} {ρ σ₁ v₁} {f : Str} {pa : Arguments} {body : List Stmt} {args : List V} {σ' v} (h0 : 0 < d) (hd : theDefIn f PySem.Challenge.pw_xm0157_01.main.body = some ⟨pa, body, sc⟩)
    (hbind : ∀ pm cd doc vals, vals.length = args.length → bindArgs (Calls.docDef f pa body sc pm cd doc) ⟨vals, []⟩ = pure ((pa.args.map (·.arg)).zip vals))
    (hvar : (pa.args.map (·.arg)).all (isVar sc) = true) (hnd : (pa.args.map (·.arg)).Nodup) (hlen : pa.args.length = args.length)
    (hk : sc.kind = .function) (hco : sc.isCoroutine = false) (hgen : sc.isGenerator = false) (hr : (pa.args.map (·.arg)).zip args = ρ) (hb : Exs C (d - 1) sc body ρ σ (.ret v₁ σ₁)) (hf : Frz σ.length σ₁ v₁ v) (hc : FrzC σ.length σ₁ (σ₁.take σ.length) σ') : Call C d f args σ v σ' := by
  subst hr
  obtain ⟨e, rfl⟩ : ∃ e, d = e + 1 := ⟨d - 1, by omega⟩
  exact Call.intro hd hb hf hc hbind hvar hnd hlen hk hco hgen
theorem rows0_ok (typ : Nat) : (rows0 typ).length = 4 ∧ ∀ r ∈ rows0 typ, ∃ a b x y, r = [a, b, x, y] ∧ Sm b := by
  unfold rows0
  split
  · refine ⟨rfl, fun r h => ?_⟩
    simp only [List.mem_cons, List.not_mem_nil, or_false] at h
    rcases h with rfl | rfl | rfl | rfl <;> exact ⟨_, _, _, _, rfl, by unfold Sm; decide⟩
  · refine ⟨rfl, fun r h => ?_⟩
    simp only [List.mem_cons, List.not_mem_nil, or_false] at h
    rcases h with rfl | rfl | rfl | rfl <;> exact ⟨_, _, _, _, rfl, by unfold Sm; decide⟩
theorem begin_call {ns : List Int} {k typ r u t : Nat} (hd : 2 ≤ d) (hn : ns.length ≤ 100 ∧ k ≤ 900) (e1 : drawP ns k 2 = typ) (e2 : drawP ns (k + 1) 3 = r) (e3 : drawP ns (k + 2) 3 = u) (e4 : drawP ns (k + 3) 2 = t) (hr : r < 3 ∧ u < 3) :
    Call C d "_law_begin" [.ref 0] (poolC ns k) (.tup [matV (startP typ (r - 1) (u - 1) t), .int t]) (poolC ns (k + 4)) := by
  obtain ⟨hn, hk⟩ := hn
  obtain ⟨hr, hu⟩ := hr
  have c1 : ∀ {d}, 1 ≤ d → Call C d "_law_draw" [.ref 0, .int 2] (poolC ns k) (.int typ) (poolC ns (k + 1)) := fun h => e1 ▸ draw_call (many := 2) h ⟨by decide, hn, by omega⟩
  have c2 : ∀ {d}, 1 ≤ d → Call C d "_law_draw" [.ref 0, .int 3] (poolC ns (k + 1)) (.int r) (poolC ns (k + 2)) := fun h => e2 ▸ draw_call (many := 3) h ⟨by decide, hn, by omega⟩
  have c3 : ∀ {d}, 1 ≤ d → Call C d "_law_draw" [.ref 0, .int 3] (poolC ns (k + 2)) (.int u) (poolC ns (k + 3)) := fun h => e3 ▸ draw_call (many := 3) h ⟨by decide, hn, by omega⟩
  have c4 : ∀ {d}, 1 ≤ d → Call C d "_law_draw" [.ref 0, .int 2] (poolC ns (k + 3)) (.int t) (poolC ns (k + 4)) := fun h => e4 ▸ draw_call (many := 2) h ⟨by decide, hn, by omega⟩
  refine Call.iG (v₁ := .tup [.ref 1, .int t]) (σ₁ := poolC ns (k + 4) ++ [.lst ((startP typ (r - 1) (u - 1) t).map fun r => zl r)]) (by omega) (by rfl) (by walk_at "bind") (by rfl) (by decide +kernel) (by rfl) (by rfl) (by rfl) (by rfl) (by simp only [List.map_cons, List.map_nil, List.zip_cons_cons, List.zip_nil_left]; rfl) ?_
    (.tup (.cons (.new (Nat.le_refl _) (by rfl) (FrzL.plain (plains_map fun _ _ => plain_zl _))) (.cons (.int _) .nil))) (.lst (FrzL.plain (by show ((zl ns).plain && _) = true; rw [plain_zl]; rfl)) .nil)
  refine Exs.cons (ρ₁ := [("pool", .ref 0), ("rows", matV (rows0 typ))]) (σ₁ := poolC ns (k + 1)) ?_ ?_
  · by_cases h : typ = 0
    · unfold rows0
      rw [if_pos h]
      refine Ex.ifT (Tr.cmp (Ev.call (by rfl) (EvL.cons (Ev.name (by walk_at "look")) (EvL.cons Ev.cInt EvL.nil)) (c1 (by walk_at "dep"))) Ev.cInt (cmpEq (by omega))) ?_
      refine Exs.cons (Ex.set (Ev.to (Ev.list (EvL.cons (Ev.list (EvL.cons Ev.cInt (EvL.cons (Ev.neg Ev.cInt) (EvL.cons Ev.cInt (EvL.cons Ev.cInt EvL.nil)))) (by rfl)) (EvL.cons (Ev.list (EvL.cons Ev.cInt (EvL.cons Ev.cInt (EvL.cons Ev.cInt (EvL.cons Ev.cInt EvL.nil)))) (by rfl)) (EvL.cons (Ev.list (EvL.cons Ev.cInt (EvL.cons Ev.cInt (EvL.cons (Ev.neg Ev.cInt) (EvL.cons Ev.cInt EvL.nil)))) (by rfl)) (EvL.cons (Ev.list (EvL.cons Ev.cInt (EvL.cons Ev.cInt (EvL.cons Ev.cInt (EvL.cons Ev.cInt EvL.nil)))) (by rfl)) EvL.nil)))) (by rfl)) (by rfl)) (by rfl) (by intro _; rfl) (by walk_at "upd")) Exs.nil
    · unfold rows0
      rw [if_neg h]
      refine Ex.ifF (Tr.cmp (Ev.call (by rfl) (EvL.cons (Ev.name (by walk_at "look")) (EvL.cons Ev.cInt EvL.nil)) (c1 (by walk_at "dep"))) Ev.cInt (cmpEqF (by omega))) ?_
      refine Exs.cons (Ex.set (Ev.to (Ev.list (EvL.cons (Ev.list (EvL.cons Ev.cInt (EvL.cons Ev.cInt (EvL.cons Ev.cInt (EvL.cons Ev.cInt EvL.nil)))) (by rfl)) (EvL.cons (Ev.list (EvL.cons Ev.cInt (EvL.cons Ev.cInt (EvL.cons Ev.cInt (EvL.cons (Ev.neg Ev.cInt) EvL.nil)))) (by rfl)) (EvL.cons (Ev.list (EvL.cons (Ev.neg Ev.cInt) (EvL.cons Ev.cInt (EvL.cons Ev.cInt (EvL.cons Ev.cInt EvL.nil)))) (by rfl)) (EvL.cons (Ev.list (EvL.cons Ev.cInt (EvL.cons Ev.cInt (EvL.cons Ev.cInt (EvL.cons Ev.cInt EvL.nil)))) (by rfl)) EvL.nil)))) (by rfl)) (by rfl)) (by rfl) (by intro _; rfl) (by walk_at "upd")) Exs.nil
  obtain ⟨h4, hrow⟩ := rows0_ok typ
  refine Exs.cons (Ex.swap3 (Ev.tuple (EvL.cons (Ev.sub (Ev.call (by rfl) (EvL.cons (Ev.name (by walk_at "look")) (EvL.cons Ev.cInt EvL.nil)) (c2 (by walk_at "dep"))) Ev.cInt) (EvL.cons (Ev.sub (Ev.call (by rfl) (EvL.cons (Ev.name (by walk_at "look")) (EvL.cons Ev.cInt EvL.nil)) (c3 (by walk_at "dep"))) Ev.cInt) (EvL.cons (Ev.call (by rfl) (EvL.cons (Ev.name (by walk_at "look")) (EvL.cons Ev.cInt EvL.nil)) (c4 (by walk_at "dep"))) EvL.nil)))) (by rfl) (by intro e h; cases e; cases h; rfl) (by intro _; rfl) (by walk_at "upd") (by walk_at "upd") (by walk_at "upd")) ?_
  refine Exs.cons (Ex.set (Ev.listCell EvL.nil) (by rfl) (by intro _; rfl) (by walk_at "upd")) ?_
  have hsr : Sm ((r : Int) - 1) := by unfold Sm; omega
  have hsu : Sm ((u : Int) - 1) := by unfold Sm; omega
  refine Exs.for (fun _ : Nat => [("pool", .ref 0), ("rows", matV (rows0 typ)), ("right", .int (r - 1)), ("up", .int (u - 1)), ("turned", .int t), ("found", .ref 1)]) (fun i => poolC ns (k + 4) ++ [.lst (((rows0 typ).take i).map fun row => zl (startRow (r - 1) (u - 1) t row))]) (fun src i => src = .lst (matV (rows0 typ)) i ∧ i ≤ 4) (fun i => i = 4) (fun src => match src with | .lst _ i => 5 - i | _ => 0) 0 (EvI.lst (Ev.name (by rfl)) (by rfl)) (by walk_at "sub") (by rfl) ⟨rfl, by omega⟩ ?_ ?_
  · rintro src i ⟨e, hi⟩
    subst e
    by_cases h : i < 4
    · have hi' : i < (rows0 typ).length := by omega
      obtain ⟨a, b, x, y, er, hsb⟩ := hrow _ (List.getElem_mem hi')
      have hget : ((rows0 typ).map fun r => zl r)[i]? = some (zl [a, b, x, y]) := by
        rw [List.getElem?_map, List.getElem?_eq_getElem hi', er]; rfl
      have htake : ((rows0 typ).take (i + 1)).map (fun row => zl (startRow (r - 1) (u - 1) t row)) = ((rows0 typ).take i).map (fun row => zl (startRow (r - 1) (u - 1) t row)) ++ [zl (startRow (r - 1) (u - 1) t [a, b, x, y])] := by
        rw [List.take_succ_eq_append_getElem hi', List.map_append, er]; rfl
      refine .turn (i + 1) (v := zl [a, b, x, y]) (src' := .lst (matV (rows0 typ)) (i + 1)) (by simp only [Src.next, lstOf, hget]) (.inr ⟨⟨_, _, _, rfl⟩, .inr ⟨_, rfl⟩⟩) (As.tupleL (AsL.cons (As.nm (by rfl) (by walk_at "upd")) (AsL.cons (As.nm (by rfl) (by walk_at "upd")) (AsL.cons (As.nm (by rfl) (by walk_at "upd")) (AsL.cons (As.nm (by rfl) (by walk_at "upd")) AsL.nil))))) ?_ ⟨rfl, by omega⟩ (by show 5 - (i + 1) < 5 - i; omega)
      rw [htake]
      refine Exs.cons (Ex.set (Ev.add (Ev.add (Ev.name (by walk_at "look")) (Ev.mul Ev.cInt (Ev.add (Ev.mul (Ev.name (by walk_at "look")) (Ev.name (by walk_at "look")) (by walk_at "side")) (Ev.mul (Ev.name (by walk_at "look")) (Ev.name (by walk_at "look")) (by walk_at "side"))) (by walk_at "side"))) (Ev.mul (Ev.name (by walk_at "look")) (Ev.add (Ev.mul (Ev.name (by walk_at "look")) (Ev.name (by walk_at "look")) (by walk_at "side")) (Ev.mul (Ev.name (by walk_at "look")) (Ev.name (by walk_at "look")) (by walk_at "side"))) (by walk_at "side"))) (by rfl) (by intro _; rfl) (by walk_at "upd")) ?_
      refine Exs.cons (Ex.set (Ev.list (EvL.cons (Ev.name (by walk_at "look")) (EvL.cons (Ev.name (by walk_at "look")) (EvL.cons (Ev.add (Ev.name (by walk_at "look")) (Ev.mul (Ev.name (by walk_at "look")) (Ev.name (by walk_at "look")) (by walk_at "side"))) (EvL.cons (Ev.add (Ev.name (by walk_at "look")) (Ev.mul (Ev.name (by walk_at "look")) (Ev.name (by walk_at "look")) (by walk_at "side"))) EvL.nil)))) (by rfl)) (by rfl) (by intro _; rfl) (by walk_at "upd")) ?_
      by_cases ht : t = 1
      · refine Exs.cons (Ex.append1 (σ := poolC ns (k + 4)) (v := zl (startRow (r - 1) (u - 1) t [a, b, x, y])) (Ev.name (by rfl)) (Ev.to (Ev.iteT (Tr.cmp (Ev.name (by rfl)) Ev.cInt (cmpEq (by omega))) (Ev.concat (Ev.list (EvL.cons (Ev.name (by walk_at "look")) (EvL.cons (Ev.name (by walk_at "look")) EvL.nil)) (by rfl)) (Ev.sliceFrom (n := 2) (Ev.name (by rfl)) Ev.cInt (by rfl) (by rfl) (by simp)) (by rfl) (by rfl) (by simp))) (by unfold startRow; rw [if_pos ht]; rfl)) (by simp; omega)) ?_
        exact Exs.drop (by walk_at "sub")
      · refine Exs.cons (Ex.append1 (σ := poolC ns (k + 4)) (v := zl (startRow (r - 1) (u - 1) t [a, b, x, y])) (Ev.name (by rfl)) (Ev.to (Ev.iteF (Tr.cmp (Ev.name (by rfl)) Ev.cInt (cmpEqF (by omega))) (Ev.name (by walk_at "look"))) (by unfold startRow; rw [if_neg ht]; rfl)) (by simp; omega)) ?_
        exact Exs.drop (by walk_at "sub")
    · have e : i = 4 := by omega
      subst e
      refine .done ?_ rfl
      have : ((rows0 typ).map fun r => zl r)[4]? = none := by rw [List.getElem?_eq_none]; simp; omega
      simp only [Src.over, lstOf, this]
  · intro i e
    subst e
    rw [List.take_of_length_le (by omega)]
    have e : ((startP typ (r - 1) (u - 1) t).map fun r => zl r) = (rows0 typ).map fun row => zl (startRow (r - 1) (u - 1) t row) := by simp [startP, List.map_map, Function.comp_def]
    rw [e]
    exact Exs.stop (Ex.ret (Ev.tuple (EvL.cons (Ev.name (by walk_at "look")) (EvL.cons (Ev.name (by walk_at "look")) EvL.nil)) (by rfl)))
end
end
section
open PyProof.V
section
variable {C : Cx} {d : Nat} {sc : Scope} {ρ : List (Str × V)} {σ : List Cell}
noncomputable def rowC (r : List Int) : Cell := .lst (r.map .int)
noncomputable def detS (σ : List Cell) (os : List Nat) (rows : List (List Int)) : List Cell := σ ++ (.lst (os.map fun i => V.ref (σ.length + 1 + i)) :: rows.map rowC)
variable {os : List Nat} {rows : List (List Int)}
theorem detS_at : (detS σ os rows)[σ.length]? = some (.lst (os.map fun i => V.ref (σ.length + 1 + i))) := by
  unfold detS; rw [List.getElem?_append_right (Nat.le_refl _), Nat.sub_self]; rfl
theorem detS_row {i : Nat} (h : i < rows.length) : (detS σ os rows)[σ.length + 1 + i]? = some (.lst ((rows.getD i []).map .int)) := by
  unfold detS
  rw [List.getElem?_append_right (by omega), show σ.length + 1 + i - σ.length = i + 1 by omega, List.getElem?_cons_succ, List.getElem?_map, List.getElem?_eq_getElem h]
  simp [rowC, List.getD, List.getElem?_eq_getElem h]
theorem detS_set {i : Nat} {r : List Int} : (detS σ os rows).set (σ.length + 1 + i) (.lst (r.map .int)) = detS σ os (rows.set i r) := by
  unfold detS
  rw [List.set_append_right _ _ (by omega), show σ.length + 1 + i - σ.length = i + 1 by omega, List.set_cons_succ, List.map_set]; rfl
theorem detS_setO {os' : List Nat} : (detS σ os rows).set σ.length (.lst (os'.map fun i => V.ref (σ.length + 1 + i))) = detS σ os' rows := by
  unfold detS; rw [List.set_append_right _ _ (Nat.le_refl _), Nat.sub_self]; rfl
noncomputable def rowOf (os : List Nat) (rows : List (List Int)) (r : Nat) : List Int := rows.getD (os.getD r 0) []
noncomputable def cellOf (os : List Nat) (rows : List (List Int)) (r c : Nat) : Int := nth (rowOf os rows r) c
noncomputable def inB (os : List Nat) (rows : List (List Int)) (r c : Nat) : Bool := decide (r < os.length) && decide (os.getD r 0 < rows.length) && decide (c < (rowOf os rows r).length) && decide ((rowOf os rows r).length ≤ 1000) && decide (os.length ≤ 1000)
theorem inB_iff {r c : Nat} : inB os rows r c = true ↔ r < os.length ∧ os.getD r 0 < rows.length ∧ c < (rowOf os rows r).length ∧ (rowOf os rows r).length ≤ 1000 ∧ os.length ≤ 1000 := by
  simp only [inB, Bool.and_eq_true, decide_eq_true_eq, and_assoc]
theorem Ev.rowRef {o i : Expr} {pos} {r c : Nat} (hb : inB os rows r c = true) (ho : Ev C d sc o ρ (detS σ os rows) (.ref σ.length) (detS σ os rows)) (hi : Ev C d sc i ρ (detS σ os rows) (.int r) (detS σ os rows)) (hs : SubOk i := by intro _ _; rfl) :
    Ev C d sc (.Subscript o i pos) ρ (detS σ os rows) (.ref (σ.length + 1 + os.getD r 0)) (detS σ os rows) := by
  obtain ⟨b1, b2, b3, b4, b5⟩ := inB_iff.mp hb
  refine Ev.item (vs := os.map fun i => V.ref (σ.length + 1 + i)) ho hi (by rw [lstOf, detS_at]) (by omega) (j := r) (by unfold idxOf; rw [if_neg (by omega)]; rfl) ?_ hs
  rw [List.getElem?_map, List.getElem?_eq_getElem b1]
  simp [List.getD, List.getElem?_eq_getElem b1]
theorem Ev.cell2 {o i j : Expr} {pos pos'} {r c : Nat} (hb : inB os rows r c = true) (ho : Ev C d sc o ρ (detS σ os rows) (.ref σ.length) (detS σ os rows)) (hi : Ev C d sc i ρ (detS σ os rows) (.int r) (detS σ os rows)) (hj : Ev C d sc j ρ (detS σ os rows) (.int c) (detS σ os rows))
    (hs : SubOk i := by intro _ _; rfl) (hs' : SubOk j := by intro _ _; rfl) :
    Ev C d sc (.Subscript (.Subscript o i pos) j pos') ρ (detS σ os rows) (.int (cellOf os rows r c)) (detS σ os rows) := by
  obtain ⟨b1, b2, b3, b4, b5⟩ := inB_iff.mp hb
  exact Ev.itemZ (ns := rowOf os rows r) (Ev.rowRef hb ho hi hs) hj (by rw [lstOf, detS_row b2]; rfl) (by omega) hs'
noncomputable def setC (os : List Nat) (rows : List (List Int)) (r c : Nat) (x : Int) : List (List Int) := rows.set (os.getD r 0) ((rowOf os rows r).set c x)
theorem Ex.set2 {o i j e : Expr} {p p' pos} {r c : Nat} {x : Int} (hb : inB os rows r c = true) (he : Ev C d sc e ρ (detS σ os rows) (.int x) (detS σ os rows)) (ho : Ev C d sc o ρ (detS σ os rows) (.ref σ.length) (detS σ os rows)) (hi : Ev C d sc i ρ (detS σ os rows) (.int r) (detS σ os rows)) (hj : Ev C d sc j ρ (detS σ os rows) (.int c) (detS σ os rows))
    (hs : SubOk i := by intro _ _; rfl) (hw : ∀ env, swapsWith e (some (.Subscript (.Subscript o i p) j p')) pos.line env = pure false := by intro _; rfl) :
    Ex C d sc (.Assign [.Subscript (.Subscript o i p) j p'] e pos) ρ (detS σ os rows) (.next ρ (detS σ os (setC os rows r c x))) := by
  obtain ⟨b1, b2, b3, b4, b5⟩ := inB_iff.mp hb
  have := Ex.setItem (j := c) he (Ev.rowRef hb ho hi hs) hj (detS_row b2) rfl (by rw [List.length_map]; exact b3) hw
  have e1 : ((rows.getD (os.getD r 0) []).map V.int).set c (.int x) = ((rowOf os rows r).set c x).map .int := by rw [List.map_set]; rfl
  rw [e1, detS_set] at this
  exact this
theorem gives_rngN : ∀ (n s : Nat), Gives σ (.rng (s : Int) n) ((List.range' s n).map fun (i : Nat) => V.int i)
  | 0, s => .nil rfl
  | n + 1, s => by
    rw [List.range'_succ, List.map_cons]
    exact .cons rfl (fun x px => ⟨_, _, rfl⟩) (gives_rngN n (s + 1))
theorem lenD {e : Expr} {p pos} (ho : Ev C d sc e ρ (detS σ os rows) (.ref σ.length) (detS σ os rows)) (hl : os.length ≤ 1000) (hk : Gi sc "len" := by rfl) (hs : NoStar e := by intro _ _; rfl) (hc : CallEq "len" p pos [e] := by intro _; rfl) :
    Ev C d sc ((Expr.Name "len" p).Call [e] [] pos) ρ (detS σ os rows) (.int os.length) (detS σ os rows) :=
  Ev.to (Ev.lenL (vs := os.map fun i => V.ref (σ.length + 1 + i)) ho (by rw [lstOf, detS_at]) (by rw [List.length_map]; omega) hk hs hc) (by rw [List.length_map])
noncomputable def pivF (os : List Nat) (rows : List (List Int)) (step : Nat) : List Nat → Option Nat
  | [] => none
  | r :: rs => if inB os rows r step = true then (if cellOf os rows r step ≠ 0 then some r else pivF os rows step rs) else none
theorem pivot_call {step p : Nat} (hd : 1 ≤ d) (hl : os.length ≤ 1000 ∧ step ≤ 1000) (hp : pivF os rows step (List.range' step (os.length - step)) = some p) : Call C d "pivot_row" [.ref σ.length, .int step] (detS σ os rows) (.int p) (detS σ os rows) := by
  obtain ⟨hl, hs⟩ := hl
  walk_at "def0"
  refine Exs.for (fun _ : Unit => [("a", .ref σ.length), ("step", .int step)]) (fun _ => detS σ os rows) (fun src _ => ∃ s n, src = .rng ((s : Nat) : Int) n ∧ pivF os rows step (List.range' s n) = some p) (fun _ => False) (fun src => match src with | .rng _ n => n | _ => 0) () (EvI.range2 (Ev.name (by rfl)) (lenD (Ev.name (by rfl)) hl) (by omega) (by omega)) (by walk_at "sub") rfl
    ⟨step, os.length - step, by congr 1; omega, hp⟩ ?_ (fun _ h => h.elim)
  rintro src ⟨⟩ ⟨s, n, e, hp⟩
  subst e
  cases n with
  | zero => cases hp
  | succ n =>
    rw [List.range'_succ] at hp
    unfold pivF at hp
    split at hp
    · rename_i hb
      by_cases h : cellOf os rows s step = 0
      · rw [if_neg (by simpa using h)] at hp
        refine .turn () (src' := .rng ((s : Int) + 1) n) rfl ⟨_, _, rfl⟩ (As.nm (by rfl) (by walk_at "upd")) ?_ ⟨s + 1, n, rfl, hp⟩ (Nat.lt_succ_self _)
        refine Exs.cons (Ex.ifF (Tr.cmp (Ev.cell2 hb (Ev.name (by rfl)) (Ev.name (by rfl)) (Ev.name (by rfl))) Ev.cInt (cmpNeF h)) Exs.nil) ?_
        exact Exs.drop (by walk_at "sub")
      · rw [if_pos h] at hp
        injection hp with hp
        subst hp
        refine .ret (src' := .rng ((s : Int) + 1) n) rfl ⟨_, _, rfl⟩ (As.nm (by rfl) (by walk_at "upd")) ?_ rfl
        exact Exs.stop (Ex.ifT (Tr.cmp (Ev.cell2 hb (Ev.name (by rfl)) (Ev.name (by rfl)) (Ev.name (by rfl))) Ev.cInt (cmpNe h)) (Exs.stop (Ex.ret (Ev.name (by rfl)))))
    · cases hp
noncomputable def colF (os : List Nat) (step : Nat) (lead first ahead : Int) (row : Nat) (rows : List (List Int)) (col : Nat) : Option (List (List Int)) :=
  if inB os rows row col && inB os rows step col && sm (cellOf os rows row col) && sm first && sm ahead && !(ahead == 0) then some (setC os rows row col ((cellOf os rows row col * lead - first * cellOf os rows step col).fdiv ahead)) else none
noncomputable def rowF (os : List Nat) (step : Nat) (lead ahead : Int) (rows : List (List Int)) (row : Nat) : Option (List (List Int)) :=
  if inB os rows row step = true then match (List.range' (step + 1) (os.length - (step + 1))).foldlM (colF os step lead (cellOf os rows row step) ahead row) rows with
    | none => none
    | some rows' => if inB os rows' row step = true then some (setC os rows' row step 0) else none
  else none
noncomputable def bareO (os : List Nat) (rows : List (List Int)) (step : Nat) (ahead : Int) : Option (List (List Int)) :=
  if inB os rows step step = true then (List.range' (step + 1) (os.length - (step + 1))).foldlM (rowF os step (cellOf os rows step step) ahead) rows else none
theorem detS_len {rows' : List (List Int)} (h : rows'.length = rows.length) : (detS σ os rows').length = (detS σ os rows).length := by
  simp [detS, h]
theorem colF_len {step lead first ahead row col} {rows' : List (List Int)} (h : colF os step lead first ahead row rows col = some rows') : rows'.length = rows.length := by
  unfold colF at h
  split at h
  · injection h with h; subst h; simp [setC]
  · cases h
theorem foldlM_len {α : Type} {F : List (List Int) → α → Option (List (List Int))} (hF : ∀ a r r', F r a = some r' → r'.length = r.length) : ∀ {l : List α} {r r' : List (List Int)}, l.foldlM F r = some r' → r'.length = r.length
  | [], r, r', h => by cases h; rfl
  | a :: l, r, r', h => by
    rw [List.foldlM_cons] at h
    cases e : F r a with
    | none => rw [e] at h; cases h
    | some q => rw [e] at h; rw [foldlM_len hF (l := l) h, hF a r q e]
theorem rowF_len {step lead ahead row} {rows rows' : List (List Int)} (h : rowF os step lead ahead rows row = some rows') : rows'.length = rows.length := by
  unfold rowF at h
  split at h
  · split at h
    · cases h
    · rename_i r e
      split at h
      · injection h with h; subst h; rw [← foldlM_len (fun _ _ _ q => colF_len q) e]; simp [setC]
      · cases h
  · cases h
theorem bareiss_call {step : Nat} {ahead : Int} {rows' : List (List Int)} (hd : 1 ≤ d) (hl : os.length ≤ 1000 ∧ step ≤ 1000) (hp : bareO os rows step ahead = some rows') : Call C d "bareiss_step" [.ref σ.length, .int step, .int ahead] (detS σ os rows) .none (detS σ os rows') := by
  obtain ⟨hl, hs⟩ := hl
  unfold bareO at hp
  split at hp
  · rename_i hb
    walk_at "defN"
    · exact detS_len (foldlM_len (fun _ _ _ q => rowF_len q) hp)
    refine Exs.cons (Ex.set (Ev.cell2 hb (Ev.name (by rfl)) (Ev.name (by rfl)) (Ev.name (by rfl))) (by rfl) (by intro _; rfl) (by walk_at "upd")) ?_
    generalize hlead : cellOf os rows step step = lead at hp
    refine Exs.fold (fun i : Nat => V.int i) (List.range' (step + 1) (os.length - (step + 1))) (fun _ => [("a", .ref σ.length), ("step", .int step), ("ahead", .int ahead), ("lead", .int lead)]) (fun rows => detS σ os rows) (fun _ => True) (rowF os step lead ahead) rows rows'
      (EvI.range2 (b := os.length) (Ev.add (Ev.name (by rfl)) Ev.cInt) (lenD (Ev.name (by rfl)) hl) (by omega) (by omega)) (by walk_at "sub") rfl (fun _ _ => by
        have e : ((os.length : Int) - ((step : Int) + 1)).toNat = os.length - (step + 1) := by omega
        rw [e]; exact gives_rngN _ _) trivial hp (by rfl) ?_ ?_
    · clear hp hb hlead
      intro row _ rows rows' _ hp
      refine ⟨trivial, ?_⟩
      unfold rowF at hp
      split at hp
      · rename_i hb
        split at hp
        · cases hp
        · rename_i r hc
          split at hp
          · rename_i hb2
            injection hp with hp
            subst hp
            refine Exs.cons (Ex.set (Ev.cell2 hb (Ev.name (by rfl)) (Ev.name (by rfl)) (Ev.name (by rfl))) (by rfl) (by intro _; rfl) (by walk_at "upd")) ?_
            generalize cellOf os rows row step = first at hc
            refine Exs.fold (fun i : Nat => V.int i) (List.range' (step + 1) (os.length - (step + 1))) (fun _ => [("a", .ref σ.length), ("step", .int step), ("ahead", .int ahead), ("lead", .int lead), ("row", .int row), ("first", .int first)]) (fun rows => detS σ os rows) (fun _ => True) (colF os step lead first ahead row) rows r
              (EvI.range2 (b := os.length) (Ev.add (Ev.name (by rfl)) Ev.cInt) (lenD (Ev.name (by rfl)) hl) (by omega) (by omega)) (by walk_at "sub") rfl (fun _ _ => by
                have e : ((os.length : Int) - ((step : Int) + 1)).toNat = os.length - (step + 1) := by omega
                rw [e]; exact gives_rngN _ _) trivial hc (by rfl) ?_ ?_
            · clear hc hb hb2
              intro col _ rows rows' _ hp
              refine ⟨trivial, ?_⟩
              unfold colF at hp
              split at hp
              · rename_i hg
                simp only [Bool.and_eq_true, sm_iff, Bool.not_eq_true', beq_eq_false_iff_ne, ne_eq] at hg
                obtain ⟨⟨⟨⟨⟨g1, g2⟩, g3⟩, g4⟩, g5⟩, g6⟩ := hg
                injection hp with hp
                subst hp
                refine Exs.cons (Ex.set2 g1 (Ev.fdiv (Ev.sub (Ev.mul (Ev.cell2 g1 (Ev.name (by rfl)) (Ev.name (by rfl)) (Ev.name (by rfl))) (Ev.name (by rfl)) g3) (Ev.mul (Ev.name (by rfl)) (Ev.cell2 g2 (Ev.name (by rfl)) (Ev.name (by rfl)) (Ev.name (by rfl))) g4)) (Ev.name (by rfl)) g6 g5) (Ev.name (by rfl)) (Ev.name (by rfl)) (Ev.name (by rfl))) ?_
                exact Exs.drop (by walk_at "sub")
              · cases hp
            · intro _
              refine Exs.cons (Ex.set2 hb2 Ev.cInt (Ev.name (by rfl)) (Ev.name (by rfl)) (Ev.name (by rfl))) ?_
              exact Exs.drop (by walk_at "sub")
          · cases hp
      · cases hp
    · intro _
      exact Exs.drop (by walk_at "sub")
  · cases hp
end
end
section
open PyProof.V
section
variable {C : Cx} {d : Nat} {sc : Scope} {ρ : List (Str × V)} {σ : List Cell}
variable {os : List Nat} {rows : List (List Int)}
theorem Ev.refD {o i : Expr} {pos} {r : Nat} (b1 : r < os.length) (b5 : os.length ≤ 1000) (ho : Ev C d sc o ρ (detS σ os rows) (.ref σ.length) (detS σ os rows)) (hi : Ev C d sc i ρ (detS σ os rows) (.int r) (detS σ os rows)) (hs : SubOk i := by intro _ _; rfl) :
    Ev C d sc (.Subscript o i pos) ρ (detS σ os rows) (.ref (σ.length + 1 + os.getD r 0)) (detS σ os rows) := by
  refine Ev.item (vs := os.map fun i => V.ref (σ.length + 1 + i)) ho hi (by rw [lstOf, detS_at]) (by omega) (j := r) (by unfold idxOf; rw [if_neg (by omega)]; rfl) ?_ hs
  rw [List.getElem?_map, List.getElem?_eq_getElem b1]
  simp [List.getD, List.getElem?_eq_getElem b1]
theorem As.refD {o i : Expr} {p} {r x : Nat} (b1 : r < os.length) (ho : Ev C d sc o ρ (detS σ os rows) (.ref σ.length) (detS σ os rows)) (hi : Ev C d sc i ρ (detS σ os rows) (.int r) (detS σ os rows))
    (ha : ∀ env val, assign (.Subscript o i p) env val = (do let ov ← holding [val] (eval o env); let iv ← holding [val, ov] (eval i env); standAt p; holding [val, ov, iv] (setItem ov iv val); release [val, ov, iv] []) := by intro _ _; rfl) :
    As C d sc (.Subscript o i p) (.ref (σ.length + 1 + x)) ρ (detS σ os rows) ρ (detS σ (os.set r x) rows) := by
  have := As.item (p := p) (j := r) (v := V.ref (σ.length + 1 + x)) ho hi detS_at rfl (by rw [List.length_map]; exact b1) ha
  have e : (os.map fun i => V.ref (σ.length + 1 + i)).set r (.ref (σ.length + 1 + x)) = (os.set r x).map fun i => V.ref (σ.length + 1 + i) := by rw [List.map_set]
  rw [e, detS_setO] at this
  exact this
noncomputable abbrev DSt := List Nat × List (List Int) × Int × Int
noncomputable def swapO (os : List Nat) (p step : Nat) : List Nat := (os.set p (os.getD step 0)).set step (os.getD p 0)
noncomputable def detG (M : List (List Int)) (step : Nat) (ah : Int) (os : List Nat) (sg : Int) : Option DSt := match bareO os M step ah with
  | none => none
  | some R => if inB os R step step = true then some (os, R, sg, cellOf os R step step) else none
noncomputable def detF (q : DSt) (step : Nat) : Option DSt := match pivF q.1 q.2.1 step (List.range' step (q.1.length - step)) with
  | none => none
  | some p => if decide (p < q.1.length) && decide (step < q.1.length) && decide (q.1.length ≤ 1000) then
      detG q.2.1 step q.2.2.2 (if p = step then q.1 else swapO q.1 p step) (if p = step then q.2.2.1 else -q.2.2.1)
    else none
theorem coSkip {elt iter c : Expr} {x : Str} {px pos : Pos} {scope : Scope} {α : Type} (emb : α → V) {k : Nat} (hx : isVar sc x = true) :
    ∀ {as : List α} {src : Src} {ρ : List (Str × V)}, Gives σ src (as.map emb) → (∀ a ∈ as, ∀ ρ', (ρ' = ρ ∨ ∃ u, ρ' = upd ρ x u) → Tr C d sc c (upd ρ' x (emb a)) σ false σ) → Co C d sc elt x px iter [c] scope pos src ρ σ k σ
  | [], src, ρ, hs, _ => by
    cases hs with
    | nil h => exact Co.done h
  | a :: as, src, ρ, hs, hc => by
    rw [List.map_cons] at hs
    cases hs with
    | cons h ht hq =>
      refine Co.skip h (ht _ _) (hc a (.head _) ρ (.inl rfl)) (coSkip emb hx hq fun b m ρ' h => hc b (.tail _ m) _ ?_) hx
      rcases h with rfl | ⟨u, rfl⟩
      · exact .inr ⟨_, rfl⟩
      · exact .inr ⟨u, upd_upd _ _ _ _⟩
theorem detS_size {k : Nat} (h : rows.length = k) : (detS σ os rows).length = σ.length + 1 + k := by simp [detS, h]; omega
theorem coCells {elt iter : Expr} {x : Str} {px pos : Pos} {scope : Scope} (hx : isVar sc x = true) {rows : List (List Int)} (hl : rows.length ≤ 1000)
    (he : ∀ (row : List Int) (τ : List Cell) ρ', row ∈ rows → (ρ' = ρ ∨ ∃ u, ρ' = upd ρ x u) → Ev C d sc elt (upd ρ' x (zl row)) τ (.ref τ.length) (τ ++ [rowC row])) :
    ∀ (n i : Nat) ρ', i + n = rows.length → (ρ' = ρ ∨ ∃ u, ρ' = upd ρ x u) → Co C d sc elt x px iter [] scope pos (.lst (matV rows) i) ρ' (detS σ (List.range i) (rows.take i)) σ.length (detS σ (List.range rows.length) rows)
  | 0, i, ρ', hi, _ => by
    have e : i = rows.length := by omega
    subst e
    rw [List.take_length]
    refine Co.done ?_
    have : (rows.map fun r => zl r)[rows.length]? = none := by rw [List.getElem?_eq_none]; simp
    simp only [Src.over, lstOf, this]
  | n + 1, i, ρ', hi, hr => by
    have hi' : i < rows.length := by omega
    have hget : (rows.map fun r => zl r)[i]? = some (zl rows[i]) := by rw [List.getElem?_map, List.getElem?_eq_getElem hi']; rfl
    have hlen : (rows.take i).length = i := by rw [List.length_take]; omega
    have hE := he rows[i] (detS σ (List.range i) (rows.take i)) ρ' (List.getElem_mem hi') hr
    rw [detS_size hlen] at hE
    have hat : (detS σ (List.range i) (rows.take i) ++ [rowC rows[i]])[σ.length]? = some (.lst ((List.range i).map fun i => V.ref (σ.length + 1 + i))) := by
      rw [List.getElem?_append_left (by rw [detS_size hlen]; omega)]; exact detS_at
    refine Co.turn (src' := .lst (matV rows) (i + 1)) (by simp only [Src.next, lstOf, hget]) (.inl ⟨_, _, rfl⟩) hE hat (by simp; omega) ?_ hx
    have e : (detS σ (List.range i) (rows.take i) ++ [rowC rows[i]]).set σ.length (.lst (((List.range i).map fun i => V.ref (σ.length + 1 + i)) ++ [V.ref (σ.length + 1 + i)])) = detS σ (List.range (i + 1)) (rows.take (i + 1)) := by
      unfold detS
      rw [List.append_assoc, List.set_append_right _ _ (Nat.le_refl _), Nat.sub_self, List.take_succ_eq_append_getElem hi', List.range_succ, List.map_append, List.map_append]
      rfl
    rw [e]
    refine coCells hx hl he n (i + 1) _ (by omega) ?_
    rcases hr with rfl | ⟨u, rfl⟩
    · exact .inr ⟨_, rfl⟩
    · exact .inr ⟨_, upd_upd _ _ _ _⟩
end
section
variable {C : Cx} {d : Nat} {σ : List Cell}
theorem determinant_call {rows rows' : List (List Int)} {os' : List Nat} {sign ahead : Int} (hd : 3 ≤ d) (hl : rows.length ≤ 100 ∧ ∀ row ∈ rows, row.length = rows.length) (hp : (List.range' 0 rows.length).foldlM detF (List.range rows.length, rows, 1, 1) = some (os', rows', sign, ahead)) (hs : sm sign = true) :
    Call C d "determinant" [matV rows] σ (.int (sign * ahead)) σ := by
  obtain ⟨hl, hrow⟩ := hl
  refine Call.iP (v₁ := .int (sign * ahead)) (cs := .lst (os'.map fun i => V.ref (σ.length + 1 + i)) :: rows'.map rowC) (by omega) (by rfl) (by walk_at "bind") (by rfl) (by decide +kernel) (by rfl) (by rfl) (by rfl) (by rfl) (by simp only [List.map_cons, List.map_nil, List.zip_cons_cons, List.zip_nil_left]; rfl) ?_ (.int _)
  refine Exs.cons (Ex.ifF (Tr.to (Tr.neD (pa := .list []) (pb := .list []) (Ev.comp (vs := []) (ws := []) (EvI.lst (Ev.name (by rfl)) (by rfl)) (coSkip (as := rows) (fun r => zl r) (by rfl) (gives_lst (by rfl) fun _ _ _ _ => .inl ⟨_, _, rfl⟩) fun row m ρ' h => ?_) .nil) (Ev.list EvL.nil) (by rfl) (by rfl) (by rfl) (by rfl)) (by rfl)) Exs.nil) ?_
  · have e : upd ρ' ("row" : Str) (zl row) = ([("a", matV rows), ("row", zl row)] : List (Str × V)) := by
      rcases h with rfl | ⟨u, rfl⟩
      · rfl
      · rw [upd_upd]; rfl
    rw [e]
    have := hrow row m
    exact Tr.cmp (Ev.lenL (Ev.name (by rfl)) (vs := row.map .int) (by rfl) (by simp; omega)) (Ev.lenL (Ev.name (by rfl)) (vs := rows.map fun r => zl r) (by rfl) (by simp; omega)) (cmpNeF (by simp only [List.length_map]; omega))
  refine Exs.cons (Ex.swap3 (Ev.tuple (EvL.cons (Ev.compCell (σ₂ := detS σ (List.range rows.length) rows) (EvI.lst (Ev.name (by rfl)) (by rfl)) (coCells (by rfl) (by omega) (fun row τ ρ' m h => ?_) rows.length 0 _ (by omega) (.inl rfl))) (EvL.cons Ev.cInt (EvL.cons Ev.cInt EvL.nil)))) (by rfl) (by intro e h; cases e; cases h; rfl) (by intro _; rfl) (by walk_at "upd") (by walk_at "upd") (by walk_at "upd")) ?_
  · have e : upd ρ' ("row" : Str) (zl row) = ([("row", zl row)] : List (Str × V)) := by
      rcases h with rfl | ⟨u, rfl⟩
      · rfl
      · rw [upd_upd]; rfl
    rw [e]
    have := hrow row m
    exact Ev.listOfCell (Ev.name (by rfl)) (by rfl) (by simp; omega)
  refine Exs.fold (fun i : Nat => V.int i) (List.range' 0 rows.length) (fun q : DSt => [("a", matV rows), ("found", .ref σ.length), ("sign", .int q.2.2.1), ("ahead", .int q.2.2.2)]) (fun q => detS σ q.1 q.2.1) (fun _ => True) detF (List.range rows.length, rows, 1, 1) (os', rows', sign, ahead)
    (EvI.range1 (n := (rows.length : Nat)) (Ev.to (Ev.lenL (Ev.name (by rfl)) (vs := rows.map fun r => zl r) (by rfl) (by simp; omega)) (by rw [List.length_map])) (by omega)) (by walk_at "sub") rfl (fun _ _ => by rw [Int.toNat_natCast]; exact gives_rngN _ 0) trivial hp (by rfl) ?_ ?_
  · clear hp hs hrow
    rintro step hstep ⟨os, M, sg, ah⟩ ⟨os2, M2, sg2, ah2⟩ _ hq
    refine ⟨trivial, ?_⟩
    rw [List.mem_range'] at hstep
    unfold detF at hq
    dsimp only at hq
    split at hq
    · cases hq
    · rename_i p hpv
      split at hq
      · rename_i hg
        simp only [Bool.and_eq_true, decide_eq_true_eq] at hg
        obtain ⟨⟨g1, g2⟩, g3⟩ := hg
        have hol : (if p = step then os else swapO os p step).length ≤ 1000 := by split <;> simp [swapO, g3]
        generalize ho : (if p = step then os else swapO os p step) = os3 at hq hol
        generalize hsg : (if p = step then sg else -sg) = sg3 at hq
        unfold detG at hq
        split at hq
        · cases hq
        · rename_i R hb
          split at hq
          · rename_i hin
            injection hq with hq
            injection hq with q1 hq
            injection hq with q2 hq
            injection hq with q3 q4
            cases q1; cases q2; cases q3; cases q4
            refine Exs.cons (Ex.set (Ev.call (by rfl) (EvL.cons (Ev.name (by walk_at "look")) (EvL.cons (Ev.name (by walk_at "look")) EvL.nil)) (pivot_call (by walk_at "dep") ⟨g3, by omega⟩ hpv)) (by rfl) (by intro _; rfl) (by walk_at "upd")) ?_
            refine Exs.cons (Ex.ifF (Tr.to (Tr.isNone (Ev.name (by rfl))) (by rfl)) Exs.nil) ?_
            refine Exs.cons (ρ₁ := [("a", matV rows), ("found", .ref σ.length), ("sign", .int sg2), ("ahead", .int ah), ("step", .int step), ("row", .int p)]) (σ₁ := detS σ os2 M) ?_ ?_
            · by_cases h : p = step
              · rw [if_pos h] at ho hsg
                subst ho hsg
                exact Ex.ifF (Tr.cmp (Ev.name (by rfl)) (Ev.name (by rfl)) (cmpNeF (by omega))) Exs.nil
              · rw [if_neg h] at ho hsg
                subst ho hsg
                refine Ex.ifT (Tr.cmp (Ev.name (by rfl)) (Ev.name (by rfl)) (cmpNe (by omega))) ?_
                refine Exs.cons (Ex.unpack (Ev.tuple (EvL.cons (Ev.refD g2 g3 (Ev.name (by rfl)) (Ev.name (by rfl))) (EvL.cons (Ev.refD g1 g3 (Ev.name (by rfl)) (Ev.name (by rfl))) EvL.nil))) (As.tuple (AsL.cons (As.refD g1 (Ev.name (by rfl)) (Ev.name (by rfl))) (AsL.cons (As.refD (by rw [List.length_set]; exact g2) (Ev.name (by rfl)) (Ev.name (by rfl))) AsL.nil)))) ?_
                refine Exs.cons (Ex.set (Ev.neg (Ev.name (by rfl))) (by rfl) (by intro _; rfl) (by walk_at "upd")) ?_
                exact Exs.nil
            · refine Exs.cons (Ex.expr (Ev.call (by rfl) (EvL.cons (Ev.name (by walk_at "look")) (EvL.cons (Ev.name (by walk_at "look")) (EvL.cons (Ev.name (by walk_at "look")) EvL.nil))) (bareiss_call (by walk_at "dep") ⟨hol, by omega⟩ hb))) ?_
              refine Exs.cons (Ex.set (Ev.cell2 hin (Ev.name (by rfl)) (Ev.name (by rfl)) (Ev.name (by rfl))) (by rfl) (by intro _; rfl) (by walk_at "upd")) ?_
              exact Exs.drop (by walk_at "sub")
          · cases hq
      · cases hq
  · intro _
    have := sm_iff.mp hs
    exact Exs.stop (Ex.ret (Ev.mul (Ev.name (by rfl)) (Ev.name (by rfl)) this))
end
end
section
open PyProof.V
section
variable {C : Cx} {d : Nat} {σ : List Cell}
--KINDS law rows=M row=Z
noncomputable def bendsP (rows : List (List Int)) : List Int := rows.map fun r => nth r 1
noncomputable def mirOk (rows : List (List Int)) (i : Nat) : Bool := rowsOk rows && decide (i < 4) && (List.range 4).all fun c => sumOk 0 (rows.map fun row => nth row (c : Nat))
noncomputable abbrev LSt := List (List Int) × Nat
noncomputable def lawF (ns : List Int) (q : LSt) (_ : Nat) : Option LSt :=
  if touchOk q.1 && mirOk q.1 (drawP ns q.2 4) && keepOk (mirP q.1 (drawP ns q.2 4)) && decide (q.2 ≤ 900) then some (mirP q.1 (drawP ns q.2 4), q.2 + 1) else none
noncomputable def RootsOk (C : Cx) (f : List Int) (res : List Rt) : Prop := ∀ {d σ}, 6 ≤ d → Call C d "rational_roots" [zl f] σ (.lst (res.map rtV)) σ
noncomputable def others (rows : List (List Int)) (i : Nat) : List Int := bendsP (rows.take i ++ rows.drop (i + 1))
noncomputable def dueP (bend other : Int) : List Rt := if bend ≠ other then (isort [bend, other]).map fun n => ((n, 1), 1) else [((bend, 1), 2)]
theorem rowsOk_iff {rows : List (List Int)} : rowsOk rows = true ↔ rows.length = 4 ∧ ∀ r ∈ rows, r.length = 4 := by
  simp only [rowsOk, Bool.and_eq_true, decide_eq_true_eq, List.all_eq_true]
theorem due_lay (b o : Int) : (V.lst ((dueP b o).map rtV)).py.canLay0 = true := by
  unfold dueP
  split
  · simp only [isort, ins]; split <;> rfl
  · rfl
theorem due_shp (b o : Int) : shp (V.lst ((dueP b o).map rtV)).py = true := by
  unfold dueP
  split
  · simp only [isort, ins]; split <;> rfl
  · rfl
theorem due_look (b o : Int) : look σ (V.lst ((dueP b o).map rtV)) = some (V.lst ((dueP b o).map rtV)).py := by
  unfold look
  rw [if_pos (show (V.lst ((dueP b o).map rtV)).plain = true from plains_map fun _ _ => rfl)]
theorem law_exs {ns : List Int} {typ r u t st : Nat} {first : List Int} {R R2 : List (List Int)} {k : Nat} {os' : List Nat} {sign ahead : Int} {i : Nat} {bend a b c : Int} {m : Nat} (hd : 10 ≤ d)
    (e1 : drawP (ns.take 10) 0 2 = typ) (e2 : drawP (ns.take 10) 1 3 = r) (e3 : drawP (ns.take 10) 2 3 = u) (e4 : drawP (ns.take 10) 3 2 = t) (e5 : drawP (ns.take 10) 4 3 = st) (hns : ns.length ≤ 1000)
    (h0 : rowsOk (startP typ (r - 1) (u - 1) t) = true) (hf : leastO' 60 (isort (bendsP (startP typ (r - 1) (u - 1) t))) = some first)
    (hR : (List.range' 0 (1 + st)).foldlM (lawF (ns.take 10)) (startP typ (r - 1) (u - 1) t, 5) = some (R, k)) (hk : k ≤ 900) (hRo : rowsOk R = true) (hT : touchOk R = true) (hf4 : first.length = 4)
    (hf2 : leastO' 60 (isort (bendsP R)) = some first) (hD : (List.range' 0 4).foldlM detF (List.range 4, R, 1, 1) = some (os', R2, sign, ahead)) (hsg : sm sign = true) (hval : sign * ahead = if (t + (1 + st)) % 2 = 1 then 8 else -8)
    (ei : drawP (ns.take 10) k 4 = i) (hi : i < 4) (hbend : nth (rowAt R i) 1 = bend) (hoth : others R i = [a, b, c]) (hsm : Sm a ∧ Sm b ∧ Sm c ∧ Sm (a + b + c))
    (hroots : RootsOk C [2 * (a * a + b * b + c * c) - (a + b + c) * (a + b + c), 0 - 2 * (a + b + c), 1] (dueP bend (2 * (a + b + c) - bend))) (hsq : a * b + b * c + c * a = (m * m : Nat)) (hm : m < 2 ^ 28) :
    ∀ pa body sc, theDefIn "law" PySem.Challenge.pw_xm0157_01.main.body = some ⟨pa, body, sc⟩ → ∃ σ', Exs C d sc body [("script", zl ns)] [] (.ret (.bool true) σ') := by
  intro pa body sc h
  cases h
  refine ⟨poolC (ns.take 10) (k + 1), ?_⟩
  have hr3 : r < 3 := by rw [← e2]; unfold drawP; split <;> exact Nat.mod_lt _ (by decide)
  have hu3 : u < 3 := by rw [← e3]; unfold drawP; split <;> exact Nat.mod_lt _ (by decide)
  have hst : st < 3 := by rw [← e5]; unfold drawP; split <;> exact Nat.mod_lt _ (by decide)
  have hl10 : (ns.take 10).length ≤ 100 := by rw [List.length_take]; omega
  have c0 : ∀ {d}, 2 ≤ d → Call C d "_law_begin" [.ref 0] (poolC (ns.take 10) 0) (.tup [matV (startP typ (r - 1) (u - 1) t), .int t]) (poolC (ns.take 10) 4) := fun hd => begin_call (k := 0) hd ⟨hl10, by omega⟩ e1 e2 e3 e4 ⟨hr3, hu3⟩
  have c5 : ∀ {d}, 1 ≤ d → Call C d "_law_draw" [.ref 0, .int 3] (poolC (ns.take 10) 4) (.int st) (poolC (ns.take 10) 5) := fun h => e5 ▸ draw_call (many := 3) h ⟨by decide, hl10, by omega⟩
  obtain ⟨h04, h0r⟩ := rowsOk_iff.mp h0
  obtain ⟨hR4, hRr⟩ := rowsOk_iff.mp hRo
  refine Exs.cons (Ex.set (v := .ref 0) (σ₁ := poolC (ns.take 10) 0) (Ev.listCell (σ₁ := []) (vs := [zl (ns.take 10), .int 0]) (EvL.cons (Ev.to (Ev.compL V.int (fun n : Int => V.int n) (ns.take 10) (EvI.lst (Ev.sliceTo (n := 10) (vs := ns.map .int) (Ev.name (by rfl)) Ev.cInt (by rfl) (by rfl) (by simp; omega)) (by rfl)) (by simp [lstOf, List.map_take]) (by omega) (fun a _ acc => ?_) (fun _ _ => rfl)) rfl) (EvL.cons Ev.cInt EvL.nil))) (by rfl) (by intro _; rfl) (by walk_at "upd")) ?_
  · show Ev _ _ _ _ [("cell", .int a)] _ _ _
    exact Ev.toInt (Ev.name (by rfl))
  refine Exs.cons (Ex.unpack (Ev.call (by rfl) (EvL.cons (Ev.name (by walk_at "look")) EvL.nil) (c0 (by walk_at "dep"))) (As.tuple (AsL.cons (As.nm (by rfl) (by walk_at "upd")) (AsL.cons (As.nm (by rfl) (by walk_at "upd")) AsL.nil))) (by intro _; rfl) (by intro _ _; rfl)) ?_
  refine Exs.cons (Ex.swap2 (Ev.tuple (EvL.cons (Ev.call (by rfl) (EvL.cons (Ev.to (Ev.compL (fun r => zl r) (fun row => .int (nth row 1)) (startP typ (r - 1) (u - 1) t) (EvI.lst (Ev.name (by rfl)) (by rfl)) (by rfl) (by omega) (fun row m acc => ?_) (fun _ _ => rfl)) (w := zl (bendsP (startP typ (r - 1) (u - 1) t))) (by simp [zl, bendsP, List.map_map, Function.comp_def])) EvL.nil) (least_call (by walk_at "dep") (by simp [bendsP, h04]) hf)) (EvL.cons (Ev.add Ev.cInt (Ev.call (by rfl) (EvL.cons (Ev.name (by walk_at "look")) (EvL.cons Ev.cInt EvL.nil)) (c5 (by walk_at "dep")))) EvL.nil))) (by rfl) (by intro e h; cases e; cases h; rfl) (by intro _; rfl) (by walk_at "upd") (by walk_at "upd")) ?_
  · have := h0r row m
    show Ev _ _ _ _ [("row", zl row)] _ _ _
    exact Ev.itemZ (Ev.name (by rfl)) Ev.cInt (by rfl) (by omega)
  refine Exs.fold (fun i : Nat => V.int i) (List.range' 0 (1 + st)) (fun q : LSt => [("script", zl ns), ("pool", .ref 0), ("rows", matV q.1), ("turned", .int t), ("first", zl first), ("steps", .int (1 + st))]) (fun q => poolC (ns.take 10) q.2) (fun _ => True) (lawF (ns.take 10)) (startP typ (r - 1) (u - 1) t, 5) (R, k)
    (EvI.range1 (n := 1 + st) (Ev.name (by rfl)) (by omega)) (by walk_at "sub") rfl (fun _ _ => by rw [show (1 + (st : Int)).toNat = 1 + st by omega]; exact gives_rngN _ 0) trivial hR (by rfl) ?_ ?_
  · clear hR hT hf2 hD hval hsg hbend hoth hsm hroots hsq hm ei hRo hRr hR4
    rintro turn _ ⟨M, k⟩ ⟨M', k'⟩ _ hq
    refine ⟨trivial, ?_⟩
    unfold lawF at hq
    dsimp only at hq
    split at hq
    · rename_i hg
      simp only [Bool.and_eq_true, decide_eq_true_eq] at hg
      obtain ⟨⟨⟨g1, g2⟩, g3⟩, g4⟩ := hg
      generalize hi : drawP (ns.take 10) k 4 = i at hq g2 g3
      injection hq with hq
      injection hq with q1 q2
      subst q1 q2
      simp only [mirOk, Bool.and_eq_true, decide_eq_true_eq, List.all_eq_true, rowsOk_iff] at g2
      obtain ⟨⟨⟨m1, m2⟩, m3⟩, m4⟩ := g2
      have cd : ∀ {d}, 1 ≤ d → Call C d "_law_draw" [.ref 0, .int 4] (poolC (ns.take 10) k) (.int i) (poolC (ns.take 10) (k + 1)) := fun h => hi ▸ draw_call (many := 4) h ⟨by decide, hl10, by omega⟩
      refine Exs.cons (Ex.ifF (Tr.to (Tr.not (Tr.val (Ev.call (by rfl) (EvL.cons (Ev.name (by walk_at "look")) EvL.nil) (touch_call (by walk_at "dep") g1)))) rfl) Exs.nil) ?_
      refine Exs.cons (Ex.set (Ev.call (by rfl) (EvL.cons (Ev.name (by rfl)) (EvL.cons (Ev.call (by rfl) (EvL.cons (Ev.name (by walk_at "look")) (EvL.cons Ev.cInt EvL.nil)) (cd (by walk_at "dep"))) EvL.nil)) (mirrored_call (by walk_at "dep") ⟨by omega, by omega, fun row h => by have := m2 row h; omega, fun c hc => m4 c (List.mem_range.mpr hc)⟩)) (by rfl) (by intro _; rfl) (by walk_at "upd")) ?_
      refine Exs.cons (Ex.ifF (Tr.to (Tr.not (Tr.val (Ev.call (by rfl) (EvL.cons (Ev.name (by walk_at "look")) EvL.nil) (keeps_call (by walk_at "dep") g3)))) rfl) Exs.nil) ?_
      exact Exs.drop (by walk_at "sub")
    · cases hq
  · intro _
    obtain ⟨f1, f2, f3, f4, rfl⟩ : ∃ f1 f2 f3 f4, first = [f1, f2, f3, f4] := by
      match first, hf4 with
      | [f1, f2, f3, f4], _ => exact ⟨_, _, _, _, rfl⟩
    refine Exs.cons (Ex.ifF (Tr.orF (Tr.to (Tr.not (Tr.val (Ev.call (by rfl) (EvL.cons (Ev.name (by walk_at "look")) EvL.nil) (touch_call (by walk_at "dep") hT)))) rfl) (Tr.orF (Tr.to (Tr.eqD (pa := .list [.int f1, .int f2, .int f3, .int f4]) (pb := .list []) (Ev.name (by rfl)) (Ev.list EvL.nil) (by rfl) (by rfl) (by rfl) (by rfl)) (by rfl)) (Tr.orF (Tr.to (Tr.neD (pa := .list [.int f1, .int f2, .int f3, .int f4]) (pb := .list [.int f1, .int f2, .int f3, .int f4]) (Ev.call (by rfl) (EvL.cons (Ev.to (Ev.compL (fun r => zl r) (fun row => .int (nth row 1)) R (EvI.lst (Ev.name (by rfl)) (by rfl)) (by rfl) (by omega) (fun row m acc => ?_) (fun _ _ => rfl)) (w := zl (bendsP R)) (by simp [zl, bendsP, List.map_map, Function.comp_def])) EvL.nil) (least_call (by walk_at "dep") (by simp [bendsP, hR4]) hf2)) (Ev.name (by rfl)) (by rfl) (by rfl) (by rfl) (by rfl)) (by rw [PySem.SeqAt.eqv_refl _ (by rfl)]; rfl)) Tr.or0))) Exs.nil) ?_
    · have := hRr row m
      show Ev _ _ _ _ [("row", zl row)] _ _ _
      exact Ev.itemZ (Ev.name (by rfl)) Ev.cInt (by rfl) (by omega)
    have hpar : Int.fmod ((t : Int) + (1 + (st : Int))) 2 = (((t + (1 + st)) % 2 : Nat) : Int) := fmod_nat (t + (1 + st)) 2
    have cdet : ∀ {d}, 3 ≤ d → Call C d "determinant" [matV R] (poolC (ns.take 10) k) (.int (sign * ahead)) (poolC (ns.take 10) k) := fun hd => determinant_call hd ⟨by omega, fun row h => by rw [hRr row h, hR4]⟩ (by rw [hR4]; exact hD) hsg
    refine Exs.cons (ρ₁ := [("script", zl ns), ("pool", .ref 0), ("rows", matV R), ("turned", .int t), ("first", zl [f1, f2, f3, f4]), ("steps", .int (1 + st))]) (σ₁ := poolC (ns.take 10) k) ?_ ?_
    · by_cases hp : (t + (1 + st)) % 2 = 1
      · rw [if_pos hp] at hval
        refine Ex.ifF (Tr.cmp (Ev.call (by rfl) (EvL.cons (Ev.name (by walk_at "look")) EvL.nil) (cdet (by walk_at "dep"))) (Ev.iteT (Tr.cmp (Ev.mod (Ev.add (Ev.name (by rfl)) (Ev.name (by rfl))) Ev.cInt (by decide)) Ev.cInt (cmpEq (by rw [hpar]; omega))) Ev.cInt) (cmpNeF hval)) Exs.nil
      · rw [if_neg hp] at hval
        refine Ex.ifF (Tr.cmp (Ev.call (by rfl) (EvL.cons (Ev.name (by walk_at "look")) EvL.nil) (cdet (by walk_at "dep"))) (Ev.iteF (Tr.cmp (Ev.mod (Ev.add (Ev.name (by rfl)) (Ev.name (by rfl))) Ev.cInt (by decide)) Ev.cInt (cmpEqF (by rw [hpar]; omega))) (Ev.neg Ev.cInt)) (cmpNeF hval)) Exs.nil
    have cd : ∀ {d}, 1 ≤ d → Call C d "_law_draw" [.ref 0, .int 4] (poolC (ns.take 10) k) (.int i) (poolC (ns.take 10) (k + 1)) := fun h => ei ▸ draw_call (many := 4) h ⟨by decide, hl10, by omega⟩
    refine Exs.cons (Ex.set (Ev.call (by rfl) (EvL.cons (Ev.name (by walk_at "look")) (EvL.cons Ev.cInt EvL.nil)) (cd (by walk_at "dep"))) (by rfl) (by intro _; rfl) (by walk_at "upd")) ?_
    have hri := hRr _ (rowAt_mem (m := R) (i := i) (by omega))
    obtain ⟨sa, sb, sc', st'⟩ := hsm
    refine Exs.cons (Ex.unpack (Ev.tuple (EvL.cons (Ev.itemZ (Ev.itemM (Ev.name (by rfl)) (Ev.name (by rfl)) (by rfl) (by omega)) Ev.cInt (by rfl) (by omega)) (EvL.cons (Ev.to (w := .lst [.int a, .int b, .int c]) (Ev.compL (fun r => zl r) (fun row => .int (nth row 1)) (R.take i ++ R.drop (i + 1)) (EvI.lst (Ev.concat (Ev.sliceTo (n := i) (vs := R.map fun r => zl r) (Ev.name (by rfl)) (Ev.name (by rfl)) rfl (by rfl) (by simp; omega)) (Ev.sliceFrom (n := i + 1) (vs := R.map fun r => zl r) (Ev.name (by rfl)) (Ev.add (Ev.name (by rfl)) Ev.cInt) rfl (by rfl) (by simp; omega)) rfl rfl (by simp; omega)) (by rfl)) (by simp [lstOf, List.map_take, List.map_drop]) (by simp; omega) (fun row m acc => ?_) (fun _ _ => rfl)) ?_) EvL.nil))) (As.tuple (AsL.cons (As.nm (by rfl) (by walk_at "upd")) (AsL.cons (As.tupleL (AsL.cons (As.nm (by rfl) (by walk_at "upd")) (AsL.cons (As.nm (by rfl) (by walk_at "upd")) (AsL.cons (As.nm (by rfl) (by walk_at "upd")) AsL.nil)))) AsL.nil)))) ?_
    · have : row ∈ R := by
        rcases List.mem_append.mp m with q | q
        · exact List.mem_of_mem_take q
        · exact List.mem_of_mem_drop q
      have := hRr row this
      show Ev _ _ _ _ [("row", zl row)] _ _ _
      exact Ev.itemZ (Ev.name (by rfl)) Ev.cInt (by rfl) (by omega)
    · have : (R.take i ++ R.drop (i + 1)).map (fun row => V.int (nth row 1)) = (others R i).map .int := by simp [others, bendsP, List.map_map, Function.comp_def]
      rw [this, hoth]; rfl
    rw [hbend]
    refine Exs.cons (Ex.swap2 (Ev.tuple (EvL.cons (Ev.sub (Ev.mul Ev.cInt (Ev.add (Ev.add (Ev.name (by walk_at "look")) (Ev.name (by walk_at "look"))) (Ev.name (by walk_at "look"))) (by walk_at "side")) (Ev.name (by walk_at "look"))) (EvL.cons (Ev.add (Ev.add (Ev.name (by walk_at "look")) (Ev.name (by walk_at "look"))) (Ev.name (by walk_at "look"))) EvL.nil)) (by rfl)) (by rfl) (by intro e h; cases e; cases h; rfl) (by intro _; rfl) (by walk_at "upd") (by walk_at "upd")) ?_
    refine Exs.cons (Ex.set (σ₁ := poolC (ns.take 10) (k + 1)) (v := .lst ((dueP bend (2 * (a + b + c) - bend)).map rtV)) ?_ (by rfl) (by intro _; rfl) (by walk_at "upd")) ?_
    · unfold dueP
      by_cases h : bend = 2 * (a + b + c) - bend
      · rw [if_neg (by simpa using h)]
        exact Ev.iteF (Tr.cmp (Ev.name (by rfl)) (Ev.name (by rfl)) (cmpNeF h)) (Ev.list (EvL.cons (Ev.tuple (EvL.cons (Ev.tuple (EvL.cons (Ev.name (by walk_at "look")) (EvL.cons Ev.cInt EvL.nil)) (by rfl)) (EvL.cons Ev.cInt EvL.nil)) (by rfl)) EvL.nil) (by rfl))
      · rw [if_pos h]
        refine Ev.iteT (Tr.cmp (Ev.name (by rfl)) (Ev.name (by rfl)) (cmpNe h)) (Ev.to (Ev.compL V.int (fun n : Int => .tup [.tup [.int n, .int 1], .int 1]) (isort [bend, 2 * (a + b + c) - bend]) (EvI.lst (Ev.isort (ns := [bend, 2 * (a + b + c) - bend]) (Ev.list (EvL.cons (Ev.name (by walk_at "look")) (EvL.cons (Ev.name (by walk_at "look")) EvL.nil))) (by rfl) (by simp)) (by rfl)) (by rfl) (by rw [(isort_perm _).length_eq]; simp) (fun n _ acc => ?_) (fun _ _ => rfl)) (by simp [rtV, ratV, List.map_map, Function.comp_def]))
        show Ev _ _ _ _ [("number", .int n)] _ _ _
        exact (Ev.tuple (EvL.cons (Ev.tuple (EvL.cons (Ev.name (by walk_at "look")) (EvL.cons Ev.cInt EvL.nil)) (by rfl)) (EvL.cons Ev.cInt EvL.nil)) (by rfl))
    refine Exs.cons (Ex.set (Ev.list (EvL.cons (Ev.sub (Ev.mul Ev.cInt (Ev.add (Ev.add (Ev.mul (Ev.name (by walk_at "look")) (Ev.name (by walk_at "look")) (by walk_at "side")) (Ev.mul (Ev.name (by walk_at "look")) (Ev.name (by walk_at "look")) (by walk_at "side"))) (Ev.mul (Ev.name (by walk_at "look")) (Ev.name (by walk_at "look")) (by walk_at "side"))) (by walk_at "side")) (Ev.mul (Ev.name (by walk_at "look")) (Ev.name (by walk_at "look")) (by walk_at "side"))) (EvL.cons (Ev.sub Ev.cInt (Ev.mul Ev.cInt (Ev.name (by walk_at "look")) (by walk_at "side"))) (EvL.cons Ev.cInt EvL.nil))) (by rfl)) (by rfl) (by intro _; rfl) (by walk_at "upd")) ?_
    have csq : ∀ {d}, 3 ≤ d → Call C d "is_square" [.int (a * b + b * c + c * a)] (poolC (ns.take 10) (k + 1)) (.bool true) (poolC (ns.take 10) (k + 1)) := fun hd => by rw [hsq]; exact is_square_call hd hm
    refine Exs.stop (Ex.ret (Ev.andT (Ev.to (Ev.eqD (pa := (V.lst ((dueP bend (2 * (a + b + c) - bend)).map rtV)).py) (pb := (V.lst ((dueP bend (2 * (a + b + c) - bend)).map rtV)).py) (Ev.call (by rfl) (EvL.cons (Ev.name (by walk_at "look")) EvL.nil) (hroots (by walk_at "dep"))) (Ev.name (by rfl)) (due_look _ _) (due_look _ _) (due_shp _ _) (due_shp _ _)) (by rw [PySem.SeqAt.eqv_refl _ (due_lay _ _)])) (Ev.call (by rfl) (EvL.cons (Ev.add (Ev.add (Ev.mul (Ev.name (by walk_at "look")) (Ev.name (by walk_at "look")) (by walk_at "side")) (Ev.mul (Ev.name (by walk_at "look")) (Ev.name (by walk_at "look")) (by walk_at "side"))) (Ev.mul (Ev.name (by walk_at "look")) (Ev.name (by walk_at "look")) (by walk_at "side"))) EvL.nil) (csq (by walk_at "dep")))))
end
end
section
open PyProof.V
section
variable {C : Cx} {d : Nat} {sc : Scope} {σ : List Cell}
variable {elt : Expr} {x : Str} {px : Pos} {iter : Expr} {y : Str} {py : Pos} {iter2 : Expr} {scope : Scope} {pos : Pos}
theorem co2In {Inv : List (Str × V) → Prop} {g : Nat → V} {T : Nat} (hy : isVar sc y = true) (hup : ∀ ρ' u, Inv ρ' → Inv (upd ρ' y u))
    (he : ∀ ρ' (t : Nat) acc, t < T → Inv ρ' → Ev C d sc elt (upd ρ' y (.int t)) (σ ++ [.lst acc]) (g t) (σ ++ [.lst acc])) :
    ∀ (n t0 : Nat) (acc : List V) ρ', t0 + n ≤ T → Inv ρ' → acc.length + n ≤ 1000000 → ∃ ρ'', Inv ρ'' ∧ Co2 C d sc elt x px iter y py iter2 scope pos 1 (.rng (t0 : Int) n) ρ' (σ ++ [.lst acc]) σ.length ρ'' (σ ++ [.lst (acc ++ (List.range' t0 n).map g)])
  | 0, t0, acc, ρ', _, hi, _ => ⟨ρ', hi, by simpa using Co2.done1 (by rfl)⟩
  | n + 1, t0, acc, ρ', hT, hi, hl => by
    obtain ⟨ρ'', h1, h2⟩ := co2In hy hup he n (t0 + 1) (acc ++ [g t0]) (upd ρ' y (.int t0)) (by omega) (hup _ _ hi) (by simp; omega)
    refine ⟨ρ'', h1, Co2.turn1 (src' := .rng ((t0 : Int) + 1) n) rfl ⟨_, _, rfl⟩ hy (he ρ' t0 acc (by omega) hi) cell_at (by omega) ?_⟩
    rw [List.set_append_right _ _ (Nat.le_refl _), Nat.sub_self, List.range'_succ, List.map_cons]
    rw [List.append_assoc] at h2
    exact h2
theorem co2Out {α : Type} {Inv : List (Str × V) → Prop} (emb : α → V) (g : α → Nat → V) (n : Nat) (hx : isVar sc x = true) (hy : isVar sc y = true) (hs : ∀ env z, foldedSetIterable iter2 env z = pure z)
    (hupx : ∀ ρ' u, Inv ρ' → Inv (upd ρ' x u)) (hupy : ∀ ρ' u, Inv ρ' → Inv (upd ρ' y u)) (hxy : x ≠ y) :
    ∀ {as : List α} {src : Src} {acc : List V} {ρ'}, (∀ acc, Gives (σ ++ [.lst acc]) src (as.map emb)) → acc.length + as.length * n ≤ 1000000 → Inv ρ' →
    (∀ a ∈ as, ∀ ρ' acc, Inv ρ' → EvI C d sc iter2 (upd ρ' x (emb a)) (σ ++ [.lst acc]) (.rng ((0 : Nat) : Int) n) (σ ++ [.lst acc])) →
    (∀ a ∈ as, ∀ ρ' (t : Nat) acc, t < n → (Inv ρ' ∧ ρ'.lookup x = some (emb a)) → Ev C d sc elt (upd ρ' y (.int t)) (σ ++ [.lst acc]) (g a t) (σ ++ [.lst acc])) →
    ∃ ρ'', Co2 C d sc elt x px iter y py iter2 scope pos 0 src ρ' (σ ++ [.lst acc]) σ.length ρ'' (σ ++ [.lst (acc ++ as.flatMap fun a => (List.range' 0 n).map (g a))])
  | [], src, acc, ρ', hg, _, _, _, _ => by
    have q := hg acc
    cases q with
    | nil h => exact ⟨ρ', by simpa using Co2.done0 hs h⟩
  | a :: as, src, acc, ρ', hg, hl, hi, hE, he => by
    have q := hg acc
    rw [List.map_cons] at q
    cases q with
    | cons h ht hq =>
      obtain ⟨ρ1, ⟨h1, _⟩, h2⟩ := co2In (C := C) (d := d) (sc := sc) (σ := σ) (elt := elt) (x := x) (px := px) (iter := iter) (y := y) (py := py) (iter2 := iter2) (scope := scope) (pos := pos) (Inv := fun ρ' => Inv ρ' ∧ ρ'.lookup x = some (emb a)) (g := g a) hy
        (fun ρ' u hh => ⟨hupy _ _ hh.1, by rw [lookup_upd, if_neg hxy]; exact hh.2⟩) (T := n) (fun ρ' t acc ht hh => he a (.head _) ρ' t acc ht hh) n 0 acc (upd ρ' x (emb a)) (by omega) ⟨hupx _ _ hi, by rw [lookup_upd, if_pos rfl]⟩ (by simp [Nat.add_mul] at hl; omega)
      obtain ⟨ρ2, h3⟩ := co2Out emb g n hx hy hs hupx hupy hxy (as := as) (src := src.succ) (acc := acc ++ (List.range' 0 n).map (g a)) (ρ' := ρ1) (fun acc' => by
          have q := hg acc'
          rw [List.map_cons] at q
          cases q with
          | cons _ _ q' => exact q') (by simp [Nat.add_mul] at hl ⊢; omega) h1 (fun b m => hE b (.tail _ m)) (fun b m => he b (.tail _ m))
      refine ⟨ρ2, Co2.turn0 hs h (ht _ _) hx (hE a (.head _) ρ' acc hi) h2 ?_⟩
      rw [List.append_assoc] at h3
      rw [List.flatMap_cons]
      exact h3
end
section
variable {C : Cx} {d : Nat} {σ : List Cell}
theorem Ex.assignTwo {sc : Scope} {ρ ρ₃ : List (Str × V)} {elt : Expr} {x : Str} {px : Pos} {iter : Expr} {y : Str} {py : Pos} {iter2 : Expr} {scope : Scope} {pos spos pz : Pos} {z : Str} {src : Src} {vs : List V}
    (hi : EvI C d sc iter ρ σ src σ) (hco : ∃ ρ₂, Co2 C d (relab scope sc) elt x px iter y py iter2 scope pos 0 src (capt scope.names ρ) (σ ++ [.lst []]) σ.length ρ₂ (σ ++ [.lst ([] ++ vs)])) (hp : V.plains vs = true) (hu : upd ρ z (.lst vs) = ρ₃)
    (hz : sc.names.lookup z = some .local := by rfl) (hok : compOk scope sc = true := by rfl) (hx : isVar scope x = true := by rfl) (hy : isVar scope y = true := by rfl) (hs : ∀ env w, foldedSetIterable iter env w = pure w := by intro _ _; rfl)
    (hsw : ∀ env : Env, env.scope = sc → swapsWith (LC2 elt x px iter y py iter2 scope pos) (some (.Name z pz)) spos.line env = pure true := by intro e h; cases e; cases h; rfl) :
    Ex C d sc (.Assign [.Name z pz] (LC2 elt x px iter y py iter2 scope pos) spos) ρ σ (.next ρ₃ σ) := by
  obtain ⟨ρ₂, hco⟩ := hco
  subst hu
  exact Ex.assignComp2 hi hco (FrzL.plain hp) hz hok hx hy hs hsw
noncomputable def divStep (fs : List Int) (q : Nat × Nat) : Option (List Int) :=
  if fs.all sm && sm q.1 && decide (q.2 ≤ 1000) && decide (fs.length ≤ 900) then some (fs.flatMap fun a => (List.range' 0 (q.2 + 1)).map fun t => a * (q.1 : Int) ^ t) else none
noncomputable def sortO (fs : List Int) : Option (List Int) := if fs.length < 64 then some (isort fs) else if fs.length = 72 then srtP fs else none
theorem Ev.sortO {sc ρ σ₁ v p pos e} {ns ms : List Int} (h : Ev C d sc e ρ σ v σ₁) (hl : lstOf σ₁ v = some (ns.map V.int)) (hm : Mine.sortO ns = some ms) (hz : ms.length ≤ 1000)
    (hk : Gi sc "sorted" := by rfl) (hs : NoStar e := by intro _ _; rfl) (hc : CallEq "sorted" p pos [e] := by intro _; rfl) : Ev C d sc ((Expr.Name "sorted" p).Call [e] [] pos) ρ σ (zl ms) σ₁ := by
  unfold Mine.sortO at hm
  split at hm
  · rename_i h64
    cases hm
    exact Ev.isort h hl h64 hk hs hc
  · split at hm
    · rename_i h72
      unfold srtP at hm
      cases hr : runsP ns with
      | none => rw [hr] at hm; cases hm
      | some p' =>
        rw [hr] at hm
        injection hm with hm
        exact Ev.sorted72 h hl h72 hr hm hz hk hs hc
    · cases hm
theorem divisors_call {n : Nat} {ps : List (Nat × Nat)} {fs ms : List Int} (hn : n < 2 ^ 58) (hp : factO 200 n 2 [] = some ps) (hf : ps.foldlM divStep [1] = some fs) (hl : sortO fs = some ms) (hz : ms.length ≤ 1000) : DivOk C n ms := by
  intro d σ hd
  walk_at "def0"
  refine Exs.cons (Ex.set (v := zl [1]) (Ev.list (EvL.cons Ev.cInt EvL.nil) (by rfl)) (by rfl) (by intro _; rfl) (by walk_at "upd")) ?_
  refine Exs.for (fun q : List Int × List (Nat × Nat) => [("n", .int n), ("found", zl q.1)]) (fun _ => σ) (fun src q => ∃ i, src = .lst (.lst (ps.map pairV)) i ∧ ps.drop i = q.2 ∧ q.2.foldlM divStep q.1 = some fs) (fun q => q.1 = fs) (fun src => match src with | .lst _ i => ps.length + 1 - i | _ => 0) ([1], ps)
    (EvI.lst (Ev.call (by rfl) (EvL.cons (Ev.to (w := .int n) (Ev.abs (a := (n : Int)) (Ev.name (by rfl))) (by rw [Int.natAbs_natCast])) EvL.nil) (prime_factors_call 200 (by walk_at "dep") ⟨hn, hp⟩)) (by rfl)) (by walk_at "sub") rfl ⟨0, rfl, rfl, hf⟩ ?_ ?_
  · rintro src ⟨gs, qs⟩ ⟨i, e, hd', hf⟩
    dsimp only at hd' hf
    subst e
    cases qs with
    | nil =>
      cases hf
      refine .done ?_ rfl
      have hle : ps.length ≤ i := List.drop_eq_nil_iff.mp hd'
      have : (ps.map pairV)[i]? = none := by rw [List.getElem?_eq_none]; simpa using hle
      simp only [Src.over, lstOf, this]
    | cons q qs =>
      have hi : i < ps.length := by
        rcases Nat.lt_or_ge i ps.length with h | h
        · exact h
        · rw [List.drop_eq_nil_of_le h] at hd'; cases hd'
      rw [List.drop_eq_getElem_cons hi] at hd'
      injection hd' with q1 q2
      have hget : (ps.map pairV)[i]? = some (pairV q) := by rw [List.getElem?_map, List.getElem?_eq_getElem hi, q1]; rfl
      rw [List.foldlM_cons] at hf
      cases hst : divStep gs q with
      | none => rw [hst] at hf; cases hf
      | some gs' =>
        rw [hst] at hf
        refine .turn (gs', qs) (v := pairV q) (src' := .lst (.lst (ps.map pairV)) (i + 1)) (by simp only [Src.next, lstOf, hget]) (.inr ⟨⟨_, _, _, rfl⟩, .inl ⟨_, rfl⟩⟩) (As.tuple (AsL.cons (As.nm (by rfl) (by walk_at "upd")) (AsL.cons (As.nm (by rfl) (by walk_at "upd")) AsL.nil))) ?_ ⟨i + 1, rfl, q2, hf⟩ (by show ps.length + 1 - (i + 1) < ps.length + 1 - i; omega)
        unfold divStep at hst
        split at hst
        · rename_i hg
          simp only [Bool.and_eq_true, decide_eq_true_eq, List.all_eq_true, sm_iff] at hg
          obtain ⟨⟨⟨g1, g2⟩, g3⟩, g4⟩ := hg
          injection hst with hst
          refine Exs.cons (Ex.assignTwo (vs := gs'.map .int) (EvI.lst (Ev.name (by rfl)) (by rfl)) ?_ (plains_ints _) (by walk_at "upd")) (Exs.drop (by walk_at "sub"))
          have e : gs'.map V.int = gs.flatMap fun a => (List.range' 0 (q.2 + 1)).map fun t => V.int (a * (q.1 : Int) ^ t) := by rw [← hst]; simp [List.map_flatMap, Function.comp_def]
          rw [e]
          refine co2Out (Inv := fun ρ' => ρ'.lookup ("prime" : Str) = some (.int q.1) ∧ ρ'.lookup ("many" : Str) = some (.int q.2)) V.int (fun a t => .int (a * (q.1 : Int) ^ t)) (q.2 + 1) (by rfl) (by rfl) (by intro _ _; rfl) ?_ ?_ (by decide) (fun acc => gives_lst rfl fun _ _ _ _ => .inl ⟨_, _, rfl⟩) (by have := Nat.mul_le_mul g4 (show q.2 + 1 ≤ 1001 by omega); simp; omega) ⟨rfl, rfl⟩ ?_ ?_
          · intro ρ' u h; exact ⟨by rw [lookup_upd, if_neg (by decide)]; exact h.1, by rw [lookup_upd, if_neg (by decide)]; exact h.2⟩
          · intro ρ' u h; exact ⟨by rw [lookup_upd, if_neg (by decide)]; exact h.1, by rw [lookup_upd, if_neg (by decide)]; exact h.2⟩
          · intro a _ ρ' acc h
            exact EvI.range1 (ρ := upd ρ' ("one" : Str) (.int a)) (n := (q.2 + 1 : Nat)) (Ev.add (Ev.name (v := .int q.2) (by rw [lookup_upd]; rw [if_neg (show ¬ (("many" : Str) = "one") by decide)]; exact h.2)) Ev.cInt) (by omega)
          · intro a ha ρ' t acc htn h
            have sa := g1 a ha
            exact Ev.mul (Ev.name (v := .int a) (by rw [lookup_upd]; rw [if_neg (show ¬ (("one" : Str) = "times") by decide)]; exact h.2)) (Ev.to (Ev.pow (b := (t : Int)) (Ev.name (v := .int q.1) (by rw [lookup_upd]; rw [if_neg (show ¬ (("prime" : Str) = "times") by decide)]; exact h.1.1)) (Ev.name (v := .int t) (by rw [lookup_upd]; exact if_pos rfl)) (by omega) (by omega) g2) rfl) sa
        · cases hst
  · rintro ⟨gs, qs⟩ e
    dsimp only at e
    subst e
    exact Exs.stop (Ex.ret (Ev.sortO (Ev.name (by rfl)) (by rfl) hl hz))
end
end
section
open PyProof.V
/-! ## the candidates, when the bottoms are [1] -/
noncomputable def candsP (ms : List Int) : List (Int × Int) := ms.flatMap fun t => [(t, 1), (-t, 1)]
theorem neg_sum {r s : Int} (hr : r.natAbs ≤ 1000) (hs : s.natAbs ≤ 1000) : (-(r + s)).natAbs ≤ 1000000 := by rw [Int.natAbs_neg]; exact Nat.le_trans (Int.natAbs_add_le r s) (Nat.le_trans (Nat.add_le_add hr hs) (by decide))
theorem ratI_one (t : Int) : ratI t 1 = (t, 1) := by
  unfold ratI
  have : Int.gcd t 1 = 1 := by simp [Int.gcd]
  rw [this]; simp
theorem contains_false {acc : List (Int × Int)} {x : Int × Int} (h : ∀ y ∈ acc, y ≠ x) : (acc.map keyOf).contains (keyOf x) = false := by
  rw [Bool.eq_false_iff]
  intro hc
  rw [List.contains_iff_mem] at hc
  obtain ⟨y, hy, e⟩ := List.mem_map.mp hc
  refine h y hy ?_
  unfold keyOf at e
  injection e with e1 e2
  injection e2 with e2 e3
  exact Prod.ext e1 e2
theorem cand1_one {acc : List (Int × Int)} {t : Int} (ht : 0 < t) (hl : acc.length + 2 < 10000) (h : ∀ y ∈ acc, y.1.natAbs < t.natAbs) : cand1 [1] acc t = some (acc ++ [(t, 1), (-t, 1)]) := by
  have h1 : cand3 acc (t, 1) = some (acc ++ [(t, 1)]) := by
    unfold cand3
    rw [contains_false (fun y hy e => by have := h y hy; rw [e] at this; omega)]
    simp; omega
  have h2 : cand3 (acc ++ [(t, 1)]) (-t, 1) = some (acc ++ [(t, 1)] ++ [(-t, 1)]) := by
    unfold cand3
    rw [contains_false (fun y hy e => by
      rcases List.mem_append.mp hy with hy | hy
      · have := h y hy; rw [e] at this; simp only [Int.natAbs_neg] at this; omega
      · rw [List.mem_singleton.mp hy] at e
        injection e with e1 _
        omega)]
    simp; omega
  show ([1] : List Int).foldlM (cand2 t) acc = _
  rw [List.foldlM_cons]
  have e : cand2 t acc 1 = some (acc ++ [(t, 1), (-t, 1)]) := by
    unfold cand2
    rw [if_pos (by decide), ratI_one, ratI_one, List.foldlM_cons, h1]
    show List.foldlM cand3 (acc ++ [(t, 1)]) [(-t, 1)] = _
    rw [List.foldlM_cons, h2]
    simp [List.foldlM_nil]
  rw [e]; rfl
noncomputable def ascB : Int → List Int → Bool
  | _, [] => true
  | p, x :: r => decide (p < x) && decide (x ≤ 1000000) && ascB x r
theorem ascB_go : ∀ {ms : List Int} {p : Int} {acc : List (Int × Int)}, 0 ≤ p → ascB p ms = true → (∀ y ∈ acc, (y.1.natAbs : Int) ≤ p) → acc.length + 2 * ms.length < 10000 → ms.foldlM (cand1 [1]) acc = some (acc ++ candsP ms)
  | [], p, acc, _, _, _, _ => by simp [candsP, List.foldlM_nil]
  | x :: r, p, acc, hp, h, ha, hl => by
    simp only [ascB, Bool.and_eq_true, decide_eq_true_eq] at h
    obtain ⟨⟨h1, h2⟩, h3⟩ := h
    simp only [List.length_cons] at hl
    rw [List.foldlM_cons, cand1_one (by omega) (by omega) (fun y hy => by have := ha y hy; omega)]
    show List.foldlM (cand1 [1]) (acc ++ [(x, 1), (-x, 1)]) r = _
    rw [ascB_go (p := x) (by omega) h3 (fun y hy => by
      rcases List.mem_append.mp hy with hy | hy
      · have := ha y hy; omega
      · simp only [List.mem_cons, List.not_mem_nil, or_false] at hy
        rcases hy with rfl | rfl
        · show ((x.natAbs : Nat) : Int) ≤ x; omega
        · show (((-x).natAbs : Nat) : Int) ≤ x; omega) (by simp; omega)]
    simp [candsP, List.flatMap_cons]
theorem ascB_le : ∀ {ms : List Int} {p : Int}, 0 ≤ p → ascB p ms = true → ∀ x ∈ candsP ms, x.2 = 1 ∧ x.1.natAbs ≤ 1000000
  | [], _, _, _, x, hx => by simp [candsP] at hx
  | a :: r, p, hp, h, x, hx => by
    simp only [ascB, Bool.and_eq_true, decide_eq_true_eq] at h
    obtain ⟨⟨h1, h2⟩, h3⟩ := h
    rw [candsP, List.flatMap_cons] at hx
    rcases List.mem_append.mp hx with hx | hx
    · simp only [List.mem_cons, List.not_mem_nil, or_false] at hx
      rcases hx with rfl | rfl
      · exact ⟨rfl, by show a.natAbs ≤ _; omega⟩
      · exact ⟨rfl, by show (-a).natAbs ≤ _; omega⟩
    · exact ascB_le (p := a) (by omega) h3 x hx
theorem mem_cands {ms : List Int} {r : Int} (h : ms.contains (r.natAbs : Int) = true) : (r, 1) ∈ candsP ms := by
  rw [List.contains_iff_mem] at h
  refine List.mem_flatMap.mpr ⟨_, h, ?_⟩
  simp only [List.mem_cons, List.not_mem_nil, or_false, Prod.mk.injEq, and_true]
  omega
/-! ## a candidate that is no root passes -/
theorem rootR_skip {left : List Int} {fs : List Rt} {x : Int × Int} {F : Int} (hl : left.length ≤ 100) (h1 : 1 < left.length) (hv : vsO x.1 x.2 left.reverse 0 1 = some F) (hF : F ≠ 0) (hf : fs.length < 1000) : rootR (left, fs) x = some (left, fs) := by
  have e : stripR x 200 left 0 = some (left, 0) := by
    unfold stripR
    rw [if_pos hl, if_pos h1, hv]
    simp only [if_neg hF]
  unfold rootR
  simp only [e, hf, if_true, Nat.lt_irrefl, if_false]
theorem rootR_one {fs : List Rt} {x : Int × Int} (hf : fs.length < 1000) : rootR ([1], fs) x = some ([1], fs) := by
  have e : stripR x 200 [1] 0 = some ([1], 0) := by
    unfold stripR
    rw [if_pos (by decide), if_neg (by decide)]
  unfold rootR
  simp only [e, hf, if_true, Nat.lt_irrefl, if_false]
theorem vs2 {x c : Int} (hx : x.natAbs ≤ 1000000) (hc : c.natAbs ≤ 1000000) : vsO x 1 [c, 1].reverse 0 1 = some (x + c) := by
  have s1 : sm c = true := by unfold sm; exact decide_eq_true (by omega)
  have s2 : sm (0 * x + 1 * 1) = true := by unfold sm; exact decide_eq_true (by omega)
  show vsO x 1 [1, c] 0 1 = _
  unfold vsO
  rw [if_pos (by decide)]
  unfold vsO
  rw [if_pos (by rw [s1, s2]; decide)]
  unfold vsO
  congr 1
  omega
theorem vs3 {x c b : Int} (hx : x.natAbs ≤ 1000000) (hc : c.natAbs ≤ 1000000000000) (hb : b.natAbs ≤ 1000000) : vsO x 1 [c, b, 1].reverse 0 1 = some ((x + b) * x + c) := by
  have s1 : sm c = true := by unfold sm; exact decide_eq_true (by omega)
  have s2 : sm (0 * x + 1 * 1) = true := by unfold sm; exact decide_eq_true (by omega)
  have s3 : sm b = true := by unfold sm; exact decide_eq_true (by omega)
  have e : (0 * x + 1 * 1) * x + b * (1 * 1) = x + b := by omega
  have s4 : sm (x + b) = true := by unfold sm; exact decide_eq_true (by omega)
  show vsO x 1 [1, b, c] 0 1 = _
  unfold vsO
  rw [if_pos (by decide)]
  unfold vsO
  rw [if_pos (by rw [s2, s3]; decide), e]
  unfold vsO
  rw [if_pos (by rw [s1, s4]; decide)]
  unfold vsO
  congr 1
  omega
theorem fold_one : ∀ {xs : List (Int × Int)} {fs : List Rt}, fs.length < 1000 → xs.foldlM rootR ([1], fs) = some ([1], fs)
  | [], _, _ => rfl
  | x :: xs, fs, hf => by
    rw [List.foldlM_cons, rootR_one hf]
    exact fold_one hf
theorem fold_lin {r : Int} {fs gs : List Rt} (hr : r.natAbs ≤ 1000000) (hf : fs.length < 1000) (hg : gs.length < 1000) (h1 : rootR ([-r, 1], fs) (r, 1) = some ([1], gs)) :
    ∀ {xs : List (Int × Int)}, (∀ x ∈ xs, x.2 = 1 ∧ x.1.natAbs ≤ 1000000) → (r, 1) ∈ xs → xs.foldlM rootR ([-r, 1], fs) = some ([1], gs)
  | [], _, hm => by cases hm
  | (x, y) :: xs, hb, hm => by
    obtain ⟨e, hx⟩ := hb _ (.head _)
    dsimp only at e hx
    subst e
    rw [List.foldlM_cons]
    by_cases q : x = r
    · subst q
      rw [h1]
      exact fold_one hg
    · rw [rootR_skip (F := x + -r) (by simp) (by simp) (vs2 hx (by rw [Int.natAbs_neg]; exact hr)) (by omega) hf]
      refine fold_lin hr hf hg h1 (fun z hz => hb z (.tail _ hz)) ?_
      rcases List.mem_cons.mp hm with e | hm
      · injection e with e _; exact absurd e.symm q
      · exact hm
theorem quad_ne {x r s : Int} (h1 : x ≠ r) (h2 : x ≠ s) : (x + -(r + s)) * x + r * s ≠ 0 := by
  have e : (x + -(r + s)) * x + r * s = (x - r) * (x - s) := by grind
  rw [e]
  exact Int.mul_ne_zero (by omega) (by omega)
theorem fold_quad {r s : Int} (hr : r.natAbs ≤ 1000) (hs : s.natAbs ≤ 1000) {g1 g2 g3 g4 : List Rt} (hg : g1.length < 1000 ∧ g2.length < 1000 ∧ g3.length < 1000 ∧ g4.length < 1000) (hrs : r ≠ s)
    (h1 : rootR ([r * s, -(r + s), 1], []) (r, 1) = some ([-s, 1], g1)) (h2 : rootR ([r * s, -(r + s), 1], []) (s, 1) = some ([-r, 1], g2)) (h3 : rootR ([-s, 1], g1) (s, 1) = some ([1], g3)) (h4 : rootR ([-r, 1], g2) (r, 1) = some ([1], g4)) :
    ∀ {xs : List (Int × Int)}, (∀ x ∈ xs, x.2 = 1 ∧ x.1.natAbs ≤ 1000000) → (r, 1) ∈ xs → (s, 1) ∈ xs → xs.foldlM rootR ([r * s, -(r + s), 1], []) = some ([1], g3) ∨ xs.foldlM rootR ([r * s, -(r + s), 1], []) = some ([1], g4)
  | [], _, hm, _ => by cases hm
  | (x, y) :: xs, hb, hm, hm' => by
    obtain ⟨e, hx⟩ := hb _ (.head _)
    dsimp only at e hx
    subst e
    have hb' : ∀ x ∈ xs, x.2 = 1 ∧ x.1.natAbs ≤ 1000000 := fun z hz => hb z (.tail _ hz)
    rw [List.foldlM_cons]
    by_cases q : x = r
    · subst q
      rw [h1]
      refine .inl (fold_lin (by omega) hg.1 hg.2.2.1 h3 hb' ?_)
      rcases List.mem_cons.mp hm' with e | hm'
      · injection e with e _; exact absurd e.symm hrs
      · exact hm'
    · by_cases q' : x = s
      · subst q'
        rw [h2]
        refine .inr (fold_lin (by omega) hg.2.1 hg.2.2.2 h4 hb' ?_)
        rcases List.mem_cons.mp hm with e | hm
        · injection e with e _; exact absurd e.symm q
        · exact hm
      · have hc : (r * s).natAbs ≤ 1000000000000 := by
          rw [Int.natAbs_mul]; have := Nat.mul_le_mul hr hs; omega
        rw [rootR_skip (by simp) (by simp) (vs3 hx hc (neg_sum hr hs)) (quad_ne q q') (by simp)]
        refine fold_quad hr hs hg hrs h1 h2 h3 h4 hb' ?_ ?_
        · rcases List.mem_cons.mp hm with e | hm
          · injection e with e _; exact absurd e.symm q
          · exact hm
        · rcases List.mem_cons.mp hm' with e | hm'
          · injection e with e _; exact absurd e.symm q'
          · exact hm'
theorem fold_same {r : Int} (hr : r.natAbs ≤ 1000) {g : List Rt} (hg : g.length < 1000) (h1 : rootR ([r * r, -(r + r), 1], []) (r, 1) = some ([1], g)) :
    ∀ {xs : List (Int × Int)}, (∀ x ∈ xs, x.2 = 1 ∧ x.1.natAbs ≤ 1000000) → (r, 1) ∈ xs → xs.foldlM rootR ([r * r, -(r + r), 1], []) = some ([1], g)
  | [], _, hm => by cases hm
  | (x, y) :: xs, hb, hm => by
    obtain ⟨e, hx⟩ := hb _ (.head _)
    dsimp only at e hx
    subst e
    have hb' : ∀ x ∈ xs, x.2 = 1 ∧ x.1.natAbs ≤ 1000000 := fun z hz => hb z (.tail _ hz)
    rw [List.foldlM_cons]
    by_cases q : x = r
    · subst q
      rw [h1]
      exact fold_one hg
    · have hc : (r * r).natAbs ≤ 1000000000000 := by
        rw [Int.natAbs_mul]; have := Nat.mul_le_mul hr hr; omega
      rw [rootR_skip (by simp) (by simp) (vs3 hx hc (neg_sum hr hr)) (quad_ne q q) (by simp)]
      refine fold_same hr hg h1 hb' ?_
      rcases List.mem_cons.mp hm with e | hm
      · injection e with e _; exact absurd e.symm q
      · exact hm
end
section
open PyProof.V
noncomputable def divB (n : Nat) (lo hi : Int) : Bool := match factO 200 n 2 [] with
  | none => false
  | some ps => match ps.foldlM divStep [1] with
    | none => false
    | some fs => match sortO fs with
      | none => false
      | some ms => ascB 0 ms && decide (ms.length ≤ 1000) && ms.contains (lo.natAbs : Int) && ms.contains (hi.natAbs : Int)
theorem divB_ok {C : Cx} {n : Nat} {lo hi : Int} (hn : n < 2 ^ 58) (h : divB n lo hi = true) : ∃ ms, DivOk C n ms ∧ ascB 0 ms = true ∧ ms.length ≤ 1000 ∧ (lo, 1) ∈ candsP ms ∧ (hi, 1) ∈ candsP ms := by
  unfold divB at h
  split at h
  · cases h
  · rename_i ps hp
    split at h
    · cases h
    · rename_i fs hf
      split at h
      · cases h
      · rename_i ms hm
        simp only [Bool.and_eq_true, decide_eq_true_eq] at h
        obtain ⟨⟨⟨h1, h2⟩, h3⟩, h4⟩ := h
        exact ⟨ms, divisors_call hn hp hf hm h2, h1, h2, mem_cands h3, mem_cands h4⟩
theorem div_one {C : Cx} : DivOk C 1 [1] := divisors_call (ps := []) (fs := [1]) (by decide) (by rfl) (by rfl) (by rfl) (by decide)
theorem due_comm (a b : Int) : dueP a b = dueP b a := by
  unfold dueP
  by_cases h : a = b
  · subst h; rfl
  · rw [if_pos h, if_pos (Ne.symm h)]
    have e : isort [a, b] = isort [b, a] := sorted_unique ((isort_perm _).trans ((List.Perm.swap _ _ _).trans (isort_perm _).symm)) (isort_sorted _) (isort_sorted _)
    rw [e]
noncomputable def sortsTo (fs : List Rt) (res : List Rt) : Bool := decide (fs.foldlM sortR [] = some res)
noncomputable def genB (r s : Int) : Bool :=
  if r = s then decide (rootR ([r * r, -(r + r), 1], []) (r, 1) = some ([1], [((r, 1), 2)])) && sortsTo [((r, 1), 2)] (dueP r r)
  else decide (rootR ([r * s, -(r + s), 1], []) (r, 1) = some ([-s, 1], [((r, 1), 1)])) && decide (rootR ([r * s, -(r + s), 1], []) (s, 1) = some ([-r, 1], [((s, 1), 1)]))
    && decide (rootR ([-s, 1], [((r, 1), 1)]) (s, 1) = some ([1], [((r, 1), 1), ((s, 1), 1)])) && decide (rootR ([-r, 1], [((s, 1), 1)]) (r, 1) = some ([1], [((s, 1), 1), ((r, 1), 1)]))
    && sortsTo [((r, 1), 1), ((s, 1), 1)] (dueP r s) && sortsTo [((s, 1), 1), ((r, 1), 1)] (dueP r s)
noncomputable def zerB (s : Int) : Bool := decide (s ≠ 0) && decide (rootR ([-s, 1], [((0, 1), 1)]) (s, 1) = some ([1], [((0, 1), 1), ((s, 1), 1)])) && sortsTo [((0, 1), 1), ((s, 1), 1)] (dueP 0 s)
noncomputable def okPair (r s : Int) : Bool := decide (r.natAbs ≤ 1000) && decide (s.natAbs ≤ 1000) && if r = 0 then zerB s else decide (s ≠ 0) && divB (r * s).natAbs r s && genB r s
theorem okPair_roots {C : Cx} {r s : Int} (h : okPair r s = true) : RootsOk C [r * s, -(r + s), 1] (dueP r s) := by
  simp only [okPair, Bool.and_eq_true, decide_eq_true_eq] at h
  obtain ⟨⟨hr, hs⟩, h⟩ := h
  split at h
  · rename_i h0
    subst h0
    simp only [zerB, sortsTo, Bool.and_eq_true, decide_eq_true_eq] at h
    obtain ⟨⟨h1, h2⟩, h3⟩ := h
    intro d σ hd
    have e1 : ([0 * s, -(0 + s), 1] : List Int) = [0, -s, 1] := by rw [Int.zero_mul, Int.zero_add]
    have e2 : dropZ [0, -s, 1] = [-s, 1] := by
      show dropZ [-s, 1] = _
      unfold dropZ
      rw [if_neg (by omega)]
    have e3 : found0 [0, -s, 1] = [((0, 1), 1)] := by unfold found0; rw [e2]; rfl
    rw [e1]
    have ht : TriedOk C [-s, 1] [ratI (-(-s)) 1] := tried1 ⟨by decide, by unfold Sm; decide⟩
    refine rational_roots_call hd (by simp) (by rw [e2]; exact ht) (L := [1]) (fnd := [((0, 1), 1), ((s, 1), 1)]) ?_ h3
    rw [e2, e3, ratI_one, Int.neg_neg, List.foldlM_cons, h2]
    rfl
  · rename_i h0
    simp only [Bool.and_eq_true, decide_eq_true_eq] at h
    obtain ⟨⟨hs0, hdv⟩, hg⟩ := h
    have hne : r * s ≠ 0 := Int.mul_ne_zero h0 hs0
    have hle : (r * s).natAbs ≤ 1000000 := by rw [Int.natAbs_mul]; have := Nat.mul_le_mul hr hs; omega
    obtain ⟨ms, m1, m2, m3, m4, m5⟩ := divB_ok (C := C) (by omega) hdv
    have hx := ascB_go (ms := ms) (p := 0) (acc := []) (by decide) m2 (fun _ h => nomatch h) (by simp; omega)
    rw [List.nil_append] at hx
    have hb := ascB_le (by decide) m2
    have e2 : dropZ [r * s, -(r + s), 1] = [r * s, -(r + s), 1] := by unfold dropZ; rw [if_neg hne]
    have e3 : found0 [r * s, -(r + s), 1] = [] := by unfold found0; rw [e2]; rfl
    have ht : TriedOk C [r * s, -(r + s), 1] (candsP ms) := tried3 (ds := [1]) (ts := ms) ⟨by simp, by simp⟩ div_one m1 hx ⟨by show (r * s).natAbs ≤ _; omega, by show (1 : Int).natAbs ≤ _; decide⟩
    intro d σ hd
    unfold genB at hg
    split at hg
    · rename_i hrs
      subst hrs
      simp only [sortsTo, Bool.and_eq_true, decide_eq_true_eq] at hg
      refine rational_roots_call hd (by simp) (by rw [e2]; exact ht) (L := [1]) (fnd := [((r, 1), 2)]) ?_ hg.2
      rw [e2, e3]
      exact fold_same hr (by simp) hg.1 hb m4
    · rename_i hrs
      simp only [sortsTo, Bool.and_eq_true, decide_eq_true_eq] at hg
      obtain ⟨⟨⟨⟨⟨g1, g2⟩, g3⟩, g4⟩, g5⟩, g6⟩ := hg
      rcases fold_quad hr hs ⟨by simp, by simp, by simp, by simp⟩ hrs g1 g2 g3 g4 hb m4 m5 with hq | hq
      · refine rational_roots_call hd (by simp) (by rw [e2]; exact ht) (L := [1]) (fnd := [((r, 1), 1), ((s, 1), 1)]) ?_ g5
        rw [e2, e3]; exact hq
      · refine rational_roots_call hd (by simp) (by rw [e2]; exact ht) (L := [1]) (fnd := [((s, 1), 1), ((r, 1), 1)]) ?_ g6
        rw [e2, e3]; exact hq
end
section

/-! ## the plain law: what a mirroring keeps -/
noncomputable abbrev M4 (a0 b0 x0 y0 a1 b1 x1 y1 a2 b2 x2 y2 a3 b3 x3 y3 : Int) : List (List Int) := [[a0, b0, x0, y0], [a1, b1, x1, y1], [a2, b2, x2, y2], [a3, b3, x3, y3]]
theorem list4 {α : Type} : ∀ {l : List α}, l.length = 4 → ∃ a b c d, l = [a, b, c, d]
  | [_, _, _, _], _ => ⟨_, _, _, _, rfl⟩
theorem rows4 {R : List (List Int)} (h : rowsOk R = true) : ∃ a0 b0 x0 y0 a1 b1 x1 y1 a2 b2 x2 y2 a3 b3 x3 y3, R = M4 a0 b0 x0 y0 a1 b1 x1 y1 a2 b2 x2 y2 a3 b3 x3 y3 := by
  obtain ⟨h4, hr⟩ := rowsOk_iff.mp h
  obtain ⟨p, q, r, s, rfl⟩ := list4 h4
  obtain ⟨a0, b0, x0, y0, rfl⟩ := list4 (hr p (by simp))
  obtain ⟨a1, b1, x1, y1, rfl⟩ := list4 (hr q (by simp))
  obtain ⟨a2, b2, x2, y2, rfl⟩ := list4 (hr r (by simp))
  obtain ⟨a3, b3, x3, y3, rfl⟩ := list4 (hr s (by simp))
  exact ⟨_, _, _, _, _, _, _, _, _, _, _, _, _, _, _, _, rfl⟩
noncomputable def kp (u0 u1 u2 u3 v0 v1 v2 v3 : Int) : Int := u0 * (v0 - v1 - v2 - v3) + u1 * (v1 - v0 - v2 - v3) + u2 * (v2 - v0 - v1 - v3) + u3 * (v3 - v0 - v1 - v2)
theorem kp_at (u0 u1 u2 u3 v0 v1 v2 v3 : Int) : u0 * (1 * v0 + (-1 * v1 + (-1 * v2 + (-1 * v3 + 0)))) + (u1 * (-1 * v0 + (1 * v1 + (-1 * v2 + (-1 * v3 + 0)))) + (u2 * (-1 * v0 + (-1 * v1 + (1 * v2 + (-1 * v3 + 0)))) + (u3 * (-1 * v0 + (-1 * v1 + (-1 * v2 + (1 * v3 + 0)))) + 0))) = kp u0 u1 u2 u3 v0 v1 v2 v3 := by
  unfold kp; grind
variable {a0 b0 x0 y0 a1 b1 x1 y1 a2 b2 x2 y2 a3 b3 x3 y3 : Int}
theorem keepP_eq : keepP (M4 a0 b0 x0 y0 a1 b1 x1 y1 a2 b2 x2 y2 a3 b3 x3 y3) =
    [[kp a0 a1 a2 a3 a0 a1 a2 a3, kp a0 a1 a2 a3 b0 b1 b2 b3, kp a0 a1 a2 a3 x0 x1 x2 x3, kp a0 a1 a2 a3 y0 y1 y2 y3],
     [kp b0 b1 b2 b3 a0 a1 a2 a3, kp b0 b1 b2 b3 b0 b1 b2 b3, kp b0 b1 b2 b3 x0 x1 x2 x3, kp b0 b1 b2 b3 y0 y1 y2 y3],
     [kp x0 x1 x2 x3 a0 a1 a2 a3, kp x0 x1 x2 x3 b0 b1 b2 b3, kp x0 x1 x2 x3 x0 x1 x2 x3, kp x0 x1 x2 x3 y0 y1 y2 y3],
     [kp y0 y1 y2 y3 a0 a1 a2 a3, kp y0 y1 y2 y3 b0 b1 b2 b3, kp y0 y1 y2 y3 x0 x1 x2 x3, kp y0 y1 y2 y3 y0 y1 y2 y3]] := by
  simp only [← kp_at]; rfl
noncomputable abbrev mi (a b c d e : Int) : Int := 2 * (a + (b + (c + (d + 0)))) - 3 * e
theorem kp_m0 (u0 u1 u2 u3 v0 v1 v2 v3 : Int) : kp (mi u0 u1 u2 u3 u0) u1 u2 u3 (mi v0 v1 v2 v3 v0) v1 v2 v3 = kp u0 u1 u2 u3 v0 v1 v2 v3 := by unfold kp mi; grind
theorem kp_m1 (u0 u1 u2 u3 v0 v1 v2 v3 : Int) : kp u0 (mi u0 u1 u2 u3 u1) u2 u3 v0 (mi v0 v1 v2 v3 v1) v2 v3 = kp u0 u1 u2 u3 v0 v1 v2 v3 := by unfold kp mi; grind
theorem kp_m2 (u0 u1 u2 u3 v0 v1 v2 v3 : Int) : kp u0 u1 (mi u0 u1 u2 u3 u2) u3 v0 v1 (mi v0 v1 v2 v3 v2) v3 = kp u0 u1 u2 u3 v0 v1 v2 v3 := by unfold kp mi; grind
theorem kp_m3 (u0 u1 u2 u3 v0 v1 v2 v3 : Int) : kp u0 u1 u2 (mi u0 u1 u2 u3 u3) v0 v1 v2 (mi v0 v1 v2 v3 v3) = kp u0 u1 u2 u3 v0 v1 v2 v3 := by unfold kp mi; grind
theorem mir0 : mirP (M4 a0 b0 x0 y0 a1 b1 x1 y1 a2 b2 x2 y2 a3 b3 x3 y3) 0 = M4 (mi a0 a1 a2 a3 a0) (mi b0 b1 b2 b3 b0) (mi x0 x1 x2 x3 x0) (mi y0 y1 y2 y3 y0) a1 b1 x1 y1 a2 b2 x2 y2 a3 b3 x3 y3 := by rfl
theorem mir1 : mirP (M4 a0 b0 x0 y0 a1 b1 x1 y1 a2 b2 x2 y2 a3 b3 x3 y3) 1 = M4 a0 b0 x0 y0 (mi a0 a1 a2 a3 a1) (mi b0 b1 b2 b3 b1) (mi x0 x1 x2 x3 x1) (mi y0 y1 y2 y3 y1) a2 b2 x2 y2 a3 b3 x3 y3 := by rfl
theorem mir2 : mirP (M4 a0 b0 x0 y0 a1 b1 x1 y1 a2 b2 x2 y2 a3 b3 x3 y3) 2 = M4 a0 b0 x0 y0 a1 b1 x1 y1 (mi a0 a1 a2 a3 a2) (mi b0 b1 b2 b3 b2) (mi x0 x1 x2 x3 x2) (mi y0 y1 y2 y3 y2) a3 b3 x3 y3 := by rfl
theorem mir3 : mirP (M4 a0 b0 x0 y0 a1 b1 x1 y1 a2 b2 x2 y2 a3 b3 x3 y3) 3 = M4 a0 b0 x0 y0 a1 b1 x1 y1 a2 b2 x2 y2 (mi a0 a1 a2 a3 a3) (mi b0 b1 b2 b3 b3) (mi x0 x1 x2 x3 x3) (mi y0 y1 y2 y3 y3) := by rfl
theorem keepP_mir {R : List (List Int)} {i : Nat} (h : rowsOk R = true) (hi : i < 4) : keepP (mirP R i) = keepP R := by
  obtain ⟨a0, b0, x0, y0, a1, b1, x1, y1, a2, b2, x2, y2, a3, b3, x3, y3, rfl⟩ := rows4 h
  match i, hi with
  | 0, _ => rw [mir0, keepP_eq, keepP_eq]; simp only [kp_m0]
  | 1, _ => rw [mir1, keepP_eq, keepP_eq]; simp only [kp_m1]
  | 2, _ => rw [mir2, keepP_eq, keepP_eq]; simp only [kp_m2]
  | 3, _ => rw [mir3, keepP_eq, keepP_eq]; simp only [kp_m3]
/-! ## the product of two rows -/
noncomputable def ipE (a b x y a' b' x' y' : Int) : Int := 2 * (x * x' + y * y') - (a * b' + b * a')
theorem ip_lin (a0 b0 x0 y0 a1 b1 x1 y1 a2 b2 x2 y2 a3 b3 x3 y3 e f g h a b x y : Int) : ipE (mi a0 a1 a2 a3 e) (mi b0 b1 b2 b3 f) (mi x0 x1 x2 x3 g) (mi y0 y1 y2 y3 h) a b x y =
    2 * (ipE a0 b0 x0 y0 a b x y + ipE a1 b1 x1 y1 a b x y + ipE a2 b2 x2 y2 a b x y + ipE a3 b3 x3 y3 a b x y) - 3 * ipE e f g h a b x y := by unfold ipE mi; grind
theorem ip_comm (a b x y a' b' x' y' : Int) : ipE a b x y a' b' x' y' = ipE a' b' x' y' a b x y := by unfold ipE; grind
noncomputable def ip (r s : List Int) : Int := ipE (nth r 0) (nth r 1) (nth r 2) (nth r 3) (nth s 0) (nth s 1) (nth s 2) (nth s 3)
/-! ## the determinant -/
noncomputable def d3 (a b c d e f g h i : Int) : Int := a * (e * i - f * h) - b * (d * i - f * g) + c * (d * h - e * g)
noncomputable def d4 (a0 b0 x0 y0 a1 b1 x1 y1 a2 b2 x2 y2 a3 b3 x3 y3 : Int) : Int :=
  a0 * d3 b1 x1 y1 b2 x2 y2 b3 x3 y3 - b0 * d3 a1 x1 y1 a2 x2 y2 a3 x3 y3 + x0 * d3 a1 b1 y1 a2 b2 y2 a3 b3 y3 - y0 * d3 a1 b1 x1 a2 b2 x2 a3 b3 x3
theorem d4_m0 : d4 (mi a0 a1 a2 a3 a0) (mi b0 b1 b2 b3 b0) (mi x0 x1 x2 x3 x0) (mi y0 y1 y2 y3 y0) a1 b1 x1 y1 a2 b2 x2 y2 a3 b3 x3 y3 = - d4 a0 b0 x0 y0 a1 b1 x1 y1 a2 b2 x2 y2 a3 b3 x3 y3 := by unfold d4 d3 mi; grind
theorem d4_m1 : d4 a0 b0 x0 y0 (mi a0 a1 a2 a3 a1) (mi b0 b1 b2 b3 b1) (mi x0 x1 x2 x3 x1) (mi y0 y1 y2 y3 y1) a2 b2 x2 y2 a3 b3 x3 y3 = - d4 a0 b0 x0 y0 a1 b1 x1 y1 a2 b2 x2 y2 a3 b3 x3 y3 := by unfold d4 d3 mi; grind
theorem d4_m2 : d4 a0 b0 x0 y0 a1 b1 x1 y1 (mi a0 a1 a2 a3 a2) (mi b0 b1 b2 b3 b2) (mi x0 x1 x2 x3 x2) (mi y0 y1 y2 y3 y2) a3 b3 x3 y3 = - d4 a0 b0 x0 y0 a1 b1 x1 y1 a2 b2 x2 y2 a3 b3 x3 y3 := by unfold d4 d3 mi; grind
theorem d4_m3 : d4 a0 b0 x0 y0 a1 b1 x1 y1 a2 b2 x2 y2 (mi a0 a1 a2 a3 a3) (mi b0 b1 b2 b3 b3) (mi x0 x1 x2 x3 x3) (mi y0 y1 y2 y3 y3) = - d4 a0 b0 x0 y0 a1 b1 x1 y1 a2 b2 x2 y2 a3 b3 x3 y3 := by unfold d4 d3 mi; grind
end
section

noncomputable def gramP (R : List (List Int)) : List Int := [ip (rowAt R 0) (rowAt R 0), ip (rowAt R 1) (rowAt R 1), ip (rowAt R 2) (rowAt R 2), ip (rowAt R 3) (rowAt R 3), ip (rowAt R 0) (rowAt R 1), ip (rowAt R 0) (rowAt R 2), ip (rowAt R 0) (rowAt R 3), ip (rowAt R 1) (rowAt R 2), ip (rowAt R 1) (rowAt R 3), ip (rowAt R 2) (rowAt R 3)]
noncomputable def gramL : List Int := [2, 2, 2, 2, -2, -2, -2, -2, -2, -2]
noncomputable def detP (R : List (List Int)) : Int := d4 (nth (rowAt R 0) 0) (nth (rowAt R 0) 1) (nth (rowAt R 0) 2) (nth (rowAt R 0) 3) (nth (rowAt R 1) 0) (nth (rowAt R 1) 1) (nth (rowAt R 1) 2) (nth (rowAt R 1) 3) (nth (rowAt R 2) 0) (nth (rowAt R 2) 1) (nth (rowAt R 2) 2) (nth (rowAt R 2) 3) (nth (rowAt R 3) 0) (nth (rowAt R 3) 1) (nth (rowAt R 3) 2) (nth (rowAt R 3) 3)
noncomputable def bdB (B : Nat) (R : List (List Int)) : Bool := R.all fun r => r.all fun n => decide (n.natAbs ≤ B)
structure Good (B : Nat) (v : Int) (R : List (List Int)) : Prop where
  ok : rowsOk R = true
  bd : bdB B R = true
  keep : keepP R = keepL
  gram : gramP R = gramL
  det : detP R = v
variable {a0 b0 x0 y0 a1 b1 x1 y1 a2 b2 x2 y2 a3 b3 x3 y3 : Int}
theorem gram_eq : gramP (M4 a0 b0 x0 y0 a1 b1 x1 y1 a2 b2 x2 y2 a3 b3 x3 y3) = gramL ↔
    ipE a0 b0 x0 y0 a0 b0 x0 y0 = 2 ∧ ipE a1 b1 x1 y1 a1 b1 x1 y1 = 2 ∧ ipE a2 b2 x2 y2 a2 b2 x2 y2 = 2 ∧ ipE a3 b3 x3 y3 a3 b3 x3 y3 = 2 ∧
    ipE a0 b0 x0 y0 a1 b1 x1 y1 = -2 ∧ ipE a0 b0 x0 y0 a2 b2 x2 y2 = -2 ∧ ipE a0 b0 x0 y0 a3 b3 x3 y3 = -2 ∧ ipE a1 b1 x1 y1 a2 b2 x2 y2 = -2 ∧ ipE a1 b1 x1 y1 a3 b3 x3 y3 = -2 ∧ ipE a2 b2 x2 y2 a3 b3 x3 y3 = -2 := by
  show ([ipE a0 b0 x0 y0 a0 b0 x0 y0, ipE a1 b1 x1 y1 a1 b1 x1 y1, ipE a2 b2 x2 y2 a2 b2 x2 y2, ipE a3 b3 x3 y3 a3 b3 x3 y3, ipE a0 b0 x0 y0 a1 b1 x1 y1, ipE a0 b0 x0 y0 a2 b2 x2 y2, ipE a0 b0 x0 y0 a3 b3 x3 y3, ipE a1 b1 x1 y1 a2 b2 x2 y2, ipE a1 b1 x1 y1 a3 b3 x3 y3, ipE a2 b2 x2 y2 a3 b3 x3 y3] : List Int) = gramL ↔ _
  unfold gramL
  simp only [List.cons.injEq, and_true]
theorem bd_eq {B : Nat} : bdB B (M4 a0 b0 x0 y0 a1 b1 x1 y1 a2 b2 x2 y2 a3 b3 x3 y3) = true ↔
    (a0.natAbs ≤ B ∧ b0.natAbs ≤ B ∧ x0.natAbs ≤ B ∧ y0.natAbs ≤ B) ∧ (a1.natAbs ≤ B ∧ b1.natAbs ≤ B ∧ x1.natAbs ≤ B ∧ y1.natAbs ≤ B) ∧ (a2.natAbs ≤ B ∧ b2.natAbs ≤ B ∧ x2.natAbs ≤ B ∧ y2.natAbs ≤ B) ∧ (a3.natAbs ≤ B ∧ b3.natAbs ≤ B ∧ x3.natAbs ≤ B ∧ y3.natAbs ≤ B) := by
  simp only [bdB, List.all_cons, List.all_nil, Bool.and_true, Bool.and_eq_true, decide_eq_true_eq]
theorem det_eq : detP (M4 a0 b0 x0 y0 a1 b1 x1 y1 a2 b2 x2 y2 a3 b3 x3 y3) = d4 a0 b0 x0 y0 a1 b1 x1 y1 a2 b2 x2 y2 a3 b3 x3 y3 := by rfl
theorem ip_linr (a0 b0 x0 y0 a1 b1 x1 y1 a2 b2 x2 y2 a3 b3 x3 y3 e f g h a b x y : Int) : ipE a b x y (mi a0 a1 a2 a3 e) (mi b0 b1 b2 b3 f) (mi x0 x1 x2 x3 g) (mi y0 y1 y2 y3 h) =
    2 * (ipE a b x y a0 b0 x0 y0 + ipE a b x y a1 b1 x1 y1 + ipE a b x y a2 b2 x2 y2 + ipE a b x y a3 b3 x3 y3) - 3 * ipE a b x y e f g h := by unfold ipE mi; grind
theorem tri {a b : Int} {A B : Nat} (ha : a.natAbs ≤ A) (hb : b.natAbs ≤ B) : (a + b).natAbs ≤ A + B := Nat.le_trans (Int.natAbs_add_le a b) (Nat.add_le_add ha hb)
theorem trs {a b : Int} {A B : Nat} (ha : a.natAbs ≤ A) (hb : b.natAbs ≤ B) : (a - b).natAbs ≤ A + B := Nat.le_trans (Int.natAbs_sub_le a b) (Nat.add_le_add ha hb)
theorem trm {a b : Int} {A B : Nat} (ha : a.natAbs ≤ A) (hb : b.natAbs ≤ B) : (a * b).natAbs ≤ A * B := by rw [Int.natAbs_mul]; exact Nat.mul_le_mul ha hb
theorem mi_le {B : Nat} {a b c d e : Int} (ha : a.natAbs ≤ B) (hb : b.natAbs ≤ B) (hc : c.natAbs ≤ B) (hd : d.natAbs ≤ B) (he : e.natAbs ≤ B) : (mi a b c d e).natAbs ≤ 11 * B :=
  Nat.le_trans (trs (trm (A := 2) (a := 2) (Nat.le_refl 2) (tri ha (tri hb (tri hc (tri hd (b := 0) (Nat.le_refl 0)))))) (trm (A := 3) (a := 3) (Nat.le_refl 3) he)) (by omega)
theorem up11 {n B : Nat} (h : n ≤ B) : n ≤ 11 * B := by omega
theorem Good.step {B : Nat} {v : Int} {R : List (List Int)} {i : Nat} (G : Good B v R) (hi : i < 4) : Good (11 * B) (-v) (mirP R i) := by
  have hk := keepP_mir G.ok hi
  obtain ⟨ok, bd, keep, gram, det⟩ := G
  obtain ⟨a0, b0, x0, y0, a1, b1, x1, y1, a2, b2, x2, y2, a3, b3, x3, y3, rfl⟩ := rows4 ok
  obtain ⟨⟨p1, p2, p3, p4⟩, ⟨q1, q2, q3, q4⟩, ⟨r1, r2, r3, r4⟩, s1, s2, s3, s4⟩ := bd_eq.mp bd
  obtain ⟨g00, g11, g22, g33, g01, g02, g03, g12, g13, g23⟩ := gram_eq.mp gram
  have g10 := (ip_comm _ _ _ _ _ _ _ _).trans g01
  have g20 := (ip_comm _ _ _ _ _ _ _ _).trans g02
  have g30 := (ip_comm _ _ _ _ _ _ _ _).trans g03
  have g21 := (ip_comm _ _ _ _ _ _ _ _).trans g12
  have g31 := (ip_comm _ _ _ _ _ _ _ _).trans g13
  have g32 := (ip_comm _ _ _ _ _ _ _ _).trans g23
  rw [keep] at hk
  rw [det_eq] at det
  match i, hi with
  | 0, _ =>
    refine ⟨rfl, ?_, hk, ?_, ?_⟩
    · rw [mir0]
      exact bd_eq.mpr ⟨⟨mi_le p1 q1 r1 s1 p1, mi_le p2 q2 r2 s2 p2, mi_le p3 q3 r3 s3 p3, mi_le p4 q4 r4 s4 p4⟩, ⟨up11 q1, up11 q2, up11 q3, up11 q4⟩, ⟨up11 r1, up11 r2, up11 r3, up11 r4⟩, up11 s1, up11 s2, up11 s3, up11 s4⟩
    · rw [mir0]
      refine gram_eq.mpr ⟨?_, ?_, ?_, ?_, ?_, ?_, ?_, ?_, ?_, ?_⟩ <;> simp only [ip_lin, ip_linr, g00, g11, g22, g33, g01, g02, g03, g12, g13, g23, g10, g20, g30, g21, g31, g32] <;> rfl
    · rw [mir0, det_eq, d4_m0, det]
  | 1, _ =>
    refine ⟨rfl, ?_, hk, ?_, ?_⟩
    · rw [mir1]
      exact bd_eq.mpr ⟨⟨up11 p1, up11 p2, up11 p3, up11 p4⟩, ⟨mi_le p1 q1 r1 s1 q1, mi_le p2 q2 r2 s2 q2, mi_le p3 q3 r3 s3 q3, mi_le p4 q4 r4 s4 q4⟩, ⟨up11 r1, up11 r2, up11 r3, up11 r4⟩, up11 s1, up11 s2, up11 s3, up11 s4⟩
    · rw [mir1]
      refine gram_eq.mpr ⟨?_, ?_, ?_, ?_, ?_, ?_, ?_, ?_, ?_, ?_⟩ <;> simp only [ip_lin, ip_linr, g00, g11, g22, g33, g01, g02, g03, g12, g13, g23, g10, g20, g30, g21, g31, g32] <;> rfl
    · rw [mir1, det_eq, d4_m1, det]
  | 2, _ =>
    refine ⟨rfl, ?_, hk, ?_, ?_⟩
    · rw [mir2]
      exact bd_eq.mpr ⟨⟨up11 p1, up11 p2, up11 p3, up11 p4⟩, ⟨up11 q1, up11 q2, up11 q3, up11 q4⟩, ⟨mi_le p1 q1 r1 s1 r1, mi_le p2 q2 r2 s2 r2, mi_le p3 q3 r3 s3 r3, mi_le p4 q4 r4 s4 r4⟩, up11 s1, up11 s2, up11 s3, up11 s4⟩
    · rw [mir2]
      refine gram_eq.mpr ⟨?_, ?_, ?_, ?_, ?_, ?_, ?_, ?_, ?_, ?_⟩ <;> simp only [ip_lin, ip_linr, g00, g11, g22, g33, g01, g02, g03, g12, g13, g23, g10, g20, g30, g21, g31, g32] <;> rfl
    · rw [mir2, det_eq, d4_m2, det]
  | 3, _ =>
    refine ⟨rfl, ?_, hk, ?_, ?_⟩
    · rw [mir3]
      exact bd_eq.mpr ⟨⟨up11 p1, up11 p2, up11 p3, up11 p4⟩, ⟨up11 q1, up11 q2, up11 q3, up11 q4⟩, ⟨up11 r1, up11 r2, up11 r3, up11 r4⟩, mi_le p1 q1 r1 s1 s1, mi_le p2 q2 r2 s2 s2, mi_le p3 q3 r3 s3 s3, mi_le p4 q4 r4 s4 s4⟩
    · rw [mir3]
      refine gram_eq.mpr ⟨?_, ?_, ?_, ?_, ?_, ?_, ?_, ?_, ?_, ?_⟩ <;> simp only [ip_lin, ip_linr, g00, g11, g22, g33, g01, g02, g03, g12, g13, g23, g10, g20, g30, g21, g31, g32] <;> rfl
    · rw [mir3, det_eq, d4_m3, det]
end
section

theorem nat_mul_le {a b : Int} {A B : Nat} (ha : a.natAbs ≤ A) (hb : b.natAbs ≤ B) : (a * b).natAbs ≤ A * B := by
  rw [Int.natAbs_mul]; exact Nat.mul_le_mul ha hb
theorem sumOk_of : ∀ {l : List Int} {acc : Int}, (∀ n ∈ l, n.natAbs ≤ 2 ^ 40) → acc.natAbs + 2 ^ 40 * l.length ≤ 2 ^ 61 → sumOk acc l = true
  | [], _, _, _ => rfl
  | n :: r, acc, h, hl => by
    have hn := h n (.head _)
    simp only [List.length_cons] at hl
    simp only [sumOk, Bool.and_eq_true, decide_eq_true_eq]
    exact ⟨⟨by omega, by omega⟩, sumOk_of (fun m hm => h m (.tail _ hm)) (by omega)⟩
theorem bd_mem {B : Nat} {R : List (List Int)} (h : bdB B R = true) {r : List Int} (hr : r ∈ R) {n : Int} (hn : n ∈ r) : n.natAbs ≤ B := by
  simp only [bdB, List.all_eq_true, decide_eq_true_eq] at h
  exact h r hr n hn
theorem mulOk_of {a b : List (List Int)} (ha : rowsOk a = true) (hb : rowsOk b = true) (ba : bdB (2 ^ 20) a = true) (bb : bdB (2 ^ 20) b = true) : mulOk a b = true := by
  obtain ⟨a4, ar⟩ := rowsOk_iff.mp ha
  obtain ⟨b4, br⟩ := rowsOk_iff.mp hb
  have hb0 : (rowAt b 0).length = 4 := br _ (rowAt_mem (i := 0) (by omega))
  simp only [mulOk, Bool.and_eq_true, decide_eq_true_eq, List.all_eq_true]
  refine ⟨⟨⟨⟨by omega, by omega⟩, by omega⟩, fun r hr => by have := br r hr; omega⟩, fun row hrow => ?_⟩
  have hl := ar row hrow
  refine ⟨⟨⟨by omega, by omega⟩, fun n hn => ?_⟩, fun c hc => ?_⟩
  · have := bd_mem ba hrow hn
    exact sm_iff.mpr (by unfold Sm; omega)
  · rw [hb0, List.mem_range] at hc
    refine sumOk_of (fun n hn => ?_) (by simp [prods, b4])
    obtain ⟨i, hi, rfl⟩ := List.mem_map.mp hn
    rw [List.mem_range] at hi
    have h1 := bd_mem ba hrow (nth_mem (ns := row) (i := i) (by omega))
    have hm := rowAt_mem (m := b) (i := i) (by omega)
    have h2 := bd_mem bb hm (nth_mem (ns := rowAt b i) (i := c) (by rw [br _ hm]; omega))
    exact Nat.le_trans (nat_mul_le h1 h2) (by decide)
theorem bd_mono {A B : Nat} (hAB : A ≤ B) {R : List (List Int)} (h : bdB A R = true) : bdB B R = true := by
  simp only [bdB, List.all_eq_true, decide_eq_true_eq] at h ⊢
  exact fun r hr n hn => Nat.le_trans (h r hr n hn) hAB
theorem cb0 {a b c d : Int} {B : Nat} (hB : B ≤ 2 ^ 15) (ha : a.natAbs ≤ B) (hb : b.natAbs ≤ B) (hc : c.natAbs ≤ B) (hd : d.natAbs ≤ B) : (1 * a + (-1 * b + (-1 * c + (-1 * d + 0)))).natAbs ≤ 2 ^ 20 := Nat.le_trans (tri (trm (a := 1) (Nat.le_refl 1) ha) (tri (trm (a := -1) (Nat.le_refl 1) hb) (tri (trm (a := -1) (Nat.le_refl 1) hc) (tri (trm (a := -1) (Nat.le_refl 1) hd) (b := 0) (Nat.le_refl 0))))) (by omega)
theorem cb1 {a b c d : Int} {B : Nat} (hB : B ≤ 2 ^ 15) (ha : a.natAbs ≤ B) (hb : b.natAbs ≤ B) (hc : c.natAbs ≤ B) (hd : d.natAbs ≤ B) : (-1 * a + (1 * b + (-1 * c + (-1 * d + 0)))).natAbs ≤ 2 ^ 20 := Nat.le_trans (tri (trm (a := -1) (Nat.le_refl 1) ha) (tri (trm (a := 1) (Nat.le_refl 1) hb) (tri (trm (a := -1) (Nat.le_refl 1) hc) (tri (trm (a := -1) (Nat.le_refl 1) hd) (b := 0) (Nat.le_refl 0))))) (by omega)
theorem cb2 {a b c d : Int} {B : Nat} (hB : B ≤ 2 ^ 15) (ha : a.natAbs ≤ B) (hb : b.natAbs ≤ B) (hc : c.natAbs ≤ B) (hd : d.natAbs ≤ B) : (-1 * a + (-1 * b + (1 * c + (-1 * d + 0)))).natAbs ≤ 2 ^ 20 := Nat.le_trans (tri (trm (a := -1) (Nat.le_refl 1) ha) (tri (trm (a := -1) (Nat.le_refl 1) hb) (tri (trm (a := 1) (Nat.le_refl 1) hc) (tri (trm (a := -1) (Nat.le_refl 1) hd) (b := 0) (Nat.le_refl 0))))) (by omega)
theorem cb3 {a b c d : Int} {B : Nat} (hB : B ≤ 2 ^ 15) (ha : a.natAbs ≤ B) (hb : b.natAbs ≤ B) (hc : c.natAbs ≤ B) (hd : d.natAbs ≤ B) : (-1 * a + (-1 * b + (-1 * c + (1 * d + 0)))).natAbs ≤ 2 ^ 20 := Nat.le_trans (tri (trm (a := -1) (Nat.le_refl 1) ha) (tri (trm (a := -1) (Nat.le_refl 1) hb) (tri (trm (a := -1) (Nat.le_refl 1) hc) (tri (trm (a := 1) (Nat.le_refl 1) hd) (b := 0) (Nat.le_refl 0))))) (by omega)
theorem Sm_le {a : Int} (h : a.natAbs ≤ 2 ^ 15) : Sm a := Nat.lt_of_le_of_lt h (by decide)
theorem Sm3 {a b c : Int} (ha : a.natAbs ≤ 2 ^ 15) (hb : b.natAbs ≤ 2 ^ 15) (hc : c.natAbs ≤ 2 ^ 15) : Sm a ∧ Sm b ∧ Sm c ∧ Sm (a + b + c) := ⟨Sm_le ha, Sm_le hb, Sm_le hc, Nat.lt_of_le_of_lt (tri (tri ha hb) hc) (by decide)⟩
theorem mi_eq (a b c d e : Int) : mi a b c d e = 2 * (a + b + c + d) - 3 * e := by unfold mi; omega
variable {B : Nat} {v : Int} {R : List (List Int)} {i : Nat}
theorem Good.mirOk (G : Good B v R) (hB : B ≤ 2 ^ 15) (hi : i < 4) : Mine.mirOk R i = true := by
  obtain ⟨ok, bd, keep, gram, det⟩ := G
  obtain ⟨h4, hr⟩ := rowsOk_iff.mp ok
  simp only [Mine.mirOk, ok, Bool.and_eq_true, decide_eq_true_eq, List.all_eq_true, true_and]
  refine ⟨hi, fun c hc => sumOk_of (fun n hn => ?_) (by simp [h4])⟩
  obtain ⟨r, hm, rfl⟩ := List.mem_map.mp hn
  have := bd_mem bd hm (nth_mem (ns := r) (i := c) (by rw [hr r hm]; exact List.mem_range.mp hc))
  omega
theorem Good.keepOk (G : Good B v R) (hB : B ≤ 2 ^ 15) : Mine.keepOk R = true := by
  obtain ⟨ok, bd, keep, gram, det⟩ := G
  have bd' := bd_mono (B := 2 ^ 20) (by omega) bd
  have h1 : mulOk lessM R = true := mulOk_of (by rfl) ok (by decide) bd'
  have h2 : mulOk (turnedP R 4) (mulP lessM R) = true := by
    obtain ⟨a0, b0, x0, y0, a1, b1, x1, y1, a2, b2, x2, y2, a3, b3, x3, y3, rfl⟩ := rows4 ok
    obtain ⟨⟨p1, p2, p3, p4⟩, ⟨q1, q2, q3, q4⟩, ⟨r1, r2, r3, r4⟩, s1, s2, s3, s4⟩ := bd_eq.mp bd
    have et : turnedP (M4 a0 b0 x0 y0 a1 b1 x1 y1 a2 b2 x2 y2 a3 b3 x3 y3) 4 = M4 a0 a1 a2 a3 b0 b1 b2 b3 x0 x1 x2 x3 y0 y1 y2 y3 := by rfl
    rw [et]
    have ext : ∀ {n : Nat}, n ≤ B → n ≤ 2 ^ 20 := fun h => by omega
    refine mulOk_of (by rfl) (by rfl) ?_ ?_
    · exact bd_eq.mpr ⟨⟨ext p1, ext q1, ext r1, ext s1⟩, ⟨ext p2, ext q2, ext r2, ext s2⟩, ⟨ext p3, ext q3, ext r3, ext s3⟩, ext p4, ext q4, ext r4, ext s4⟩
    · have e : mulP lessM (M4 a0 b0 x0 y0 a1 b1 x1 y1 a2 b2 x2 y2 a3 b3 x3 y3) =
          [[1 * a0 + (-1 * a1 + (-1 * a2 + (-1 * a3 + 0))), 1 * b0 + (-1 * b1 + (-1 * b2 + (-1 * b3 + 0))), 1 * x0 + (-1 * x1 + (-1 * x2 + (-1 * x3 + 0))), 1 * y0 + (-1 * y1 + (-1 * y2 + (-1 * y3 + 0)))],
           [-1 * a0 + (1 * a1 + (-1 * a2 + (-1 * a3 + 0))), -1 * b0 + (1 * b1 + (-1 * b2 + (-1 * b3 + 0))), -1 * x0 + (1 * x1 + (-1 * x2 + (-1 * x3 + 0))), -1 * y0 + (1 * y1 + (-1 * y2 + (-1 * y3 + 0)))],
           [-1 * a0 + (-1 * a1 + (1 * a2 + (-1 * a3 + 0))), -1 * b0 + (-1 * b1 + (1 * b2 + (-1 * b3 + 0))), -1 * x0 + (-1 * x1 + (1 * x2 + (-1 * x3 + 0))), -1 * y0 + (-1 * y1 + (1 * y2 + (-1 * y3 + 0)))],
           [-1 * a0 + (-1 * a1 + (-1 * a2 + (1 * a3 + 0))), -1 * b0 + (-1 * b1 + (-1 * b2 + (1 * b3 + 0))), -1 * x0 + (-1 * x1 + (-1 * x2 + (1 * x3 + 0))), -1 * y0 + (-1 * y1 + (-1 * y2 + (1 * y3 + 0)))]] := by rfl
      rw [e]
      exact bd_eq.mpr ⟨⟨cb0 hB p1 q1 r1 s1, cb0 hB p2 q2 r2 s2, cb0 hB p3 q3 r3 s3, cb0 hB p4 q4 r4 s4⟩, ⟨cb1 hB p1 q1 r1 s1, cb1 hB p2 q2 r2 s2, cb1 hB p3 q3 r3 s3, cb1 hB p4 q4 r4 s4⟩, ⟨cb2 hB p1 q1 r1 s1, cb2 hB p2 q2 r2 s2, cb2 hB p3 q3 r3 s3, cb2 hB p4 q4 r4 s4⟩, cb3 hB p1 q1 r1 s1, cb3 hB p2 q2 r2 s2, cb3 hB p3 q3 r3 s3, cb3 hB p4 q4 r4 s4⟩
  simp only [Mine.keepOk, ok, h1, h2, keep, decide_true, Bool.and_true]
theorem pair_ok {a b x y a' b' x' y' : Int} (h1 : ipE a b x y a b x y = 2) (h2 : ipE a' b' x' y' a' b' x' y' = 2) (h3 : ipE a' b' x' y' a b x y = -2)
    (k2 : b.natAbs ≤ 2 ^ 15) (k3 : x.natAbs ≤ 2 ^ 15) (k4 : y.natAbs ≤ 2 ^ 15) (l2 : b'.natAbs ≤ 2 ^ 15) (l3 : x'.natAbs ≤ 2 ^ 15) (l4 : y'.natAbs ≤ 2 ^ 15) : pairOk [a, b, x, y] [a', b', x', y'] = true := by
  have e : (b' * x - b * x') * (b' * x - b * x') + (b' * y - b * y') * (b' * y - b * y') = (b + b') ^ 2 := by
    unfold ipE at h1 h2 h3
    grind
  show (sm b' && sm b && sm (b' * x - b * x') && sm (b' * y - b * y') && sm (b + b') && decide ((b' * x - b * x') * (b' * x - b * x') + (b' * y - b * y') * (b' * y - b * y') = (b + b') ^ (2 : Int).toNat)) = true
  have hs : ∀ z : Int, z.natAbs ≤ 2 ^ 40 → sm z = true := fun z hz => sm_iff.mpr (Nat.lt_of_le_of_lt hz (by decide))
  rw [hs b' (Nat.le_trans l2 (by decide)), hs b (Nat.le_trans k2 (by decide)), hs _ (Nat.le_trans (trs (trm l2 k3) (trm k2 l3)) (by decide)), hs _ (Nat.le_trans (trs (trm l2 k4) (trm k2 l4)) (by decide)), hs (b + b') (Nat.le_trans (tri k2 l2) (by decide))]
  exact decide_eq_true e
theorem Good.touch (G : Good B v R) (hB : B ≤ 2 ^ 15) : touchOk R = true := by
  obtain ⟨ok, bd, keep, gram, det⟩ := G
  have bd' := bd_mono hB bd
  obtain ⟨a0, b0, x0, y0, a1, b1, x1, y1, a2, b2, x2, y2, a3, b3, x3, y3, rfl⟩ := rows4 ok
  obtain ⟨⟨p1, p2, p3, p4⟩, ⟨q1, q2, q3, q4⟩, ⟨r1, r2, r3, r4⟩, s1, s2, s3, s4⟩ := bd_eq.mp bd'
  obtain ⟨g00, g11, g22, g33, g01, g02, g03, g12, g13, g23⟩ := gram_eq.mp gram
  have t10 := pair_ok g11 g00 g01 q2 q3 q4 p2 p3 p4
  have t20 := pair_ok g22 g00 g02 r2 r3 r4 p2 p3 p4
  have t21 := pair_ok g22 g11 g12 r2 r3 r4 q2 q3 q4
  have t30 := pair_ok g33 g00 g03 s2 s3 s4 p2 p3 p4
  have t31 := pair_ok g33 g11 g13 s2 s3 s4 q2 q3 q4
  have t32 := pair_ok g33 g22 g23 s2 s3 s4 r2 r3 r4
  show (true && (true && ((pairOk [a1, b1, x1, y1] [a0, b0, x0, y0] && true) && ((pairOk [a2, b2, x2, y2] [a0, b0, x0, y0] && (pairOk [a2, b2, x2, y2] [a1, b1, x1, y1] && true)) && ((pairOk [a3, b3, x3, y3] [a0, b0, x0, y0] && (pairOk [a3, b3, x3, y3] [a1, b1, x1, y1] && (pairOk [a3, b3, x3, y3] [a2, b2, x2, y2] && true))) && true))))) = true
  rw [t10, t20, t21, t30, t31, t32]; rfl
/-! ## the four bends -/
theorem four {a b c d : Int} (h : 2 * (a * a + b * b + c * c + d * d) = (a + b + c + d) * (a + b + c + d)) (ha : a.natAbs ≤ 2 ^ 15) (hb : b.natAbs ≤ 2 ^ 15) (hc : c.natAbs ≤ 2 ^ 15) (hd : d.natAbs ≤ 2 ^ 15) :
    2 * (a * a + b * b + c * c) - (a + b + c) * (a + b + c) = d * (2 * (a + b + c) - d) ∧ ∃ m : Nat, a * b + b * c + c * a = (m * m : Nat) ∧ m < 2 ^ 28 := by
  refine ⟨by grind, ?_⟩
  have h4 : 4 * (a * b + b * c + c * a) = (d - (a + b + c)) * (d - (a + b + c)) := by grind
  generalize he : d - (a + b + c) = e at h4
  generalize hq : a * b + b * c + c * a = q at h4
  obtain ⟨k, hk | hk⟩ : ∃ k, e = 2 * k ∨ e = 2 * k + 1 := ⟨e / 2, by omega⟩
  · subst hk
    have : q = k * k := by have : (2 * k) * (2 * k) = 4 * (k * k) := by grind
                           omega
    have hk : (2 * k).natAbs ≤ 2 ^ 17 := he ▸ Nat.le_trans (trs hd (tri (tri ha hb) hc)) (by decide)
    rw [Int.natAbs_mul] at hk
    have hk : 2 * k.natAbs ≤ 2 ^ 17 := hk
    refine ⟨k.natAbs, ?_, by clear ha hb hc hd he h h4 this; omega⟩
    rw [this]
    simp
  · subst hk
    have : (2 * k + 1) * (2 * k + 1) = 4 * (k * k + k) + 1 := by grind
    omega
theorem kp_zero {a b c d : Int} (h : kp a b c d a b c d = 0) : 2 * (a * a + b * b + c * c + d * d) = (a + b + c + d) * (a + b + c + d) := by unfold kp at h; grind
theorem Good.eqs (G : Good B v R) (hB : B ≤ 2 ^ 15) (hi : i < 4) : ∃ a b c : Int, others R i = [a, b, c] ∧ (Sm a ∧ Sm b ∧ Sm c ∧ Sm (a + b + c)) ∧ 2 * (a + b + c) - nth (rowAt R i) 1 = nth (bendsP (mirP R i)) i ∧
    2 * (a * a + b * b + c * c) - (a + b + c) * (a + b + c) = nth (rowAt R i) 1 * (2 * (a + b + c) - nth (rowAt R i) 1) ∧ ∃ m : Nat, a * b + b * c + c * a = (m * m : Nat) ∧ m < 2 ^ 28 := by
  obtain ⟨ok, bd, keep, gram, det⟩ := G
  have bd' := bd_mono hB bd
  obtain ⟨a0, b0, x0, y0, a1, b1, x1, y1, a2, b2, x2, y2, a3, b3, x3, y3, rfl⟩ := rows4 ok
  obtain ⟨⟨p1, p2, p3, p4⟩, ⟨q1, q2, q3, q4⟩, ⟨r1, r2, r3, r4⟩, s1, s2, s3, s4⟩ := bd_eq.mp bd'
  have hz : kp b0 b1 b2 b3 b0 b1 b2 b3 = 0 := by
    rw [keepP_eq] at keep
    unfold keepL at keep
    simp only [List.cons.injEq] at keep
    exact keep.2.1.2.1
  have hz := kp_zero hz
  clear keep gram det ok bd bd'
  match i, hi with
  | 0, _ =>
    have e1 : others (M4 a0 b0 x0 y0 a1 b1 x1 y1 a2 b2 x2 y2 a3 b3 x3 y3) 0 = [b1, b2, b3] := by rfl
    have e2 : nth (rowAt (M4 a0 b0 x0 y0 a1 b1 x1 y1 a2 b2 x2 y2 a3 b3 x3 y3) ((0 : Nat) : Int)) 1 = b0 := by rfl
    have e3 : nth (bendsP (mirP (M4 a0 b0 x0 y0 a1 b1 x1 y1 a2 b2 x2 y2 a3 b3 x3 y3) 0)) ((0 : Nat) : Int) = mi b0 b1 b2 b3 b0 := by rfl
    have hq : 2 * (b1 * b1 + b2 * b2 + b3 * b3 + b0 * b0) = (b1 + b2 + b3 + b0) * (b1 + b2 + b3 + b0) := by
      clear e1 e2 e3
      grind
    obtain ⟨f1, f2⟩ := four hq q2 r2 s2 p2
    refine ⟨b1, b2, b3, e1, Sm3 q2 r2 s2, ?_, ?_, f2⟩
    · rw [e2, e3, mi_eq]; clear f1 f2 e1 e2 e3 hq hz p1 p2 p3 p4 q1 q2 q3 q4 r1 r2 r3 r4 s1 s2 s3 s4; omega
    · rw [e2]; exact f1
  | 1, _ =>
    have e1 : others (M4 a0 b0 x0 y0 a1 b1 x1 y1 a2 b2 x2 y2 a3 b3 x3 y3) 1 = [b0, b2, b3] := by rfl
    have e2 : nth (rowAt (M4 a0 b0 x0 y0 a1 b1 x1 y1 a2 b2 x2 y2 a3 b3 x3 y3) ((1 : Nat) : Int)) 1 = b1 := by rfl
    have e3 : nth (bendsP (mirP (M4 a0 b0 x0 y0 a1 b1 x1 y1 a2 b2 x2 y2 a3 b3 x3 y3) 1)) ((1 : Nat) : Int) = mi b0 b1 b2 b3 b1 := by rfl
    have hq : 2 * (b0 * b0 + b2 * b2 + b3 * b3 + b1 * b1) = (b0 + b2 + b3 + b1) * (b0 + b2 + b3 + b1) := by
      clear e1 e2 e3
      grind
    obtain ⟨f1, f2⟩ := four hq p2 r2 s2 q2
    refine ⟨b0, b2, b3, e1, Sm3 p2 r2 s2, ?_, ?_, f2⟩
    · rw [e2, e3, mi_eq]; clear f1 f2 e1 e2 e3 hq hz p1 p2 p3 p4 q1 q2 q3 q4 r1 r2 r3 r4 s1 s2 s3 s4; omega
    · rw [e2]; exact f1
  | 2, _ =>
    have e1 : others (M4 a0 b0 x0 y0 a1 b1 x1 y1 a2 b2 x2 y2 a3 b3 x3 y3) 2 = [b0, b1, b3] := by rfl
    have e2 : nth (rowAt (M4 a0 b0 x0 y0 a1 b1 x1 y1 a2 b2 x2 y2 a3 b3 x3 y3) ((2 : Nat) : Int)) 1 = b2 := by rfl
    have e3 : nth (bendsP (mirP (M4 a0 b0 x0 y0 a1 b1 x1 y1 a2 b2 x2 y2 a3 b3 x3 y3) 2)) ((2 : Nat) : Int) = mi b0 b1 b2 b3 b2 := by rfl
    have hq : 2 * (b0 * b0 + b1 * b1 + b3 * b3 + b2 * b2) = (b0 + b1 + b3 + b2) * (b0 + b1 + b3 + b2) := by
      clear e1 e2 e3
      grind
    obtain ⟨f1, f2⟩ := four hq p2 q2 s2 r2
    refine ⟨b0, b1, b3, e1, Sm3 p2 q2 s2, ?_, ?_, f2⟩
    · rw [e2, e3, mi_eq]; clear f1 f2 e1 e2 e3 hq hz p1 p2 p3 p4 q1 q2 q3 q4 r1 r2 r3 r4 s1 s2 s3 s4; omega
    · rw [e2]; exact f1
  | 3, _ =>
    have e1 : others (M4 a0 b0 x0 y0 a1 b1 x1 y1 a2 b2 x2 y2 a3 b3 x3 y3) 3 = [b0, b1, b2] := by rfl
    have e2 : nth (rowAt (M4 a0 b0 x0 y0 a1 b1 x1 y1 a2 b2 x2 y2 a3 b3 x3 y3) ((3 : Nat) : Int)) 1 = b3 := by rfl
    have e3 : nth (bendsP (mirP (M4 a0 b0 x0 y0 a1 b1 x1 y1 a2 b2 x2 y2 a3 b3 x3 y3) 3)) ((3 : Nat) : Int) = mi b0 b1 b2 b3 b3 := by rfl
    have hq : 2 * (b0 * b0 + b1 * b1 + b2 * b2 + b3 * b3) = (b0 + b1 + b2 + b3) * (b0 + b1 + b2 + b3) := by
      clear e1 e2 e3
      grind
    obtain ⟨f1, f2⟩ := four hq p2 q2 r2 s2
    refine ⟨b0, b1, b2, e1, Sm3 p2 q2 r2, ?_, ?_, f2⟩
    · rw [e2, e3, mi_eq]; clear f1 f2 e1 e2 e3 hq hz p1 p2 p3 p4 q1 q2 q3 q4 r1 r2 r3 r4 s1 s2 s3 s4; omega
    · rw [e2]; exact f1
noncomputable def bmir (b : List Int) (i : Nat) : List Int := b.take i ++ [2 * b.sum - 3 * nth b i] ++ b.drop (i + 1)
theorem bends_mir (h : rowsOk R = true) (hi : i < 4) : bendsP (mirP R i) = bmir (bendsP R) i := by
  obtain ⟨a0, b0, x0, y0, a1, b1, x1, y1, a2, b2, x2, y2, a3, b3, x3, y3, rfl⟩ := rows4 h
  match i, hi with
  | 0, _ => rfl
  | 1, _ => rfl
  | 2, _ => rfl
  | 3, _ => rfl
theorem bend_at (h : rowsOk R = true) (hi : i < 4) : nth (rowAt R i) 1 = nth (bendsP R) i := by
  obtain ⟨a0, b0, x0, y0, a1, b1, x1, y1, a2, b2, x2, y2, a3, b3, x3, y3, rfl⟩ := rows4 h
  match i, hi with
  | 0, _ => rfl
  | 1, _ => rfl
  | 2, _ => rfl
  | 3, _ => rfl
end
section

/-! ## the determinant's steps on the matrix itself -/
structure Sim (os : List Nat) (rows m : List (List Int)) : Prop where
  len : os.length = 4
  nodup : os.Nodup
  lt : ∀ i ∈ os, i < rows.length
  eq : (os.map fun i => rows.getD i []) = m
  row : ∀ r ∈ m, r.length = 4
variable {os : List Nat} {rows m : List (List Int)} {r c step p : Nat}
theorem Sim.mlen (S : Sim os rows m) : m.length = 4 := by rw [← S.eq, List.length_map]; exact S.len
theorem Sim.rowOf (S : Sim os rows m) (hr : r < 4) : Mine.rowOf os rows r = m.getD r [] := by
  have h : r < os.length := by rw [S.len]; exact hr
  rw [← S.eq]
  simp [Mine.rowOf, List.getD, List.getElem?_map, List.getElem?_eq_getElem h]
theorem Sim.os_lt (S : Sim os rows m) (hr : r < 4) : os.getD r 0 < rows.length := by
  have h : r < os.length := by rw [S.len]; exact hr
  have : os.getD r 0 = os[r] := by simp [List.getD, List.getElem?_eq_getElem h]
  rw [this]; exact S.lt _ (List.getElem_mem h)
theorem Sim.row_len (S : Sim os rows m) (hr : r < 4) : (m.getD r []).length = 4 := by
  have h : r < m.length := by rw [S.mlen]; exact hr
  have : m.getD r [] = m[r] := by simp [List.getD, List.getElem?_eq_getElem h]
  rw [this]; exact S.row _ (List.getElem_mem h)
theorem Sim.inB (S : Sim os rows m) (hr : r < 4) (hc : c < 4) : Mine.inB os rows r c = true := by
  have h1 := S.os_lt hr
  have h2 := S.row_len hr
  refine inB_iff.mpr ⟨by rw [S.len]; exact hr, h1, ?_, ?_, by rw [S.len]; decide⟩
  · rw [S.rowOf hr, h2]; exact hc
  · rw [S.rowOf hr, h2]; decide
theorem Sim.cell (S : Sim os rows m) (hr : r < 4) : cellOf os rows r c = nth (m.getD r []) c := by unfold cellOf; rw [S.rowOf hr]
theorem Sim.set (S : Sim os rows m) (hr : r < 4) {new : List Int} (hn : new.length = 4) : Sim os (rows.set (os.getD r 0) new) (m.set r new) := by
  have h : r < os.length := by rw [S.len]; exact hr
  have e0 : os.getD r 0 = os[r] := by simp [List.getD, List.getElem?_eq_getElem h]
  refine ⟨S.len, S.nodup, fun i hi => by rw [List.length_set]; exact S.lt i hi, ?_, fun q hq => ?_⟩
  · apply List.ext_getElem?
    intro k
    rw [List.getElem?_map, e0]
    by_cases hk : k < os.length
    · rw [List.getElem?_eq_getElem hk]
      by_cases hkr : r = k
      · subst hkr
        have hm : r < m.length := by rw [S.mlen]; exact hr
        rw [List.getElem?_set_self hm]
        have hlt := S.lt _ (List.getElem_mem hk)
        simp [List.getD, List.getElem?_set_self hlt]
      · rw [List.getElem?_set_ne hkr, ← S.eq, List.getElem?_map, List.getElem?_eq_getElem hk]
        have hne : os[r] ≠ os[k] := fun e => hkr ((List.getElem_inj S.nodup).mp e)
        simp [List.getD, List.getElem?_set_ne hne]
    · have h1 : os[k]? = none := by rw [List.getElem?_eq_none]; omega
      have h2 : (m.set r new)[k]? = none := List.getElem?_eq_none (by rw [List.length_set, S.mlen]; rw [S.len] at hk; omega)
      rw [h1, h2]; rfl
  · rcases List.mem_or_eq_of_mem_set hq with hq | hq
    · exact S.row q hq
    · rw [hq]; exact hn
/-! one row -/
noncomputable def colQ (lead first ahead : Int) (rs row : List Int) (col : Nat) : Option (List Int) :=
  if sm (nth row col) && sm first && sm ahead && !(ahead == 0) then some (row.set col ((nth row col * lead - first * nth rs col).fdiv ahead)) else none
noncomputable def rowQ (lead ahead : Int) (rs : List Int) (step : Nat) (row : List Int) : Option (List Int) := ((List.range' (step + 1) (4 - (step + 1))).foldlM (colQ lead (nth row step) ahead rs) row).map fun w => w.set step 0
theorem set_set {α : Type} {l : List α} {i : Nat} {a b : α} : (l.set i a).set i b = l.set i b := by simp
theorem col_sim (S : Sim os rows m) (hr : r < 4) (hs : step < 4) (hne : r ≠ step) {lead first ahead : Int} :
    ∀ {cols : List Nat} {cur w : List Int}, (∀ c ∈ cols, c < 4) → cur.length = 4 → cols.foldlM (colQ lead first ahead (m.getD step [])) cur = some w → w.length = 4 ∧ cols.foldlM (colF os step lead first ahead r) (rows.set (os.getD r 0) cur) = some (rows.set (os.getD r 0) w)
  | [], cur, w, _, hl, h => by cases h; exact ⟨hl, rfl⟩
  | c :: cols, cur, w, hc, hl, h => by
    have hc0 := hc c (.head _)
    rw [List.foldlM_cons] at h ⊢
    cases q : colQ lead first ahead (m.getD step []) cur c with
    | none => rw [q] at h; cases h
    | some cur' =>
      rw [q] at h
      have S' := S.set hr hl
      have e1 : (m.set r cur).getD r [] = cur := by
        have hm : r < m.length := by rw [S.mlen]; exact hr
        simp [List.getD, List.getElem?_set_self hm]
      have e2 : (m.set r cur).getD step [] = m.getD step [] := by simp [List.getD, List.getElem?_set_ne hne]
      unfold colQ at q
      split at q
      · rename_i hg
        injection q with q
        have hw : cur'.length = 4 := by rw [← q, List.length_set]; exact hl
        have e3 : colF os step lead first ahead r (rows.set (os.getD r 0) cur) c = some (rows.set (os.getD r 0) cur') := by
          unfold colF
          rw [S'.inB hr hc0, S'.inB hs hc0, S'.cell hr, S'.cell hs, e1, e2]
          simp only [Bool.true_and]
          rw [if_pos hg]
          unfold setC
          rw [S'.rowOf hr, e1, set_set, q]
        rw [e3]
        exact col_sim S hr hs hne (fun d hd => hc d (.tail _ hd)) hw h
      · cases q
theorem set_get {α : Type} {l : List α} {i : Nat} {d : α} : l.set i (l.getD i d) = l := by
  apply List.ext_getElem?
  intro k
  by_cases h : i = k
  · subst h
    by_cases hk : i < l.length
    · rw [List.getElem?_set_self hk, List.getElem?_eq_getElem hk]; simp [List.getD, List.getElem?_eq_getElem hk]
    · rw [List.getElem?_eq_none (by rw [List.length_set]; omega), List.getElem?_eq_none (by omega)]
  · rw [List.getElem?_set_ne h]
theorem row_sim (S : Sim os rows m) (hr : r < 4) (hs : step < 4) (hne : r ≠ step) {lead ahead : Int} {w : List Int} (h : rowQ lead ahead (m.getD step []) step (m.getD r []) = some w) :
    ∃ rows', rowF os step lead ahead rows r = some rows' ∧ Sim os rows' (m.set r w) := by
  unfold rowQ at h
  cases q : (List.range' (step + 1) (4 - (step + 1))).foldlM (colQ lead (nth (m.getD r []) step) ahead (m.getD step [])) (m.getD r []) with
  | none => rw [q] at h; cases h
  | some u =>
    rw [q] at h
    injection h with h
    dsimp only at h
    obtain ⟨hu, hq⟩ := col_sim S hr hs hne (fun c hc => by have := (List.mem_range'_1.mp hc); omega) (S.row_len hr) q
    have e0 : rows.set (os.getD r 0) (m.getD r []) = rows := by rw [← S.rowOf hr]; exact set_get
    rw [e0] at hq
    have S1 := S.set hr hu
    have e1 : (m.set r u).getD r [] = u := by
      have hm : r < m.length := by rw [S.mlen]; exact hr
      simp [List.getD, List.getElem?_set_self hm]
    have hw : w.length = 4 := by rw [← h, List.length_set]; exact hu
    refine ⟨rows.set (os.getD r 0) w, ?_, S.set hr hw⟩
    unfold rowF
    rw [if_pos (S.inB hr hs), S.cell hr, S.len, hq]
    simp only [S1.inB hr hs, if_true]
    unfold setC
    rw [S1.rowOf hr, e1, set_set, h]
noncomputable def bareQ (step : Nat) (lead ahead : Int) (rs : List Int) (m : List (List Int)) (r : Nat) : Option (List (List Int)) := (rowQ lead ahead rs step (m.getD r [])).map fun w => m.set r w
theorem bare_sim {lead ahead : Int} (hs : step < 4) : ∀ {rs : List Nat} {rows m m' : List (List Int)}, (∀ r ∈ rs, r < 4 ∧ r ≠ step) → Sim os rows m → rs.foldlM (bareQ step lead ahead (m.getD step [])) m = some m' → ∃ rows', rs.foldlM (rowF os step lead ahead) rows = some rows' ∧ Sim os rows' m'
  | [], rows, m, m', _, S, h => by cases h; exact ⟨rows, rfl, S⟩
  | r :: rs, rows, m, m', hr, S, h => by
    rw [List.foldlM_cons] at h
    cases q : bareQ step lead ahead (m.getD step []) m r with
    | none => rw [q] at h; cases h
    | some m1 =>
      rw [q] at h
      unfold bareQ at q
      cases z : rowQ lead ahead (m.getD step []) step (m.getD r []) with
      | none => rw [z] at q; cases q
      | some w =>
        rw [z] at q
        injection q with q
        subst q
        obtain ⟨h4, hne⟩ := hr r (.head _)
        obtain ⟨rows1, e1, S1⟩ := row_sim S h4 hs hne z
        have e2 : (m.set r w).getD step [] = m.getD step [] := by simp [List.getD, List.getElem?_set_ne hne]
        obtain ⟨rows', e3, S'⟩ := bare_sim hs (m := m.set r w) (fun q hq => hr q (.tail _ hq)) S1 (by rw [e2]; exact h)
        refine ⟨rows', ?_, S'⟩
        rw [List.foldlM_cons, e1]
        exact e3
noncomputable def pivQ (m : List (List Int)) (step : Nat) : List Nat → Option Nat
  | [] => none
  | r :: rs => if nth (m.getD r []) step ≠ 0 then some r else pivQ m step rs
theorem piv_sim (S : Sim os rows m) (hs : step < 4) : ∀ {l : List Nat}, (∀ r ∈ l, r < 4) → pivF os rows step l = pivQ m step l
  | [], _ => rfl
  | r :: rs, h => by
    have hr := h r (.head _)
    unfold pivF pivQ
    rw [if_pos (S.inB hr hs), S.cell hr, piv_sim S hs fun q hq => h q (.tail _ hq)]
noncomputable def swapQ (m : List (List Int)) (p step : Nat) : List (List Int) := (m.set p (m.getD step [])).set step (m.getD p [])
theorem swap_sim (S : Sim os rows m) (hp : p < 4) (hs : step < 4) : Sim (swapO os p step) rows (swapQ m p step) := by
  have h1 : p < os.length := by rw [S.len]; exact hp
  have h2 : step < os.length := by rw [S.len]; exact hs
  have e1 : os.getD p 0 = os[p] := by simp [List.getD, List.getElem?_eq_getElem h1]
  have e2 : os.getD step 0 = os[step] := by simp [List.getD, List.getElem?_eq_getElem h2]
  have hperm : (swapO os p step).Perm os := by
    have hz : (os.set p os[step]).set step os[p] = ((os.toArray).swap p step (by simpa using h1) (by simpa using h2)).toList := by
      simp [Array.swap]
    unfold swapO
    rw [e1, e2, hz]
    have := Array.swap_perm (xs := os.toArray) (i := p) (j := step) (by simpa using h1) (by simpa using h2)
    exact Array.perm_iff_toList_perm.mp this
  refine ⟨by rw [hperm.length_eq]; exact S.len, hperm.nodup_iff.mpr S.nodup, fun i hi => S.lt i (hperm.mem_iff.mp hi), ?_, fun q hq => ?_⟩
  · unfold swapO swapQ
    rw [List.map_set, List.map_set, S.eq]
    congr 1
    · congr 1
      rw [← S.rowOf hs]; rfl
    · rw [← S.rowOf hp]; rfl
  · unfold swapQ at hq
    rcases List.mem_or_eq_of_mem_set hq with hq | hq
    · rcases List.mem_or_eq_of_mem_set hq with hq | hq
      · exact S.row q hq
      · rw [hq]; exact S.row_len hs
    · rw [hq]; exact S.row_len hp
theorem detF_sim {sg ah : Int} {m' m2 : List (List Int)} (S : Sim os rows m) (hs : step < 4) (hp : p < 4) (hpiv : pivQ m step (List.range' step (4 - step)) = some p) (hm : (if p = step then m else swapQ m p step) = m')
    (hb : (List.range' (step + 1) (4 - (step + 1))).foldlM (bareQ step (nth (m'.getD step []) step) ah (m'.getD step [])) m' = some m2) :
    ∃ os' rows', detF (os, rows, sg, ah) step = some (os', rows', (if p = step then sg else -sg), nth (m2.getD step []) step) ∧ Sim os' rows' m2 := by
  have hpv := (piv_sim S hs (l := List.range' step (4 - step)) fun r hr => by have := List.mem_range'_1.mp hr; omega).trans hpiv
  have hG : ∀ {os' : List Nat} {sg' : Int}, Sim os' rows m' → ∃ rows', detG rows step ah os' sg' = some (os', rows', sg', nth (m2.getD step []) step) ∧ Sim os' rows' m2 := by
    intro os' sg' S'
    obtain ⟨rows', e, S2⟩ := bare_sim hs (fun r hr => by have := List.mem_range'_1.mp hr; omega) S' hb
    refine ⟨rows', ?_, S2⟩
    unfold detG bareO
    rw [if_pos (S'.inB hs hs), S'.cell hs, S'.len, e]
    simp only [S2.inB hs hs, if_true, S2.cell hs]
  unfold detF
  dsimp only
  rw [S.len, hpv]
  simp only [hp, hs, decide_true, Bool.true_and, show (4 : Nat) ≤ 1000 by decide, if_true]
  by_cases h : p = step
  · rw [if_pos h] at hm
    subst hm
    simp only [if_pos h]
    obtain ⟨rows', e, S2⟩ := hG (sg' := sg) S
    exact ⟨os, rows', e, S2⟩
  · rw [if_neg h] at hm
    subst hm
    simp only [if_neg h]
    obtain ⟨rows', e, S2⟩ := hG (sg' := -sg) (swap_sim S hp hs)
    exact ⟨_, rows', e, S2⟩
end
section

/-! ## the determinant is what it should be -/
theorem row0 {p q r s a b x y : Int} (ha : sm a = true) (hb : sm b = true) (hx : sm x = true) (hy : sm y = true) : rowQ p 1 [p, q, r, s] 0 [a, b, x, y] = some [0, b * p - a * q, x * p - a * r, y * p - a * s] := by
  have h1 : sm 1 = true := by decide
  simp [rowQ, colQ, List.range', nth, ha, hb, hx, hy, h1, Int.fdiv_one]
theorem row1 {ah o q r s b x y : Int} (h0 : ah ≠ 0) (hh : sm ah = true) (hb : sm b = true) (hx : sm x = true) (hy : sm y = true) : rowQ q ah [o, q, r, s] 1 [0, b, x, y] = some [0, 0, (x * q - b * r).fdiv ah, (y * q - b * s).fdiv ah] := by
  simp [rowQ, colQ, List.range', nth, h0, hh, hb, hx, hy]
theorem row2 {ah o o' r s x y : Int} (h0 : ah ≠ 0) (hh : sm ah = true) (hx : sm x = true) (hy : sm y = true) : rowQ r ah [o, o', r, s] 2 [0, 0, x, y] = some [0, 0, 0, (y * r - x * s).fdiv ah] := by
  simp [rowQ, colQ, nth, h0, hh, hx, hy]
theorem bare3 {lead ahead : Int} {rs r0 r1 r2 r3 n1 n2 n3 : List Int} (h1 : rowQ lead ahead rs 0 r1 = some n1) (h2 : rowQ lead ahead rs 0 r2 = some n2) (h3 : rowQ lead ahead rs 0 r3 = some n3) :
    (List.range' (0 + 1) (4 - (0 + 1))).foldlM (bareQ 0 lead ahead rs) [r0, r1, r2, r3] = some [r0, n1, n2, n3] := by
  simp [bareQ, List.range', h1, h2, h3]
theorem bare2 {lead ahead : Int} {rs r0 r1 r2 r3 n2 n3 : List Int} (h2 : rowQ lead ahead rs 1 r2 = some n2) (h3 : rowQ lead ahead rs 1 r3 = some n3) :
    (List.range' (1 + 1) (4 - (1 + 1))).foldlM (bareQ 1 lead ahead rs) [r0, r1, r2, r3] = some [r0, r1, n2, n3] := by
  simp [bareQ, List.range', h2, h3]
theorem bare1 {lead ahead : Int} {rs r0 r1 r2 r3 n3 : List Int} (h3 : rowQ lead ahead rs 2 r3 = some n3) :
    (List.range' (2 + 1) (4 - (2 + 1))).foldlM (bareQ 2 lead ahead rs) [r0, r1, r2, r3] = some [r0, r1, r2, n3] := by
  simp [bareQ, h3]
noncomputable abbrev eL (a0 b0 x0 y0 a b x y : Int) : List Int := [0, b * a0 - a * b0, x * a0 - a * x0, y * a0 - a * y0]
variable {os : List Nat} {rows : List (List Int)} {a0 b0 x0 y0 a1 b1 x1 y1 a2 b2 x2 y2 a3 b3 x3 y3 sg v : Int}
noncomputable abbrev bd15 (a0 b0 x0 y0 a1 b1 x1 y1 a2 b2 x2 y2 a3 b3 x3 y3 : Int) : Prop := bdB (2 ^ 15) (M4 a0 b0 x0 y0 a1 b1 x1 y1 a2 b2 x2 y2 a3 b3 x3 y3) = true
theorem sm15 {n : Int} (h : n.natAbs ≤ 2 ^ 15) : sm n = true := sm_iff.mpr (Sm_le h)
theorem sm48 {n : Int} (h : n.natAbs ≤ 2 ^ 50) : sm n = true := sm_iff.mpr (Nat.lt_of_le_of_lt h (by decide))
theorem e_le {a b c d : Int} (ha : a.natAbs ≤ 2 ^ 15) (hb : b.natAbs ≤ 2 ^ 15) (hc : c.natAbs ≤ 2 ^ 15) (hd : d.natAbs ≤ 2 ^ 15) : (a * b - c * d).natAbs ≤ 2 ^ 31 := Nat.le_trans (trs (trm ha hb) (trm hc hd)) (by decide)
theorem d3_le {a b c d e f g h i : Int} (ha : a.natAbs ≤ 2 ^ 15) (hb : b.natAbs ≤ 2 ^ 15) (hc : c.natAbs ≤ 2 ^ 15) (hd : d.natAbs ≤ 2 ^ 15) (he : e.natAbs ≤ 2 ^ 15) (hf : f.natAbs ≤ 2 ^ 15) (hg : g.natAbs ≤ 2 ^ 15) (hh : h.natAbs ≤ 2 ^ 15) (hi : i.natAbs ≤ 2 ^ 15) : (d3 a b c d e f g h i).natAbs ≤ 2 ^ 50 :=
  Nat.le_trans (tri (trs (trm ha (e_le he hi hf hh)) (trm hb (e_le hd hi hf hg))) (trm hc (e_le hd hh he hg))) (by decide)
structure At0 (v : Int) (q : DSt) : Prop where
  ex : ∃ a0 b0 x0 y0 a1 b1 x1 y1 a2 b2 x2 y2 a3 b3 x3 y3, bd15 a0 b0 x0 y0 a1 b1 x1 y1 a2 b2 x2 y2 a3 b3 x3 y3 ∧ Sim q.1 q.2.1 (M4 a0 b0 x0 y0 a1 b1 x1 y1 a2 b2 x2 y2 a3 b3 x3 y3) ∧ (q.2.2.1 = 1 ∨ q.2.2.1 = -1) ∧ q.2.2.1 * d4 a0 b0 x0 y0 a1 b1 x1 y1 a2 b2 x2 y2 a3 b3 x3 y3 = v ∧ q.2.2.2 = 1
structure At1 (v : Int) (q : DSt) : Prop where
  ex : ∃ a0 b0 x0 y0 a1 b1 x1 y1 a2 b2 x2 y2 a3 b3 x3 y3, bd15 a0 b0 x0 y0 a1 b1 x1 y1 a2 b2 x2 y2 a3 b3 x3 y3 ∧ Sim q.1 q.2.1 [[a0, b0, x0, y0], eL a0 b0 x0 y0 a1 b1 x1 y1, eL a0 b0 x0 y0 a2 b2 x2 y2, eL a0 b0 x0 y0 a3 b3 x3 y3] ∧ (q.2.2.1 = 1 ∨ q.2.2.1 = -1) ∧ q.2.2.1 * d4 a0 b0 x0 y0 a1 b1 x1 y1 a2 b2 x2 y2 a3 b3 x3 y3 = v ∧ q.2.2.2 = a0 ∧ a0 ≠ 0
theorem sg_if {p k : Nat} {sg : Int} (hs : sg = 1 ∨ sg = -1) : (if p = k then sg else -sg) = 1 ∨ (if p = k then sg else -sg) = -1 := by split <;> omega
theorem st0 {m : List (List Int)} {p : Nat} (S : Sim os rows m) (hp : p < 4) (hpiv : pivQ m 0 (List.range' 0 (4 - 0)) = some p) (hm : (if p = 0 then m else swapQ m p 0) = M4 a0 b0 x0 y0 a1 b1 x1 y1 a2 b2 x2 y2 a3 b3 x3 y3)
    (hb : bd15 a0 b0 x0 y0 a1 b1 x1 y1 a2 b2 x2 y2 a3 b3 x3 y3) (hs : sg = 1 ∨ sg = -1) (hv : (if p = 0 then sg else -sg) * d4 a0 b0 x0 y0 a1 b1 x1 y1 a2 b2 x2 y2 a3 b3 x3 y3 = v) (h0 : a0 ≠ 0) : ∃ q, detF (os, rows, sg, 1) 0 = some q ∧ At1 v q := by
  obtain ⟨⟨p1, p2, p3, p4⟩, ⟨q1, q2, q3, q4⟩, ⟨r1, r2, r3, r4⟩, s1, s2, s3, s4⟩ := bd_eq.mp hb
  obtain ⟨os', rows', e, S'⟩ := detF_sim (sg := sg) (ah := 1) S (by decide) hp hpiv hm (bare3 (row0 (sm15 q1) (sm15 q2) (sm15 q3) (sm15 q4)) (row0 (sm15 r1) (sm15 r2) (sm15 r3) (sm15 r4)) (row0 (sm15 s1) (sm15 s2) (sm15 s3) (sm15 s4)))
  exact ⟨_, e, ⟨_, _, _, _, _, _, _, _, _, _, _, _, _, _, _, _, hb, S', sg_if hs, hv, rfl, h0⟩⟩
theorem bd_swap {r0 r1 r2 r3 : List Int} {B : Nat} (h : bdB B [r0, r1, r2, r3] = true) : bdB B [r1, r0, r2, r3] = true ∧ bdB B [r2, r1, r0, r3] = true ∧ bdB B [r3, r1, r2, r0] = true ∧ bdB B [r0, r2, r1, r3] = true ∧ bdB B [r0, r3, r2, r1] = true ∧ bdB B [r0, r1, r3, r2] = true := by
  simp only [bdB, List.all_cons, List.all_nil, Bool.and_true, Bool.and_eq_true] at h ⊢
  obtain ⟨h0, h1, h2, h3⟩ := h
  exact ⟨⟨h1, h0, h2, h3⟩, ⟨h2, h1, h0, h3⟩, ⟨h3, h1, h2, h0⟩, ⟨h0, h2, h1, h3⟩, ⟨h0, h3, h2, h1⟩, h0, h1, h3, h2⟩
theorem sw10 : d4 a1 b1 x1 y1 a0 b0 x0 y0 a2 b2 x2 y2 a3 b3 x3 y3 = - d4 a0 b0 x0 y0 a1 b1 x1 y1 a2 b2 x2 y2 a3 b3 x3 y3 := by unfold d4 d3; grind
theorem sw20 : d4 a2 b2 x2 y2 a1 b1 x1 y1 a0 b0 x0 y0 a3 b3 x3 y3 = - d4 a0 b0 x0 y0 a1 b1 x1 y1 a2 b2 x2 y2 a3 b3 x3 y3 := by unfold d4 d3; grind
theorem sw30 : d4 a3 b3 x3 y3 a1 b1 x1 y1 a2 b2 x2 y2 a0 b0 x0 y0 = - d4 a0 b0 x0 y0 a1 b1 x1 y1 a2 b2 x2 y2 a3 b3 x3 y3 := by unfold d4 d3; grind
theorem sw21 : d4 a0 b0 x0 y0 a2 b2 x2 y2 a1 b1 x1 y1 a3 b3 x3 y3 = - d4 a0 b0 x0 y0 a1 b1 x1 y1 a2 b2 x2 y2 a3 b3 x3 y3 := by unfold d4 d3; grind
theorem sw31 : d4 a0 b0 x0 y0 a3 b3 x3 y3 a2 b2 x2 y2 a1 b1 x1 y1 = - d4 a0 b0 x0 y0 a1 b1 x1 y1 a2 b2 x2 y2 a3 b3 x3 y3 := by unfold d4 d3; grind
theorem sw32 : d4 a0 b0 x0 y0 a1 b1 x1 y1 a3 b3 x3 y3 a2 b2 x2 y2 = - d4 a0 b0 x0 y0 a1 b1 x1 y1 a2 b2 x2 y2 a3 b3 x3 y3 := by unfold d4 d3; grind
theorem piv4 {r0 r1 r2 r3 : List Int} : pivQ [r0, r1, r2, r3] 0 (List.range' 0 (4 - 0)) = if nth r0 0 ≠ 0 then some 0 else if nth r1 0 ≠ 0 then some 1 else if nth r2 0 ≠ 0 then some 2 else if nth r3 0 ≠ 0 then some 3 else none := by rfl
theorem piv3 {r0 r1 r2 r3 : List Int} : pivQ [r0, r1, r2, r3] 1 (List.range' 1 (4 - 1)) = if nth r1 1 ≠ 0 then some 1 else if nth r2 1 ≠ 0 then some 2 else if nth r3 1 ≠ 0 then some 3 else none := by rfl
theorem piv2 {r0 r1 r2 r3 : List Int} : pivQ [r0, r1, r2, r3] 2 (List.range' 2 (4 - 2)) = if nth r2 2 ≠ 0 then some 2 else if nth r3 2 ≠ 0 then some 3 else none := by rfl
section
variable {r0 r1 r2 r3 : List Int}
theorem p40 (h : nth r0 0 ≠ 0) : pivQ [r0, r1, r2, r3] 0 (List.range' 0 (4 - 0)) = some 0 := by rw [piv4, if_pos h]
theorem p41 (h0 : nth r0 0 = 0) (h : nth r1 0 ≠ 0) : pivQ [r0, r1, r2, r3] 0 (List.range' 0 (4 - 0)) = some 1 := by rw [piv4, if_neg (not_not_intro h0), if_pos h]
theorem p42 (h0 : nth r0 0 = 0) (h1 : nth r1 0 = 0) (h : nth r2 0 ≠ 0) : pivQ [r0, r1, r2, r3] 0 (List.range' 0 (4 - 0)) = some 2 := by rw [piv4, if_neg (not_not_intro h0), if_neg (not_not_intro h1), if_pos h]
theorem p43 (h0 : nth r0 0 = 0) (h1 : nth r1 0 = 0) (h2 : nth r2 0 = 0) (h : nth r3 0 ≠ 0) : pivQ [r0, r1, r2, r3] 0 (List.range' 0 (4 - 0)) = some 3 := by rw [piv4, if_neg (not_not_intro h0), if_neg (not_not_intro h1), if_neg (not_not_intro h2), if_pos h]
theorem p31 (h : nth r1 1 ≠ 0) : pivQ [r0, r1, r2, r3] 1 (List.range' 1 (4 - 1)) = some 1 := by rw [piv3, if_pos h]
theorem p32 (h1 : nth r1 1 = 0) (h : nth r2 1 ≠ 0) : pivQ [r0, r1, r2, r3] 1 (List.range' 1 (4 - 1)) = some 2 := by rw [piv3, if_neg (not_not_intro h1), if_pos h]
theorem p33 (h1 : nth r1 1 = 0) (h2 : nth r2 1 = 0) (h : nth r3 1 ≠ 0) : pivQ [r0, r1, r2, r3] 1 (List.range' 1 (4 - 1)) = some 3 := by rw [piv3, if_neg (not_not_intro h1), if_neg (not_not_intro h2), if_pos h]
theorem p22 (h : nth r2 2 ≠ 0) : pivQ [r0, r1, r2, r3] 2 (List.range' 2 (4 - 2)) = some 2 := by rw [piv2, if_pos h]
theorem p23 (h2 : nth r2 2 = 0) (h : nth r3 2 ≠ 0) : pivQ [r0, r1, r2, r3] 2 (List.range' 2 (4 - 2)) = some 3 := by rw [piv2, if_neg (not_not_intro h2), if_pos h]
end
theorem d4_col : d4 0 b0 x0 y0 0 b1 x1 y1 0 b2 x2 y2 0 b3 x3 y3 = 0 := by unfold d4 d3; grind
theorem step0 {q : DSt} (hv : v ≠ 0) (h : At0 v q) : ∃ q', detF q 0 = some q' ∧ At1 v q' := by
  obtain ⟨os, rows, sg, ah⟩ := q
  obtain ⟨a0, b0, x0, y0, a1, b1, x1, y1, a2, b2, x2, y2, a3, b3, x3, y3, hb, S, hs, hd, h1⟩ := h.ex
  dsimp only at S hs hd h1
  subst h1
  obtain ⟨w1, w2, w3, _, _, _⟩ := bd_swap hb
  by_cases c0 : a0 = 0
  · by_cases c1 : a1 = 0
    · by_cases c2 : a2 = 0
      · by_cases c3 : a3 = 0
        · subst c0 c1 c2 c3
          rw [d4_col, Int.mul_zero] at hd
          exact absurd hd.symm hv
        · refine st0 (p := 3) S (by decide) (p43 c0 c1 c2 c3) rfl w3 hs ?_ c3
          rw [if_neg (by decide), sw30, Int.neg_mul_neg]; exact hd
      · refine st0 (p := 2) S (by decide) (p42 c0 c1 c2) rfl w2 hs ?_ c2
        rw [if_neg (by decide), sw20, Int.neg_mul_neg]; exact hd
    · refine st0 (p := 1) S (by decide) (p41 c0 c1) rfl w1 hs ?_ c1
      rw [if_neg (by decide), sw10, Int.neg_mul_neg]; exact hd
  · exact st0 (p := 0) S (by decide) (p40 c0) rfl hb hs hd c0
/-! step 1 -/
theorem min3 (a0 b0 x0 a1 b1 x1 a b x : Int) : (x * a0 - a * x0) * (b1 * a0 - a1 * b0) - (b * a0 - a * b0) * (x1 * a0 - a1 * x0) = a0 * d3 a0 b0 x0 a1 b1 x1 a b x := by unfold d3; grind
theorem fdiv_of {k q n : Int} (hk : k ≠ 0) (h : n = k * q) : n.fdiv k = q := by rw [h]; exact Int.mul_fdiv_cancel_left q hk
noncomputable abbrev tL (a0 b0 x0 y0 a1 b1 x1 y1 a b x y : Int) : List Int := [0, 0, d3 a0 b0 x0 a1 b1 x1 a b x, d3 a0 b0 y0 a1 b1 y1 a b y]
structure At2 (v : Int) (q : DSt) : Prop where
  ex : ∃ a0 b0 x0 y0 a1 b1 x1 y1 a2 b2 x2 y2 a3 b3 x3 y3, bd15 a0 b0 x0 y0 a1 b1 x1 y1 a2 b2 x2 y2 a3 b3 x3 y3 ∧ Sim q.1 q.2.1 [[a0, b0, x0, y0], eL a0 b0 x0 y0 a1 b1 x1 y1, tL a0 b0 x0 y0 a1 b1 x1 y1 a2 b2 x2 y2, tL a0 b0 x0 y0 a1 b1 x1 y1 a3 b3 x3 y3] ∧ (q.2.2.1 = 1 ∨ q.2.2.1 = -1) ∧ q.2.2.1 * d4 a0 b0 x0 y0 a1 b1 x1 y1 a2 b2 x2 y2 a3 b3 x3 y3 = v ∧ q.2.2.2 = b1 * a0 - a1 * b0 ∧ b1 * a0 - a1 * b0 ≠ 0
theorem row1' {a b x y : Int} (h0 : a0 ≠ 0) (k0 : a0.natAbs ≤ 2 ^ 15 ∧ b0.natAbs ≤ 2 ^ 15 ∧ x0.natAbs ≤ 2 ^ 15 ∧ y0.natAbs ≤ 2 ^ 15) (k : a.natAbs ≤ 2 ^ 15 ∧ b.natAbs ≤ 2 ^ 15 ∧ x.natAbs ≤ 2 ^ 15 ∧ y.natAbs ≤ 2 ^ 15) :
    rowQ (b1 * a0 - a1 * b0) a0 (eL a0 b0 x0 y0 a1 b1 x1 y1) 1 (eL a0 b0 x0 y0 a b x y) = some (tL a0 b0 x0 y0 a1 b1 x1 y1 a b x y) := by
  obtain ⟨u1, u2, u3, u4⟩ := k0
  obtain ⟨v1, v2, v3, v4⟩ := k
  have big : ∀ {n : Int}, n.natAbs ≤ 2 ^ 31 → sm n = true := fun h => sm_iff.mpr (Nat.lt_of_le_of_lt h (by decide))
  rw [row1 h0 (sm15 u1) (big (e_le v2 u1 v1 u2)) (big (e_le v3 u1 v1 u3)) (big (e_le v4 u1 v1 u4)), fdiv_of h0 (min3 a0 b0 x0 a1 b1 x1 a b x), fdiv_of h0 (min3 a0 b0 y0 a1 b1 y1 a b y)]
theorem st1 {m : List (List Int)} {p : Nat} (S : Sim os rows m) (hp : p < 4) (hpiv : pivQ m 1 (List.range' 1 (4 - 1)) = some p) (hm : (if p = 1 then m else swapQ m p 1) = [[a0, b0, x0, y0], eL a0 b0 x0 y0 a1 b1 x1 y1, eL a0 b0 x0 y0 a2 b2 x2 y2, eL a0 b0 x0 y0 a3 b3 x3 y3])
    (hb : bd15 a0 b0 x0 y0 a1 b1 x1 y1 a2 b2 x2 y2 a3 b3 x3 y3) (hs : sg = 1 ∨ sg = -1) (hv : (if p = 1 then sg else -sg) * d4 a0 b0 x0 y0 a1 b1 x1 y1 a2 b2 x2 y2 a3 b3 x3 y3 = v) (h0 : a0 ≠ 0) (h1 : b1 * a0 - a1 * b0 ≠ 0) : ∃ q, detF (os, rows, sg, a0) 1 = some q ∧ At2 v q := by
  obtain ⟨kp', _, kr, ks⟩ := bd_eq.mp hb
  obtain ⟨os', rows', e, S'⟩ := detF_sim (sg := sg) (ah := a0) S (by decide) hp hpiv hm (bare2 (row1' h0 kp' kr) (row1' h0 kp' ks))
  exact ⟨_, e, ⟨_, _, _, _, _, _, _, _, _, _, _, _, _, _, _, _, hb, S', sg_if hs, hv, rfl, h1⟩⟩
theorem d4_zero1 (h1 : b1 * a0 - a1 * b0 = 0) (h2 : b2 * a0 - a2 * b0 = 0) (h3 : b3 * a0 - a3 * b0 = 0) : a0 * (a0 * d4 a0 b0 x0 y0 a1 b1 x1 y1 a2 b2 x2 y2 a3 b3 x3 y3) = 0 := by
  have : a0 * (a0 * d4 a0 b0 x0 y0 a1 b1 x1 y1 a2 b2 x2 y2 a3 b3 x3 y3) = d3 (b1 * a0 - a1 * b0) (x1 * a0 - a1 * x0) (y1 * a0 - a1 * y0) (b2 * a0 - a2 * b0) (x2 * a0 - a2 * x0) (y2 * a0 - a2 * y0) (b3 * a0 - a3 * b0) (x3 * a0 - a3 * x0) (y3 * a0 - a3 * y0) := by unfold d4 d3; grind
  rw [this, h1, h2, h3]
  unfold d3; grind
theorem step1 {q : DSt} (hv : v ≠ 0) (h : At1 v q) : ∃ q', detF q 1 = some q' ∧ At2 v q' := by
  obtain ⟨os, rows, sg, ah⟩ := q
  obtain ⟨a0, b0, x0, y0, a1, b1, x1, y1, a2, b2, x2, y2, a3, b3, x3, y3, hb, S, hs, hd, hah, h0⟩ := h.ex
  dsimp only at S hs hd hah
  subst hah
  obtain ⟨_, _, _, w1, w2, _⟩ := bd_swap hb
  by_cases c1 : b1 * ah - a1 * b0 = 0
  · by_cases c2 : b2 * ah - a2 * b0 = 0
    · by_cases c3 : b3 * ah - a3 * b0 = 0
      · have hz := d4_zero1 (x0 := x0) (y0 := y0) (x1 := x1) (y1 := y1) (x2 := x2) (y2 := y2) (x3 := x3) (y3 := y3) c1 c2 c3
        rcases Int.mul_eq_zero.mp hz with hz | hz
        · exact absurd hz h0
        · rcases Int.mul_eq_zero.mp hz with hz | hz
          · exact absurd hz h0
          · rw [hz, Int.mul_zero] at hd
            exact absurd hd.symm hv
      · refine st1 (p := 3) S (by decide) (p33 c1 c2 c3) rfl w2 hs ?_ h0 c3
        rw [if_neg (by decide), sw31, Int.neg_mul_neg]; exact hd
    · refine st1 (p := 2) S (by decide) (p32 c1 c2) rfl w1 hs ?_ h0 c2
      rw [if_neg (by decide), sw21, Int.neg_mul_neg]; exact hd
  · exact st1 (p := 1) S (by decide) (p31 c1) rfl hb hs hd h0 c1
/-! step 2, step 3 -/
theorem min4 : d3 a0 b0 y0 a1 b1 y1 a3 b3 y3 * d3 a0 b0 x0 a1 b1 x1 a2 b2 x2 - d3 a0 b0 x0 a1 b1 x1 a3 b3 x3 * d3 a0 b0 y0 a1 b1 y1 a2 b2 y2 = (b1 * a0 - a1 * b0) * d4 a0 b0 x0 y0 a1 b1 x1 y1 a2 b2 x2 y2 a3 b3 x3 y3 := by unfold d4 d3; grind
structure At3 (v : Int) (q : DSt) : Prop where
  ex : ∃ r0 r1 r2 : List Int, ∃ D, Sim q.1 q.2.1 [r0, r1, r2, [0, 0, 0, D]] ∧ (q.2.2.1 = 1 ∨ q.2.2.1 = -1) ∧ q.2.2.1 * D = v
theorem row2' (h1 : b1 * a0 - a1 * b0 ≠ 0) (hb : bd15 a0 b0 x0 y0 a1 b1 x1 y1 a2 b2 x2 y2 a3 b3 x3 y3) :
    rowQ (d3 a0 b0 x0 a1 b1 x1 a2 b2 x2) (b1 * a0 - a1 * b0) (tL a0 b0 x0 y0 a1 b1 x1 y1 a2 b2 x2 y2) 2 (tL a0 b0 x0 y0 a1 b1 x1 y1 a3 b3 x3 y3) = some [0, 0, 0, d4 a0 b0 x0 y0 a1 b1 x1 y1 a2 b2 x2 y2 a3 b3 x3 y3] := by
  obtain ⟨⟨p1, p2, p3, p4⟩, ⟨q1, q2, q3, q4⟩, ⟨r1, r2, r3, r4⟩, s1, s2, s3, s4⟩ := bd_eq.mp hb
  have big : ∀ {n : Int}, n.natAbs ≤ 2 ^ 31 → sm n = true := fun h => sm_iff.mpr (Nat.lt_of_le_of_lt h (by decide))
  rw [row2 h1 (big (e_le q2 p1 q1 p2)) (sm48 (d3_le p1 p2 p3 q1 q2 q3 s1 s2 s3)) (sm48 (d3_le p1 p2 p4 q1 q2 q4 s1 s2 s4)), fdiv_of h1 min4]
theorem st2 {m : List (List Int)} {p : Nat} (S : Sim os rows m) (hp : p < 4) (hpiv : pivQ m 2 (List.range' 2 (4 - 2)) = some p) (hm : (if p = 2 then m else swapQ m p 2) = [[a0, b0, x0, y0], eL a0 b0 x0 y0 a1 b1 x1 y1, tL a0 b0 x0 y0 a1 b1 x1 y1 a2 b2 x2 y2, tL a0 b0 x0 y0 a1 b1 x1 y1 a3 b3 x3 y3])
    (hb : bd15 a0 b0 x0 y0 a1 b1 x1 y1 a2 b2 x2 y2 a3 b3 x3 y3) (hs : sg = 1 ∨ sg = -1) (hv : (if p = 2 then sg else -sg) * d4 a0 b0 x0 y0 a1 b1 x1 y1 a2 b2 x2 y2 a3 b3 x3 y3 = v) (h1 : b1 * a0 - a1 * b0 ≠ 0) : ∃ q, detF (os, rows, sg, b1 * a0 - a1 * b0) 2 = some q ∧ At3 v q := by
  obtain ⟨os', rows', e, S'⟩ := detF_sim (sg := sg) (ah := b1 * a0 - a1 * b0) S (by decide) hp hpiv hm (bare1 (row2' h1 hb))
  exact ⟨_, e, ⟨_, _, _, _, S', sg_if hs, hv⟩⟩
theorem step2 {q : DSt} (hv : v ≠ 0) (h : At2 v q) : ∃ q', detF q 2 = some q' ∧ At3 v q' := by
  obtain ⟨os, rows, sg, ah⟩ := q
  obtain ⟨a0, b0, x0, y0, a1, b1, x1, y1, a2, b2, x2, y2, a3, b3, x3, y3, hb, S, hs, hd, hah, h1⟩ := h.ex
  dsimp only at S hs hd hah
  subst hah
  obtain ⟨_, _, _, _, _, w1⟩ := bd_swap hb
  by_cases c2 : d3 a0 b0 x0 a1 b1 x1 a2 b2 x2 = 0
  · by_cases c3 : d3 a0 b0 x0 a1 b1 x1 a3 b3 x3 = 0
    · have hz := min4 (a0 := a0) (b0 := b0) (x0 := x0) (y0 := y0) (a1 := a1) (b1 := b1) (x1 := x1) (y1 := y1) (a2 := a2) (b2 := b2) (x2 := x2) (y2 := y2) (a3 := a3) (b3 := b3) (x3 := x3) (y3 := y3)
      rw [c2, c3, Int.mul_zero, Int.zero_mul, Int.sub_zero] at hz
      rcases Int.mul_eq_zero.mp hz.symm with hz | hz
      · exact absurd hz h1
      · rw [hz, Int.mul_zero] at hd
        exact absurd hd.symm hv
    · refine st2 (p := 3) S (by decide) (p23 c2 c3) rfl w1 hs ?_ h1
      rw [if_neg (by decide), sw32, Int.neg_mul_neg]; exact hd
  · exact st2 (p := 2) S (by decide) (p22 c2) rfl hb hs hd h1
theorem step3 {q : DSt} (hv : v ≠ 0) (h : At3 v q) : ∃ os rows sg ah, detF q 3 = some (os, rows, sg, ah) ∧ sm sg = true ∧ sg * ah = v := by
  obtain ⟨os, rows, sg, ah⟩ := q
  obtain ⟨r0, r1, r2, D, S, hs, hd⟩ := h.ex
  dsimp only at S hs hd
  have hD : D ≠ 0 := by
    intro e
    rw [e, Int.mul_zero] at hd
    exact hv hd.symm
  have hp : pivQ [r0, r1, r2, [0, 0, 0, D]] 3 (List.range' 3 (4 - 3)) = some 3 := by
    show (if nth [0, 0, 0, D] 3 ≠ 0 then some 3 else none) = some 3
    exact if_pos hD
  obtain ⟨os', rows', e, S'⟩ := detF_sim (sg := sg) (ah := ah) S (by decide) (by decide) hp rfl rfl
  refine ⟨_, _, _, _, e, ?_, hd⟩
  rcases hs with hs | hs <;> rw [hs] <;> decide
theorem Good.dets {B : Nat} {R : List (List Int)} (G : Good B v R) (hB : B ≤ 2 ^ 15) (hv : v ≠ 0) : ∃ os R2 sg ah, (List.range' 0 4).foldlM detF (List.range 4, R, 1, 1) = some (os, R2, sg, ah) ∧ sm sg = true ∧ sg * ah = v := by
  obtain ⟨ok, bd, keep, gram, det⟩ := G
  have bd' := bd_mono hB bd
  obtain ⟨h4, hr⟩ := rowsOk_iff.mp ok
  obtain ⟨a0, b0, x0, y0, a1, b1, x1, y1, a2, b2, x2, y2, a3, b3, x3, y3, rfl⟩ := rows4 ok
  have S : Sim (List.range 4) (M4 a0 b0 x0 y0 a1 b1 x1 y1 a2 b2 x2 y2 a3 b3 x3 y3) (M4 a0 b0 x0 y0 a1 b1 x1 y1 a2 b2 x2 y2 a3 b3 x3 y3) :=
    ⟨rfl, by decide, fun i hi => by rw [h4]; exact List.mem_range.mp hi, rfl, hr⟩
  rw [det_eq] at det
  obtain ⟨q1, e1, A1⟩ := step0 (q := (List.range 4, M4 a0 b0 x0 y0 a1 b1 x1 y1 a2 b2 x2 y2 a3 b3 x3 y3, 1, 1)) hv ⟨_, _, _, _, _, _, _, _, _, _, _, _, _, _, _, _, bd', S, .inl rfl, by rw [Int.one_mul]; exact det, rfl⟩
  obtain ⟨q2, e2, A2⟩ := step1 hv A1
  obtain ⟨q3, e3, A3⟩ := step2 hv A2
  obtain ⟨os, R2, sg, ah, e4, h5, h6⟩ := step3 hv A3
  refine ⟨os, R2, sg, ah, ?_, h5, h6⟩
  show ([0, 1, 2, 3] : List Nat).foldlM detF _ = _
  rw [List.foldlM_cons, e1]
  show ([1, 2, 3] : List Nat).foldlM detF q1 = _
  rw [List.foldlM_cons, e2]
  show ([2, 3] : List Nat).foldlM detF q2 = _
  rw [List.foldlM_cons, e3]
  show ([3] : List Nat).foldlM detF q3 = _
  rw [List.foldlM_cons, e4]
  rfl
end
section

/-! ## the bends' tables -/
inductive Tbl | nil | node (k : Nat) (l r : Tbl)
noncomputable def Tbl.has (k : Nat) : Tbl → Bool
  | .nil => false
  | .node j l r => if k = j then true else if k < j then l.has k else r.has k
noncomputable def Tbl.allB (f : Nat → Bool) : Tbl → Bool
  | .nil => true
  | .node j l r => f j && l.allB f && r.allB f
theorem Tbl.all_has {f : Nat → Bool} {k : Nat} : ∀ {t : Tbl}, t.allB f = true → t.has k = true → f k = true
  | .nil, _, h => by cases h
  | .node j l r, ha, h => by
    simp only [Tbl.allB, Bool.and_eq_true] at ha
    unfold Tbl.has at h
    split at h
    · rename_i e; rw [e]; exact ha.1.1
    · split at h
      · exact Tbl.all_has ha.1.2 h
      · exact Tbl.all_has ha.2 h
noncomputable def okK (k : Nat) : Bool := okPair (((k / 1024 : Nat) : Int) - 2) ((k % 1024 : Nat) : Int)
noncomputable def tb0 : Tbl := (.node 1255 (.node 1119 (.node 1071 (.node 1047 (.node 1039 .nil .nil) (.node 1063 .nil .nil)) (.node 1111 (.node 1087 .nil .nil) .nil)) (.node 1191 (.node 1159 (.node 1135 .nil .nil) (.node 1167 .nil .nil)) (.node 1239 (.node 1215 .nil .nil) .nil))) (.node 1543 (.node 1375 (.node 1303 (.node 1287 .nil .nil) (.node 1351 .nil .nil)) (.node 1471 (.node 1431 .nil .nil) .nil)) (.node 2060 (.node 2052 (.node 1623 .nil .nil) (.node 2056 .nil .nil)) (.node 2072 (.node 2064 .nil .nil) .nil))))
noncomputable def tb1 : Tbl := (.node 2256 (.node 2160 (.node 2124 (.node 2100 (.node 2096 .nil .nil) (.node 2104 .nil .nil)) (.node 2152 (.node 2132 .nil .nil) .nil)) (.node 2204 (.node 2196 (.node 2172 .nil .nil) (.node 2200 .nil .nil)) (.node 2244 (.node 2216 .nil .nil) .nil))) (.node 2420 (.node 2352 (.node 2316 (.node 2292 .nil .nil) (.node 2344 .nil .nil)) (.node 2364 (.node 2360 .nil .nil) .nil)) (.node 2564 (.node 2440 (.node 2436 .nil .nil) (.node 2484 .nil .nil)) (.node 3081 (.node 3073 .nil .nil) .nil))))
noncomputable def tb2 : Tbl := (.node 3385 (.node 3201 (.node 3153 (.node 3121 (.node 3105 .nil .nil) (.node 3145 .nil .nil)) (.node 3193 (.node 3169 .nil .nil) .nil)) (.node 3289 (.node 3249 (.node 3225 .nil .nil) (.node 3273 .nil .nil)) (.node 3337 (.node 3321 .nil .nil) .nil))) (.node 4102 (.node 3577 (.node 3465 (.node 3409 .nil .nil) (.node 3505 .nil .nil)) (.node 4098 (.node 3657 .nil .nil) .nil)) (.node 4134 (.node 4114 (.node 4110 .nil .nil) (.node 4126 .nil .nil)) (.node 4150 (.node 4146 .nil .nil) .nil))))
noncomputable def tb3 : Tbl := (.node 4318 (.node 4242 (.node 4198 (.node 4182 (.node 4162 .nil .nil) (.node 4194 .nil .nil)) (.node 4222 (.node 4206 .nil .nil) .nil)) (.node 4278 (.node 4258 (.node 4246 .nil .nil) (.node 4270 .nil .nil)) (.node 4294 (.node 4290 .nil .nil) .nil))) (.node 4414 (.node 4390 (.node 4354 (.node 4350 .nil .nil) (.node 4374 .nil .nil)) (.node 4402 (.node 4398 .nil .nil) .nil)) (.node 4498 (.node 4450 (.node 4446 .nil .nil) .nil) (.node 4530 (.node 4510 .nil .nil) .nil))))
noncomputable def tb4 : Tbl := (.node 5251 (.node 4902 (.node 4626 (.node 4566 (.node 4558 .nil .nil) (.node 4582 .nil .nil)) (.node 4822 (.node 4678 .nil .nil) .nil)) (.node 5179 (.node 5131 (.node 5123 .nil .nil) (.node 5155 .nil .nil)) (.node 5227 (.node 5195 .nil .nil) .nil))) (.node 5443 (.node 5371 (.node 5299 (.node 5267 .nil .nil) (.node 5339 .nil .nil)) (.node 5419 (.node 5395 .nil .nil) .nil)) (.node 5627 (.node 5491 (.node 5483 .nil .nil) (.node 5563 .nil .nil)) (.node 6160 (.node 6148 .nil .nil) .nil))))
noncomputable def tb5 : Tbl := (.node 6424 (.node 6288 (.node 6232 (.node 6208 (.node 6180 .nil .nil) (.node 6216 .nil .nil)) (.node 6276 (.node 6244 .nil .nil) .nil)) (.node 6360 (.node 6336 (.node 6312 .nil .nil) (.node 6340 .nil .nil)) (.node 6400 (.node 6376 .nil .nil) .nil))) (.node 6640 (.node 6532 (.node 6448 (.node 6436 .nil .nil) (.node 6468 .nil .nil)) (.node 6616 (.node 6600 .nil .nil) .nil)) (.node 8210 (.node 6744 (.node 6664 .nil .nil) (.node 6792 .nil .nil)) (.node 8242 (.node 8218 .nil .nil) .nil))))
noncomputable def tb6 : Tbl := (.node 8570 (.node 8434 (.node 8354 (.node 8290 (.node 8282 .nil .nil) (.node 8314 .nil .nil)) (.node 8386 (.node 8362 .nil .nil) .nil)) (.node 8506 (.node 8482 (.node 8458 .nil .nil) (.node 8498 .nil .nil)) (.node 8554 (.node 8530 .nil .nil) .nil))) (.node 8938 (.node 8746 (.node 8698 (.node 8642 .nil .nil) (.node 8714 .nil .nil)) (.node 8858 (.node 8786 .nil .nil) .nil)) (.node 10368 (.node 10272 (.node 9082 .nil .nil) (.node 10288 .nil .nil)) (.node 10416 (.node 10384 .nil .nil) .nil))))
noncomputable def tb7 : Tbl := (.node 11481 (.node 11313 (.node 10704 (.node 10624 (.node 10576 .nil .nil) (.node 10672 .nil .nil)) (.node 11289 (.node 10800 .nil .nil) .nil)) (.node 11433 (.node 11385 (.node 11321 .nil .nil) (.node 11393 .nil .nil)) (.node 11465 (.node 11457 .nil .nil) .nil))) (.node 11721 (.node 11673 (.node 11577 (.node 11553 .nil .nil) (.node 11625 .nil .nil)) (.node 11697 (.node 11681 .nil .nil) .nil)) (.node 11889 (.node 11825 (.node 11745 .nil .nil) .nil) (.node 13339 (.node 11937 .nil .nil) .nil))))
noncomputable def tb8 : Tbl := (.node 13891 (.node 13611 (.node 13507 (.node 13443 (.node 13395 .nil .nil) (.node 13467 .nil .nil)) (.node 13579 (.node 13563 .nil .nil) .nil)) (.node 13779 (.node 13699 (.node 13627 .nil .nil) (.node 13723 .nil .nil)) (.node 13867 (.node 13827 .nil .nil) .nil))) (.node 14400 (.node 14163 (.node 13971 (.node 13963 .nil .nil) (.node 14083 .nil .nil)) (.node 14376 (.node 14227 .nil .nil) .nil)) (.node 16426 (.node 14568 (.node 14520 .nil .nil) (.node 14592 .nil .nil)) (.node 16482 (.node 16450 .nil .nil) .nil))))
noncomputable def tb9 : Tbl := (.node 18532 (.node 17479 (.node 16714 (.node 16618 (.node 16602 .nil .nil) (.node 16674 .nil .nil)) (.node 17471 (.node 16738 .nil .nil) .nil)) (.node 18468 (.node 17687 (.node 17671 .nil .nil) (.node 17695 .nil .nil)) (.node 18528 (.node 18496 .nil .nil) .nil))) (.node 18780 (.node 18688 (.node 18628 (.node 18540 .nil .nil) (.node 18636 .nil .nil)) (.node 18756 (.node 18720 .nil .nil) .nil)) (.node 20518 (.node 18828 (.node 18784 .nil .nil) (.node 18844 .nil .nil)) (.node 20578 (.node 20530 .nil .nil) .nil))))
noncomputable def tb10 : Tbl := (.node 20974 (.node 20818 (.node 20710 (.node 20614 (.node 20594 .nil .nil) (.node 20686 .nil .nil)) (.node 20738 (.node 20722 .nil .nil) .nil)) (.node 20902 (.node 20866 (.node 20830 .nil .nil) (.node 20882 .nil .nil)) (.node 20926 (.node 20914 .nil .nil) .nil))) (.node 26047 (.node 25975 (.node 25711 (.node 25687 .nil .nil) (.node 25719 .nil .nil)) (.node 26023 (.node 25983 .nil .nil) .nil)) (.node 26704 (.node 26071 (.node 26055 .nil .nil) (.node 26684 .nil .nil)) (.node 26772 (.node 26752 .nil .nil) .nil))))
noncomputable def tb11 : Tbl := (.node 28225 (.node 27817 (.node 27729 (.node 27136 (.node 27088 .nil .nil) (.node 27697 .nil .nil)) (.node 27801 (.node 27769 .nil .nil) .nil)) (.node 28089 (.node 28009 (.node 27825 .nil .nil) (.node 28041 .nil .nil)) (.node 28185 (.node 28161 .nil .nil) .nil))) (.node 30816 (.node 29747 (.node 28822 (.node 28734 .nil .nil) (.node 28854 .nil .nil)) (.node 29899 (.node 29875 .nil .nil) .nil)) (.node 31144 (.node 30880 (.node 30856 .nil .nil) .nil) (.node 31224 (.node 31168 .nil .nil) .nil))))
noncomputable def tb12 : Tbl := (.node 35032 (.node 33250 (.node 32906 (.node 31336 (.node 31296 .nil .nil) (.node 32866 .nil .nil)) (.node 33194 (.node 32962 .nil .nil) .nil)) (.node 33482 (.node 33370 (.node 33274 .nil .nil) (.node 33442 .nil .nil)) (.node 35016 (.node 34888 .nil .nil) .nil))) (.node 38091 (.node 37987 (.node 36009 (.node 35945 .nil .nil) (.node 36033 .nil .nil)) (.node 38059 (.node 37995 .nil .nil) .nil)) (.node 39140 (.node 39012 (.node 38115 .nil .nil) (.node 39108 .nil .nil)) (.node 41170 (.node 41074 .nil .nil) .nil))))
noncomputable def tb13 : Tbl := (.node 51360 (.node 42751 (.node 42599 (.node 42167 (.node 42127 .nil .nil) (.node 42199 .nil .nil)) (.node 42679 (.node 42631 .nil .nil) .nil)) (.node 50407 (.node 42815 (.node 42775 .nil .nil) (.node 50343 .nil .nil)) (.node 51320 (.node 50431 .nil .nil) .nil))) (.node 52521 (.node 52393 (.node 51496 (.node 51456 .nil .nil) (.node 52345 .nil .nil)) (.node 52513 (.node 52449 .nil .nil) .nil)) (.node 53490 (.node 53382 (.node 52545 .nil .nil) (.node 53410 .nil .nil)) (.node 53550 (.node 53542 .nil .nil) .nil))))
noncomputable def tb14 : Tbl := (.node 62643 (.node 59584 (.node 57530 (.node 55536 (.node 55480 .nil .nil) (.node 55600 .nil .nil)) (.node 57682 (.node 57586 .nil .nil) .nil)) (.node 60753 (.node 59712 (.node 59664 .nil .nil) (.node 60561 .nil .nil)) (.node 62611 (.node 60777 .nil .nil) .nil))) (.node 65890 (.node 62859 (.node 62803 (.node 62779 .nil .nil) (.node 62811 .nil .nil)) (.node 65866 (.node 65730 .nil .nil) .nil)) (.node 67780 (.node 66847 (.node 66791 .nil .nil) (.node 66919 .nil .nil)) (.node 67980 (.node 67908 .nil .nil) .nil))))
noncomputable def tb15 : Tbl := (.node 85449 (.node 78198 (.node 76148 (.node 70018 (.node 69970 .nil .nil) (.node 75996 .nil .nil)) (.node 78046 (.node 76212 .nil .nil) .nil)) (.node 80296 (.node 80128 (.node 78294 .nil .nil) (.node 80256 .nil .nil)) (.node 85409 (.node 85257 .nil .nil) .nil))) (.node 102694 (.node 99655 (.node 87523 (.node 87259 .nil .nil) (.node 87555 .nil .nil)) (.node 99847 (.node 99807 .nil .nil) .nil)) (.node 115042 (.node 102990 (.node 102918 .nil .nil) .nil) (.node 115306 (.node 115266 .nil .nil) .nil))))
noncomputable def tbl : Tbl := (.node 13371 (.node 4534 (.node 3097 (.node 2076 tb0 tb1) (.node 4158 tb2 tb3)) (.node 8266 (.node 6168 tb4 tb5) (.node 10528 tb6 tb7))) (.node 31288 (.node 20590 (.node 16570 tb8 tb9) (.node 26992 tb10 tb11)) (.node 53554 (.node 41178 tb12 tb13) (.node 69842 tb14 tb15))))
theorem tb0_ok : tb0.allB okK = true := by decide +kernel
theorem tb1_ok : tb1.allB okK = true := by decide +kernel
theorem tb2_ok : tb2.allB okK = true := by decide +kernel
theorem tb3_ok : tb3.allB okK = true := by decide +kernel
theorem tb4_ok : tb4.allB okK = true := by decide +kernel
theorem tb5_ok : tb5.allB okK = true := by decide +kernel
theorem tb6_ok : tb6.allB okK = true := by decide +kernel
theorem tb7_ok : tb7.allB okK = true := by decide +kernel
theorem tb8_ok : tb8.allB okK = true := by decide +kernel
theorem tb9_ok : tb9.allB okK = true := by decide +kernel
theorem tb10_ok : tb10.allB okK = true := by decide +kernel
theorem tb11_ok : tb11.allB okK = true := by decide +kernel
theorem tb12_ok : tb12.allB okK = true := by decide +kernel
theorem tb13_ok : tb13.allB okK = true := by decide +kernel
theorem tb14_ok : tb14.allB okK = true := by decide +kernel
theorem tb15_ok : tb15.allB okK = true := by decide +kernel
theorem tbl_ok : tbl.allB okK = true := by
  simp only [tbl, Tbl.allB, tb0_ok, tb1_ok, tb2_ok, tb3_ok, tb4_ok, tb5_ok, tb6_ok, tb7_ok, tb8_ok, tb9_ok, tb10_ok, tb11_ok, tb12_ok, tb13_ok, tb14_ok, tb15_ok, Bool.and_true]
  decide +kernel
noncomputable def keyP (lo hi : Int) : Nat := (lo + 2).toNat * 1024 + hi.toNat
noncomputable def keyC (lo hi : Int) : Bool := decide (((keyP lo hi / 1024 : Nat) : Int) - 2 = lo) && decide (((keyP lo hi % 1024 : Nat) : Int) = hi) && tbl.has (keyP lo hi)
noncomputable def keyB (x y : Int) : Bool := if x ≤ y then keyC x y else keyC y x
theorem keyC_ok {lo hi : Int} (h : keyC lo hi = true) : okPair lo hi = true := by
  simp only [keyC, Bool.and_eq_true, decide_eq_true_eq] at h
  have := Tbl.all_has tbl_ok h.2
  unfold okK at this
  rw [h.1.1, h.1.2] at this
  exact this
theorem keyB_ok {C : Cx} {x y : Int} (h : keyB x y = true) : RootsOk C [x * y, -(x + y), 1] (dueP x y) := by
  unfold keyB at h
  split at h
  · exact okPair_roots (keyC_ok h)
  · intro d σ hd
    rw [Int.mul_comm, Int.add_comm, due_comm]
    exact okPair_roots (keyC_ok h) hd
noncomputable def bnode (first b : List Int) : Bool := decide (leastO' 60 (isort b) = some first) && (List.range 4).all fun i => keyB (nth b i) (nth (bmir b i) i)
noncomputable def btree (first : List Int) : Nat → List Int → Bool
  | 0, _ => true
  | k + 1, b => (List.range 4).all fun i => bnode first (bmir b i) && btree first k (bmir b i)
noncomputable def bstart (b : List Int) : Bool := match leastO' 60 (isort b) with
  | none => false
  | some f => decide (f.length = 4) && btree f 3 b
theorem bs0 : bstart [-1, 2, 2, 3] = true := by decide +kernel
theorem bs1 : bstart [-1, 2, 6, 3] = true := by decide +kernel
theorem bs2 : bstart [0, 0, 4, 4] = true := by decide +kernel
theorem bs3 : bstart [-1, 2, 6, 11] = true := by decide +kernel
theorem bs4 : bstart [0, 2, 2, 0] = true := by decide +kernel
theorem bs5 : bstart [1, 0, 0, 1] = true := by decide +kernel
theorem bs6 : bstart [0, 2, 2, 8] = true := by decide +kernel
theorem bs7 : bstart [-1, 6, 2, 3] = true := by decide +kernel
theorem bs8 : bstart [0, 4, 0, 4] = true := by decide +kernel
theorem bs9 : bstart [-1, 6, 2, 11] = true := by decide +kernel
theorem bs10 : bstart [0, 0, 1, 1] = true := by decide +kernel
theorem bs11 : bstart [0, 4, 1, 1] = true := by decide +kernel
theorem bs12 : bstart [2, 2, 0, 0] = true := by decide +kernel
theorem bs13 : bstart [4, 0, 1, 1] = true := by decide +kernel
theorem bs14 : bstart [2, 2, -1, 3] = true := by decide +kernel
theorem bs15 : bstart [4, 0, 0, 4] = true := by decide +kernel
theorem bs16 : bstart [0, 4, 1, 9] = true := by decide +kernel
theorem bs17 : bstart [2, 2, 0, 8] = true := by decide +kernel
theorem bs18 : bstart [4, 0, 1, 9] = true := by decide +kernel
noncomputable def starts : List (List Int) := [[-1, 2, 2, 3], [-1, 2, 6, 3], [0, 0, 4, 4], [-1, 2, 6, 11], [0, 2, 2, 0], [1, 0, 0, 1], [0, 2, 2, 8], [-1, 6, 2, 3], [0, 4, 0, 4], [-1, 6, 2, 11], [0, 0, 1, 1], [0, 4, 1, 1], [2, 2, 0, 0], [4, 0, 1, 1], [2, 2, -1, 3], [4, 0, 0, 4], [0, 4, 1, 9], [2, 2, 0, 8], [4, 0, 1, 9]]
theorem starts_ok : starts.all bstart = true := by
  simp only [starts, List.all_cons, List.all_nil, bs0, bs1, bs2, bs3, bs4, bs5, bs6, bs7, bs8, bs9, bs10, bs11, bs12, bs13, bs14, bs15, bs16, bs17, bs18, Bool.and_true]
end
section

/-! ## every draw's road -/
noncomputable def vOf (n : Nat) : Int := if n % 2 = 1 then 8 else -8
theorem vOf_succ (n : Nat) : -vOf n = vOf (n + 1) := by
  unfold vOf
  by_cases h : n % 2 = 1
  · rw [if_pos h, if_neg (by omega)]
  · rw [if_neg h, if_pos (by omega)]; rfl
theorem vOf_ne (n : Nat) : vOf n ≠ 0 := by unfold vOf; split <;> decide
theorem drawP_lt {ns : List Int} {k many : Nat} (h : 0 < many) : drawP ns k many < many := by
  unfold drawP; split <;> exact Nat.mod_lt _ h
noncomputable def startG (typ r u t : Nat) : Bool :=
  let R := startP typ ((r : Int) - 1) ((u : Int) - 1) t
  rowsOk R && bdB 11 R && decide (keepP R = keepL) && decide (gramP R = gramL) && decide (detP R = vOf t) && starts.contains (bendsP R)
theorem startG_all : ((List.range 2).all fun typ => (List.range 3).all fun r => (List.range 3).all fun u => (List.range 2).all fun t => startG typ r u t) = true := by decide +kernel
theorem start_ok {typ r u t : Nat} (h1 : typ < 2) (h2 : r < 3) (h3 : u < 3) (h4 : t < 2) : Good 11 (vOf t) (startP typ ((r : Int) - 1) ((u : Int) - 1) t) ∧ bstart (bendsP (startP typ ((r : Int) - 1) ((u : Int) - 1) t)) = true := by
  have h := startG_all
  simp only [List.all_eq_true, List.mem_range] at h
  have h := h typ h1 r h2 u h3 t h4
  simp only [startG, Bool.and_eq_true, decide_eq_true_eq] at h
  obtain ⟨⟨⟨⟨⟨g1, g2⟩, g3⟩, g4⟩, g5⟩, g6⟩ := h
  refine ⟨⟨g1, g2, g3, g4, g5⟩, ?_⟩
  have := starts_ok
  rw [List.all_eq_true] at this
  exact this _ (List.contains_iff_mem.mp g6)
theorem road {ns first : List Int} : ∀ (n s B par k : Nat) (R : List (List Int)) (z : Nat), n ≤ z → Good B (vOf par) R → B * 11 ^ n ≤ 2 ^ 15 → btree first z (bendsP R) = true → k + n ≤ 900 → (n = 0 → bnode first (bendsP R) = true) →
    ∃ R', (List.range' s n).foldlM (lawF ns) (R, k) = some (R', k + n) ∧ Good (B * 11 ^ n) (vOf (par + n)) R' ∧ bnode first (bendsP R') = true
  | 0, s, B, par, k, R, z, _, G, _, _, _, hb => ⟨R, rfl, by rw [Nat.pow_zero, Nat.mul_one]; exact G, hb rfl⟩
  | n + 1, s, B, par, k, R, z, hz, G, hB, ht, hk, _ => by
    obtain ⟨z, rfl⟩ : ∃ y, z = y + 1 := ⟨z - 1, by omega⟩
    have hp : 0 < 11 ^ (n + 1) := Nat.pow_pos (by decide)
    have hB0 : B ≤ 2 ^ 15 := Nat.le_trans (Nat.le_mul_of_pos_right B hp) hB
    have hp' : 0 < 11 ^ n := Nat.pow_pos (by decide)
    have e11 : B * 11 ^ (n + 1) = 11 * B * 11 ^ n := by rw [Nat.pow_succ, Nat.mul_comm 11 B, Nat.mul_assoc, Nat.mul_comm 11]
    have hB1 : 11 * B ≤ 2 ^ 15 := by
      rw [e11] at hB
      exact Nat.le_trans (Nat.le_mul_of_pos_right (11 * B) hp') hB
    have hi : drawP ns k 4 < 4 := drawP_lt (by decide)
    have G1 := G.step hi
    rw [vOf_succ] at G1
    simp only [btree, List.all_eq_true, List.mem_range, Bool.and_eq_true] at ht
    obtain ⟨t1, t2⟩ := ht _ hi
    rw [← bends_mir G.ok hi] at t1 t2
    have e : lawF ns (R, k) s = some (mirP R (drawP ns k 4), k + 1) := by
      unfold lawF
      dsimp only
      rw [G.touch hB0, G.mirOk hB0 hi, G1.keepOk hB1]
      simp only [Bool.true_and, decide_eq_true_eq]
      rw [if_pos (by omega)]
    obtain ⟨R', f1, f2, f3⟩ := road (ns := ns) n (s + 1) (11 * B) (par + 1) (k + 1) (mirP R (drawP ns k 4)) z (by omega) G1 (by rw [← e11]; exact hB) t2 (by omega) (fun _ => t1)
    refine ⟨R', ?_, ?_, f3⟩
    · rw [List.range'_succ, List.foldlM_cons, e]
      show List.foldlM (lawF ns) (mirP R (drawP ns k 4), k + 1) (List.range' (s + 1) n) = _
      rw [f1]
      congr 2
      omega
    · rw [e11, show par + (n + 1) = par + 1 + n by omega]; exact f2
theorem law_whole {C : Cx} {d : Nat} {ns : List Int} (hd : 10 ≤ d) (hns : ns.length ≤ 1000) :
    ∀ pa body sc, theDefIn "law" PySem.Challenge.pw_xm0157_01.main.body = some ⟨pa, body, sc⟩ → ∃ σ', Exs C d sc body [("script", zl ns)] [] (.ret (.bool true) σ') := by
  obtain ⟨G, hs⟩ := start_ok (typ := drawP (ns.take 10) 0 2) (r := drawP (ns.take 10) 1 3) (u := drawP (ns.take 10) 2 3) (t := drawP (ns.take 10) 3 2) (drawP_lt (by decide)) (drawP_lt (by decide)) (drawP_lt (by decide)) (drawP_lt (by decide))
  have hst : drawP (ns.take 10) 4 3 < 3 := drawP_lt (by decide)
  unfold bstart at hs
  split at hs
  · cases hs
  · rename_i first hf
    simp only [Bool.and_eq_true, decide_eq_true_eq] at hs
    obtain ⟨hf4, ht⟩ := hs
    have hpw : 11 * 11 ^ (1 + drawP (ns.take 10) 4 3) ≤ 2 ^ 15 := by
      have : 11 ^ (1 + drawP (ns.take 10) 4 3) ≤ 11 ^ 3 := Nat.pow_le_pow_right (by decide) (by omega)
      omega
    obtain ⟨R, f1, f2, f3⟩ := road (ns := ns.take 10) (1 + drawP (ns.take 10) 4 3) 0 11 _ 5 _ 3 (by omega) G hpw ht (by omega) (fun h => by omega)
    simp only [bnode, Bool.and_eq_true, decide_eq_true_eq, List.all_eq_true, List.mem_range] at f3
    obtain ⟨hl, hkey⟩ := f3
    have hi : drawP (ns.take 10) (5 + (1 + drawP (ns.take 10) 4 3)) 4 < 4 := drawP_lt (by decide)
    have hkey := hkey _ hi
    obtain ⟨a, b, c, o1, o2, o3, o4, m, o5, o6⟩ := f2.eqs hpw hi
    obtain ⟨os, R2, sg, ah, d1, d2, d3⟩ := f2.dets hpw (vOf_ne _)
    rw [← bends_mir f2.ok hi, ← bend_at f2.ok hi, ← o3] at hkey
    refine law_exs hd rfl rfl rfl rfl rfl hns G.ok hf f1 (by omega) f2.ok (f2.touch hpw) hf4 hl d1 d2 d3 rfl hi rfl o1 o2 ?_ o5 o6
    intro d' σ' hd'
    rw [o4, show (0 : Int) - 2 * (a + b + c) = -(nth (rowAt R (drawP (ns.take 10) (5 + (1 + drawP (ns.take 10) 4 3)) 4)) 1 + (2 * (a + b + c) - nth (rowAt R (drawP (ns.take 10) (5 + (1 + drawP (ns.take 10) 4 3)) 4)) 1)) by omega]
    exact keyB_ok hkey hd'
end
section

/-! # the join: the frame that the head hands over -/
noncomputable def defsL : List Stmt → List (Str × Arguments × List Stmt × Scope)
  | [] => []
  | .FunctionDef m a b _ _ _ sc _ _ _ :: r => (m, a, b, sc) :: defsL r
  | _ :: r => defsL r
theorem theDefIn_mem {n : Str} {d : DefR} : ∀ {l : List Stmt}, theDefIn n l = some d → (n, d.params, d.body, d.scope) ∈ defsL l
  | [], h => by cases h
  | st :: r, h => by
    cases st
    case FunctionDef m a b _ _ _ sc _ _ _ =>
      unfold theDefIn at h
      split at h
      · rename_i e
        cases h
        rw [← eq_of_beq e]
        exact .head _
      · exact .tail _ (theDefIn_mem h)
    all_goals exact theDefIn_mem (l := r) h
noncomputable def bltNames : List Str := ["abs", "len", "min", "max", "sum", "sorted", "range", "enumerate", "reversed", "list", "int"]
theorem wd_of {p : Program} {loose : List Str} {mean : ExcName → Option Value} {mg mb : Str → Option Value} {prog : Program} {w : World} {B : Heap} (T : Top p loose mean mg mb B)
    (hdefs : defsL PySem.Challenge.pw_xm0157_01.main.body = (recsOf p).map fun r => (r.name, r.params, r.body, r.scope))
    (hfree : ∀ x ∈ bltNames, mg x = none) (hmost : ∃ t, mg "MOST_DIVIDED" = some (.int 10000000000 t)) : Wd ⟨prog, w, B, mg, mb⟩ := by
  refine ⟨T.g, T.b, T.nolimit, T.builtins, fun n d h => ?_, hfree, hmost⟩
  have hm := theDefIn_mem h
  rw [hdefs] at hm
  obtain ⟨r, hr, e⟩ := List.mem_map.mp hm
  simp only [Prod.mk.injEq] at e
  obtain ⟨e1, e2, e3, e4⟩ := e
  obtain ⟨a, o, pm, code, doc, h1, h2, h3, h4⟩ := T.fn r hr
  subst e1
  exact ⟨a, o, pm, code, doc, h1, h2, by rw [h3, e2, e3, e4], h4⟩
theorem hfree_of {p : Program} {loose : List Str} {mean : ExcName → Option Value} {mg mb : Str → Option Value} {h : Heap} (T : Top p loose mean mg mb h)
    (hb : (bltNames.all fun x => !startupNames.contains x && !loose.contains x && !((recsOf p).map (·.name)).contains x && !((litsOf p).map (·.1)).contains x && !((clssOf p loose).map (·.name)).contains x) = true) : ∀ x ∈ bltNames, mg x = none := fun x hx => by
  have hb := List.all_eq_true.mp hb x hx
  simp only [Bool.and_eq_true, Bool.not_eq_true', List.contains_eq_mem, decide_eq_false_iff_not] at hb
  obtain ⟨⟨⟨⟨h1, h2⟩, h3⟩, h4⟩, h5⟩ := hb
  exact T.free x h1 h2 h3 h4 h5
theorem join {p : Program} {loose : List Str} {mean : ExcName → Option Value} {mg mb m : Str → Option Value} {prog : Program} {w : World} {s₁ : Shared} {h₁ : Heap} {nm : Str} {pa : Arguments} {body : List Stmt} {sc : Scope} {fa addr : Addr} {cd : Value} {tk : Nat} {vals : List Value} {ns : List Int} {Q : Flow → Shared → Prop} {E : Value → Shared → Prop}
    (T : Top p loose mean mg mb s₁.heap) (hdefs : defsL PySem.Challenge.pw_xm0157_01.main.body = (recsOf p).map fun r => (r.name, r.params, r.body, r.scope))
    (hfree : ∀ x ∈ bltNames, mg x = none) (hmost : ∃ t, mg "MOST_DIVIDED" = some (.int 10000000000 t))
    (hdef : theDefIn "law" PySem.Challenge.pw_xm0157_01.main.body = some ⟨pa, body, sc⟩) (hk : sc.kind = .function) (hloc : sc.names.lookup ("script" : Str) = some NameKind.local) (hcell : (sc.names.all fun x => decide (x.2 ≠ .cell)) = true)
    (F : Fr s₁.heap s₁.heap.objs.size h₁ m) (hm : m "script" = some (.ref addr)) (hL : s₁.heap.IsList addr vals.toArray) (hI : IntsAre vals ns) (hn : ns.length ≤ 1000) (hg : s₁.gens = #[])
    (hQ : ∀ s', (∀ b o, s₁.heap.get? b = some o → s'.heap.get? b = some o) → s'.gens = #[] → s'.os = s₁.os → Q (.ret (.bool true)) s') :
    wpAny (model prog w) (callerA.deeper (envOf nm sc s₁.heap.objs.size fa cd)) (execs body (envOf nm sc s₁.heap.objs.size fa cd)) Q E { heap := h₁, gens := s₁.gens, drawn := s₁.drawn, toks := tk, os := s₁.os } := by
  have W : Wd ⟨prog, w, s₁.heap, mg, mb⟩ := wd_of T hdefs hfree hmost
  obtain ⟨σ', X⟩ := law_whole (C := ⟨prog, w, s₁.heap, mg, mb⟩) (d := 10) (ns := ns) (Nat.le_refl _) hn pa body sc hdef
  have hS : Sit ⟨prog, w, s₁.heap, mg, mb⟩ sc 10 (callerA.deeper (envOf nm sc s₁.heap.objs.size fa cd)) (envOf nm sc s₁.heap.objs.size fa cd) [("script", zl ns)] [] [] { heap := h₁, gens := s₁.gens, drawn := s₁.drawn, toks := tk, os := s₁.os } := by
    refine ⟨W, ⟨rfl, show 1 + claimMargin + 1 + 10 ≤ 900 by decide, show 4 + 3 + 10 * 10 ≤ 9000 by decide⟩, rfl, ?_, ?_⟩
    · refine ⟨hk, rfl, rfl, fresh_of, by simp, ⟨m, F.ns, fun x v hv => ?_⟩, fun x c hc => (by cases hc), fun x hx => ?_, fun x y c hc => (by cases hc)⟩
      · simp only [List.lookup] at hv
        split at hv
        · rename_i e
          cases hv
          rw [eq_of_beq e]
          obtain ⟨o, ho, hc, k, hd⟩ := hL
          exact ⟨.ref addr, .lst ⟨o, F.keep _ _ ho, hc, k, hd⟩ (by simp) (IntsAre.toRep hI), .inl ⟨hloc, hm⟩⟩
        · cases hv
      · exfalso
        have hx : sc.names.lookup x = some .cell := hx
        rw [List.all_eq_true] at hcell
        have := hcell _ (mem_lookup hx)
        simp at this
    · exact ⟨F.keep, rfl, .nil, fun a h => (nomatch h), fun i a c h => by simp at h⟩
  refine wpAny_mono (X.run hS) (fun f s' h => ?_) fun _ _ f => f.elim
  obtain ⟨val, rfl, μ', st, H, r⟩ := h
  cases r
  obtain ⟨h', tk', e⟩ := st.same
  subst e
  exact hQ _ H.base hg rfl
end
section

set_option linter.unusedVariables false
/-! # the head in pieces -/
noncomputable abbrev pg : Program := PySem.Challenge.pw_xm0157_01
noncomputable def kept : List Nat := (List.range 84).filter fun i => !(([0, 2, 11, 19, 32, 37, 41, 53, 69, 73, 76] : List Nat).contains i)
noncomputable def vw : Program := view pg kept
noncomputable def noDef : DefR := ⟨⟨[], [], none, [], [], none, []⟩, [], { kind := .function, names := [], isGenerator := false, isCoroutine := false }⟩
noncomputable def dv (n : Str) : DefR := (theDefIn n pg.main.body).getD noDef
noncomputable def clsBody : Stmt → List Stmt
  | .ClassDef (body := b) .. => b
  | _ => []
noncomputable def cvi : DefR := (theDefIn "__init__" ((pg.main.body[1]?.map clsBody).getD [])).getD noDef
noncomputable def o_43 (P : Params) : Obj := { cls := Value.type "tuple", data := Data.seq #[] }
noncomputable def o_44 (P : Params) : Obj := { cls := Value.none, data := Data.fields #[] }
noncomputable def o_45 (P : Params) : Obj := { cls := Value.type "code", data := Data.fields #[Value.str "<module>" 182, Value.str "<module>" 183, Value.str "/claim/cut.py" 184, Value.int 1 0, Value.int 0 0, Value.int 0 0, Value.int 0 0, Value.int 0 0, Value.ref 11, Value.bool false, Value.int 181 0, Value.ref 12, Value.none, Value.none, Value.none, Value.none, Value.int 185 0, Value.int 1 0, Value.str "/claim/cut.py" 186] }
noncomputable def o_46 (P : Params) : Obj := { cls := Value.type "frame", slots := #[some (Value.ref 13), some (Value.ref 3), some (Value.ref 3), none, some (Value.str "__main__" 164), none, some (Value.ref 0)] }
noncomputable def heap_46 (P : Params) : Heap := { objs := { toList := [boot_o_0 P, boot_o_1 P, boot_o_2 P, boot_o_3 P, boot_o_4 P, boot_o_5 P, boot_o_6 P, boot_o_7 P, boot_o_8 P, boot_o_9 P, boot_o_10 P, o_43 P, o_44 P, o_45 P, o_46 P] } }
noncomputable def tree_47 (P : Params) : BT := BT.node (boot_o_0 P) (BT.node (boot_o_1 P) (BT.node (boot_o_3 P) (BT.node (boot_o_7 P) BT.nil BT.nil) (BT.node (o_43 P) BT.nil BT.nil)) (BT.node (boot_o_5 P) (BT.node (boot_o_9 P) BT.nil BT.nil) (BT.node (o_45 P) BT.nil BT.nil))) (BT.node (boot_o_2 P) (BT.node (boot_o_4 P) (BT.node (boot_o_8 P) BT.nil BT.nil) (BT.node (o_44 P) BT.nil BT.nil)) (BT.node (boot_o_6 P) (BT.node (boot_o_10 P) BT.nil BT.nil) (BT.node (o_46 P) BT.nil BT.nil)))
noncomputable def o_49 (P : Params) : Obj := { cls := Value.none, data := Data.dict #[{ hash := PyData.keyHash P "type.__subclasses__.Exception.0", key := Value.str "type.__subclasses__.Exception.0" 216, val := Value.int 31 0 }, { hash := PyData.keyHash P "type.__subclasses__.Exception.n", key := Value.str "type.__subclasses__.Exception.n" 217, val := Value.int 1 0 }] 2 }
noncomputable def o_50 (P : Params) : Obj := { cls := Value.type "dict", data := Data.dict #[{ hash := PyData.keyHash P "__name__", key := Value.str "__name__" 165, val := Value.str "cas.ints" 220 }, { hash := PyData.keyHash P "__doc__", key := Value.str "__doc__" 166, val := Value.none }, { hash := PyData.keyHash P "__package__", key := Value.str "__package__" 167, val := Value.none }, { hash := PyData.keyHash P "__loader__", key := Value.str "__loader__" 168, val := Value.builtin "__main__.__loader__#opaque" }, { hash := PyData.keyHash P "__spec__", key := Value.str "__spec__" 169, val := Value.none }, { hash := PyData.keyHash P "__annotations__", key := Value.str "__annotations__" 170, val := Value.ref 6 }, { hash := PyData.keyHash P "__builtins__", key := Value.str "__builtins__" 171, val := Value.ref 4 }, { hash := PyData.keyHash P "__file__", key := Value.str "__file__" 173, val := Value.str "/claim/cut.py" 172 }, { hash := PyData.keyHash P "__cached__", key := Value.str "__cached__" 174, val := Value.none }, { hash := PyData.keyHash P "CasFail", key := Value.str "CasFail" 219, val := Value.ref 31 }, { hash := PyData.keyHash P "gcd", key := Value.str "gcd" 229, val := Value.ref 41 }, { hash := PyData.keyHash P "bits_of", key := Value.str "bits_of" 239, val := Value.ref 48 }, { hash := PyData.keyHash P "gcd_all", key := Value.str "gcd_all" 248, val := Value.ref 55 }, { hash := PyData.keyHash P "root_of", key := Value.str "root_of" 259, val := Value.ref 62 }] 14 }
noncomputable def o_51 (P : Params) : Obj := { cls := Value.none, data := Data.fields #[Value.int 2 0, Value.int 0 0, Value.ref 20, Value.int 9 0, Value.int 0 0, Value.ref 40, Value.int 14 0, Value.int 0 0, Value.ref 47, Value.int 21 0, Value.int 0 0, Value.ref 54, Value.int 26 0, Value.int 0 0, Value.ref 61] }
noncomputable def o_52 (P : Params) : Obj := { cls := Value.type "tuple", data := Data.seq #[Value.type "Exception"] }
noncomputable def o_53 (P : Params) : Obj := { cls := Value.type "builtin_function_or_method", data := Data.fields #[Value.builtin "type.__prepare__", Value.type "type"] }
noncomputable def o_54 (P : Params) : Obj := { cls := Value.type "dict", data := Data.dict #[{ hash := PyData.keyHash P "__module__", key := Value.str "__module__" 196, val := Value.str "cas.errors" 187 }, { hash := PyData.keyHash P "__qualname__", key := Value.str "__qualname__" 198, val := Value.str "CasFail" 197 }, { hash := PyData.keyHash P "__firstlineno__", key := Value.str "__firstlineno__" 200, val := Value.int 2 199 }, { hash := PyData.keyHash P "__init__", key := Value.str "__init__" 209, val := Value.ref 28 }, { hash := PyData.keyHash P "__static_attributes__", key := Value.str "__static_attributes__" 212, val := Value.ref 29 }] 5 }
noncomputable def o_55 (P : Params) : Obj := { cls := Value.type "tuple", data := Data.seq #[] }
noncomputable def o_56 (P : Params) : Obj := { cls := Value.none, data := Data.fields #[Value.int 4 0, Value.int 4 0, Value.ref 27] }
noncomputable def o_57 (P : Params) : Obj := { cls := Value.type "code", data := Data.fields #[Value.str "CasFail" 191, Value.str "CasFail" 192, Value.str "/claim/cut.py" 193, Value.int 2 0, Value.int 0 0, Value.int 0 0, Value.int 0 0, Value.int 0 0, Value.ref 18, Value.bool false, Value.int 181 0, Value.ref 19, Value.none, Value.none, Value.none, Value.none, Value.int 194 0, Value.int 2 0, Value.str "/claim/cut.py" 195] }
noncomputable def o_58 (P : Params) : Obj := { cls := Value.type "frame", slots := #[some (Value.ref 20), some (Value.ref 3), some (Value.ref 17), none, some (Value.str "cas.errors" 187), none, some (Value.ref 0)] }
noncomputable def o_59 (P : Params) : Obj := { cls := Value.type "tuple", data := Data.seq #[] }
noncomputable def o_60 (P : Params) : Obj := { cls := Value.none, data := Data.fields #[] }
noncomputable def o_61 (P : Params) : Obj := { cls := Value.type "tuple", data := Data.seq #[Value.str "self" 204, Value.str "kind" 205, Value.str "text" 206] }
noncomputable def o_62 (P : Params) : Obj := { cls := Value.type "tuple", data := Data.seq #[] }
noncomputable def o_63 (P : Params) : Obj := { cls := Value.none, data := Data.func { name := "__init__", qualname := "CasFail.__init__", params := cvi.params, body := FuncBody.stmts cvi.body, scope := cvi.scope, globals := 0, closure := [], defaults := Value.none, kwdefaults := Value.none } }
noncomputable def o_64 (P : Params) : Obj := { cls := Value.type "code", data := Data.fields #[Value.str "__init__" 201, Value.str "CasFail.__init__" 202, Value.str "/claim/cut.py" 203, Value.int 4 0, Value.int 3 0, Value.int 0 0, Value.int 0 0, Value.int 3 0, Value.ref 22, Value.bool true, Value.int 181 0, Value.ref 23, Value.none, Value.ref 24, Value.ref 25, Value.ref 26, Value.int 207 0, Value.int 4 0, Value.str "/claim/cut.py" 208] }
noncomputable def o_65 (P : Params) : Obj := { cls := Value.type "function", data := Data.func { name := "__init__", qualname := "CasFail.__init__", params := cvi.params, body := FuncBody.stmts cvi.body, scope := cvi.scope, globals := 3, closure := [], defaults := Value.none, kwdefaults := Value.none, pyModule := Value.str "cas.errors" 187, code := Value.ref 27 } }
noncomputable def o_66 (P : Params) : Obj := { cls := Value.type "tuple", data := Data.seq #[Value.str "kind" 210, Value.str "text" 211] }
noncomputable def o_67 (P : Params) : Obj := { cls := Value.type "dict", data := Data.dict #[{ hash := PyData.keyHash P "__module__", key := Value.str "__module__" 196, val := Value.str "cas.errors" 187 }, { hash := PyData.keyHash P "__firstlineno__", key := Value.str "__firstlineno__" 200, val := Value.int 2 199 }, { hash := PyData.keyHash P "__init__", key := Value.str "__init__" 209, val := Value.ref 28 }, { hash := PyData.keyHash P "__static_attributes__", key := Value.str "__static_attributes__" 212, val := Value.ref 29 }, { hash := PyData.keyHash P "__weakref__", key := Value.str "__weakref__" 214, val := Value.ref 32 }, { hash := PyData.keyHash P "__doc__", key := Value.str "__doc__" 215, val := Value.none }] 3 }
noncomputable def o_68 (P : Params) : Obj := { cls := Value.type "type", data := Data.cls { name := "CasFail", bases := [Value.type "Exception"], mro := [Value.ref 31, Value.type "Exception", Value.type "BaseException", Value.type "object"], ns := 30, qualname := "CasFail" }, slots := #[some (Value.ref 15), none, some (Value.str "CasFail" 189), some (Value.str "CasFail" 197), some (Value.builtin "Exception.__new__"), some (Value.bool true)] }
noncomputable def o_69 (P : Params) : Obj := { cls := Value.type "getset_descriptor", data := Data.fields #[Value.str "__weakref__" 213, Value.ref 31, Value.builtin "ExceptionGroup.__weakref__", Value.none] }
noncomputable def o_70 (P : Params) : Obj := { cls := Value.type "super", data := Data.fields #[Value.ref 31, Value.ref 31, Value.ref 31] }
noncomputable def o_71 (P : Params) : Obj := { cls := Value.type "builtin_function_or_method", data := Data.fields #[Value.builtin "object.__init_subclass__", Value.ref 31] }
noncomputable def o_72 (P : Params) : Obj := { cls := Value.type "tuple", data := Data.seq #[] }
noncomputable def o_73 (P : Params) : Obj := { cls := Value.none, data := Data.fields #[] }
noncomputable def o_74 (P : Params) : Obj := { cls := Value.type "tuple", data := Data.seq #[Value.str "a" 225, Value.str "b" 226] }
noncomputable def o_75 (P : Params) : Obj := { cls := Value.type "tuple", data := Data.seq #[] }
noncomputable def o_76 (P : Params) : Obj := { cls := Value.none, data := Data.func { name := "gcd", qualname := "gcd", params := (dv "gcd").params, body := FuncBody.stmts (dv "gcd").body, scope := (dv "gcd").scope, globals := 0, closure := [], defaults := Value.none, kwdefaults := Value.none } }
noncomputable def o_77 (P : Params) : Obj := { cls := Value.type "code", data := Data.fields #[Value.str "gcd" 222, Value.str "gcd" 223, Value.str "/claim/cut.py" 224, Value.int 9 0, Value.int 2 0, Value.int 0 0, Value.int 0 0, Value.int 3 0, Value.ref 35, Value.bool true, Value.int 181 0, Value.ref 36, Value.none, Value.ref 37, Value.ref 38, Value.ref 39, Value.int 227 0, Value.int 9 0, Value.str "/claim/cut.py" 228] }
noncomputable def o_78 (P : Params) : Obj := { cls := Value.type "function", data := Data.func { name := "gcd", qualname := "gcd", params := (dv "gcd").params, body := FuncBody.stmts (dv "gcd").body, scope := (dv "gcd").scope, globals := 3, closure := [], defaults := Value.none, kwdefaults := Value.none, pyModule := Value.str "cas.ints" 220, code := Value.ref 40 } }
noncomputable def o_79 (P : Params) : Obj := { cls := Value.type "tuple", data := Data.seq #[] }
noncomputable def o_80 (P : Params) : Obj := { cls := Value.none, data := Data.fields #[] }
noncomputable def o_81 (P : Params) : Obj := { cls := Value.type "tuple", data := Data.seq #[Value.str "n" 233, Value.str "found" 234, Value.str "many" 235, Value.str "step" 236] }
noncomputable def o_82 (P : Params) : Obj := { cls := Value.type "tuple", data := Data.seq #[] }
noncomputable def o_83 (P : Params) : Obj := { cls := Value.none, data := Data.func { name := "bits_of", qualname := "bits_of", params := (dv "bits_of").params, body := FuncBody.stmts (dv "bits_of").body, scope := (dv "bits_of").scope, globals := 0, closure := [], defaults := Value.none, kwdefaults := Value.none } }
noncomputable def o_84 (P : Params) : Obj := { cls := Value.type "code", data := Data.fields #[Value.str "bits_of" 230, Value.str "bits_of" 231, Value.str "/claim/cut.py" 232, Value.int 14 0, Value.int 1 0, Value.int 0 0, Value.int 0 0, Value.int 3 0, Value.ref 42, Value.bool true, Value.int 181 0, Value.ref 43, Value.none, Value.ref 44, Value.ref 45, Value.ref 46, Value.int 237 0, Value.int 14 0, Value.str "/claim/cut.py" 238] }
noncomputable def o_85 (P : Params) : Obj := { cls := Value.type "function", data := Data.func { name := "bits_of", qualname := "bits_of", params := (dv "bits_of").params, body := FuncBody.stmts (dv "bits_of").body, scope := (dv "bits_of").scope, globals := 3, closure := [], defaults := Value.none, kwdefaults := Value.none, pyModule := Value.str "cas.ints" 220, code := Value.ref 47 } }
noncomputable def o_86 (P : Params) : Obj := { cls := Value.type "tuple", data := Data.seq #[] }
noncomputable def o_87 (P : Params) : Obj := { cls := Value.none, data := Data.fields #[] }
noncomputable def o_88 (P : Params) : Obj := { cls := Value.type "tuple", data := Data.seq #[Value.str "numbers" 243, Value.str "found" 244, Value.str "number" 245] }
noncomputable def o_89 (P : Params) : Obj := { cls := Value.type "tuple", data := Data.seq #[] }
noncomputable def o_90 (P : Params) : Obj := { cls := Value.none, data := Data.func { name := "gcd_all", qualname := "gcd_all", params := (dv "gcd_all").params, body := FuncBody.stmts (dv "gcd_all").body, scope := (dv "gcd_all").scope, globals := 0, closure := [], defaults := Value.none, kwdefaults := Value.none } }
noncomputable def o_91 (P : Params) : Obj := { cls := Value.type "code", data := Data.fields #[Value.str "gcd_all" 240, Value.str "gcd_all" 241, Value.str "/claim/cut.py" 242, Value.int 21 0, Value.int 1 0, Value.int 0 0, Value.int 0 0, Value.int 3 0, Value.ref 49, Value.bool true, Value.int 181 0, Value.ref 50, Value.none, Value.ref 51, Value.ref 52, Value.ref 53, Value.int 246 0, Value.int 21 0, Value.str "/claim/cut.py" 247] }
noncomputable def o_92 (P : Params) : Obj := { cls := Value.type "function", data := Data.func { name := "gcd_all", qualname := "gcd_all", params := (dv "gcd_all").params, body := FuncBody.stmts (dv "gcd_all").body, scope := (dv "gcd_all").scope, globals := 3, closure := [], defaults := Value.none, kwdefaults := Value.none, pyModule := Value.str "cas.ints" 220, code := Value.ref 54 } }
noncomputable def o_93 (P : Params) : Obj := { cls := Value.type "tuple", data := Data.seq #[] }
noncomputable def o_94 (P : Params) : Obj := { cls := Value.none, data := Data.fields #[] }
noncomputable def o_95 (P : Params) : Obj := { cls := Value.type "tuple", data := Data.seq #[Value.str "n" 252, Value.str "k" 253, Value.str "low" 254, Value.str "high" 255, Value.str "middle" 256] }
noncomputable def o_96 (P : Params) : Obj := { cls := Value.type "tuple", data := Data.seq #[] }
noncomputable def o_97 (P : Params) : Obj := { cls := Value.none, data := Data.func { name := "root_of", qualname := "root_of", params := (dv "root_of").params, body := FuncBody.stmts (dv "root_of").body, scope := (dv "root_of").scope, globals := 0, closure := [], defaults := Value.none, kwdefaults := Value.none } }
noncomputable def o_98 (P : Params) : Obj := { cls := Value.type "code", data := Data.fields #[Value.str "root_of" 249, Value.str "root_of" 250, Value.str "/claim/cut.py" 251, Value.int 26 0, Value.int 2 0, Value.int 0 0, Value.int 0 0, Value.int 3 0, Value.ref 56, Value.bool true, Value.int 181 0, Value.ref 57, Value.none, Value.ref 58, Value.ref 59, Value.ref 60, Value.int 257 0, Value.int 26 0, Value.str "/claim/cut.py" 258] }
noncomputable def o_99 (P : Params) : Obj := { cls := Value.type "function", data := Data.func { name := "root_of", qualname := "root_of", params := (dv "root_of").params, body := FuncBody.stmts (dv "root_of").body, scope := (dv "root_of").scope, globals := 3, closure := [], defaults := Value.none, kwdefaults := Value.none, pyModule := Value.str "cas.ints" 220, code := Value.ref 61 } }
noncomputable def tree_99 (P : Params) : BT := BT.node (boot_o_0 P) (BT.node (boot_o_1 P) (BT.node (o_50 P) (BT.node (boot_o_7 P) (BT.node (o_52 P) (BT.node (o_68 P) BT.nil BT.nil) (BT.node (o_84 P) BT.nil BT.nil)) (BT.node (o_60 P) (BT.node (o_76 P) BT.nil BT.nil) (BT.node (o_92 P) BT.nil BT.nil))) (BT.node (o_43 P) (BT.node (o_56 P) (BT.node (o_72 P) BT.nil BT.nil) (BT.node (o_88 P) BT.nil BT.nil)) (BT.node (o_64 P) (BT.node (o_80 P) BT.nil BT.nil) (BT.node (o_96 P) BT.nil BT.nil)))) (BT.node (boot_o_5 P) (BT.node (boot_o_9 P) (BT.node (o_54 P) (BT.node (o_70 P) BT.nil BT.nil) (BT.node (o_86 P) BT.nil BT.nil)) (BT.node (o_62 P) (BT.node (o_78 P) BT.nil BT.nil) (BT.node (o_94 P) BT.nil BT.nil))) (BT.node (o_45 P) (BT.node (o_58 P) (BT.node (o_74 P) BT.nil BT.nil) (BT.node (o_90 P) BT.nil BT.nil)) (BT.node (o_66 P) (BT.node (o_82 P) BT.nil BT.nil) (BT.node (o_98 P) BT.nil BT.nil))))) (BT.node (o_49 P) (BT.node (boot_o_4 P) (BT.node (boot_o_8 P) (BT.node (o_53 P) (BT.node (o_69 P) BT.nil BT.nil) (BT.node (o_85 P) BT.nil BT.nil)) (BT.node (o_61 P) (BT.node (o_77 P) BT.nil BT.nil) (BT.node (o_93 P) BT.nil BT.nil))) (BT.node (o_51 P) (BT.node (o_57 P) (BT.node (o_73 P) BT.nil BT.nil) (BT.node (o_89 P) BT.nil BT.nil)) (BT.node (o_65 P) (BT.node (o_81 P) BT.nil BT.nil) (BT.node (o_97 P) BT.nil BT.nil)))) (BT.node (boot_o_6 P) (BT.node (boot_o_10 P) (BT.node (o_55 P) (BT.node (o_71 P) BT.nil BT.nil) (BT.node (o_87 P) BT.nil BT.nil)) (BT.node (o_63 P) (BT.node (o_79 P) BT.nil BT.nil) (BT.node (o_95 P) BT.nil BT.nil))) (BT.node (o_46 P) (BT.node (o_59 P) (BT.node (o_75 P) BT.nil BT.nil) (BT.node (o_91 P) BT.nil BT.nil)) (BT.node (o_67 P) (BT.node (o_83 P) BT.nil BT.nil) (BT.node (o_99 P) BT.nil BT.nil)))))
noncomputable def o_100 (P : Params) : Obj := { cls := Value.type "dict", data := Data.dict #[{ hash := PyData.keyHash P "__name__", key := Value.str "__name__" 165, val := Value.str "cas.zpoly" 346 }, { hash := PyData.keyHash P "__doc__", key := Value.str "__doc__" 166, val := Value.none }, { hash := PyData.keyHash P "__package__", key := Value.str "__package__" 167, val := Value.none }, { hash := PyData.keyHash P "__loader__", key := Value.str "__loader__" 168, val := Value.builtin "__main__.__loader__#opaque" }, { hash := PyData.keyHash P "__spec__", key := Value.str "__spec__" 169, val := Value.none }, { hash := PyData.keyHash P "__annotations__", key := Value.str "__annotations__" 170, val := Value.ref 6 }, { hash := PyData.keyHash P "__builtins__", key := Value.str "__builtins__" 171, val := Value.ref 4 }, { hash := PyData.keyHash P "__file__", key := Value.str "__file__" 173, val := Value.str "/claim/cut.py" 172 }, { hash := PyData.keyHash P "__cached__", key := Value.str "__cached__" 174, val := Value.none }, { hash := PyData.keyHash P "CasFail", key := Value.str "CasFail" 219, val := Value.ref 31 }, { hash := PyData.keyHash P "gcd", key := Value.str "gcd" 229, val := Value.ref 41 }, { hash := PyData.keyHash P "bits_of", key := Value.str "bits_of" 239, val := Value.ref 48 }, { hash := PyData.keyHash P "gcd_all", key := Value.str "gcd_all" 248, val := Value.ref 55 }, { hash := PyData.keyHash P "root_of", key := Value.str "root_of" 259, val := Value.ref 62 }, { hash := PyData.keyHash P "is_square", key := Value.str "is_square" 266, val := Value.ref 69 }, { hash := PyData.keyHash P "least_divisor", key := Value.str "least_divisor" 275, val := Value.ref 76 }, { hash := PyData.keyHash P "prime_factors", key := Value.str "prime_factors" 285, val := Value.ref 83 }, { hash := PyData.keyHash P "divisors", key := Value.str "divisors" 291, val := Value.ref 88 }, { hash := PyData.keyHash P "R0", key := Value.str "R0" 296, val := Value.ref 89 }, { hash := PyData.keyHash P "rat", key := Value.str "rat" 305, val := Value.ref 96 }, { hash := PyData.keyHash P "radd", key := Value.str "radd" 313, val := Value.ref 103 }, { hash := PyData.keyHash P "rsub", key := Value.str "rsub" 321, val := Value.ref 110 }, { hash := PyData.keyHash P "rmul", key := Value.str "rmul" 329, val := Value.ref 117 }, { hash := PyData.keyHash P "rcompare", key := Value.str "rcompare" 338, val := Value.ref 124 }, { hash := PyData.keyHash P "rfloor", key := Value.str "rfloor" 345, val := Value.ref 131 }, { hash := PyData.keyHash P "ztrim", key := Value.str "ztrim" 355, val := Value.ref 138 }, { hash := PyData.keyHash P "zdegree", key := Value.str "zdegree" 362, val := Value.ref 145 }] 27 }
noncomputable def o_101 (P : Params) : Obj := { cls := Value.none, data := Data.fields #[Value.int 2 0, Value.int 0 0, Value.ref 20, Value.int 9 0, Value.int 0 0, Value.ref 40, Value.int 14 0, Value.int 0 0, Value.ref 47, Value.int 21 0, Value.int 0 0, Value.ref 54, Value.int 26 0, Value.int 0 0, Value.ref 61, Value.int 39 0, Value.int 0 0, Value.ref 68, Value.int 41 0, Value.int 0 0, Value.ref 75, Value.int 48 0, Value.int 0 0, Value.ref 82, Value.int 57 0, Value.int 0 0, Value.ref 87, Value.int 64 0, Value.int 0 0, Value.ref 95, Value.int 69 0, Value.int 0 0, Value.ref 102, Value.int 71 0, Value.int 0 0, Value.ref 109, Value.int 73 0, Value.int 0 0, Value.ref 116, Value.int 75 0, Value.int 0 0, Value.ref 123, Value.int 78 0, Value.int 0 0, Value.ref 130, Value.int 81 0, Value.int 0 0, Value.ref 137, Value.int 86 0, Value.int 0 0, Value.ref 144] }
noncomputable def o_102 (P : Params) : Obj := { cls := Value.type "tuple", data := Data.seq #[] }
noncomputable def o_103 (P : Params) : Obj := { cls := Value.none, data := Data.fields #[] }
noncomputable def o_104 (P : Params) : Obj := { cls := Value.type "tuple", data := Data.seq #[Value.str "n" 263] }
noncomputable def o_105 (P : Params) : Obj := { cls := Value.type "tuple", data := Data.seq #[] }
noncomputable def o_106 (P : Params) : Obj := { cls := Value.none, data := Data.func { name := "is_square", qualname := "is_square", params := (dv "is_square").params, body := FuncBody.stmts (dv "is_square").body, scope := (dv "is_square").scope, globals := 0, closure := [], defaults := Value.none, kwdefaults := Value.none } }
noncomputable def o_107 (P : Params) : Obj := { cls := Value.type "code", data := Data.fields #[Value.str "is_square" 260, Value.str "is_square" 261, Value.str "/claim/cut.py" 262, Value.int 39 0, Value.int 1 0, Value.int 0 0, Value.int 0 0, Value.int 3 0, Value.ref 63, Value.bool true, Value.int 181 0, Value.ref 64, Value.none, Value.ref 65, Value.ref 66, Value.ref 67, Value.int 264 0, Value.int 39 0, Value.str "/claim/cut.py" 265] }
noncomputable def o_108 (P : Params) : Obj := { cls := Value.type "function", data := Data.func { name := "is_square", qualname := "is_square", params := (dv "is_square").params, body := FuncBody.stmts (dv "is_square").body, scope := (dv "is_square").scope, globals := 3, closure := [], defaults := Value.none, kwdefaults := Value.none, pyModule := Value.str "cas.ints" 220, code := Value.ref 68 } }
noncomputable def o_109 (P : Params) : Obj := { cls := Value.type "tuple", data := Data.seq #[] }
noncomputable def o_110 (P : Params) : Obj := { cls := Value.none, data := Data.fields #[] }
noncomputable def o_111 (P : Params) : Obj := { cls := Value.type "tuple", data := Data.seq #[Value.str "n" 270, Value.str "begin" 271, Value.str "found" 272] }
noncomputable def o_112 (P : Params) : Obj := { cls := Value.type "tuple", data := Data.seq #[] }
noncomputable def o_113 (P : Params) : Obj := { cls := Value.none, data := Data.func { name := "least_divisor", qualname := "least_divisor", params := (dv "least_divisor").params, body := FuncBody.stmts (dv "least_divisor").body, scope := (dv "least_divisor").scope, globals := 0, closure := [], defaults := Value.none, kwdefaults := Value.none } }
noncomputable def o_114 (P : Params) : Obj := { cls := Value.type "code", data := Data.fields #[Value.str "least_divisor" 267, Value.str "least_divisor" 268, Value.str "/claim/cut.py" 269, Value.int 41 0, Value.int 2 0, Value.int 0 0, Value.int 0 0, Value.int 3 0, Value.ref 70, Value.bool true, Value.int 181 0, Value.ref 71, Value.none, Value.ref 72, Value.ref 73, Value.ref 74, Value.int 273 0, Value.int 41 0, Value.str "/claim/cut.py" 274] }
noncomputable def o_115 (P : Params) : Obj := { cls := Value.type "function", data := Data.func { name := "least_divisor", qualname := "least_divisor", params := (dv "least_divisor").params, body := FuncBody.stmts (dv "least_divisor").body, scope := (dv "least_divisor").scope, globals := 3, closure := [], defaults := Value.none, kwdefaults := Value.none, pyModule := Value.str "cas.ints" 220, code := Value.ref 75 } }
noncomputable def o_116 (P : Params) : Obj := { cls := Value.type "tuple", data := Data.seq #[] }
noncomputable def o_117 (P : Params) : Obj := { cls := Value.none, data := Data.fields #[] }
noncomputable def o_118 (P : Params) : Obj := { cls := Value.type "tuple", data := Data.seq #[Value.str "n" 279, Value.str "found" 280, Value.str "prime" 281, Value.str "many" 282] }
noncomputable def o_119 (P : Params) : Obj := { cls := Value.type "tuple", data := Data.seq #[] }
noncomputable def o_120 (P : Params) : Obj := { cls := Value.none, data := Data.func { name := "prime_factors", qualname := "prime_factors", params := (dv "prime_factors").params, body := FuncBody.stmts (dv "prime_factors").body, scope := (dv "prime_factors").scope, globals := 0, closure := [], defaults := Value.none, kwdefaults := Value.none } }
noncomputable def o_121 (P : Params) : Obj := { cls := Value.type "code", data := Data.fields #[Value.str "prime_factors" 276, Value.str "prime_factors" 277, Value.str "/claim/cut.py" 278, Value.int 48 0, Value.int 1 0, Value.int 0 0, Value.int 0 0, Value.int 3 0, Value.ref 77, Value.bool true, Value.int 181 0, Value.ref 78, Value.none, Value.ref 79, Value.ref 80, Value.ref 81, Value.int 283 0, Value.int 48 0, Value.str "/claim/cut.py" 284] }
noncomputable def o_122 (P : Params) : Obj := { cls := Value.type "function", data := Data.func { name := "prime_factors", qualname := "prime_factors", params := (dv "prime_factors").params, body := FuncBody.stmts (dv "prime_factors").body, scope := (dv "prime_factors").scope, globals := 3, closure := [], defaults := Value.none, kwdefaults := Value.none, pyModule := Value.str "cas.ints" 220, code := Value.ref 82 } }
noncomputable def o_123 (P : Params) : Obj := { cls := Value.type "tuple", data := Data.seq #[] }
noncomputable def o_124 (P : Params) : Obj := { cls := Value.none, data := Data.fields #[] }
noncomputable def o_125 (P : Params) : Obj := { cls := Value.none, data := Data.func { name := "divisors", qualname := "divisors", params := (dv "divisors").params, body := FuncBody.stmts (dv "divisors").body, scope := (dv "divisors").scope, globals := 0, closure := [], defaults := Value.none, kwdefaults := Value.none } }
noncomputable def o_126 (P : Params) : Obj := { cls := Value.type "code", data := Data.fields #[Value.str "divisors" 286, Value.str "divisors" 287, Value.str "/claim/cut.py" 288, Value.int 57 0, Value.int 1 0, Value.int 0 0, Value.int 0 0, Value.int 3 0, Value.ref 84, Value.bool true, Value.int 181 0, Value.ref 85, Value.none, Value.none, Value.none, Value.ref 86, Value.int 289 0, Value.int 57 0, Value.str "/claim/cut.py" 290] }
noncomputable def o_127 (P : Params) : Obj := { cls := Value.type "function", data := Data.func { name := "divisors", qualname := "divisors", params := (dv "divisors").params, body := FuncBody.stmts (dv "divisors").body, scope := (dv "divisors").scope, globals := 3, closure := [], defaults := Value.none, kwdefaults := Value.none, pyModule := Value.str "cas.ints" 220, code := Value.ref 87 } }
noncomputable def o_128 (P : Params) : Obj := { cls := Value.type "tuple", data := Data.seq #[Value.int 0 294, Value.int 1 295] }
noncomputable def o_129 (P : Params) : Obj := { cls := Value.type "tuple", data := Data.seq #[] }
noncomputable def o_130 (P : Params) : Obj := { cls := Value.none, data := Data.fields #[] }
noncomputable def o_131 (P : Params) : Obj := { cls := Value.type "tuple", data := Data.seq #[Value.str "top" 300, Value.str "bottom" 301, Value.str "g" 302] }
noncomputable def o_132 (P : Params) : Obj := { cls := Value.type "tuple", data := Data.seq #[] }
noncomputable def o_133 (P : Params) : Obj := { cls := Value.none, data := Data.func { name := "rat", qualname := "rat", params := (dv "rat").params, body := FuncBody.stmts (dv "rat").body, scope := (dv "rat").scope, globals := 0, closure := [], defaults := Value.none, kwdefaults := Value.none } }
noncomputable def o_134 (P : Params) : Obj := { cls := Value.type "code", data := Data.fields #[Value.str "rat" 297, Value.str "rat" 298, Value.str "/claim/cut.py" 299, Value.int 64 0, Value.int 2 0, Value.int 0 0, Value.int 0 0, Value.int 3 0, Value.ref 90, Value.bool true, Value.int 181 0, Value.ref 91, Value.none, Value.ref 92, Value.ref 93, Value.ref 94, Value.int 303 0, Value.int 64 0, Value.str "/claim/cut.py" 304] }
noncomputable def o_135 (P : Params) : Obj := { cls := Value.type "function", data := Data.func { name := "rat", qualname := "rat", params := (dv "rat").params, body := FuncBody.stmts (dv "rat").body, scope := (dv "rat").scope, globals := 3, closure := [], defaults := Value.none, kwdefaults := Value.none, pyModule := Value.str "cas.rats" 292, code := Value.ref 95 } }
noncomputable def o_136 (P : Params) : Obj := { cls := Value.type "tuple", data := Data.seq #[] }
noncomputable def o_137 (P : Params) : Obj := { cls := Value.none, data := Data.fields #[] }
noncomputable def o_138 (P : Params) : Obj := { cls := Value.type "tuple", data := Data.seq #[Value.str "a" 309, Value.str "b" 310] }
noncomputable def o_139 (P : Params) : Obj := { cls := Value.type "tuple", data := Data.seq #[] }
noncomputable def o_140 (P : Params) : Obj := { cls := Value.none, data := Data.func { name := "radd", qualname := "radd", params := (dv "radd").params, body := FuncBody.stmts (dv "radd").body, scope := (dv "radd").scope, globals := 0, closure := [], defaults := Value.none, kwdefaults := Value.none } }
noncomputable def o_141 (P : Params) : Obj := { cls := Value.type "code", data := Data.fields #[Value.str "radd" 306, Value.str "radd" 307, Value.str "/claim/cut.py" 308, Value.int 69 0, Value.int 2 0, Value.int 0 0, Value.int 0 0, Value.int 3 0, Value.ref 97, Value.bool true, Value.int 181 0, Value.ref 98, Value.none, Value.ref 99, Value.ref 100, Value.ref 101, Value.int 311 0, Value.int 69 0, Value.str "/claim/cut.py" 312] }
noncomputable def o_142 (P : Params) : Obj := { cls := Value.type "function", data := Data.func { name := "radd", qualname := "radd", params := (dv "radd").params, body := FuncBody.stmts (dv "radd").body, scope := (dv "radd").scope, globals := 3, closure := [], defaults := Value.none, kwdefaults := Value.none, pyModule := Value.str "cas.rats" 292, code := Value.ref 102 } }
noncomputable def o_143 (P : Params) : Obj := { cls := Value.type "tuple", data := Data.seq #[] }
noncomputable def o_144 (P : Params) : Obj := { cls := Value.none, data := Data.fields #[] }
noncomputable def o_145 (P : Params) : Obj := { cls := Value.type "tuple", data := Data.seq #[Value.str "a" 317, Value.str "b" 318] }
noncomputable def o_146 (P : Params) : Obj := { cls := Value.type "tuple", data := Data.seq #[] }
noncomputable def o_147 (P : Params) : Obj := { cls := Value.none, data := Data.func { name := "rsub", qualname := "rsub", params := (dv "rsub").params, body := FuncBody.stmts (dv "rsub").body, scope := (dv "rsub").scope, globals := 0, closure := [], defaults := Value.none, kwdefaults := Value.none } }
noncomputable def o_148 (P : Params) : Obj := { cls := Value.type "code", data := Data.fields #[Value.str "rsub" 314, Value.str "rsub" 315, Value.str "/claim/cut.py" 316, Value.int 71 0, Value.int 2 0, Value.int 0 0, Value.int 0 0, Value.int 3 0, Value.ref 104, Value.bool true, Value.int 181 0, Value.ref 105, Value.none, Value.ref 106, Value.ref 107, Value.ref 108, Value.int 319 0, Value.int 71 0, Value.str "/claim/cut.py" 320] }
noncomputable def o_149 (P : Params) : Obj := { cls := Value.type "function", data := Data.func { name := "rsub", qualname := "rsub", params := (dv "rsub").params, body := FuncBody.stmts (dv "rsub").body, scope := (dv "rsub").scope, globals := 3, closure := [], defaults := Value.none, kwdefaults := Value.none, pyModule := Value.str "cas.rats" 292, code := Value.ref 109 } }
noncomputable def o_150 (P : Params) : Obj := { cls := Value.type "tuple", data := Data.seq #[] }
noncomputable def o_151 (P : Params) : Obj := { cls := Value.none, data := Data.fields #[] }
noncomputable def o_152 (P : Params) : Obj := { cls := Value.type "tuple", data := Data.seq #[Value.str "a" 325, Value.str "b" 326] }
noncomputable def o_153 (P : Params) : Obj := { cls := Value.type "tuple", data := Data.seq #[] }
noncomputable def o_154 (P : Params) : Obj := { cls := Value.none, data := Data.func { name := "rmul", qualname := "rmul", params := (dv "rmul").params, body := FuncBody.stmts (dv "rmul").body, scope := (dv "rmul").scope, globals := 0, closure := [], defaults := Value.none, kwdefaults := Value.none } }
noncomputable def o_155 (P : Params) : Obj := { cls := Value.type "code", data := Data.fields #[Value.str "rmul" 322, Value.str "rmul" 323, Value.str "/claim/cut.py" 324, Value.int 73 0, Value.int 2 0, Value.int 0 0, Value.int 0 0, Value.int 3 0, Value.ref 111, Value.bool true, Value.int 181 0, Value.ref 112, Value.none, Value.ref 113, Value.ref 114, Value.ref 115, Value.int 327 0, Value.int 73 0, Value.str "/claim/cut.py" 328] }
noncomputable def o_156 (P : Params) : Obj := { cls := Value.type "function", data := Data.func { name := "rmul", qualname := "rmul", params := (dv "rmul").params, body := FuncBody.stmts (dv "rmul").body, scope := (dv "rmul").scope, globals := 3, closure := [], defaults := Value.none, kwdefaults := Value.none, pyModule := Value.str "cas.rats" 292, code := Value.ref 116 } }
noncomputable def o_157 (P : Params) : Obj := { cls := Value.type "tuple", data := Data.seq #[] }
noncomputable def o_158 (P : Params) : Obj := { cls := Value.none, data := Data.fields #[] }
noncomputable def o_159 (P : Params) : Obj := { cls := Value.type "tuple", data := Data.seq #[Value.str "a" 333, Value.str "b" 334, Value.str "off" 335] }
noncomputable def o_160 (P : Params) : Obj := { cls := Value.type "tuple", data := Data.seq #[] }
noncomputable def o_161 (P : Params) : Obj := { cls := Value.none, data := Data.func { name := "rcompare", qualname := "rcompare", params := (dv "rcompare").params, body := FuncBody.stmts (dv "rcompare").body, scope := (dv "rcompare").scope, globals := 0, closure := [], defaults := Value.none, kwdefaults := Value.none } }
noncomputable def o_162 (P : Params) : Obj := { cls := Value.type "code", data := Data.fields #[Value.str "rcompare" 330, Value.str "rcompare" 331, Value.str "/claim/cut.py" 332, Value.int 75 0, Value.int 2 0, Value.int 0 0, Value.int 0 0, Value.int 3 0, Value.ref 118, Value.bool true, Value.int 181 0, Value.ref 119, Value.none, Value.ref 120, Value.ref 121, Value.ref 122, Value.int 336 0, Value.int 75 0, Value.str "/claim/cut.py" 337] }
noncomputable def o_163 (P : Params) : Obj := { cls := Value.type "function", data := Data.func { name := "rcompare", qualname := "rcompare", params := (dv "rcompare").params, body := FuncBody.stmts (dv "rcompare").body, scope := (dv "rcompare").scope, globals := 3, closure := [], defaults := Value.none, kwdefaults := Value.none, pyModule := Value.str "cas.rats" 292, code := Value.ref 123 } }
noncomputable def o_164 (P : Params) : Obj := { cls := Value.type "tuple", data := Data.seq #[] }
noncomputable def o_165 (P : Params) : Obj := { cls := Value.none, data := Data.fields #[] }
noncomputable def o_166 (P : Params) : Obj := { cls := Value.type "tuple", data := Data.seq #[Value.str "a" 342] }
noncomputable def o_167 (P : Params) : Obj := { cls := Value.type "tuple", data := Data.seq #[] }
noncomputable def o_168 (P : Params) : Obj := { cls := Value.none, data := Data.func { name := "rfloor", qualname := "rfloor", params := (dv "rfloor").params, body := FuncBody.stmts (dv "rfloor").body, scope := (dv "rfloor").scope, globals := 0, closure := [], defaults := Value.none, kwdefaults := Value.none } }
noncomputable def o_169 (P : Params) : Obj := { cls := Value.type "code", data := Data.fields #[Value.str "rfloor" 339, Value.str "rfloor" 340, Value.str "/claim/cut.py" 341, Value.int 78 0, Value.int 1 0, Value.int 0 0, Value.int 0 0, Value.int 3 0, Value.ref 125, Value.bool true, Value.int 181 0, Value.ref 126, Value.none, Value.ref 127, Value.ref 128, Value.ref 129, Value.int 343 0, Value.int 78 0, Value.str "/claim/cut.py" 344] }
noncomputable def o_170 (P : Params) : Obj := { cls := Value.type "function", data := Data.func { name := "rfloor", qualname := "rfloor", params := (dv "rfloor").params, body := FuncBody.stmts (dv "rfloor").body, scope := (dv "rfloor").scope, globals := 3, closure := [], defaults := Value.none, kwdefaults := Value.none, pyModule := Value.str "cas.rats" 292, code := Value.ref 130 } }
noncomputable def o_171 (P : Params) : Obj := { cls := Value.type "tuple", data := Data.seq #[] }
noncomputable def o_172 (P : Params) : Obj := { cls := Value.none, data := Data.fields #[] }
noncomputable def o_173 (P : Params) : Obj := { cls := Value.type "tuple", data := Data.seq #[Value.str "row" 351, Value.str "size" 352] }
noncomputable def o_174 (P : Params) : Obj := { cls := Value.type "tuple", data := Data.seq #[] }
noncomputable def o_175 (P : Params) : Obj := { cls := Value.none, data := Data.func { name := "ztrim", qualname := "ztrim", params := (dv "ztrim").params, body := FuncBody.stmts (dv "ztrim").body, scope := (dv "ztrim").scope, globals := 0, closure := [], defaults := Value.none, kwdefaults := Value.none } }
noncomputable def o_176 (P : Params) : Obj := { cls := Value.type "code", data := Data.fields #[Value.str "ztrim" 348, Value.str "ztrim" 349, Value.str "/claim/cut.py" 350, Value.int 81 0, Value.int 1 0, Value.int 0 0, Value.int 0 0, Value.int 3 0, Value.ref 132, Value.bool true, Value.int 181 0, Value.ref 133, Value.none, Value.ref 134, Value.ref 135, Value.ref 136, Value.int 353 0, Value.int 81 0, Value.str "/claim/cut.py" 354] }
noncomputable def o_177 (P : Params) : Obj := { cls := Value.type "function", data := Data.func { name := "ztrim", qualname := "ztrim", params := (dv "ztrim").params, body := FuncBody.stmts (dv "ztrim").body, scope := (dv "ztrim").scope, globals := 3, closure := [], defaults := Value.none, kwdefaults := Value.none, pyModule := Value.str "cas.zpoly" 346, code := Value.ref 137 } }
noncomputable def o_178 (P : Params) : Obj := { cls := Value.type "tuple", data := Data.seq #[] }
noncomputable def o_179 (P : Params) : Obj := { cls := Value.none, data := Data.fields #[] }
noncomputable def o_180 (P : Params) : Obj := { cls := Value.type "tuple", data := Data.seq #[Value.str "p" 359] }
noncomputable def o_181 (P : Params) : Obj := { cls := Value.type "tuple", data := Data.seq #[] }
noncomputable def o_182 (P : Params) : Obj := { cls := Value.none, data := Data.func { name := "zdegree", qualname := "zdegree", params := (dv "zdegree").params, body := FuncBody.stmts (dv "zdegree").body, scope := (dv "zdegree").scope, globals := 0, closure := [], defaults := Value.none, kwdefaults := Value.none } }
noncomputable def o_183 (P : Params) : Obj := { cls := Value.type "code", data := Data.fields #[Value.str "zdegree" 356, Value.str "zdegree" 357, Value.str "/claim/cut.py" 358, Value.int 86 0, Value.int 1 0, Value.int 0 0, Value.int 0 0, Value.int 3 0, Value.ref 139, Value.bool true, Value.int 181 0, Value.ref 140, Value.none, Value.ref 141, Value.ref 142, Value.ref 143, Value.int 360 0, Value.int 86 0, Value.str "/claim/cut.py" 361] }
noncomputable def o_184 (P : Params) : Obj := { cls := Value.type "function", data := Data.func { name := "zdegree", qualname := "zdegree", params := (dv "zdegree").params, body := FuncBody.stmts (dv "zdegree").body, scope := (dv "zdegree").scope, globals := 3, closure := [], defaults := Value.none, kwdefaults := Value.none, pyModule := Value.str "cas.zpoly" 346, code := Value.ref 144 } }
noncomputable def tree_184 (P : Params) : BT := BT.node (boot_o_0 P) (BT.node (boot_o_1 P) (BT.node (o_100 P) (BT.node (boot_o_7 P) (BT.node (o_52 P) (BT.node (o_68 P) (BT.node (o_102 P) (BT.node (o_166 P) BT.nil BT.nil) BT.nil) (BT.node (o_134 P) BT.nil BT.nil)) (BT.node (o_84 P) (BT.node (o_118 P) (BT.node (o_182 P) BT.nil BT.nil) BT.nil) (BT.node (o_150 P) BT.nil BT.nil))) (BT.node (o_60 P) (BT.node (o_76 P) (BT.node (o_110 P) (BT.node (o_174 P) BT.nil BT.nil) BT.nil) (BT.node (o_142 P) BT.nil BT.nil)) (BT.node (o_92 P) (BT.node (o_126 P) BT.nil BT.nil) (BT.node (o_158 P) BT.nil BT.nil)))) (BT.node (o_43 P) (BT.node (o_56 P) (BT.node (o_72 P) (BT.node (o_106 P) (BT.node (o_170 P) BT.nil BT.nil) BT.nil) (BT.node (o_138 P) BT.nil BT.nil)) (BT.node (o_88 P) (BT.node (o_122 P) BT.nil BT.nil) (BT.node (o_154 P) BT.nil BT.nil))) (BT.node (o_64 P) (BT.node (o_80 P) (BT.node (o_114 P) (BT.node (o_178 P) BT.nil BT.nil) BT.nil) (BT.node (o_146 P) BT.nil BT.nil)) (BT.node (o_96 P) (BT.node (o_130 P) BT.nil BT.nil) (BT.node (o_162 P) BT.nil BT.nil))))) (BT.node (boot_o_5 P) (BT.node (boot_o_9 P) (BT.node (o_54 P) (BT.node (o_70 P) (BT.node (o_104 P) (BT.node (o_168 P) BT.nil BT.nil) BT.nil) (BT.node (o_136 P) BT.nil BT.nil)) (BT.node (o_86 P) (BT.node (o_120 P) (BT.node (o_184 P) BT.nil BT.nil) BT.nil) (BT.node (o_152 P) BT.nil BT.nil))) (BT.node (o_62 P) (BT.node (o_78 P) (BT.node (o_112 P) (BT.node (o_176 P) BT.nil BT.nil) BT.nil) (BT.node (o_144 P) BT.nil BT.nil)) (BT.node (o_94 P) (BT.node (o_128 P) BT.nil BT.nil) (BT.node (o_160 P) BT.nil BT.nil)))) (BT.node (o_45 P) (BT.node (o_58 P) (BT.node (o_74 P) (BT.node (o_108 P) (BT.node (o_172 P) BT.nil BT.nil) BT.nil) (BT.node (o_140 P) BT.nil BT.nil)) (BT.node (o_90 P) (BT.node (o_124 P) BT.nil BT.nil) (BT.node (o_156 P) BT.nil BT.nil))) (BT.node (o_66 P) (BT.node (o_82 P) (BT.node (o_116 P) (BT.node (o_180 P) BT.nil BT.nil) BT.nil) (BT.node (o_148 P) BT.nil BT.nil)) (BT.node (o_98 P) (BT.node (o_132 P) BT.nil BT.nil) (BT.node (o_164 P) BT.nil BT.nil)))))) (BT.node (o_49 P) (BT.node (boot_o_4 P) (BT.node (boot_o_8 P) (BT.node (o_53 P) (BT.node (o_69 P) (BT.node (o_103 P) (BT.node (o_167 P) BT.nil BT.nil) BT.nil) (BT.node (o_135 P) BT.nil BT.nil)) (BT.node (o_85 P) (BT.node (o_119 P) (BT.node (o_183 P) BT.nil BT.nil) BT.nil) (BT.node (o_151 P) BT.nil BT.nil))) (BT.node (o_61 P) (BT.node (o_77 P) (BT.node (o_111 P) (BT.node (o_175 P) BT.nil BT.nil) BT.nil) (BT.node (o_143 P) BT.nil BT.nil)) (BT.node (o_93 P) (BT.node (o_127 P) BT.nil BT.nil) (BT.node (o_159 P) BT.nil BT.nil)))) (BT.node (o_101 P) (BT.node (o_57 P) (BT.node (o_73 P) (BT.node (o_107 P) (BT.node (o_171 P) BT.nil BT.nil) BT.nil) (BT.node (o_139 P) BT.nil BT.nil)) (BT.node (o_89 P) (BT.node (o_123 P) BT.nil BT.nil) (BT.node (o_155 P) BT.nil BT.nil))) (BT.node (o_65 P) (BT.node (o_81 P) (BT.node (o_115 P) (BT.node (o_179 P) BT.nil BT.nil) BT.nil) (BT.node (o_147 P) BT.nil BT.nil)) (BT.node (o_97 P) (BT.node (o_131 P) BT.nil BT.nil) (BT.node (o_163 P) BT.nil BT.nil))))) (BT.node (boot_o_6 P) (BT.node (boot_o_10 P) (BT.node (o_55 P) (BT.node (o_71 P) (BT.node (o_105 P) (BT.node (o_169 P) BT.nil BT.nil) BT.nil) (BT.node (o_137 P) BT.nil BT.nil)) (BT.node (o_87 P) (BT.node (o_121 P) BT.nil BT.nil) (BT.node (o_153 P) BT.nil BT.nil))) (BT.node (o_63 P) (BT.node (o_79 P) (BT.node (o_113 P) (BT.node (o_177 P) BT.nil BT.nil) BT.nil) (BT.node (o_145 P) BT.nil BT.nil)) (BT.node (o_95 P) (BT.node (o_129 P) BT.nil BT.nil) (BT.node (o_161 P) BT.nil BT.nil)))) (BT.node (o_46 P) (BT.node (o_59 P) (BT.node (o_75 P) (BT.node (o_109 P) (BT.node (o_173 P) BT.nil BT.nil) BT.nil) (BT.node (o_141 P) BT.nil BT.nil)) (BT.node (o_91 P) (BT.node (o_125 P) BT.nil BT.nil) (BT.node (o_157 P) BT.nil BT.nil))) (BT.node (o_67 P) (BT.node (o_83 P) (BT.node (o_117 P) (BT.node (o_181 P) BT.nil BT.nil) BT.nil) (BT.node (o_149 P) BT.nil BT.nil)) (BT.node (o_99 P) (BT.node (o_133 P) BT.nil BT.nil) (BT.node (o_165 P) BT.nil BT.nil))))))
noncomputable def o_185 (P : Params) : Obj := { cls := Value.type "dict", data := Data.dict #[{ hash := PyData.keyHash P "__name__", key := Value.str "__name__" 165, val := Value.str "cas.zdiv" 431 }, { hash := PyData.keyHash P "__doc__", key := Value.str "__doc__" 166, val := Value.none }, { hash := PyData.keyHash P "__package__", key := Value.str "__package__" 167, val := Value.none }, { hash := PyData.keyHash P "__loader__", key := Value.str "__loader__" 168, val := Value.builtin "__main__.__loader__#opaque" }, { hash := PyData.keyHash P "__spec__", key := Value.str "__spec__" 169, val := Value.none }, { hash := PyData.keyHash P "__annotations__", key := Value.str "__annotations__" 170, val := Value.ref 6 }, { hash := PyData.keyHash P "__builtins__", key := Value.str "__builtins__" 171, val := Value.ref 4 }, { hash := PyData.keyHash P "__file__", key := Value.str "__file__" 173, val := Value.str "/claim/cut.py" 172 }, { hash := PyData.keyHash P "__cached__", key := Value.str "__cached__" 174, val := Value.none }, { hash := PyData.keyHash P "CasFail", key := Value.str "CasFail" 219, val := Value.ref 31 }, { hash := PyData.keyHash P "gcd", key := Value.str "gcd" 229, val := Value.ref 41 }, { hash := PyData.keyHash P "bits_of", key := Value.str "bits_of" 239, val := Value.ref 48 }, { hash := PyData.keyHash P "gcd_all", key := Value.str "gcd_all" 248, val := Value.ref 55 }, { hash := PyData.keyHash P "root_of", key := Value.str "root_of" 259, val := Value.ref 62 }, { hash := PyData.keyHash P "is_square", key := Value.str "is_square" 266, val := Value.ref 69 }, { hash := PyData.keyHash P "least_divisor", key := Value.str "least_divisor" 275, val := Value.ref 76 }, { hash := PyData.keyHash P "prime_factors", key := Value.str "prime_factors" 285, val := Value.ref 83 }, { hash := PyData.keyHash P "divisors", key := Value.str "divisors" 291, val := Value.ref 88 }, { hash := PyData.keyHash P "R0", key := Value.str "R0" 296, val := Value.ref 89 }, { hash := PyData.keyHash P "rat", key := Value.str "rat" 305, val := Value.ref 96 }, { hash := PyData.keyHash P "radd", key := Value.str "radd" 313, val := Value.ref 103 }, { hash := PyData.keyHash P "rsub", key := Value.str "rsub" 321, val := Value.ref 110 }, { hash := PyData.keyHash P "rmul", key := Value.str "rmul" 329, val := Value.ref 117 }, { hash := PyData.keyHash P "rcompare", key := Value.str "rcompare" 338, val := Value.ref 124 }, { hash := PyData.keyHash P "rfloor", key := Value.str "rfloor" 345, val := Value.ref 131 }, { hash := PyData.keyHash P "ztrim", key := Value.str "ztrim" 355, val := Value.ref 138 }, { hash := PyData.keyHash P "zdegree", key := Value.str "zdegree" 362, val := Value.ref 145 }, { hash := PyData.keyHash P "zlead", key := Value.str "zlead" 369, val := Value.ref 152 }, { hash := PyData.keyHash P "zadd", key := Value.str "zadd" 375, val := Value.ref 157 }, { hash := PyData.keyHash P "zneg", key := Value.str "zneg" 381, val := Value.ref 162 }, { hash := PyData.keyHash P "zsub", key := Value.str "zsub" 389, val := Value.ref 169 }, { hash := PyData.keyHash P "zscale", key := Value.str "zscale" 395, val := Value.ref 174 }, { hash := PyData.keyHash P "zraise", key := Value.str "zraise" 403, val := Value.ref 181 }, { hash := PyData.keyHash P "zcontent", key := Value.str "zcontent" 410, val := Value.ref 188 }, { hash := PyData.keyHash P "zdivided", key := Value.str "zdivided" 416, val := Value.ref 193 }, { hash := PyData.keyHash P "zprimitive", key := Value.str "zprimitive" 424, val := Value.ref 200 }, { hash := PyData.keyHash P "zderive", key := Value.str "zderive" 430, val := Value.ref 205 }, { hash := PyData.keyHash P "check_bottom", key := Value.str "check_bottom" 439, val := Value.ref 212 }, { hash := PyData.keyHash P "zexact", key := Value.str "zexact" 451, val := Value.ref 219 }, { hash := PyData.keyHash P "pseudo", key := Value.str "pseudo" 467, val := Value.ref 226 }] 40 }
noncomputable def o_186 (P : Params) : Obj := { cls := Value.none, data := Data.fields #[Value.int 2 0, Value.int 0 0, Value.ref 20, Value.int 9 0, Value.int 0 0, Value.ref 40, Value.int 14 0, Value.int 0 0, Value.ref 47, Value.int 21 0, Value.int 0 0, Value.ref 54, Value.int 26 0, Value.int 0 0, Value.ref 61, Value.int 39 0, Value.int 0 0, Value.ref 68, Value.int 41 0, Value.int 0 0, Value.ref 75, Value.int 48 0, Value.int 0 0, Value.ref 82, Value.int 57 0, Value.int 0 0, Value.ref 87, Value.int 64 0, Value.int 0 0, Value.ref 95, Value.int 69 0, Value.int 0 0, Value.ref 102, Value.int 71 0, Value.int 0 0, Value.ref 109, Value.int 73 0, Value.int 0 0, Value.ref 116, Value.int 75 0, Value.int 0 0, Value.ref 123, Value.int 78 0, Value.int 0 0, Value.ref 130, Value.int 81 0, Value.int 0 0, Value.ref 137, Value.int 86 0, Value.int 0 0, Value.ref 144, Value.int 88 0, Value.int 0 0, Value.ref 151, Value.int 90 0, Value.int 0 0, Value.ref 156, Value.int 93 0, Value.int 0 0, Value.ref 161, Value.int 95 0, Value.int 0 0, Value.ref 168, Value.int 97 0, Value.int 0 0, Value.ref 173, Value.int 99 0, Value.int 0 0, Value.ref 180, Value.int 101 0, Value.int 0 0, Value.ref 187, Value.int 103 0, Value.int 0 0, Value.ref 192, Value.int 105 0, Value.int 0 0, Value.ref 199, Value.int 110 0, Value.int 0 0, Value.ref 204, Value.int 113 0, Value.int 0 0, Value.ref 211, Value.int 116 0, Value.int 0 0, Value.ref 218, Value.int 126 0, Value.int 0 0, Value.ref 225] }
noncomputable def o_187 (P : Params) : Obj := { cls := Value.type "tuple", data := Data.seq #[] }
noncomputable def o_188 (P : Params) : Obj := { cls := Value.none, data := Data.fields #[] }
noncomputable def o_189 (P : Params) : Obj := { cls := Value.type "tuple", data := Data.seq #[Value.str "p" 366] }
noncomputable def o_190 (P : Params) : Obj := { cls := Value.type "tuple", data := Data.seq #[] }
noncomputable def o_191 (P : Params) : Obj := { cls := Value.none, data := Data.func { name := "zlead", qualname := "zlead", params := (dv "zlead").params, body := FuncBody.stmts (dv "zlead").body, scope := (dv "zlead").scope, globals := 0, closure := [], defaults := Value.none, kwdefaults := Value.none } }
noncomputable def o_192 (P : Params) : Obj := { cls := Value.type "code", data := Data.fields #[Value.str "zlead" 363, Value.str "zlead" 364, Value.str "/claim/cut.py" 365, Value.int 88 0, Value.int 1 0, Value.int 0 0, Value.int 0 0, Value.int 3 0, Value.ref 146, Value.bool true, Value.int 181 0, Value.ref 147, Value.none, Value.ref 148, Value.ref 149, Value.ref 150, Value.int 367 0, Value.int 88 0, Value.str "/claim/cut.py" 368] }
noncomputable def o_193 (P : Params) : Obj := { cls := Value.type "function", data := Data.func { name := "zlead", qualname := "zlead", params := (dv "zlead").params, body := FuncBody.stmts (dv "zlead").body, scope := (dv "zlead").scope, globals := 3, closure := [], defaults := Value.none, kwdefaults := Value.none, pyModule := Value.str "cas.zpoly" 346, code := Value.ref 151 } }
noncomputable def o_194 (P : Params) : Obj := { cls := Value.type "tuple", data := Data.seq #[] }
noncomputable def o_195 (P : Params) : Obj := { cls := Value.none, data := Data.fields #[] }
noncomputable def o_196 (P : Params) : Obj := { cls := Value.none, data := Data.func { name := "zadd", qualname := "zadd", params := (dv "zadd").params, body := FuncBody.stmts (dv "zadd").body, scope := (dv "zadd").scope, globals := 0, closure := [], defaults := Value.none, kwdefaults := Value.none } }
noncomputable def o_197 (P : Params) : Obj := { cls := Value.type "code", data := Data.fields #[Value.str "zadd" 370, Value.str "zadd" 371, Value.str "/claim/cut.py" 372, Value.int 90 0, Value.int 2 0, Value.int 0 0, Value.int 0 0, Value.int 3 0, Value.ref 153, Value.bool true, Value.int 181 0, Value.ref 154, Value.none, Value.none, Value.none, Value.ref 155, Value.int 373 0, Value.int 90 0, Value.str "/claim/cut.py" 374] }
noncomputable def o_198 (P : Params) : Obj := { cls := Value.type "function", data := Data.func { name := "zadd", qualname := "zadd", params := (dv "zadd").params, body := FuncBody.stmts (dv "zadd").body, scope := (dv "zadd").scope, globals := 3, closure := [], defaults := Value.none, kwdefaults := Value.none, pyModule := Value.str "cas.zpoly" 346, code := Value.ref 156 } }
noncomputable def o_199 (P : Params) : Obj := { cls := Value.type "tuple", data := Data.seq #[] }
noncomputable def o_200 (P : Params) : Obj := { cls := Value.none, data := Data.fields #[] }
noncomputable def o_201 (P : Params) : Obj := { cls := Value.none, data := Data.func { name := "zneg", qualname := "zneg", params := (dv "zneg").params, body := FuncBody.stmts (dv "zneg").body, scope := (dv "zneg").scope, globals := 0, closure := [], defaults := Value.none, kwdefaults := Value.none } }
noncomputable def o_202 (P : Params) : Obj := { cls := Value.type "code", data := Data.fields #[Value.str "zneg" 376, Value.str "zneg" 377, Value.str "/claim/cut.py" 378, Value.int 93 0, Value.int 1 0, Value.int 0 0, Value.int 0 0, Value.int 3 0, Value.ref 158, Value.bool true, Value.int 181 0, Value.ref 159, Value.none, Value.none, Value.none, Value.ref 160, Value.int 379 0, Value.int 93 0, Value.str "/claim/cut.py" 380] }
noncomputable def o_203 (P : Params) : Obj := { cls := Value.type "function", data := Data.func { name := "zneg", qualname := "zneg", params := (dv "zneg").params, body := FuncBody.stmts (dv "zneg").body, scope := (dv "zneg").scope, globals := 3, closure := [], defaults := Value.none, kwdefaults := Value.none, pyModule := Value.str "cas.zpoly" 346, code := Value.ref 161 } }
noncomputable def o_204 (P : Params) : Obj := { cls := Value.type "tuple", data := Data.seq #[] }
noncomputable def o_205 (P : Params) : Obj := { cls := Value.none, data := Data.fields #[] }
noncomputable def o_206 (P : Params) : Obj := { cls := Value.type "tuple", data := Data.seq #[Value.str "a" 385, Value.str "b" 386] }
noncomputable def o_207 (P : Params) : Obj := { cls := Value.type "tuple", data := Data.seq #[] }
noncomputable def o_208 (P : Params) : Obj := { cls := Value.none, data := Data.func { name := "zsub", qualname := "zsub", params := (dv "zsub").params, body := FuncBody.stmts (dv "zsub").body, scope := (dv "zsub").scope, globals := 0, closure := [], defaults := Value.none, kwdefaults := Value.none } }
noncomputable def o_209 (P : Params) : Obj := { cls := Value.type "code", data := Data.fields #[Value.str "zsub" 382, Value.str "zsub" 383, Value.str "/claim/cut.py" 384, Value.int 95 0, Value.int 2 0, Value.int 0 0, Value.int 0 0, Value.int 3 0, Value.ref 163, Value.bool true, Value.int 181 0, Value.ref 164, Value.none, Value.ref 165, Value.ref 166, Value.ref 167, Value.int 387 0, Value.int 95 0, Value.str "/claim/cut.py" 388] }
noncomputable def o_210 (P : Params) : Obj := { cls := Value.type "function", data := Data.func { name := "zsub", qualname := "zsub", params := (dv "zsub").params, body := FuncBody.stmts (dv "zsub").body, scope := (dv "zsub").scope, globals := 3, closure := [], defaults := Value.none, kwdefaults := Value.none, pyModule := Value.str "cas.zpoly" 346, code := Value.ref 168 } }
noncomputable def o_211 (P : Params) : Obj := { cls := Value.type "tuple", data := Data.seq #[] }
noncomputable def o_212 (P : Params) : Obj := { cls := Value.none, data := Data.fields #[] }
noncomputable def o_213 (P : Params) : Obj := { cls := Value.none, data := Data.func { name := "zscale", qualname := "zscale", params := (dv "zscale").params, body := FuncBody.stmts (dv "zscale").body, scope := (dv "zscale").scope, globals := 0, closure := [], defaults := Value.none, kwdefaults := Value.none } }
noncomputable def o_214 (P : Params) : Obj := { cls := Value.type "code", data := Data.fields #[Value.str "zscale" 390, Value.str "zscale" 391, Value.str "/claim/cut.py" 392, Value.int 97 0, Value.int 2 0, Value.int 0 0, Value.int 0 0, Value.int 3 0, Value.ref 170, Value.bool true, Value.int 181 0, Value.ref 171, Value.none, Value.none, Value.none, Value.ref 172, Value.int 393 0, Value.int 97 0, Value.str "/claim/cut.py" 394] }
noncomputable def o_215 (P : Params) : Obj := { cls := Value.type "function", data := Data.func { name := "zscale", qualname := "zscale", params := (dv "zscale").params, body := FuncBody.stmts (dv "zscale").body, scope := (dv "zscale").scope, globals := 3, closure := [], defaults := Value.none, kwdefaults := Value.none, pyModule := Value.str "cas.zpoly" 346, code := Value.ref 173 } }
noncomputable def o_216 (P : Params) : Obj := { cls := Value.type "tuple", data := Data.seq #[] }
noncomputable def o_217 (P : Params) : Obj := { cls := Value.none, data := Data.fields #[] }
noncomputable def o_218 (P : Params) : Obj := { cls := Value.type "tuple", data := Data.seq #[Value.str "p" 399, Value.str "many" 400] }
noncomputable def o_219 (P : Params) : Obj := { cls := Value.type "tuple", data := Data.seq #[] }
noncomputable def o_220 (P : Params) : Obj := { cls := Value.none, data := Data.func { name := "zraise", qualname := "zraise", params := (dv "zraise").params, body := FuncBody.stmts (dv "zraise").body, scope := (dv "zraise").scope, globals := 0, closure := [], defaults := Value.none, kwdefaults := Value.none } }
noncomputable def o_221 (P : Params) : Obj := { cls := Value.type "code", data := Data.fields #[Value.str "zraise" 396, Value.str "zraise" 397, Value.str "/claim/cut.py" 398, Value.int 99 0, Value.int 2 0, Value.int 0 0, Value.int 0 0, Value.int 3 0, Value.ref 175, Value.bool true, Value.int 181 0, Value.ref 176, Value.none, Value.ref 177, Value.ref 178, Value.ref 179, Value.int 401 0, Value.int 99 0, Value.str "/claim/cut.py" 402] }
noncomputable def o_222 (P : Params) : Obj := { cls := Value.type "function", data := Data.func { name := "zraise", qualname := "zraise", params := (dv "zraise").params, body := FuncBody.stmts (dv "zraise").body, scope := (dv "zraise").scope, globals := 3, closure := [], defaults := Value.none, kwdefaults := Value.none, pyModule := Value.str "cas.zpoly" 346, code := Value.ref 180 } }
noncomputable def o_223 (P : Params) : Obj := { cls := Value.type "tuple", data := Data.seq #[] }
noncomputable def o_224 (P : Params) : Obj := { cls := Value.none, data := Data.fields #[] }
noncomputable def o_225 (P : Params) : Obj := { cls := Value.type "tuple", data := Data.seq #[Value.str "p" 407] }
noncomputable def o_226 (P : Params) : Obj := { cls := Value.type "tuple", data := Data.seq #[] }
noncomputable def o_227 (P : Params) : Obj := { cls := Value.none, data := Data.func { name := "zcontent", qualname := "zcontent", params := (dv "zcontent").params, body := FuncBody.stmts (dv "zcontent").body, scope := (dv "zcontent").scope, globals := 0, closure := [], defaults := Value.none, kwdefaults := Value.none } }
noncomputable def o_228 (P : Params) : Obj := { cls := Value.type "code", data := Data.fields #[Value.str "zcontent" 404, Value.str "zcontent" 405, Value.str "/claim/cut.py" 406, Value.int 101 0, Value.int 1 0, Value.int 0 0, Value.int 0 0, Value.int 3 0, Value.ref 182, Value.bool true, Value.int 181 0, Value.ref 183, Value.none, Value.ref 184, Value.ref 185, Value.ref 186, Value.int 408 0, Value.int 101 0, Value.str "/claim/cut.py" 409] }
noncomputable def o_229 (P : Params) : Obj := { cls := Value.type "function", data := Data.func { name := "zcontent", qualname := "zcontent", params := (dv "zcontent").params, body := FuncBody.stmts (dv "zcontent").body, scope := (dv "zcontent").scope, globals := 3, closure := [], defaults := Value.none, kwdefaults := Value.none, pyModule := Value.str "cas.zpoly" 346, code := Value.ref 187 } }
noncomputable def o_230 (P : Params) : Obj := { cls := Value.type "tuple", data := Data.seq #[] }
noncomputable def o_231 (P : Params) : Obj := { cls := Value.none, data := Data.fields #[] }
noncomputable def o_232 (P : Params) : Obj := { cls := Value.none, data := Data.func { name := "zdivided", qualname := "zdivided", params := (dv "zdivided").params, body := FuncBody.stmts (dv "zdivided").body, scope := (dv "zdivided").scope, globals := 0, closure := [], defaults := Value.none, kwdefaults := Value.none } }
noncomputable def o_233 (P : Params) : Obj := { cls := Value.type "code", data := Data.fields #[Value.str "zdivided" 411, Value.str "zdivided" 412, Value.str "/claim/cut.py" 413, Value.int 103 0, Value.int 2 0, Value.int 0 0, Value.int 0 0, Value.int 3 0, Value.ref 189, Value.bool true, Value.int 181 0, Value.ref 190, Value.none, Value.none, Value.none, Value.ref 191, Value.int 414 0, Value.int 103 0, Value.str "/claim/cut.py" 415] }
noncomputable def o_234 (P : Params) : Obj := { cls := Value.type "function", data := Data.func { name := "zdivided", qualname := "zdivided", params := (dv "zdivided").params, body := FuncBody.stmts (dv "zdivided").body, scope := (dv "zdivided").scope, globals := 3, closure := [], defaults := Value.none, kwdefaults := Value.none, pyModule := Value.str "cas.zpoly" 346, code := Value.ref 192 } }
noncomputable def o_235 (P : Params) : Obj := { cls := Value.type "tuple", data := Data.seq #[] }
noncomputable def o_236 (P : Params) : Obj := { cls := Value.none, data := Data.fields #[] }
noncomputable def o_237 (P : Params) : Obj := { cls := Value.type "tuple", data := Data.seq #[Value.str "p" 420, Value.str "content" 421] }
noncomputable def o_238 (P : Params) : Obj := { cls := Value.type "tuple", data := Data.seq #[] }
noncomputable def o_239 (P : Params) : Obj := { cls := Value.none, data := Data.func { name := "zprimitive", qualname := "zprimitive", params := (dv "zprimitive").params, body := FuncBody.stmts (dv "zprimitive").body, scope := (dv "zprimitive").scope, globals := 0, closure := [], defaults := Value.none, kwdefaults := Value.none } }
noncomputable def o_240 (P : Params) : Obj := { cls := Value.type "code", data := Data.fields #[Value.str "zprimitive" 417, Value.str "zprimitive" 418, Value.str "/claim/cut.py" 419, Value.int 105 0, Value.int 1 0, Value.int 0 0, Value.int 0 0, Value.int 3 0, Value.ref 194, Value.bool true, Value.int 181 0, Value.ref 195, Value.none, Value.ref 196, Value.ref 197, Value.ref 198, Value.int 422 0, Value.int 105 0, Value.str "/claim/cut.py" 423] }
noncomputable def o_241 (P : Params) : Obj := { cls := Value.type "function", data := Data.func { name := "zprimitive", qualname := "zprimitive", params := (dv "zprimitive").params, body := FuncBody.stmts (dv "zprimitive").body, scope := (dv "zprimitive").scope, globals := 3, closure := [], defaults := Value.none, kwdefaults := Value.none, pyModule := Value.str "cas.zpoly" 346, code := Value.ref 199 } }
noncomputable def o_242 (P : Params) : Obj := { cls := Value.type "tuple", data := Data.seq #[] }
noncomputable def o_243 (P : Params) : Obj := { cls := Value.none, data := Data.fields #[] }
noncomputable def o_244 (P : Params) : Obj := { cls := Value.none, data := Data.func { name := "zderive", qualname := "zderive", params := (dv "zderive").params, body := FuncBody.stmts (dv "zderive").body, scope := (dv "zderive").scope, globals := 0, closure := [], defaults := Value.none, kwdefaults := Value.none } }
noncomputable def o_245 (P : Params) : Obj := { cls := Value.type "code", data := Data.fields #[Value.str "zderive" 425, Value.str "zderive" 426, Value.str "/claim/cut.py" 427, Value.int 110 0, Value.int 1 0, Value.int 0 0, Value.int 0 0, Value.int 3 0, Value.ref 201, Value.bool true, Value.int 181 0, Value.ref 202, Value.none, Value.none, Value.none, Value.ref 203, Value.int 428 0, Value.int 110 0, Value.str "/claim/cut.py" 429] }
noncomputable def o_246 (P : Params) : Obj := { cls := Value.type "function", data := Data.func { name := "zderive", qualname := "zderive", params := (dv "zderive").params, body := FuncBody.stmts (dv "zderive").body, scope := (dv "zderive").scope, globals := 3, closure := [], defaults := Value.none, kwdefaults := Value.none, pyModule := Value.str "cas.zpoly" 346, code := Value.ref 204 } }
noncomputable def o_247 (P : Params) : Obj := { cls := Value.type "tuple", data := Data.seq #[] }
noncomputable def o_248 (P : Params) : Obj := { cls := Value.none, data := Data.fields #[] }
noncomputable def o_249 (P : Params) : Obj := { cls := Value.type "tuple", data := Data.seq #[Value.str "p" 436] }
noncomputable def o_250 (P : Params) : Obj := { cls := Value.type "tuple", data := Data.seq #[] }
noncomputable def o_251 (P : Params) : Obj := { cls := Value.none, data := Data.func { name := "check_bottom", qualname := "check_bottom", params := (dv "check_bottom").params, body := FuncBody.stmts (dv "check_bottom").body, scope := (dv "check_bottom").scope, globals := 0, closure := [], defaults := Value.none, kwdefaults := Value.none } }
noncomputable def o_252 (P : Params) : Obj := { cls := Value.type "code", data := Data.fields #[Value.str "check_bottom" 433, Value.str "check_bottom" 434, Value.str "/claim/cut.py" 435, Value.int 113 0, Value.int 1 0, Value.int 0 0, Value.int 0 0, Value.int 3 0, Value.ref 206, Value.bool true, Value.int 181 0, Value.ref 207, Value.none, Value.ref 208, Value.ref 209, Value.ref 210, Value.int 437 0, Value.int 113 0, Value.str "/claim/cut.py" 438] }
noncomputable def o_253 (P : Params) : Obj := { cls := Value.type "function", data := Data.func { name := "check_bottom", qualname := "check_bottom", params := (dv "check_bottom").params, body := FuncBody.stmts (dv "check_bottom").body, scope := (dv "check_bottom").scope, globals := 3, closure := [], defaults := Value.none, kwdefaults := Value.none, pyModule := Value.str "cas.zdiv" 431, code := Value.ref 211 } }
noncomputable def o_254 (P : Params) : Obj := { cls := Value.type "tuple", data := Data.seq #[] }
noncomputable def o_255 (P : Params) : Obj := { cls := Value.none, data := Data.fields #[] }
noncomputable def o_256 (P : Params) : Obj := { cls := Value.type "tuple", data := Data.seq #[Value.str "a" 443, Value.str "b" 444, Value.str "rest" 445, Value.str "found" 446, Value.str "number" 447, Value.str "power" 448] }
noncomputable def o_257 (P : Params) : Obj := { cls := Value.type "tuple", data := Data.seq #[] }
noncomputable def o_258 (P : Params) : Obj := { cls := Value.none, data := Data.func { name := "zexact", qualname := "zexact", params := (dv "zexact").params, body := FuncBody.stmts (dv "zexact").body, scope := (dv "zexact").scope, globals := 0, closure := [], defaults := Value.none, kwdefaults := Value.none } }
noncomputable def o_259 (P : Params) : Obj := { cls := Value.type "code", data := Data.fields #[Value.str "zexact" 440, Value.str "zexact" 441, Value.str "/claim/cut.py" 442, Value.int 116 0, Value.int 2 0, Value.int 0 0, Value.int 0 0, Value.int 3 0, Value.ref 213, Value.bool true, Value.int 181 0, Value.ref 214, Value.none, Value.ref 215, Value.ref 216, Value.ref 217, Value.int 449 0, Value.int 116 0, Value.str "/claim/cut.py" 450] }
noncomputable def o_260 (P : Params) : Obj := { cls := Value.type "function", data := Data.func { name := "zexact", qualname := "zexact", params := (dv "zexact").params, body := FuncBody.stmts (dv "zexact").body, scope := (dv "zexact").scope, globals := 3, closure := [], defaults := Value.none, kwdefaults := Value.none, pyModule := Value.str "cas.zdiv" 431, code := Value.ref 218 } }
noncomputable def o_261 (P : Params) : Obj := { cls := Value.type "tuple", data := Data.seq #[] }
noncomputable def o_262 (P : Params) : Obj := { cls := Value.none, data := Data.fields #[] }
noncomputable def o_263 (P : Params) : Obj := { cls := Value.type "tuple", data := Data.seq #[Value.str "a" 455, Value.str "b" 456, Value.str "many" 457, Value.str "rest" 458, Value.str "found" 459, Value.str "left" 460, Value.str "first" 461, Value.str "number" 462, Value.str "power" 463, Value.str "more" 464] }
noncomputable def o_264 (P : Params) : Obj := { cls := Value.type "tuple", data := Data.seq #[] }
noncomputable def o_265 (P : Params) : Obj := { cls := Value.none, data := Data.func { name := "pseudo", qualname := "pseudo", params := (dv "pseudo").params, body := FuncBody.stmts (dv "pseudo").body, scope := (dv "pseudo").scope, globals := 0, closure := [], defaults := Value.none, kwdefaults := Value.none } }
noncomputable def o_266 (P : Params) : Obj := { cls := Value.type "code", data := Data.fields #[Value.str "pseudo" 452, Value.str "pseudo" 453, Value.str "/claim/cut.py" 454, Value.int 126 0, Value.int 2 0, Value.int 0 0, Value.int 0 0, Value.int 3 0, Value.ref 220, Value.bool true, Value.int 181 0, Value.ref 221, Value.none, Value.ref 222, Value.ref 223, Value.ref 224, Value.int 465 0, Value.int 126 0, Value.str "/claim/cut.py" 466] }
noncomputable def o_267 (P : Params) : Obj := { cls := Value.type "function", data := Data.func { name := "pseudo", qualname := "pseudo", params := (dv "pseudo").params, body := FuncBody.stmts (dv "pseudo").body, scope := (dv "pseudo").scope, globals := 3, closure := [], defaults := Value.none, kwdefaults := Value.none, pyModule := Value.str "cas.zdiv" 431, code := Value.ref 225 } }
noncomputable def tree_267 (P : Params) : BT := BT.node (boot_o_0 P) (BT.node (boot_o_1 P) (BT.node (o_185 P) (BT.node (boot_o_7 P) (BT.node (o_52 P) (BT.node (o_68 P) (BT.node (o_102 P) (BT.node (o_166 P) BT.nil BT.nil) (BT.node (o_232 P) BT.nil BT.nil)) (BT.node (o_134 P) (BT.node (o_200 P) BT.nil BT.nil) (BT.node (o_264 P) BT.nil BT.nil))) (BT.node (o_84 P) (BT.node (o_118 P) (BT.node (o_182 P) BT.nil BT.nil) (BT.node (o_248 P) BT.nil BT.nil)) (BT.node (o_150 P) (BT.node (o_216 P) BT.nil BT.nil) BT.nil))) (BT.node (o_60 P) (BT.node (o_76 P) (BT.node (o_110 P) (BT.node (o_174 P) BT.nil BT.nil) (BT.node (o_240 P) BT.nil BT.nil)) (BT.node (o_142 P) (BT.node (o_208 P) BT.nil BT.nil) BT.nil)) (BT.node (o_92 P) (BT.node (o_126 P) (BT.node (o_192 P) BT.nil BT.nil) (BT.node (o_256 P) BT.nil BT.nil)) (BT.node (o_158 P) (BT.node (o_224 P) BT.nil BT.nil) BT.nil)))) (BT.node (o_43 P) (BT.node (o_56 P) (BT.node (o_72 P) (BT.node (o_106 P) (BT.node (o_170 P) BT.nil BT.nil) (BT.node (o_236 P) BT.nil BT.nil)) (BT.node (o_138 P) (BT.node (o_204 P) BT.nil BT.nil) BT.nil)) (BT.node (o_88 P) (BT.node (o_122 P) (BT.node (o_188 P) BT.nil BT.nil) (BT.node (o_252 P) BT.nil BT.nil)) (BT.node (o_154 P) (BT.node (o_220 P) BT.nil BT.nil) BT.nil))) (BT.node (o_64 P) (BT.node (o_80 P) (BT.node (o_114 P) (BT.node (o_178 P) BT.nil BT.nil) (BT.node (o_244 P) BT.nil BT.nil)) (BT.node (o_146 P) (BT.node (o_212 P) BT.nil BT.nil) BT.nil)) (BT.node (o_96 P) (BT.node (o_130 P) (BT.node (o_196 P) BT.nil BT.nil) (BT.node (o_260 P) BT.nil BT.nil)) (BT.node (o_162 P) (BT.node (o_228 P) BT.nil BT.nil) BT.nil))))) (BT.node (boot_o_5 P) (BT.node (boot_o_9 P) (BT.node (o_54 P) (BT.node (o_70 P) (BT.node (o_104 P) (BT.node (o_168 P) BT.nil BT.nil) (BT.node (o_234 P) BT.nil BT.nil)) (BT.node (o_136 P) (BT.node (o_202 P) BT.nil BT.nil) (BT.node (o_266 P) BT.nil BT.nil))) (BT.node (o_86 P) (BT.node (o_120 P) (BT.node (o_184 P) BT.nil BT.nil) (BT.node (o_250 P) BT.nil BT.nil)) (BT.node (o_152 P) (BT.node (o_218 P) BT.nil BT.nil) BT.nil))) (BT.node (o_62 P) (BT.node (o_78 P) (BT.node (o_112 P) (BT.node (o_176 P) BT.nil BT.nil) (BT.node (o_242 P) BT.nil BT.nil)) (BT.node (o_144 P) (BT.node (o_210 P) BT.nil BT.nil) BT.nil)) (BT.node (o_94 P) (BT.node (o_128 P) (BT.node (o_194 P) BT.nil BT.nil) (BT.node (o_258 P) BT.nil BT.nil)) (BT.node (o_160 P) (BT.node (o_226 P) BT.nil BT.nil) BT.nil)))) (BT.node (o_45 P) (BT.node (o_58 P) (BT.node (o_74 P) (BT.node (o_108 P) (BT.node (o_172 P) BT.nil BT.nil) (BT.node (o_238 P) BT.nil BT.nil)) (BT.node (o_140 P) (BT.node (o_206 P) BT.nil BT.nil) BT.nil)) (BT.node (o_90 P) (BT.node (o_124 P) (BT.node (o_190 P) BT.nil BT.nil) (BT.node (o_254 P) BT.nil BT.nil)) (BT.node (o_156 P) (BT.node (o_222 P) BT.nil BT.nil) BT.nil))) (BT.node (o_66 P) (BT.node (o_82 P) (BT.node (o_116 P) (BT.node (o_180 P) BT.nil BT.nil) (BT.node (o_246 P) BT.nil BT.nil)) (BT.node (o_148 P) (BT.node (o_214 P) BT.nil BT.nil) BT.nil)) (BT.node (o_98 P) (BT.node (o_132 P) (BT.node (o_198 P) BT.nil BT.nil) (BT.node (o_262 P) BT.nil BT.nil)) (BT.node (o_164 P) (BT.node (o_230 P) BT.nil BT.nil) BT.nil)))))) (BT.node (o_49 P) (BT.node (boot_o_4 P) (BT.node (boot_o_8 P) (BT.node (o_53 P) (BT.node (o_69 P) (BT.node (o_103 P) (BT.node (o_167 P) BT.nil BT.nil) (BT.node (o_233 P) BT.nil BT.nil)) (BT.node (o_135 P) (BT.node (o_201 P) BT.nil BT.nil) (BT.node (o_265 P) BT.nil BT.nil))) (BT.node (o_85 P) (BT.node (o_119 P) (BT.node (o_183 P) BT.nil BT.nil) (BT.node (o_249 P) BT.nil BT.nil)) (BT.node (o_151 P) (BT.node (o_217 P) BT.nil BT.nil) BT.nil))) (BT.node (o_61 P) (BT.node (o_77 P) (BT.node (o_111 P) (BT.node (o_175 P) BT.nil BT.nil) (BT.node (o_241 P) BT.nil BT.nil)) (BT.node (o_143 P) (BT.node (o_209 P) BT.nil BT.nil) BT.nil)) (BT.node (o_93 P) (BT.node (o_127 P) (BT.node (o_193 P) BT.nil BT.nil) (BT.node (o_257 P) BT.nil BT.nil)) (BT.node (o_159 P) (BT.node (o_225 P) BT.nil BT.nil) BT.nil)))) (BT.node (o_186 P) (BT.node (o_57 P) (BT.node (o_73 P) (BT.node (o_107 P) (BT.node (o_171 P) BT.nil BT.nil) (BT.node (o_237 P) BT.nil BT.nil)) (BT.node (o_139 P) (BT.node (o_205 P) BT.nil BT.nil) BT.nil)) (BT.node (o_89 P) (BT.node (o_123 P) (BT.node (o_189 P) BT.nil BT.nil) (BT.node (o_253 P) BT.nil BT.nil)) (BT.node (o_155 P) (BT.node (o_221 P) BT.nil BT.nil) BT.nil))) (BT.node (o_65 P) (BT.node (o_81 P) (BT.node (o_115 P) (BT.node (o_179 P) BT.nil BT.nil) (BT.node (o_245 P) BT.nil BT.nil)) (BT.node (o_147 P) (BT.node (o_213 P) BT.nil BT.nil) BT.nil)) (BT.node (o_97 P) (BT.node (o_131 P) (BT.node (o_197 P) BT.nil BT.nil) (BT.node (o_261 P) BT.nil BT.nil)) (BT.node (o_163 P) (BT.node (o_229 P) BT.nil BT.nil) BT.nil))))) (BT.node (boot_o_6 P) (BT.node (boot_o_10 P) (BT.node (o_55 P) (BT.node (o_71 P) (BT.node (o_105 P) (BT.node (o_169 P) BT.nil BT.nil) (BT.node (o_235 P) BT.nil BT.nil)) (BT.node (o_137 P) (BT.node (o_203 P) BT.nil BT.nil) (BT.node (o_267 P) BT.nil BT.nil))) (BT.node (o_87 P) (BT.node (o_121 P) (BT.node (o_187 P) BT.nil BT.nil) (BT.node (o_251 P) BT.nil BT.nil)) (BT.node (o_153 P) (BT.node (o_219 P) BT.nil BT.nil) BT.nil))) (BT.node (o_63 P) (BT.node (o_79 P) (BT.node (o_113 P) (BT.node (o_177 P) BT.nil BT.nil) (BT.node (o_243 P) BT.nil BT.nil)) (BT.node (o_145 P) (BT.node (o_211 P) BT.nil BT.nil) BT.nil)) (BT.node (o_95 P) (BT.node (o_129 P) (BT.node (o_195 P) BT.nil BT.nil) (BT.node (o_259 P) BT.nil BT.nil)) (BT.node (o_161 P) (BT.node (o_227 P) BT.nil BT.nil) BT.nil)))) (BT.node (o_46 P) (BT.node (o_59 P) (BT.node (o_75 P) (BT.node (o_109 P) (BT.node (o_173 P) BT.nil BT.nil) (BT.node (o_239 P) BT.nil BT.nil)) (BT.node (o_141 P) (BT.node (o_207 P) BT.nil BT.nil) BT.nil)) (BT.node (o_91 P) (BT.node (o_125 P) (BT.node (o_191 P) BT.nil BT.nil) (BT.node (o_255 P) BT.nil BT.nil)) (BT.node (o_157 P) (BT.node (o_223 P) BT.nil BT.nil) BT.nil))) (BT.node (o_67 P) (BT.node (o_83 P) (BT.node (o_117 P) (BT.node (o_181 P) BT.nil BT.nil) (BT.node (o_247 P) BT.nil BT.nil)) (BT.node (o_149 P) (BT.node (o_215 P) BT.nil BT.nil) BT.nil)) (BT.node (o_99 P) (BT.node (o_133 P) (BT.node (o_199 P) BT.nil BT.nil) (BT.node (o_263 P) BT.nil BT.nil)) (BT.node (o_165 P) (BT.node (o_231 P) BT.nil BT.nil) BT.nil))))))
noncomputable def o_268 (P : Params) : Obj := { cls := Value.type "dict", data := Data.dict #[{ hash := PyData.keyHash P "__name__", key := Value.str "__name__" 165, val := Value.str "cas.sturm" 511 }, { hash := PyData.keyHash P "__doc__", key := Value.str "__doc__" 166, val := Value.none }, { hash := PyData.keyHash P "__package__", key := Value.str "__package__" 167, val := Value.none }, { hash := PyData.keyHash P "__loader__", key := Value.str "__loader__" 168, val := Value.builtin "__main__.__loader__#opaque" }, { hash := PyData.keyHash P "__spec__", key := Value.str "__spec__" 169, val := Value.none }, { hash := PyData.keyHash P "__annotations__", key := Value.str "__annotations__" 170, val := Value.ref 6 }, { hash := PyData.keyHash P "__builtins__", key := Value.str "__builtins__" 171, val := Value.ref 4 }, { hash := PyData.keyHash P "__file__", key := Value.str "__file__" 173, val := Value.str "/claim/cut.py" 172 }, { hash := PyData.keyHash P "__cached__", key := Value.str "__cached__" 174, val := Value.none }, { hash := PyData.keyHash P "CasFail", key := Value.str "CasFail" 219, val := Value.ref 31 }, { hash := PyData.keyHash P "gcd", key := Value.str "gcd" 229, val := Value.ref 41 }, { hash := PyData.keyHash P "bits_of", key := Value.str "bits_of" 239, val := Value.ref 48 }, { hash := PyData.keyHash P "gcd_all", key := Value.str "gcd_all" 248, val := Value.ref 55 }, { hash := PyData.keyHash P "root_of", key := Value.str "root_of" 259, val := Value.ref 62 }, { hash := PyData.keyHash P "is_square", key := Value.str "is_square" 266, val := Value.ref 69 }, { hash := PyData.keyHash P "least_divisor", key := Value.str "least_divisor" 275, val := Value.ref 76 }, { hash := PyData.keyHash P "prime_factors", key := Value.str "prime_factors" 285, val := Value.ref 83 }, { hash := PyData.keyHash P "divisors", key := Value.str "divisors" 291, val := Value.ref 88 }, { hash := PyData.keyHash P "R0", key := Value.str "R0" 296, val := Value.ref 89 }, { hash := PyData.keyHash P "rat", key := Value.str "rat" 305, val := Value.ref 96 }, { hash := PyData.keyHash P "radd", key := Value.str "radd" 313, val := Value.ref 103 }, { hash := PyData.keyHash P "rsub", key := Value.str "rsub" 321, val := Value.ref 110 }, { hash := PyData.keyHash P "rmul", key := Value.str "rmul" 329, val := Value.ref 117 }, { hash := PyData.keyHash P "rcompare", key := Value.str "rcompare" 338, val := Value.ref 124 }, { hash := PyData.keyHash P "rfloor", key := Value.str "rfloor" 345, val := Value.ref 131 }, { hash := PyData.keyHash P "ztrim", key := Value.str "ztrim" 355, val := Value.ref 138 }, { hash := PyData.keyHash P "zdegree", key := Value.str "zdegree" 362, val := Value.ref 145 }, { hash := PyData.keyHash P "zlead", key := Value.str "zlead" 369, val := Value.ref 152 }, { hash := PyData.keyHash P "zadd", key := Value.str "zadd" 375, val := Value.ref 157 }, { hash := PyData.keyHash P "zneg", key := Value.str "zneg" 381, val := Value.ref 162 }, { hash := PyData.keyHash P "zsub", key := Value.str "zsub" 389, val := Value.ref 169 }, { hash := PyData.keyHash P "zscale", key := Value.str "zscale" 395, val := Value.ref 174 }, { hash := PyData.keyHash P "zraise", key := Value.str "zraise" 403, val := Value.ref 181 }, { hash := PyData.keyHash P "zcontent", key := Value.str "zcontent" 410, val := Value.ref 188 }, { hash := PyData.keyHash P "zdivided", key := Value.str "zdivided" 416, val := Value.ref 193 }, { hash := PyData.keyHash P "zprimitive", key := Value.str "zprimitive" 424, val := Value.ref 200 }, { hash := PyData.keyHash P "zderive", key := Value.str "zderive" 430, val := Value.ref 205 }, { hash := PyData.keyHash P "check_bottom", key := Value.str "check_bottom" 439, val := Value.ref 212 }, { hash := PyData.keyHash P "zexact", key := Value.str "zexact" 451, val := Value.ref 219 }, { hash := PyData.keyHash P "pseudo", key := Value.str "pseudo" 467, val := Value.ref 226 }, { hash := PyData.keyHash P "zpseudo_rest", key := Value.str "zpseudo_rest" 475, val := Value.ref 233 }, { hash := PyData.keyHash P "next_height", key := Value.str "next_height" 486, val := Value.ref 240 }, { hash := PyData.keyHash P "subresultants", key := Value.str "subresultants" 499, val := Value.ref 247 }, { hash := PyData.keyHash P "zgcd", key := Value.str "zgcd" 510, val := Value.ref 254 }, { hash := PyData.keyHash P "sign_of", key := Value.str "sign_of" 519, val := Value.ref 261 }, { hash := PyData.keyHash P "value_sign", key := Value.str "value_sign" 532, val := Value.ref 268 }, { hash := PyData.keyHash P "end_sign", key := Value.str "end_sign" 541, val := Value.ref 275 }, { hash := PyData.keyHash P "sign_at", key := Value.str "sign_at" 549, val := Value.ref 282 }, { hash := PyData.keyHash P "simple_part", key := Value.str "simple_part" 557, val := Value.ref 289 }, { hash := PyData.keyHash P "lessened", key := Value.str "lessened" 563, val := Value.ref 294 }, { hash := PyData.keyHash P "next_of_row", key := Value.str "next_of_row" 574, val := Value.ref 301 }, { hash := PyData.keyHash P "sturm_row", key := Value.str "sturm_row" 583, val := Value.ref 308 }] 52 }
noncomputable def o_269 (P : Params) : Obj := { cls := Value.none, data := Data.fields #[Value.int 2 0, Value.int 0 0, Value.ref 20, Value.int 9 0, Value.int 0 0, Value.ref 40, Value.int 14 0, Value.int 0 0, Value.ref 47, Value.int 21 0, Value.int 0 0, Value.ref 54, Value.int 26 0, Value.int 0 0, Value.ref 61, Value.int 39 0, Value.int 0 0, Value.ref 68, Value.int 41 0, Value.int 0 0, Value.ref 75, Value.int 48 0, Value.int 0 0, Value.ref 82, Value.int 57 0, Value.int 0 0, Value.ref 87, Value.int 64 0, Value.int 0 0, Value.ref 95, Value.int 69 0, Value.int 0 0, Value.ref 102, Value.int 71 0, Value.int 0 0, Value.ref 109, Value.int 73 0, Value.int 0 0, Value.ref 116, Value.int 75 0, Value.int 0 0, Value.ref 123, Value.int 78 0, Value.int 0 0, Value.ref 130, Value.int 81 0, Value.int 0 0, Value.ref 137, Value.int 86 0, Value.int 0 0, Value.ref 144, Value.int 88 0, Value.int 0 0, Value.ref 151, Value.int 90 0, Value.int 0 0, Value.ref 156, Value.int 93 0, Value.int 0 0, Value.ref 161, Value.int 95 0, Value.int 0 0, Value.ref 168, Value.int 97 0, Value.int 0 0, Value.ref 173, Value.int 99 0, Value.int 0 0, Value.ref 180, Value.int 101 0, Value.int 0 0, Value.ref 187, Value.int 103 0, Value.int 0 0, Value.ref 192, Value.int 105 0, Value.int 0 0, Value.ref 199, Value.int 110 0, Value.int 0 0, Value.ref 204, Value.int 113 0, Value.int 0 0, Value.ref 211, Value.int 116 0, Value.int 0 0, Value.ref 218, Value.int 126 0, Value.int 0 0, Value.ref 225, Value.int 137 0, Value.int 0 0, Value.ref 232, Value.int 140 0, Value.int 0 0, Value.ref 239, Value.int 144 0, Value.int 0 0, Value.ref 246, Value.int 158 0, Value.int 0 0, Value.ref 253, Value.int 166 0, Value.int 0 0, Value.ref 260, Value.int 168 0, Value.int 0 0, Value.ref 267, Value.int 175 0, Value.int 0 0, Value.ref 274, Value.int 180 0, Value.int 0 0, Value.ref 281, Value.int 182 0, Value.int 0 0, Value.ref 288, Value.int 185 0, Value.int 0 0, Value.ref 293, Value.int 188 0, Value.int 0 0, Value.ref 300, Value.int 193 0, Value.int 0 0, Value.ref 307] }
noncomputable def o_270 (P : Params) : Obj := { cls := Value.type "tuple", data := Data.seq #[] }
noncomputable def o_271 (P : Params) : Obj := { cls := Value.none, data := Data.fields #[] }
noncomputable def o_272 (P : Params) : Obj := { cls := Value.type "tuple", data := Data.seq #[Value.str "a" 471, Value.str "b" 472] }
noncomputable def o_273 (P : Params) : Obj := { cls := Value.type "tuple", data := Data.seq #[] }
noncomputable def o_274 (P : Params) : Obj := { cls := Value.none, data := Data.func { name := "zpseudo_rest", qualname := "zpseudo_rest", params := (dv "zpseudo_rest").params, body := FuncBody.stmts (dv "zpseudo_rest").body, scope := (dv "zpseudo_rest").scope, globals := 0, closure := [], defaults := Value.none, kwdefaults := Value.none } }
noncomputable def o_275 (P : Params) : Obj := { cls := Value.type "code", data := Data.fields #[Value.str "zpseudo_rest" 468, Value.str "zpseudo_rest" 469, Value.str "/claim/cut.py" 470, Value.int 137 0, Value.int 2 0, Value.int 0 0, Value.int 0 0, Value.int 3 0, Value.ref 227, Value.bool true, Value.int 181 0, Value.ref 228, Value.none, Value.ref 229, Value.ref 230, Value.ref 231, Value.int 473 0, Value.int 137 0, Value.str "/claim/cut.py" 474] }
noncomputable def o_276 (P : Params) : Obj := { cls := Value.type "function", data := Data.func { name := "zpseudo_rest", qualname := "zpseudo_rest", params := (dv "zpseudo_rest").params, body := FuncBody.stmts (dv "zpseudo_rest").body, scope := (dv "zpseudo_rest").scope, globals := 3, closure := [], defaults := Value.none, kwdefaults := Value.none, pyModule := Value.str "cas.zdiv" 431, code := Value.ref 232 } }
noncomputable def o_277 (P : Params) : Obj := { cls := Value.type "tuple", data := Data.seq #[] }
noncomputable def o_278 (P : Params) : Obj := { cls := Value.none, data := Data.fields #[] }
noncomputable def o_279 (P : Params) : Obj := { cls := Value.type "tuple", data := Data.seq #[Value.str "front" 481, Value.str "step" 482, Value.str "height" 483] }
noncomputable def o_280 (P : Params) : Obj := { cls := Value.type "tuple", data := Data.seq #[] }
noncomputable def o_281 (P : Params) : Obj := { cls := Value.none, data := Data.func { name := "next_height", qualname := "next_height", params := (dv "next_height").params, body := FuncBody.stmts (dv "next_height").body, scope := (dv "next_height").scope, globals := 0, closure := [], defaults := Value.none, kwdefaults := Value.none } }
noncomputable def o_282 (P : Params) : Obj := { cls := Value.type "code", data := Data.fields #[Value.str "next_height" 478, Value.str "next_height" 479, Value.str "/claim/cut.py" 480, Value.int 140 0, Value.int 3 0, Value.int 0 0, Value.int 0 0, Value.int 3 0, Value.ref 234, Value.bool true, Value.int 181 0, Value.ref 235, Value.none, Value.ref 236, Value.ref 237, Value.ref 238, Value.int 484 0, Value.int 140 0, Value.str "/claim/cut.py" 485] }
noncomputable def o_283 (P : Params) : Obj := { cls := Value.type "function", data := Data.func { name := "next_height", qualname := "next_height", params := (dv "next_height").params, body := FuncBody.stmts (dv "next_height").body, scope := (dv "next_height").scope, globals := 3, closure := [], defaults := Value.none, kwdefaults := Value.none, pyModule := Value.str "cas.zgcd" 476, code := Value.ref 239 } }
noncomputable def o_284 (P : Params) : Obj := { cls := Value.type "tuple", data := Data.seq #[] }
noncomputable def o_285 (P : Params) : Obj := { cls := Value.none, data := Data.fields #[] }
noncomputable def o_286 (P : Params) : Obj := { cls := Value.type "tuple", data := Data.seq #[Value.str "a" 490, Value.str "b" 491, Value.str "row" 492, Value.str "front" 493, Value.str "height" 494, Value.str "step" 495, Value.str "rest" 496] }
noncomputable def o_287 (P : Params) : Obj := { cls := Value.type "tuple", data := Data.seq #[] }
noncomputable def o_288 (P : Params) : Obj := { cls := Value.none, data := Data.func { name := "subresultants", qualname := "subresultants", params := (dv "subresultants").params, body := FuncBody.stmts (dv "subresultants").body, scope := (dv "subresultants").scope, globals := 0, closure := [], defaults := Value.none, kwdefaults := Value.none } }
noncomputable def o_289 (P : Params) : Obj := { cls := Value.type "code", data := Data.fields #[Value.str "subresultants" 487, Value.str "subresultants" 488, Value.str "/claim/cut.py" 489, Value.int 144 0, Value.int 2 0, Value.int 0 0, Value.int 0 0, Value.int 3 0, Value.ref 241, Value.bool true, Value.int 181 0, Value.ref 242, Value.none, Value.ref 243, Value.ref 244, Value.ref 245, Value.int 497 0, Value.int 144 0, Value.str "/claim/cut.py" 498] }
noncomputable def o_290 (P : Params) : Obj := { cls := Value.type "function", data := Data.func { name := "subresultants", qualname := "subresultants", params := (dv "subresultants").params, body := FuncBody.stmts (dv "subresultants").body, scope := (dv "subresultants").scope, globals := 3, closure := [], defaults := Value.none, kwdefaults := Value.none, pyModule := Value.str "cas.zgcd" 476, code := Value.ref 246 } }
noncomputable def o_291 (P : Params) : Obj := { cls := Value.type "tuple", data := Data.seq #[] }
noncomputable def o_292 (P : Params) : Obj := { cls := Value.none, data := Data.fields #[] }
noncomputable def o_293 (P : Params) : Obj := { cls := Value.type "tuple", data := Data.seq #[Value.str "a" 503, Value.str "b" 504, Value.str "only" 505, Value.str "number" 506, Value.str "last" 507] }
noncomputable def o_294 (P : Params) : Obj := { cls := Value.type "tuple", data := Data.seq #[] }
noncomputable def o_295 (P : Params) : Obj := { cls := Value.none, data := Data.func { name := "zgcd", qualname := "zgcd", params := (dv "zgcd").params, body := FuncBody.stmts (dv "zgcd").body, scope := (dv "zgcd").scope, globals := 0, closure := [], defaults := Value.none, kwdefaults := Value.none } }
noncomputable def o_296 (P : Params) : Obj := { cls := Value.type "code", data := Data.fields #[Value.str "zgcd" 500, Value.str "zgcd" 501, Value.str "/claim/cut.py" 502, Value.int 158 0, Value.int 2 0, Value.int 0 0, Value.int 0 0, Value.int 3 0, Value.ref 248, Value.bool true, Value.int 181 0, Value.ref 249, Value.none, Value.ref 250, Value.ref 251, Value.ref 252, Value.int 508 0, Value.int 158 0, Value.str "/claim/cut.py" 509] }
noncomputable def o_297 (P : Params) : Obj := { cls := Value.type "function", data := Data.func { name := "zgcd", qualname := "zgcd", params := (dv "zgcd").params, body := FuncBody.stmts (dv "zgcd").body, scope := (dv "zgcd").scope, globals := 3, closure := [], defaults := Value.none, kwdefaults := Value.none, pyModule := Value.str "cas.zgcd" 476, code := Value.ref 253 } }
noncomputable def o_298 (P : Params) : Obj := { cls := Value.type "tuple", data := Data.seq #[] }
noncomputable def o_299 (P : Params) : Obj := { cls := Value.none, data := Data.fields #[] }
noncomputable def o_300 (P : Params) : Obj := { cls := Value.type "tuple", data := Data.seq #[Value.str "number" 516] }
noncomputable def o_301 (P : Params) : Obj := { cls := Value.type "tuple", data := Data.seq #[] }
noncomputable def o_302 (P : Params) : Obj := { cls := Value.none, data := Data.func { name := "sign_of", qualname := "sign_of", params := (dv "sign_of").params, body := FuncBody.stmts (dv "sign_of").body, scope := (dv "sign_of").scope, globals := 0, closure := [], defaults := Value.none, kwdefaults := Value.none } }
noncomputable def o_303 (P : Params) : Obj := { cls := Value.type "code", data := Data.fields #[Value.str "sign_of" 513, Value.str "sign_of" 514, Value.str "/claim/cut.py" 515, Value.int 166 0, Value.int 1 0, Value.int 0 0, Value.int 0 0, Value.int 3 0, Value.ref 255, Value.bool true, Value.int 181 0, Value.ref 256, Value.none, Value.ref 257, Value.ref 258, Value.ref 259, Value.int 517 0, Value.int 166 0, Value.str "/claim/cut.py" 518] }
noncomputable def o_304 (P : Params) : Obj := { cls := Value.type "function", data := Data.func { name := "sign_of", qualname := "sign_of", params := (dv "sign_of").params, body := FuncBody.stmts (dv "sign_of").body, scope := (dv "sign_of").scope, globals := 3, closure := [], defaults := Value.none, kwdefaults := Value.none, pyModule := Value.str "cas.sturm" 511, code := Value.ref 260 } }
noncomputable def o_305 (P : Params) : Obj := { cls := Value.type "tuple", data := Data.seq #[] }
noncomputable def o_306 (P : Params) : Obj := { cls := Value.none, data := Data.fields #[] }
noncomputable def o_307 (P : Params) : Obj := { cls := Value.type "tuple", data := Data.seq #[Value.str "p" 523, Value.str "x" 524, Value.str "top" 525, Value.str "bottom" 526, Value.str "found" 527, Value.str "scale" 528, Value.str "coefficient" 529] }
noncomputable def o_308 (P : Params) : Obj := { cls := Value.type "tuple", data := Data.seq #[] }
noncomputable def o_309 (P : Params) : Obj := { cls := Value.none, data := Data.func { name := "value_sign", qualname := "value_sign", params := (dv "value_sign").params, body := FuncBody.stmts (dv "value_sign").body, scope := (dv "value_sign").scope, globals := 0, closure := [], defaults := Value.none, kwdefaults := Value.none } }
noncomputable def o_310 (P : Params) : Obj := { cls := Value.type "code", data := Data.fields #[Value.str "value_sign" 520, Value.str "value_sign" 521, Value.str "/claim/cut.py" 522, Value.int 168 0, Value.int 2 0, Value.int 0 0, Value.int 0 0, Value.int 3 0, Value.ref 262, Value.bool true, Value.int 181 0, Value.ref 263, Value.none, Value.ref 264, Value.ref 265, Value.ref 266, Value.int 530 0, Value.int 168 0, Value.str "/claim/cut.py" 531] }
noncomputable def o_311 (P : Params) : Obj := { cls := Value.type "function", data := Data.func { name := "value_sign", qualname := "value_sign", params := (dv "value_sign").params, body := FuncBody.stmts (dv "value_sign").body, scope := (dv "value_sign").scope, globals := 3, closure := [], defaults := Value.none, kwdefaults := Value.none, pyModule := Value.str "cas.sturm" 511, code := Value.ref 267 } }
noncomputable def o_312 (P : Params) : Obj := { cls := Value.type "tuple", data := Data.seq #[] }
noncomputable def o_313 (P : Params) : Obj := { cls := Value.none, data := Data.fields #[] }
noncomputable def o_314 (P : Params) : Obj := { cls := Value.type "tuple", data := Data.seq #[Value.str "p" 536, Value.str "end" 537, Value.str "found" 538] }
noncomputable def o_315 (P : Params) : Obj := { cls := Value.type "tuple", data := Data.seq #[] }
noncomputable def o_316 (P : Params) : Obj := { cls := Value.none, data := Data.func { name := "end_sign", qualname := "end_sign", params := (dv "end_sign").params, body := FuncBody.stmts (dv "end_sign").body, scope := (dv "end_sign").scope, globals := 0, closure := [], defaults := Value.none, kwdefaults := Value.none } }
noncomputable def o_317 (P : Params) : Obj := { cls := Value.type "code", data := Data.fields #[Value.str "end_sign" 533, Value.str "end_sign" 534, Value.str "/claim/cut.py" 535, Value.int 175 0, Value.int 2 0, Value.int 0 0, Value.int 0 0, Value.int 3 0, Value.ref 269, Value.bool true, Value.int 181 0, Value.ref 270, Value.none, Value.ref 271, Value.ref 272, Value.ref 273, Value.int 539 0, Value.int 175 0, Value.str "/claim/cut.py" 540] }
noncomputable def o_318 (P : Params) : Obj := { cls := Value.type "function", data := Data.func { name := "end_sign", qualname := "end_sign", params := (dv "end_sign").params, body := FuncBody.stmts (dv "end_sign").body, scope := (dv "end_sign").scope, globals := 3, closure := [], defaults := Value.none, kwdefaults := Value.none, pyModule := Value.str "cas.sturm" 511, code := Value.ref 274 } }
noncomputable def o_319 (P : Params) : Obj := { cls := Value.type "tuple", data := Data.seq #[] }
noncomputable def o_320 (P : Params) : Obj := { cls := Value.none, data := Data.fields #[] }
noncomputable def o_321 (P : Params) : Obj := { cls := Value.type "tuple", data := Data.seq #[Value.str "p" 545, Value.str "x" 546] }
noncomputable def o_322 (P : Params) : Obj := { cls := Value.type "tuple", data := Data.seq #[] }
noncomputable def o_323 (P : Params) : Obj := { cls := Value.none, data := Data.func { name := "sign_at", qualname := "sign_at", params := (dv "sign_at").params, body := FuncBody.stmts (dv "sign_at").body, scope := (dv "sign_at").scope, globals := 0, closure := [], defaults := Value.none, kwdefaults := Value.none } }
noncomputable def o_324 (P : Params) : Obj := { cls := Value.type "code", data := Data.fields #[Value.str "sign_at" 542, Value.str "sign_at" 543, Value.str "/claim/cut.py" 544, Value.int 180 0, Value.int 2 0, Value.int 0 0, Value.int 0 0, Value.int 3 0, Value.ref 276, Value.bool true, Value.int 181 0, Value.ref 277, Value.none, Value.ref 278, Value.ref 279, Value.ref 280, Value.int 547 0, Value.int 180 0, Value.str "/claim/cut.py" 548] }
noncomputable def o_325 (P : Params) : Obj := { cls := Value.type "function", data := Data.func { name := "sign_at", qualname := "sign_at", params := (dv "sign_at").params, body := FuncBody.stmts (dv "sign_at").body, scope := (dv "sign_at").scope, globals := 3, closure := [], defaults := Value.none, kwdefaults := Value.none, pyModule := Value.str "cas.sturm" 511, code := Value.ref 281 } }
noncomputable def o_326 (P : Params) : Obj := { cls := Value.type "tuple", data := Data.seq #[] }
noncomputable def o_327 (P : Params) : Obj := { cls := Value.none, data := Data.fields #[] }
noncomputable def o_328 (P : Params) : Obj := { cls := Value.type "tuple", data := Data.seq #[Value.str "f" 553, Value.str "common" 554] }
noncomputable def o_329 (P : Params) : Obj := { cls := Value.type "tuple", data := Data.seq #[] }
noncomputable def o_330 (P : Params) : Obj := { cls := Value.none, data := Data.func { name := "simple_part", qualname := "simple_part", params := (dv "simple_part").params, body := FuncBody.stmts (dv "simple_part").body, scope := (dv "simple_part").scope, globals := 0, closure := [], defaults := Value.none, kwdefaults := Value.none } }
noncomputable def o_331 (P : Params) : Obj := { cls := Value.type "code", data := Data.fields #[Value.str "simple_part" 550, Value.str "simple_part" 551, Value.str "/claim/cut.py" 552, Value.int 182 0, Value.int 1 0, Value.int 0 0, Value.int 0 0, Value.int 3 0, Value.ref 283, Value.bool true, Value.int 181 0, Value.ref 284, Value.none, Value.ref 285, Value.ref 286, Value.ref 287, Value.int 555 0, Value.int 182 0, Value.str "/claim/cut.py" 556] }
noncomputable def o_332 (P : Params) : Obj := { cls := Value.type "function", data := Data.func { name := "simple_part", qualname := "simple_part", params := (dv "simple_part").params, body := FuncBody.stmts (dv "simple_part").body, scope := (dv "simple_part").scope, globals := 3, closure := [], defaults := Value.none, kwdefaults := Value.none, pyModule := Value.str "cas.sturm" 511, code := Value.ref 288 } }
noncomputable def o_333 (P : Params) : Obj := { cls := Value.type "tuple", data := Data.seq #[] }
noncomputable def o_334 (P : Params) : Obj := { cls := Value.none, data := Data.fields #[] }
noncomputable def o_335 (P : Params) : Obj := { cls := Value.none, data := Data.func { name := "lessened", qualname := "lessened", params := (dv "lessened").params, body := FuncBody.stmts (dv "lessened").body, scope := (dv "lessened").scope, globals := 0, closure := [], defaults := Value.none, kwdefaults := Value.none } }
noncomputable def o_336 (P : Params) : Obj := { cls := Value.type "code", data := Data.fields #[Value.str "lessened" 558, Value.str "lessened" 559, Value.str "/claim/cut.py" 560, Value.int 185 0, Value.int 1 0, Value.int 0 0, Value.int 0 0, Value.int 3 0, Value.ref 290, Value.bool true, Value.int 181 0, Value.ref 291, Value.none, Value.none, Value.none, Value.ref 292, Value.int 561 0, Value.int 185 0, Value.str "/claim/cut.py" 562] }
noncomputable def o_337 (P : Params) : Obj := { cls := Value.type "function", data := Data.func { name := "lessened", qualname := "lessened", params := (dv "lessened").params, body := FuncBody.stmts (dv "lessened").body, scope := (dv "lessened").scope, globals := 3, closure := [], defaults := Value.none, kwdefaults := Value.none, pyModule := Value.str "cas.sturm" 511, code := Value.ref 293 } }
noncomputable def o_338 (P : Params) : Obj := { cls := Value.type "tuple", data := Data.seq #[] }
noncomputable def o_339 (P : Params) : Obj := { cls := Value.none, data := Data.fields #[] }
noncomputable def o_340 (P : Params) : Obj := { cls := Value.type "tuple", data := Data.seq #[Value.str "a" 567, Value.str "b" 568, Value.str "quotient" 569, Value.str "rest" 570, Value.str "power" 571] }
noncomputable def o_341 (P : Params) : Obj := { cls := Value.type "tuple", data := Data.seq #[] }
noncomputable def o_342 (P : Params) : Obj := { cls := Value.none, data := Data.func { name := "next_of_row", qualname := "next_of_row", params := (dv "next_of_row").params, body := FuncBody.stmts (dv "next_of_row").body, scope := (dv "next_of_row").scope, globals := 0, closure := [], defaults := Value.none, kwdefaults := Value.none } }
noncomputable def o_343 (P : Params) : Obj := { cls := Value.type "code", data := Data.fields #[Value.str "next_of_row" 564, Value.str "next_of_row" 565, Value.str "/claim/cut.py" 566, Value.int 188 0, Value.int 2 0, Value.int 0 0, Value.int 0 0, Value.int 3 0, Value.ref 295, Value.bool true, Value.int 181 0, Value.ref 296, Value.none, Value.ref 297, Value.ref 298, Value.ref 299, Value.int 572 0, Value.int 188 0, Value.str "/claim/cut.py" 573] }
noncomputable def o_344 (P : Params) : Obj := { cls := Value.type "function", data := Data.func { name := "next_of_row", qualname := "next_of_row", params := (dv "next_of_row").params, body := FuncBody.stmts (dv "next_of_row").body, scope := (dv "next_of_row").scope, globals := 3, closure := [], defaults := Value.none, kwdefaults := Value.none, pyModule := Value.str "cas.sturm" 511, code := Value.ref 300 } }
noncomputable def o_345 (P : Params) : Obj := { cls := Value.type "tuple", data := Data.seq #[] }
noncomputable def o_346 (P : Params) : Obj := { cls := Value.none, data := Data.fields #[] }
noncomputable def o_347 (P : Params) : Obj := { cls := Value.type "tuple", data := Data.seq #[Value.str "f" 578, Value.str "found" 579, Value.str "later" 580] }
noncomputable def o_348 (P : Params) : Obj := { cls := Value.type "tuple", data := Data.seq #[] }
noncomputable def o_349 (P : Params) : Obj := { cls := Value.none, data := Data.func { name := "sturm_row", qualname := "sturm_row", params := (dv "sturm_row").params, body := FuncBody.stmts (dv "sturm_row").body, scope := (dv "sturm_row").scope, globals := 0, closure := [], defaults := Value.none, kwdefaults := Value.none } }
noncomputable def o_350 (P : Params) : Obj := { cls := Value.type "code", data := Data.fields #[Value.str "sturm_row" 575, Value.str "sturm_row" 576, Value.str "/claim/cut.py" 577, Value.int 193 0, Value.int 1 0, Value.int 0 0, Value.int 0 0, Value.int 3 0, Value.ref 302, Value.bool true, Value.int 181 0, Value.ref 303, Value.none, Value.ref 304, Value.ref 305, Value.ref 306, Value.int 581 0, Value.int 193 0, Value.str "/claim/cut.py" 582] }
noncomputable def o_351 (P : Params) : Obj := { cls := Value.type "function", data := Data.func { name := "sturm_row", qualname := "sturm_row", params := (dv "sturm_row").params, body := FuncBody.stmts (dv "sturm_row").body, scope := (dv "sturm_row").scope, globals := 3, closure := [], defaults := Value.none, kwdefaults := Value.none, pyModule := Value.str "cas.sturm" 511, code := Value.ref 307 } }
noncomputable def tree_351 (P : Params) : BT := BT.node (boot_o_0 P) (BT.node (boot_o_1 P) (BT.node (o_268 P) (BT.node (boot_o_7 P) (BT.node (o_52 P) (BT.node (o_68 P) (BT.node (o_102 P) (BT.node (o_166 P) (BT.node (o_298 P) BT.nil BT.nil) BT.nil) (BT.node (o_232 P) BT.nil BT.nil)) (BT.node (o_134 P) (BT.node (o_200 P) (BT.node (o_330 P) BT.nil BT.nil) BT.nil) (BT.node (o_264 P) BT.nil BT.nil))) (BT.node (o_84 P) (BT.node (o_118 P) (BT.node (o_182 P) (BT.node (o_314 P) BT.nil BT.nil) BT.nil) (BT.node (o_248 P) BT.nil BT.nil)) (BT.node (o_150 P) (BT.node (o_216 P) (BT.node (o_346 P) BT.nil BT.nil) BT.nil) (BT.node (o_282 P) BT.nil BT.nil)))) (BT.node (o_60 P) (BT.node (o_76 P) (BT.node (o_110 P) (BT.node (o_174 P) (BT.node (o_306 P) BT.nil BT.nil) BT.nil) (BT.node (o_240 P) BT.nil BT.nil)) (BT.node (o_142 P) (BT.node (o_208 P) (BT.node (o_338 P) BT.nil BT.nil) BT.nil) (BT.node (o_274 P) BT.nil BT.nil))) (BT.node (o_92 P) (BT.node (o_126 P) (BT.node (o_192 P) (BT.node (o_322 P) BT.nil BT.nil) BT.nil) (BT.node (o_256 P) BT.nil BT.nil)) (BT.node (o_158 P) (BT.node (o_224 P) BT.nil BT.nil) (BT.node (o_290 P) BT.nil BT.nil))))) (BT.node (o_43 P) (BT.node (o_56 P) (BT.node (o_72 P) (BT.node (o_106 P) (BT.node (o_170 P) (BT.node (o_302 P) BT.nil BT.nil) BT.nil) (BT.node (o_236 P) BT.nil BT.nil)) (BT.node (o_138 P) (BT.node (o_204 P) (BT.node (o_334 P) BT.nil BT.nil) BT.nil) (BT.node (o_270 P) BT.nil BT.nil))) (BT.node (o_88 P) (BT.node (o_122 P) (BT.node (o_188 P) (BT.node (o_318 P) BT.nil BT.nil) BT.nil) (BT.node (o_252 P) BT.nil BT.nil)) (BT.node (o_154 P) (BT.node (o_220 P) (BT.node (o_350 P) BT.nil BT.nil) BT.nil) (BT.node (o_286 P) BT.nil BT.nil)))) (BT.node (o_64 P) (BT.node (o_80 P) (BT.node (o_114 P) (BT.node (o_178 P) (BT.node (o_310 P) BT.nil BT.nil) BT.nil) (BT.node (o_244 P) BT.nil BT.nil)) (BT.node (o_146 P) (BT.node (o_212 P) (BT.node (o_342 P) BT.nil BT.nil) BT.nil) (BT.node (o_278 P) BT.nil BT.nil))) (BT.node (o_96 P) (BT.node (o_130 P) (BT.node (o_196 P) (BT.node (o_326 P) BT.nil BT.nil) BT.nil) (BT.node (o_260 P) BT.nil BT.nil)) (BT.node (o_162 P) (BT.node (o_228 P) BT.nil BT.nil) (BT.node (o_294 P) BT.nil BT.nil)))))) (BT.node (boot_o_5 P) (BT.node (boot_o_9 P) (BT.node (o_54 P) (BT.node (o_70 P) (BT.node (o_104 P) (BT.node (o_168 P) (BT.node (o_300 P) BT.nil BT.nil) BT.nil) (BT.node (o_234 P) BT.nil BT.nil)) (BT.node (o_136 P) (BT.node (o_202 P) (BT.node (o_332 P) BT.nil BT.nil) BT.nil) (BT.node (o_266 P) BT.nil BT.nil))) (BT.node (o_86 P) (BT.node (o_120 P) (BT.node (o_184 P) (BT.node (o_316 P) BT.nil BT.nil) BT.nil) (BT.node (o_250 P) BT.nil BT.nil)) (BT.node (o_152 P) (BT.node (o_218 P) (BT.node (o_348 P) BT.nil BT.nil) BT.nil) (BT.node (o_284 P) BT.nil BT.nil)))) (BT.node (o_62 P) (BT.node (o_78 P) (BT.node (o_112 P) (BT.node (o_176 P) (BT.node (o_308 P) BT.nil BT.nil) BT.nil) (BT.node (o_242 P) BT.nil BT.nil)) (BT.node (o_144 P) (BT.node (o_210 P) (BT.node (o_340 P) BT.nil BT.nil) BT.nil) (BT.node (o_276 P) BT.nil BT.nil))) (BT.node (o_94 P) (BT.node (o_128 P) (BT.node (o_194 P) (BT.node (o_324 P) BT.nil BT.nil) BT.nil) (BT.node (o_258 P) BT.nil BT.nil)) (BT.node (o_160 P) (BT.node (o_226 P) BT.nil BT.nil) (BT.node (o_292 P) BT.nil BT.nil))))) (BT.node (o_45 P) (BT.node (o_58 P) (BT.node (o_74 P) (BT.node (o_108 P) (BT.node (o_172 P) (BT.node (o_304 P) BT.nil BT.nil) BT.nil) (BT.node (o_238 P) BT.nil BT.nil)) (BT.node (o_140 P) (BT.node (o_206 P) (BT.node (o_336 P) BT.nil BT.nil) BT.nil) (BT.node (o_272 P) BT.nil BT.nil))) (BT.node (o_90 P) (BT.node (o_124 P) (BT.node (o_190 P) (BT.node (o_320 P) BT.nil BT.nil) BT.nil) (BT.node (o_254 P) BT.nil BT.nil)) (BT.node (o_156 P) (BT.node (o_222 P) BT.nil BT.nil) (BT.node (o_288 P) BT.nil BT.nil)))) (BT.node (o_66 P) (BT.node (o_82 P) (BT.node (o_116 P) (BT.node (o_180 P) (BT.node (o_312 P) BT.nil BT.nil) BT.nil) (BT.node (o_246 P) BT.nil BT.nil)) (BT.node (o_148 P) (BT.node (o_214 P) (BT.node (o_344 P) BT.nil BT.nil) BT.nil) (BT.node (o_280 P) BT.nil BT.nil))) (BT.node (o_98 P) (BT.node (o_132 P) (BT.node (o_198 P) (BT.node (o_328 P) BT.nil BT.nil) BT.nil) (BT.node (o_262 P) BT.nil BT.nil)) (BT.node (o_164 P) (BT.node (o_230 P) BT.nil BT.nil) (BT.node (o_296 P) BT.nil BT.nil))))))) (BT.node (o_49 P) (BT.node (boot_o_4 P) (BT.node (boot_o_8 P) (BT.node (o_53 P) (BT.node (o_69 P) (BT.node (o_103 P) (BT.node (o_167 P) (BT.node (o_299 P) BT.nil BT.nil) BT.nil) (BT.node (o_233 P) BT.nil BT.nil)) (BT.node (o_135 P) (BT.node (o_201 P) (BT.node (o_331 P) BT.nil BT.nil) BT.nil) (BT.node (o_265 P) BT.nil BT.nil))) (BT.node (o_85 P) (BT.node (o_119 P) (BT.node (o_183 P) (BT.node (o_315 P) BT.nil BT.nil) BT.nil) (BT.node (o_249 P) BT.nil BT.nil)) (BT.node (o_151 P) (BT.node (o_217 P) (BT.node (o_347 P) BT.nil BT.nil) BT.nil) (BT.node (o_283 P) BT.nil BT.nil)))) (BT.node (o_61 P) (BT.node (o_77 P) (BT.node (o_111 P) (BT.node (o_175 P) (BT.node (o_307 P) BT.nil BT.nil) BT.nil) (BT.node (o_241 P) BT.nil BT.nil)) (BT.node (o_143 P) (BT.node (o_209 P) (BT.node (o_339 P) BT.nil BT.nil) BT.nil) (BT.node (o_275 P) BT.nil BT.nil))) (BT.node (o_93 P) (BT.node (o_127 P) (BT.node (o_193 P) (BT.node (o_323 P) BT.nil BT.nil) BT.nil) (BT.node (o_257 P) BT.nil BT.nil)) (BT.node (o_159 P) (BT.node (o_225 P) BT.nil BT.nil) (BT.node (o_291 P) BT.nil BT.nil))))) (BT.node (o_269 P) (BT.node (o_57 P) (BT.node (o_73 P) (BT.node (o_107 P) (BT.node (o_171 P) (BT.node (o_303 P) BT.nil BT.nil) BT.nil) (BT.node (o_237 P) BT.nil BT.nil)) (BT.node (o_139 P) (BT.node (o_205 P) (BT.node (o_335 P) BT.nil BT.nil) BT.nil) (BT.node (o_271 P) BT.nil BT.nil))) (BT.node (o_89 P) (BT.node (o_123 P) (BT.node (o_189 P) (BT.node (o_319 P) BT.nil BT.nil) BT.nil) (BT.node (o_253 P) BT.nil BT.nil)) (BT.node (o_155 P) (BT.node (o_221 P) (BT.node (o_351 P) BT.nil BT.nil) BT.nil) (BT.node (o_287 P) BT.nil BT.nil)))) (BT.node (o_65 P) (BT.node (o_81 P) (BT.node (o_115 P) (BT.node (o_179 P) (BT.node (o_311 P) BT.nil BT.nil) BT.nil) (BT.node (o_245 P) BT.nil BT.nil)) (BT.node (o_147 P) (BT.node (o_213 P) (BT.node (o_343 P) BT.nil BT.nil) BT.nil) (BT.node (o_279 P) BT.nil BT.nil))) (BT.node (o_97 P) (BT.node (o_131 P) (BT.node (o_197 P) (BT.node (o_327 P) BT.nil BT.nil) BT.nil) (BT.node (o_261 P) BT.nil BT.nil)) (BT.node (o_163 P) (BT.node (o_229 P) BT.nil BT.nil) (BT.node (o_295 P) BT.nil BT.nil)))))) (BT.node (boot_o_6 P) (BT.node (boot_o_10 P) (BT.node (o_55 P) (BT.node (o_71 P) (BT.node (o_105 P) (BT.node (o_169 P) (BT.node (o_301 P) BT.nil BT.nil) BT.nil) (BT.node (o_235 P) BT.nil BT.nil)) (BT.node (o_137 P) (BT.node (o_203 P) (BT.node (o_333 P) BT.nil BT.nil) BT.nil) (BT.node (o_267 P) BT.nil BT.nil))) (BT.node (o_87 P) (BT.node (o_121 P) (BT.node (o_187 P) (BT.node (o_317 P) BT.nil BT.nil) BT.nil) (BT.node (o_251 P) BT.nil BT.nil)) (BT.node (o_153 P) (BT.node (o_219 P) (BT.node (o_349 P) BT.nil BT.nil) BT.nil) (BT.node (o_285 P) BT.nil BT.nil)))) (BT.node (o_63 P) (BT.node (o_79 P) (BT.node (o_113 P) (BT.node (o_177 P) (BT.node (o_309 P) BT.nil BT.nil) BT.nil) (BT.node (o_243 P) BT.nil BT.nil)) (BT.node (o_145 P) (BT.node (o_211 P) (BT.node (o_341 P) BT.nil BT.nil) BT.nil) (BT.node (o_277 P) BT.nil BT.nil))) (BT.node (o_95 P) (BT.node (o_129 P) (BT.node (o_195 P) (BT.node (o_325 P) BT.nil BT.nil) BT.nil) (BT.node (o_259 P) BT.nil BT.nil)) (BT.node (o_161 P) (BT.node (o_227 P) BT.nil BT.nil) (BT.node (o_293 P) BT.nil BT.nil))))) (BT.node (o_46 P) (BT.node (o_59 P) (BT.node (o_75 P) (BT.node (o_109 P) (BT.node (o_173 P) (BT.node (o_305 P) BT.nil BT.nil) BT.nil) (BT.node (o_239 P) BT.nil BT.nil)) (BT.node (o_141 P) (BT.node (o_207 P) (BT.node (o_337 P) BT.nil BT.nil) BT.nil) (BT.node (o_273 P) BT.nil BT.nil))) (BT.node (o_91 P) (BT.node (o_125 P) (BT.node (o_191 P) (BT.node (o_321 P) BT.nil BT.nil) BT.nil) (BT.node (o_255 P) BT.nil BT.nil)) (BT.node (o_157 P) (BT.node (o_223 P) BT.nil BT.nil) (BT.node (o_289 P) BT.nil BT.nil)))) (BT.node (o_67 P) (BT.node (o_83 P) (BT.node (o_117 P) (BT.node (o_181 P) (BT.node (o_313 P) BT.nil BT.nil) BT.nil) (BT.node (o_247 P) BT.nil BT.nil)) (BT.node (o_149 P) (BT.node (o_215 P) (BT.node (o_345 P) BT.nil BT.nil) BT.nil) (BT.node (o_281 P) BT.nil BT.nil))) (BT.node (o_99 P) (BT.node (o_133 P) (BT.node (o_199 P) (BT.node (o_329 P) BT.nil BT.nil) BT.nil) (BT.node (o_263 P) BT.nil BT.nil)) (BT.node (o_165 P) (BT.node (o_231 P) BT.nil BT.nil) (BT.node (o_297 P) BT.nil BT.nil)))))))
noncomputable def o_352 (P : Params) : Obj := { cls := Value.type "dict", data := Data.dict #[{ hash := PyData.keyHash P "__name__", key := Value.str "__name__" 165, val := Value.str "cas.roots" 605 }, { hash := PyData.keyHash P "__doc__", key := Value.str "__doc__" 166, val := Value.none }, { hash := PyData.keyHash P "__package__", key := Value.str "__package__" 167, val := Value.none }, { hash := PyData.keyHash P "__loader__", key := Value.str "__loader__" 168, val := Value.builtin "__main__.__loader__#opaque" }, { hash := PyData.keyHash P "__spec__", key := Value.str "__spec__" 169, val := Value.none }, { hash := PyData.keyHash P "__annotations__", key := Value.str "__annotations__" 170, val := Value.ref 6 }, { hash := PyData.keyHash P "__builtins__", key := Value.str "__builtins__" 171, val := Value.ref 4 }, { hash := PyData.keyHash P "__file__", key := Value.str "__file__" 173, val := Value.str "/claim/cut.py" 172 }, { hash := PyData.keyHash P "__cached__", key := Value.str "__cached__" 174, val := Value.none }, { hash := PyData.keyHash P "CasFail", key := Value.str "CasFail" 219, val := Value.ref 31 }, { hash := PyData.keyHash P "gcd", key := Value.str "gcd" 229, val := Value.ref 41 }, { hash := PyData.keyHash P "bits_of", key := Value.str "bits_of" 239, val := Value.ref 48 }, { hash := PyData.keyHash P "gcd_all", key := Value.str "gcd_all" 248, val := Value.ref 55 }, { hash := PyData.keyHash P "root_of", key := Value.str "root_of" 259, val := Value.ref 62 }, { hash := PyData.keyHash P "is_square", key := Value.str "is_square" 266, val := Value.ref 69 }, { hash := PyData.keyHash P "least_divisor", key := Value.str "least_divisor" 275, val := Value.ref 76 }, { hash := PyData.keyHash P "prime_factors", key := Value.str "prime_factors" 285, val := Value.ref 83 }, { hash := PyData.keyHash P "divisors", key := Value.str "divisors" 291, val := Value.ref 88 }, { hash := PyData.keyHash P "R0", key := Value.str "R0" 296, val := Value.ref 89 }, { hash := PyData.keyHash P "rat", key := Value.str "rat" 305, val := Value.ref 96 }, { hash := PyData.keyHash P "radd", key := Value.str "radd" 313, val := Value.ref 103 }, { hash := PyData.keyHash P "rsub", key := Value.str "rsub" 321, val := Value.ref 110 }, { hash := PyData.keyHash P "rmul", key := Value.str "rmul" 329, val := Value.ref 117 }, { hash := PyData.keyHash P "rcompare", key := Value.str "rcompare" 338, val := Value.ref 124 }, { hash := PyData.keyHash P "rfloor", key := Value.str "rfloor" 345, val := Value.ref 131 }, { hash := PyData.keyHash P "ztrim", key := Value.str "ztrim" 355, val := Value.ref 138 }, { hash := PyData.keyHash P "zdegree", key := Value.str "zdegree" 362, val := Value.ref 145 }, { hash := PyData.keyHash P "zlead", key := Value.str "zlead" 369, val := Value.ref 152 }, { hash := PyData.keyHash P "zadd", key := Value.str "zadd" 375, val := Value.ref 157 }, { hash := PyData.keyHash P "zneg", key := Value.str "zneg" 381, val := Value.ref 162 }, { hash := PyData.keyHash P "zsub", key := Value.str "zsub" 389, val := Value.ref 169 }, { hash := PyData.keyHash P "zscale", key := Value.str "zscale" 395, val := Value.ref 174 }, { hash := PyData.keyHash P "zraise", key := Value.str "zraise" 403, val := Value.ref 181 }, { hash := PyData.keyHash P "zcontent", key := Value.str "zcontent" 410, val := Value.ref 188 }, { hash := PyData.keyHash P "zdivided", key := Value.str "zdivided" 416, val := Value.ref 193 }, { hash := PyData.keyHash P "zprimitive", key := Value.str "zprimitive" 424, val := Value.ref 200 }, { hash := PyData.keyHash P "zderive", key := Value.str "zderive" 430, val := Value.ref 205 }, { hash := PyData.keyHash P "check_bottom", key := Value.str "check_bottom" 439, val := Value.ref 212 }, { hash := PyData.keyHash P "zexact", key := Value.str "zexact" 451, val := Value.ref 219 }, { hash := PyData.keyHash P "pseudo", key := Value.str "pseudo" 467, val := Value.ref 226 }, { hash := PyData.keyHash P "zpseudo_rest", key := Value.str "zpseudo_rest" 475, val := Value.ref 233 }, { hash := PyData.keyHash P "next_height", key := Value.str "next_height" 486, val := Value.ref 240 }, { hash := PyData.keyHash P "subresultants", key := Value.str "subresultants" 499, val := Value.ref 247 }, { hash := PyData.keyHash P "zgcd", key := Value.str "zgcd" 510, val := Value.ref 254 }, { hash := PyData.keyHash P "sign_of", key := Value.str "sign_of" 519, val := Value.ref 261 }, { hash := PyData.keyHash P "value_sign", key := Value.str "value_sign" 532, val := Value.ref 268 }, { hash := PyData.keyHash P "end_sign", key := Value.str "end_sign" 541, val := Value.ref 275 }, { hash := PyData.keyHash P "sign_at", key := Value.str "sign_at" 549, val := Value.ref 282 }, { hash := PyData.keyHash P "simple_part", key := Value.str "simple_part" 557, val := Value.ref 289 }, { hash := PyData.keyHash P "lessened", key := Value.str "lessened" 563, val := Value.ref 294 }, { hash := PyData.keyHash P "next_of_row", key := Value.str "next_of_row" 574, val := Value.ref 301 }, { hash := PyData.keyHash P "sturm_row", key := Value.str "sturm_row" 583, val := Value.ref 308 }, { hash := PyData.keyHash P "changes_at", key := Value.str "changes_at" 589, val := Value.ref 313 }, { hash := PyData.keyHash P "count_by_row", key := Value.str "count_by_row" 598, val := Value.ref 320 }, { hash := PyData.keyHash P "root_bound", key := Value.str "root_bound" 604, val := Value.ref 325 }, { hash := PyData.keyHash P "HALF", key := Value.str "HALF" 609, val := Value.ref 326 }, { hash := PyData.keyHash P "MOST_DIVIDED", key := Value.str "MOST_DIVIDED" 613, val := Value.int 10000000000 612 }, { hash := PyData.keyHash P "middle", key := Value.str "middle" 621, val := Value.ref 333 }, { hash := PyData.keyHash P "linear_of", key := Value.str "linear_of" 628, val := Value.ref 340 }, { hash := PyData.keyHash P "is_inside", key := Value.str "is_inside" 636, val := Value.ref 347 }, { hash := PyData.keyHash P "split_roots", key := Value.str "split_roots" 651, val := Value.ref 354 }, { hash := PyData.keyHash P "isolate", key := Value.str "isolate" 657, val := Value.ref 359 }, { hash := PyData.keyHash P "kept_off", key := Value.str "kept_off" 663, val := Value.ref 364 }, { hash := PyData.keyHash P "sorted_intervals", key := Value.str "sorted_intervals" 673, val := Value.ref 371 }, { hash := PyData.keyHash P "halved", key := Value.str "halved" 685, val := Value.ref 378 }, { hash := PyData.keyHash P "refine", key := Value.str "refine" 695, val := Value.ref 385 }] 66 }
noncomputable def o_353 (P : Params) : Obj := { cls := Value.none, data := Data.fields #[Value.int 2 0, Value.int 0 0, Value.ref 20, Value.int 9 0, Value.int 0 0, Value.ref 40, Value.int 14 0, Value.int 0 0, Value.ref 47, Value.int 21 0, Value.int 0 0, Value.ref 54, Value.int 26 0, Value.int 0 0, Value.ref 61, Value.int 39 0, Value.int 0 0, Value.ref 68, Value.int 41 0, Value.int 0 0, Value.ref 75, Value.int 48 0, Value.int 0 0, Value.ref 82, Value.int 57 0, Value.int 0 0, Value.ref 87, Value.int 64 0, Value.int 0 0, Value.ref 95, Value.int 69 0, Value.int 0 0, Value.ref 102, Value.int 71 0, Value.int 0 0, Value.ref 109, Value.int 73 0, Value.int 0 0, Value.ref 116, Value.int 75 0, Value.int 0 0, Value.ref 123, Value.int 78 0, Value.int 0 0, Value.ref 130, Value.int 81 0, Value.int 0 0, Value.ref 137, Value.int 86 0, Value.int 0 0, Value.ref 144, Value.int 88 0, Value.int 0 0, Value.ref 151, Value.int 90 0, Value.int 0 0, Value.ref 156, Value.int 93 0, Value.int 0 0, Value.ref 161, Value.int 95 0, Value.int 0 0, Value.ref 168, Value.int 97 0, Value.int 0 0, Value.ref 173, Value.int 99 0, Value.int 0 0, Value.ref 180, Value.int 101 0, Value.int 0 0, Value.ref 187, Value.int 103 0, Value.int 0 0, Value.ref 192, Value.int 105 0, Value.int 0 0, Value.ref 199, Value.int 110 0, Value.int 0 0, Value.ref 204, Value.int 113 0, Value.int 0 0, Value.ref 211, Value.int 116 0, Value.int 0 0, Value.ref 218, Value.int 126 0, Value.int 0 0, Value.ref 225, Value.int 137 0, Value.int 0 0, Value.ref 232, Value.int 140 0, Value.int 0 0, Value.ref 239, Value.int 144 0, Value.int 0 0, Value.ref 246, Value.int 158 0, Value.int 0 0, Value.ref 253, Value.int 166 0, Value.int 0 0, Value.ref 260, Value.int 168 0, Value.int 0 0, Value.ref 267, Value.int 175 0, Value.int 0 0, Value.ref 274, Value.int 180 0, Value.int 0 0, Value.ref 281, Value.int 182 0, Value.int 0 0, Value.ref 288, Value.int 185 0, Value.int 0 0, Value.ref 293, Value.int 188 0, Value.int 0 0, Value.ref 300, Value.int 193 0, Value.int 0 0, Value.ref 307, Value.int 199 0, Value.int 0 0, Value.ref 312, Value.int 203 0, Value.int 0 0, Value.ref 319, Value.int 205 0, Value.int 0 0, Value.ref 324, Value.int 211 0, Value.int 0 0, Value.ref 332, Value.int 213 0, Value.int 0 0, Value.ref 339, Value.int 215 0, Value.int 0 0, Value.ref 346, Value.int 217 0, Value.int 0 0, Value.ref 353, Value.int 232 0, Value.int 0 0, Value.ref 358, Value.int 243 0, Value.int 0 0, Value.ref 363, Value.int 247 0, Value.int 0 0, Value.ref 370, Value.int 255 0, Value.int 0 0, Value.ref 377, Value.int 262 0, Value.int 0 0, Value.ref 384] }
noncomputable def o_354 (P : Params) : Obj := { cls := Value.type "tuple", data := Data.seq #[] }
noncomputable def o_355 (P : Params) : Obj := { cls := Value.none, data := Data.fields #[] }
noncomputable def o_356 (P : Params) : Obj := { cls := Value.none, data := Data.func { name := "changes_at", qualname := "changes_at", params := (dv "changes_at").params, body := FuncBody.stmts (dv "changes_at").body, scope := (dv "changes_at").scope, globals := 0, closure := [], defaults := Value.none, kwdefaults := Value.none } }
noncomputable def o_357 (P : Params) : Obj := { cls := Value.type "code", data := Data.fields #[Value.str "changes_at" 584, Value.str "changes_at" 585, Value.str "/claim/cut.py" 586, Value.int 199 0, Value.int 2 0, Value.int 0 0, Value.int 0 0, Value.int 3 0, Value.ref 309, Value.bool true, Value.int 181 0, Value.ref 310, Value.none, Value.none, Value.none, Value.ref 311, Value.int 587 0, Value.int 199 0, Value.str "/claim/cut.py" 588] }
noncomputable def o_358 (P : Params) : Obj := { cls := Value.type "function", data := Data.func { name := "changes_at", qualname := "changes_at", params := (dv "changes_at").params, body := FuncBody.stmts (dv "changes_at").body, scope := (dv "changes_at").scope, globals := 3, closure := [], defaults := Value.none, kwdefaults := Value.none, pyModule := Value.str "cas.sturm" 511, code := Value.ref 312 } }
noncomputable def o_359 (P : Params) : Obj := { cls := Value.type "tuple", data := Data.seq #[] }
noncomputable def o_360 (P : Params) : Obj := { cls := Value.none, data := Data.fields #[] }
noncomputable def o_361 (P : Params) : Obj := { cls := Value.type "tuple", data := Data.seq #[Value.str "row" 593, Value.str "low" 594, Value.str "high" 595] }
noncomputable def o_362 (P : Params) : Obj := { cls := Value.type "tuple", data := Data.seq #[] }
noncomputable def o_363 (P : Params) : Obj := { cls := Value.none, data := Data.func { name := "count_by_row", qualname := "count_by_row", params := (dv "count_by_row").params, body := FuncBody.stmts (dv "count_by_row").body, scope := (dv "count_by_row").scope, globals := 0, closure := [], defaults := Value.none, kwdefaults := Value.none } }
noncomputable def o_364 (P : Params) : Obj := { cls := Value.type "code", data := Data.fields #[Value.str "count_by_row" 590, Value.str "count_by_row" 591, Value.str "/claim/cut.py" 592, Value.int 203 0, Value.int 3 0, Value.int 0 0, Value.int 0 0, Value.int 3 0, Value.ref 314, Value.bool true, Value.int 181 0, Value.ref 315, Value.none, Value.ref 316, Value.ref 317, Value.ref 318, Value.int 596 0, Value.int 203 0, Value.str "/claim/cut.py" 597] }
noncomputable def o_365 (P : Params) : Obj := { cls := Value.type "function", data := Data.func { name := "count_by_row", qualname := "count_by_row", params := (dv "count_by_row").params, body := FuncBody.stmts (dv "count_by_row").body, scope := (dv "count_by_row").scope, globals := 3, closure := [], defaults := Value.none, kwdefaults := Value.none, pyModule := Value.str "cas.sturm" 511, code := Value.ref 319 } }
noncomputable def o_366 (P : Params) : Obj := { cls := Value.type "tuple", data := Data.seq #[] }
noncomputable def o_367 (P : Params) : Obj := { cls := Value.none, data := Data.fields #[] }
noncomputable def o_368 (P : Params) : Obj := { cls := Value.none, data := Data.func { name := "root_bound", qualname := "root_bound", params := (dv "root_bound").params, body := FuncBody.stmts (dv "root_bound").body, scope := (dv "root_bound").scope, globals := 0, closure := [], defaults := Value.none, kwdefaults := Value.none } }
noncomputable def o_369 (P : Params) : Obj := { cls := Value.type "code", data := Data.fields #[Value.str "root_bound" 599, Value.str "root_bound" 600, Value.str "/claim/cut.py" 601, Value.int 205 0, Value.int 1 0, Value.int 0 0, Value.int 0 0, Value.int 3 0, Value.ref 321, Value.bool true, Value.int 181 0, Value.ref 322, Value.none, Value.none, Value.none, Value.ref 323, Value.int 602 0, Value.int 205 0, Value.str "/claim/cut.py" 603] }
noncomputable def o_370 (P : Params) : Obj := { cls := Value.type "function", data := Data.func { name := "root_bound", qualname := "root_bound", params := (dv "root_bound").params, body := FuncBody.stmts (dv "root_bound").body, scope := (dv "root_bound").scope, globals := 3, closure := [], defaults := Value.none, kwdefaults := Value.none, pyModule := Value.str "cas.sturm" 511, code := Value.ref 324 } }
noncomputable def o_371 (P : Params) : Obj := { cls := Value.type "tuple", data := Data.seq #[Value.int 1 607, Value.int 2 608] }
noncomputable def o_372 (P : Params) : Obj := { cls := Value.type "tuple", data := Data.seq #[] }
noncomputable def o_373 (P : Params) : Obj := { cls := Value.none, data := Data.fields #[] }
noncomputable def o_374 (P : Params) : Obj := { cls := Value.type "tuple", data := Data.seq #[Value.str "low" 617, Value.str "high" 618] }
noncomputable def o_375 (P : Params) : Obj := { cls := Value.type "tuple", data := Data.seq #[] }
noncomputable def o_376 (P : Params) : Obj := { cls := Value.none, data := Data.func { name := "middle", qualname := "middle", params := (dv "middle").params, body := FuncBody.stmts (dv "middle").body, scope := (dv "middle").scope, globals := 0, closure := [], defaults := Value.none, kwdefaults := Value.none } }
noncomputable def o_377 (P : Params) : Obj := { cls := Value.type "code", data := Data.fields #[Value.str "middle" 614, Value.str "middle" 615, Value.str "/claim/cut.py" 616, Value.int 211 0, Value.int 2 0, Value.int 0 0, Value.int 0 0, Value.int 3 0, Value.ref 327, Value.bool true, Value.int 181 0, Value.ref 328, Value.none, Value.ref 329, Value.ref 330, Value.ref 331, Value.int 619 0, Value.int 211 0, Value.str "/claim/cut.py" 620] }
noncomputable def o_378 (P : Params) : Obj := { cls := Value.type "function", data := Data.func { name := "middle", qualname := "middle", params := (dv "middle").params, body := FuncBody.stmts (dv "middle").body, scope := (dv "middle").scope, globals := 3, closure := [], defaults := Value.none, kwdefaults := Value.none, pyModule := Value.str "cas.roots" 605, code := Value.ref 332 } }
noncomputable def o_379 (P : Params) : Obj := { cls := Value.type "tuple", data := Data.seq #[] }
noncomputable def o_380 (P : Params) : Obj := { cls := Value.none, data := Data.fields #[] }
noncomputable def o_381 (P : Params) : Obj := { cls := Value.type "tuple", data := Data.seq #[Value.str "x" 625] }
noncomputable def o_382 (P : Params) : Obj := { cls := Value.type "tuple", data := Data.seq #[] }
noncomputable def o_383 (P : Params) : Obj := { cls := Value.none, data := Data.func { name := "linear_of", qualname := "linear_of", params := (dv "linear_of").params, body := FuncBody.stmts (dv "linear_of").body, scope := (dv "linear_of").scope, globals := 0, closure := [], defaults := Value.none, kwdefaults := Value.none } }
noncomputable def o_384 (P : Params) : Obj := { cls := Value.type "code", data := Data.fields #[Value.str "linear_of" 622, Value.str "linear_of" 623, Value.str "/claim/cut.py" 624, Value.int 213 0, Value.int 1 0, Value.int 0 0, Value.int 0 0, Value.int 3 0, Value.ref 334, Value.bool true, Value.int 181 0, Value.ref 335, Value.none, Value.ref 336, Value.ref 337, Value.ref 338, Value.int 626 0, Value.int 213 0, Value.str "/claim/cut.py" 627] }
noncomputable def o_385 (P : Params) : Obj := { cls := Value.type "function", data := Data.func { name := "linear_of", qualname := "linear_of", params := (dv "linear_of").params, body := FuncBody.stmts (dv "linear_of").body, scope := (dv "linear_of").scope, globals := 3, closure := [], defaults := Value.none, kwdefaults := Value.none, pyModule := Value.str "cas.roots" 605, code := Value.ref 339 } }
noncomputable def o_386 (P : Params) : Obj := { cls := Value.type "tuple", data := Data.seq #[] }
noncomputable def o_387 (P : Params) : Obj := { cls := Value.none, data := Data.fields #[] }
noncomputable def o_388 (P : Params) : Obj := { cls := Value.type "tuple", data := Data.seq #[Value.str "x" 632, Value.str "interval" 633] }
noncomputable def o_389 (P : Params) : Obj := { cls := Value.type "tuple", data := Data.seq #[] }
noncomputable def o_390 (P : Params) : Obj := { cls := Value.none, data := Data.func { name := "is_inside", qualname := "is_inside", params := (dv "is_inside").params, body := FuncBody.stmts (dv "is_inside").body, scope := (dv "is_inside").scope, globals := 0, closure := [], defaults := Value.none, kwdefaults := Value.none } }
noncomputable def o_391 (P : Params) : Obj := { cls := Value.type "code", data := Data.fields #[Value.str "is_inside" 629, Value.str "is_inside" 630, Value.str "/claim/cut.py" 631, Value.int 215 0, Value.int 2 0, Value.int 0 0, Value.int 0 0, Value.int 3 0, Value.ref 341, Value.bool true, Value.int 181 0, Value.ref 342, Value.none, Value.ref 343, Value.ref 344, Value.ref 345, Value.int 634 0, Value.int 215 0, Value.str "/claim/cut.py" 635] }
noncomputable def o_392 (P : Params) : Obj := { cls := Value.type "function", data := Data.func { name := "is_inside", qualname := "is_inside", params := (dv "is_inside").params, body := FuncBody.stmts (dv "is_inside").body, scope := (dv "is_inside").scope, globals := 3, closure := [], defaults := Value.none, kwdefaults := Value.none, pyModule := Value.str "cas.roots" 605, code := Value.ref 346 } }
noncomputable def o_393 (P : Params) : Obj := { cls := Value.type "tuple", data := Data.seq #[] }
noncomputable def o_394 (P : Params) : Obj := { cls := Value.none, data := Data.fields #[] }
noncomputable def o_395 (P : Params) : Obj := { cls := Value.type "tuple", data := Data.seq #[Value.str "f" 640, Value.str "row" 641, Value.str "bound" 642, Value.str "waiting" 643, Value.str "found" 644, Value.str "low" 645, Value.str "high" 646, Value.str "many" 647, Value.str "x" 648] }
noncomputable def o_396 (P : Params) : Obj := { cls := Value.type "tuple", data := Data.seq #[] }
noncomputable def o_397 (P : Params) : Obj := { cls := Value.none, data := Data.func { name := "split_roots", qualname := "split_roots", params := (dv "split_roots").params, body := FuncBody.stmts (dv "split_roots").body, scope := (dv "split_roots").scope, globals := 0, closure := [], defaults := Value.none, kwdefaults := Value.none } }
noncomputable def o_398 (P : Params) : Obj := { cls := Value.type "code", data := Data.fields #[Value.str "split_roots" 637, Value.str "split_roots" 638, Value.str "/claim/cut.py" 639, Value.int 217 0, Value.int 1 0, Value.int 0 0, Value.int 0 0, Value.int 3 0, Value.ref 348, Value.bool true, Value.int 181 0, Value.ref 349, Value.none, Value.ref 350, Value.ref 351, Value.ref 352, Value.int 649 0, Value.int 217 0, Value.str "/claim/cut.py" 650] }
noncomputable def o_399 (P : Params) : Obj := { cls := Value.type "function", data := Data.func { name := "split_roots", qualname := "split_roots", params := (dv "split_roots").params, body := FuncBody.stmts (dv "split_roots").body, scope := (dv "split_roots").scope, globals := 3, closure := [], defaults := Value.none, kwdefaults := Value.none, pyModule := Value.str "cas.roots" 605, code := Value.ref 353 } }
noncomputable def o_400 (P : Params) : Obj := { cls := Value.type "tuple", data := Data.seq #[] }
noncomputable def o_401 (P : Params) : Obj := { cls := Value.none, data := Data.fields #[] }
noncomputable def o_402 (P : Params) : Obj := { cls := Value.none, data := Data.func { name := "isolate", qualname := "isolate", params := (dv "isolate").params, body := FuncBody.stmts (dv "isolate").body, scope := (dv "isolate").scope, globals := 0, closure := [], defaults := Value.none, kwdefaults := Value.none } }
noncomputable def o_403 (P : Params) : Obj := { cls := Value.type "code", data := Data.fields #[Value.str "isolate" 652, Value.str "isolate" 653, Value.str "/claim/cut.py" 654, Value.int 232 0, Value.int 1 0, Value.int 0 0, Value.int 0 0, Value.int 3 0, Value.ref 355, Value.bool true, Value.int 181 0, Value.ref 356, Value.none, Value.none, Value.none, Value.ref 357, Value.int 655 0, Value.int 232 0, Value.str "/claim/cut.py" 656] }
noncomputable def o_404 (P : Params) : Obj := { cls := Value.type "function", data := Data.func { name := "isolate", qualname := "isolate", params := (dv "isolate").params, body := FuncBody.stmts (dv "isolate").body, scope := (dv "isolate").scope, globals := 3, closure := [], defaults := Value.none, kwdefaults := Value.none, pyModule := Value.str "cas.roots" 605, code := Value.ref 358 } }
noncomputable def o_405 (P : Params) : Obj := { cls := Value.type "tuple", data := Data.seq #[] }
noncomputable def o_406 (P : Params) : Obj := { cls := Value.none, data := Data.fields #[] }
noncomputable def o_407 (P : Params) : Obj := { cls := Value.none, data := Data.func { name := "kept_off", qualname := "kept_off", params := (dv "kept_off").params, body := FuncBody.stmts (dv "kept_off").body, scope := (dv "kept_off").scope, globals := 0, closure := [], defaults := Value.none, kwdefaults := Value.none } }
noncomputable def o_408 (P : Params) : Obj := { cls := Value.type "code", data := Data.fields #[Value.str "kept_off" 658, Value.str "kept_off" 659, Value.str "/claim/cut.py" 660, Value.int 243 0, Value.int 3 0, Value.int 0 0, Value.int 0 0, Value.int 3 0, Value.ref 360, Value.bool true, Value.int 181 0, Value.ref 361, Value.none, Value.none, Value.none, Value.ref 362, Value.int 661 0, Value.int 243 0, Value.str "/claim/cut.py" 662] }
noncomputable def o_409 (P : Params) : Obj := { cls := Value.type "function", data := Data.func { name := "kept_off", qualname := "kept_off", params := (dv "kept_off").params, body := FuncBody.stmts (dv "kept_off").body, scope := (dv "kept_off").scope, globals := 3, closure := [], defaults := Value.none, kwdefaults := Value.none, pyModule := Value.str "cas.roots" 605, code := Value.ref 363 } }
noncomputable def o_410 (P : Params) : Obj := { cls := Value.type "tuple", data := Data.seq #[] }
noncomputable def o_411 (P : Params) : Obj := { cls := Value.none, data := Data.fields #[] }
noncomputable def o_412 (P : Params) : Obj := { cls := Value.type "tuple", data := Data.seq #[Value.str "pieces" 667, Value.str "found" 668, Value.str "piece" 669, Value.str "at" 670] }
noncomputable def o_413 (P : Params) : Obj := { cls := Value.type "tuple", data := Data.seq #[] }
noncomputable def o_414 (P : Params) : Obj := { cls := Value.none, data := Data.func { name := "sorted_intervals", qualname := "sorted_intervals", params := (dv "sorted_intervals").params, body := FuncBody.stmts (dv "sorted_intervals").body, scope := (dv "sorted_intervals").scope, globals := 0, closure := [], defaults := Value.none, kwdefaults := Value.none } }
noncomputable def o_415 (P : Params) : Obj := { cls := Value.type "code", data := Data.fields #[Value.str "sorted_intervals" 664, Value.str "sorted_intervals" 665, Value.str "/claim/cut.py" 666, Value.int 247 0, Value.int 1 0, Value.int 0 0, Value.int 0 0, Value.int 3 0, Value.ref 365, Value.bool true, Value.int 181 0, Value.ref 366, Value.none, Value.ref 367, Value.ref 368, Value.ref 369, Value.int 671 0, Value.int 247 0, Value.str "/claim/cut.py" 672] }
noncomputable def o_416 (P : Params) : Obj := { cls := Value.type "function", data := Data.func { name := "sorted_intervals", qualname := "sorted_intervals", params := (dv "sorted_intervals").params, body := FuncBody.stmts (dv "sorted_intervals").body, scope := (dv "sorted_intervals").scope, globals := 3, closure := [], defaults := Value.none, kwdefaults := Value.none, pyModule := Value.str "cas.roots" 605, code := Value.ref 370 } }
noncomputable def o_417 (P : Params) : Obj := { cls := Value.type "tuple", data := Data.seq #[] }
noncomputable def o_418 (P : Params) : Obj := { cls := Value.none, data := Data.fields #[] }
noncomputable def o_419 (P : Params) : Obj := { cls := Value.type "tuple", data := Data.seq #[Value.str "f" 677, Value.str "interval" 678, Value.str "low" 679, Value.str "high" 680, Value.str "x" 681, Value.str "here" 682] }
noncomputable def o_420 (P : Params) : Obj := { cls := Value.type "tuple", data := Data.seq #[] }
noncomputable def o_421 (P : Params) : Obj := { cls := Value.none, data := Data.func { name := "halved", qualname := "halved", params := (dv "halved").params, body := FuncBody.stmts (dv "halved").body, scope := (dv "halved").scope, globals := 0, closure := [], defaults := Value.none, kwdefaults := Value.none } }
noncomputable def o_422 (P : Params) : Obj := { cls := Value.type "code", data := Data.fields #[Value.str "halved" 674, Value.str "halved" 675, Value.str "/claim/cut.py" 676, Value.int 255 0, Value.int 2 0, Value.int 0 0, Value.int 0 0, Value.int 3 0, Value.ref 372, Value.bool true, Value.int 181 0, Value.ref 373, Value.none, Value.ref 374, Value.ref 375, Value.ref 376, Value.int 683 0, Value.int 255 0, Value.str "/claim/cut.py" 684] }
noncomputable def o_423 (P : Params) : Obj := { cls := Value.type "function", data := Data.func { name := "halved", qualname := "halved", params := (dv "halved").params, body := FuncBody.stmts (dv "halved").body, scope := (dv "halved").scope, globals := 3, closure := [], defaults := Value.none, kwdefaults := Value.none, pyModule := Value.str "cas.roots" 605, code := Value.ref 377 } }
noncomputable def o_424 (P : Params) : Obj := { cls := Value.type "tuple", data := Data.seq #[] }
noncomputable def o_425 (P : Params) : Obj := { cls := Value.none, data := Data.fields #[] }
noncomputable def o_426 (P : Params) : Obj := { cls := Value.type "tuple", data := Data.seq #[Value.str "f" 689, Value.str "interval" 690, Value.str "width" 691, Value.str "left" 692] }
noncomputable def o_427 (P : Params) : Obj := { cls := Value.type "tuple", data := Data.seq #[] }
noncomputable def o_428 (P : Params) : Obj := { cls := Value.none, data := Data.func { name := "refine", qualname := "refine", params := (dv "refine").params, body := FuncBody.stmts (dv "refine").body, scope := (dv "refine").scope, globals := 0, closure := [], defaults := Value.none, kwdefaults := Value.none } }
noncomputable def o_429 (P : Params) : Obj := { cls := Value.type "code", data := Data.fields #[Value.str "refine" 686, Value.str "refine" 687, Value.str "/claim/cut.py" 688, Value.int 262 0, Value.int 3 0, Value.int 0 0, Value.int 0 0, Value.int 3 0, Value.ref 379, Value.bool true, Value.int 181 0, Value.ref 380, Value.none, Value.ref 381, Value.ref 382, Value.ref 383, Value.int 693 0, Value.int 262 0, Value.str "/claim/cut.py" 694] }
noncomputable def o_430 (P : Params) : Obj := { cls := Value.type "function", data := Data.func { name := "refine", qualname := "refine", params := (dv "refine").params, body := FuncBody.stmts (dv "refine").body, scope := (dv "refine").scope, globals := 3, closure := [], defaults := Value.none, kwdefaults := Value.none, pyModule := Value.str "cas.roots" 605, code := Value.ref 384 } }
noncomputable def tree_430 (P : Params) : BT := BT.node (boot_o_0 P) (BT.node (boot_o_1 P) (BT.node (o_352 P) (BT.node (boot_o_7 P) (BT.node (o_52 P) (BT.node (o_68 P) (BT.node (o_102 P) (BT.node (o_166 P) (BT.node (o_298 P) BT.nil BT.nil) (BT.node (o_428 P) BT.nil BT.nil)) (BT.node (o_232 P) (BT.node (o_364 P) BT.nil BT.nil) BT.nil)) (BT.node (o_134 P) (BT.node (o_200 P) (BT.node (o_330 P) BT.nil BT.nil) BT.nil) (BT.node (o_264 P) (BT.node (o_396 P) BT.nil BT.nil) BT.nil))) (BT.node (o_84 P) (BT.node (o_118 P) (BT.node (o_182 P) (BT.node (o_314 P) BT.nil BT.nil) BT.nil) (BT.node (o_248 P) (BT.node (o_380 P) BT.nil BT.nil) BT.nil)) (BT.node (o_150 P) (BT.node (o_216 P) (BT.node (o_346 P) BT.nil BT.nil) BT.nil) (BT.node (o_282 P) (BT.node (o_412 P) BT.nil BT.nil) BT.nil)))) (BT.node (o_60 P) (BT.node (o_76 P) (BT.node (o_110 P) (BT.node (o_174 P) (BT.node (o_306 P) BT.nil BT.nil) BT.nil) (BT.node (o_240 P) (BT.node (o_372 P) BT.nil BT.nil) BT.nil)) (BT.node (o_142 P) (BT.node (o_208 P) (BT.node (o_338 P) BT.nil BT.nil) BT.nil) (BT.node (o_274 P) (BT.node (o_404 P) BT.nil BT.nil) BT.nil))) (BT.node (o_92 P) (BT.node (o_126 P) (BT.node (o_192 P) (BT.node (o_322 P) BT.nil BT.nil) BT.nil) (BT.node (o_256 P) (BT.node (o_388 P) BT.nil BT.nil) BT.nil)) (BT.node (o_158 P) (BT.node (o_224 P) (BT.node (o_356 P) BT.nil BT.nil) BT.nil) (BT.node (o_290 P) (BT.node (o_420 P) BT.nil BT.nil) BT.nil))))) (BT.node (o_43 P) (BT.node (o_56 P) (BT.node (o_72 P) (BT.node (o_106 P) (BT.node (o_170 P) (BT.node (o_302 P) BT.nil BT.nil) BT.nil) (BT.node (o_236 P) (BT.node (o_368 P) BT.nil BT.nil) BT.nil)) (BT.node (o_138 P) (BT.node (o_204 P) (BT.node (o_334 P) BT.nil BT.nil) BT.nil) (BT.node (o_270 P) (BT.node (o_400 P) BT.nil BT.nil) BT.nil))) (BT.node (o_88 P) (BT.node (o_122 P) (BT.node (o_188 P) (BT.node (o_318 P) BT.nil BT.nil) BT.nil) (BT.node (o_252 P) (BT.node (o_384 P) BT.nil BT.nil) BT.nil)) (BT.node (o_154 P) (BT.node (o_220 P) (BT.node (o_350 P) BT.nil BT.nil) BT.nil) (BT.node (o_286 P) (BT.node (o_416 P) BT.nil BT.nil) BT.nil)))) (BT.node (o_64 P) (BT.node (o_80 P) (BT.node (o_114 P) (BT.node (o_178 P) (BT.node (o_310 P) BT.nil BT.nil) BT.nil) (BT.node (o_244 P) (BT.node (o_376 P) BT.nil BT.nil) BT.nil)) (BT.node (o_146 P) (BT.node (o_212 P) (BT.node (o_342 P) BT.nil BT.nil) BT.nil) (BT.node (o_278 P) (BT.node (o_408 P) BT.nil BT.nil) BT.nil))) (BT.node (o_96 P) (BT.node (o_130 P) (BT.node (o_196 P) (BT.node (o_326 P) BT.nil BT.nil) BT.nil) (BT.node (o_260 P) (BT.node (o_392 P) BT.nil BT.nil) BT.nil)) (BT.node (o_162 P) (BT.node (o_228 P) (BT.node (o_360 P) BT.nil BT.nil) BT.nil) (BT.node (o_294 P) (BT.node (o_424 P) BT.nil BT.nil) BT.nil)))))) (BT.node (boot_o_5 P) (BT.node (boot_o_9 P) (BT.node (o_54 P) (BT.node (o_70 P) (BT.node (o_104 P) (BT.node (o_168 P) (BT.node (o_300 P) BT.nil BT.nil) (BT.node (o_430 P) BT.nil BT.nil)) (BT.node (o_234 P) (BT.node (o_366 P) BT.nil BT.nil) BT.nil)) (BT.node (o_136 P) (BT.node (o_202 P) (BT.node (o_332 P) BT.nil BT.nil) BT.nil) (BT.node (o_266 P) (BT.node (o_398 P) BT.nil BT.nil) BT.nil))) (BT.node (o_86 P) (BT.node (o_120 P) (BT.node (o_184 P) (BT.node (o_316 P) BT.nil BT.nil) BT.nil) (BT.node (o_250 P) (BT.node (o_382 P) BT.nil BT.nil) BT.nil)) (BT.node (o_152 P) (BT.node (o_218 P) (BT.node (o_348 P) BT.nil BT.nil) BT.nil) (BT.node (o_284 P) (BT.node (o_414 P) BT.nil BT.nil) BT.nil)))) (BT.node (o_62 P) (BT.node (o_78 P) (BT.node (o_112 P) (BT.node (o_176 P) (BT.node (o_308 P) BT.nil BT.nil) BT.nil) (BT.node (o_242 P) (BT.node (o_374 P) BT.nil BT.nil) BT.nil)) (BT.node (o_144 P) (BT.node (o_210 P) (BT.node (o_340 P) BT.nil BT.nil) BT.nil) (BT.node (o_276 P) (BT.node (o_406 P) BT.nil BT.nil) BT.nil))) (BT.node (o_94 P) (BT.node (o_128 P) (BT.node (o_194 P) (BT.node (o_324 P) BT.nil BT.nil) BT.nil) (BT.node (o_258 P) (BT.node (o_390 P) BT.nil BT.nil) BT.nil)) (BT.node (o_160 P) (BT.node (o_226 P) (BT.node (o_358 P) BT.nil BT.nil) BT.nil) (BT.node (o_292 P) (BT.node (o_422 P) BT.nil BT.nil) BT.nil))))) (BT.node (o_45 P) (BT.node (o_58 P) (BT.node (o_74 P) (BT.node (o_108 P) (BT.node (o_172 P) (BT.node (o_304 P) BT.nil BT.nil) BT.nil) (BT.node (o_238 P) (BT.node (o_370 P) BT.nil BT.nil) BT.nil)) (BT.node (o_140 P) (BT.node (o_206 P) (BT.node (o_336 P) BT.nil BT.nil) BT.nil) (BT.node (o_272 P) (BT.node (o_402 P) BT.nil BT.nil) BT.nil))) (BT.node (o_90 P) (BT.node (o_124 P) (BT.node (o_190 P) (BT.node (o_320 P) BT.nil BT.nil) BT.nil) (BT.node (o_254 P) (BT.node (o_386 P) BT.nil BT.nil) BT.nil)) (BT.node (o_156 P) (BT.node (o_222 P) (BT.node (o_354 P) BT.nil BT.nil) BT.nil) (BT.node (o_288 P) (BT.node (o_418 P) BT.nil BT.nil) BT.nil)))) (BT.node (o_66 P) (BT.node (o_82 P) (BT.node (o_116 P) (BT.node (o_180 P) (BT.node (o_312 P) BT.nil BT.nil) BT.nil) (BT.node (o_246 P) (BT.node (o_378 P) BT.nil BT.nil) BT.nil)) (BT.node (o_148 P) (BT.node (o_214 P) (BT.node (o_344 P) BT.nil BT.nil) BT.nil) (BT.node (o_280 P) (BT.node (o_410 P) BT.nil BT.nil) BT.nil))) (BT.node (o_98 P) (BT.node (o_132 P) (BT.node (o_198 P) (BT.node (o_328 P) BT.nil BT.nil) BT.nil) (BT.node (o_262 P) (BT.node (o_394 P) BT.nil BT.nil) BT.nil)) (BT.node (o_164 P) (BT.node (o_230 P) (BT.node (o_362 P) BT.nil BT.nil) BT.nil) (BT.node (o_296 P) (BT.node (o_426 P) BT.nil BT.nil) BT.nil))))))) (BT.node (o_49 P) (BT.node (boot_o_4 P) (BT.node (boot_o_8 P) (BT.node (o_53 P) (BT.node (o_69 P) (BT.node (o_103 P) (BT.node (o_167 P) (BT.node (o_299 P) BT.nil BT.nil) (BT.node (o_429 P) BT.nil BT.nil)) (BT.node (o_233 P) (BT.node (o_365 P) BT.nil BT.nil) BT.nil)) (BT.node (o_135 P) (BT.node (o_201 P) (BT.node (o_331 P) BT.nil BT.nil) BT.nil) (BT.node (o_265 P) (BT.node (o_397 P) BT.nil BT.nil) BT.nil))) (BT.node (o_85 P) (BT.node (o_119 P) (BT.node (o_183 P) (BT.node (o_315 P) BT.nil BT.nil) BT.nil) (BT.node (o_249 P) (BT.node (o_381 P) BT.nil BT.nil) BT.nil)) (BT.node (o_151 P) (BT.node (o_217 P) (BT.node (o_347 P) BT.nil BT.nil) BT.nil) (BT.node (o_283 P) (BT.node (o_413 P) BT.nil BT.nil) BT.nil)))) (BT.node (o_61 P) (BT.node (o_77 P) (BT.node (o_111 P) (BT.node (o_175 P) (BT.node (o_307 P) BT.nil BT.nil) BT.nil) (BT.node (o_241 P) (BT.node (o_373 P) BT.nil BT.nil) BT.nil)) (BT.node (o_143 P) (BT.node (o_209 P) (BT.node (o_339 P) BT.nil BT.nil) BT.nil) (BT.node (o_275 P) (BT.node (o_405 P) BT.nil BT.nil) BT.nil))) (BT.node (o_93 P) (BT.node (o_127 P) (BT.node (o_193 P) (BT.node (o_323 P) BT.nil BT.nil) BT.nil) (BT.node (o_257 P) (BT.node (o_389 P) BT.nil BT.nil) BT.nil)) (BT.node (o_159 P) (BT.node (o_225 P) (BT.node (o_357 P) BT.nil BT.nil) BT.nil) (BT.node (o_291 P) (BT.node (o_421 P) BT.nil BT.nil) BT.nil))))) (BT.node (o_353 P) (BT.node (o_57 P) (BT.node (o_73 P) (BT.node (o_107 P) (BT.node (o_171 P) (BT.node (o_303 P) BT.nil BT.nil) BT.nil) (BT.node (o_237 P) (BT.node (o_369 P) BT.nil BT.nil) BT.nil)) (BT.node (o_139 P) (BT.node (o_205 P) (BT.node (o_335 P) BT.nil BT.nil) BT.nil) (BT.node (o_271 P) (BT.node (o_401 P) BT.nil BT.nil) BT.nil))) (BT.node (o_89 P) (BT.node (o_123 P) (BT.node (o_189 P) (BT.node (o_319 P) BT.nil BT.nil) BT.nil) (BT.node (o_253 P) (BT.node (o_385 P) BT.nil BT.nil) BT.nil)) (BT.node (o_155 P) (BT.node (o_221 P) (BT.node (o_351 P) BT.nil BT.nil) BT.nil) (BT.node (o_287 P) (BT.node (o_417 P) BT.nil BT.nil) BT.nil)))) (BT.node (o_65 P) (BT.node (o_81 P) (BT.node (o_115 P) (BT.node (o_179 P) (BT.node (o_311 P) BT.nil BT.nil) BT.nil) (BT.node (o_245 P) (BT.node (o_377 P) BT.nil BT.nil) BT.nil)) (BT.node (o_147 P) (BT.node (o_213 P) (BT.node (o_343 P) BT.nil BT.nil) BT.nil) (BT.node (o_279 P) (BT.node (o_409 P) BT.nil BT.nil) BT.nil))) (BT.node (o_97 P) (BT.node (o_131 P) (BT.node (o_197 P) (BT.node (o_327 P) BT.nil BT.nil) BT.nil) (BT.node (o_261 P) (BT.node (o_393 P) BT.nil BT.nil) BT.nil)) (BT.node (o_163 P) (BT.node (o_229 P) (BT.node (o_361 P) BT.nil BT.nil) BT.nil) (BT.node (o_295 P) (BT.node (o_425 P) BT.nil BT.nil) BT.nil)))))) (BT.node (boot_o_6 P) (BT.node (boot_o_10 P) (BT.node (o_55 P) (BT.node (o_71 P) (BT.node (o_105 P) (BT.node (o_169 P) (BT.node (o_301 P) BT.nil BT.nil) BT.nil) (BT.node (o_235 P) (BT.node (o_367 P) BT.nil BT.nil) BT.nil)) (BT.node (o_137 P) (BT.node (o_203 P) (BT.node (o_333 P) BT.nil BT.nil) BT.nil) (BT.node (o_267 P) (BT.node (o_399 P) BT.nil BT.nil) BT.nil))) (BT.node (o_87 P) (BT.node (o_121 P) (BT.node (o_187 P) (BT.node (o_317 P) BT.nil BT.nil) BT.nil) (BT.node (o_251 P) (BT.node (o_383 P) BT.nil BT.nil) BT.nil)) (BT.node (o_153 P) (BT.node (o_219 P) (BT.node (o_349 P) BT.nil BT.nil) BT.nil) (BT.node (o_285 P) (BT.node (o_415 P) BT.nil BT.nil) BT.nil)))) (BT.node (o_63 P) (BT.node (o_79 P) (BT.node (o_113 P) (BT.node (o_177 P) (BT.node (o_309 P) BT.nil BT.nil) BT.nil) (BT.node (o_243 P) (BT.node (o_375 P) BT.nil BT.nil) BT.nil)) (BT.node (o_145 P) (BT.node (o_211 P) (BT.node (o_341 P) BT.nil BT.nil) BT.nil) (BT.node (o_277 P) (BT.node (o_407 P) BT.nil BT.nil) BT.nil))) (BT.node (o_95 P) (BT.node (o_129 P) (BT.node (o_195 P) (BT.node (o_325 P) BT.nil BT.nil) BT.nil) (BT.node (o_259 P) (BT.node (o_391 P) BT.nil BT.nil) BT.nil)) (BT.node (o_161 P) (BT.node (o_227 P) (BT.node (o_359 P) BT.nil BT.nil) BT.nil) (BT.node (o_293 P) (BT.node (o_423 P) BT.nil BT.nil) BT.nil))))) (BT.node (o_46 P) (BT.node (o_59 P) (BT.node (o_75 P) (BT.node (o_109 P) (BT.node (o_173 P) (BT.node (o_305 P) BT.nil BT.nil) BT.nil) (BT.node (o_239 P) (BT.node (o_371 P) BT.nil BT.nil) BT.nil)) (BT.node (o_141 P) (BT.node (o_207 P) (BT.node (o_337 P) BT.nil BT.nil) BT.nil) (BT.node (o_273 P) (BT.node (o_403 P) BT.nil BT.nil) BT.nil))) (BT.node (o_91 P) (BT.node (o_125 P) (BT.node (o_191 P) (BT.node (o_321 P) BT.nil BT.nil) BT.nil) (BT.node (o_255 P) (BT.node (o_387 P) BT.nil BT.nil) BT.nil)) (BT.node (o_157 P) (BT.node (o_223 P) (BT.node (o_355 P) BT.nil BT.nil) BT.nil) (BT.node (o_289 P) (BT.node (o_419 P) BT.nil BT.nil) BT.nil)))) (BT.node (o_67 P) (BT.node (o_83 P) (BT.node (o_117 P) (BT.node (o_181 P) (BT.node (o_313 P) BT.nil BT.nil) BT.nil) (BT.node (o_247 P) (BT.node (o_379 P) BT.nil BT.nil) BT.nil)) (BT.node (o_149 P) (BT.node (o_215 P) (BT.node (o_345 P) BT.nil BT.nil) BT.nil) (BT.node (o_281 P) (BT.node (o_411 P) BT.nil BT.nil) BT.nil))) (BT.node (o_99 P) (BT.node (o_133 P) (BT.node (o_199 P) (BT.node (o_329 P) BT.nil BT.nil) BT.nil) (BT.node (o_263 P) (BT.node (o_395 P) BT.nil BT.nil) BT.nil)) (BT.node (o_165 P) (BT.node (o_231 P) (BT.node (o_363 P) BT.nil BT.nil) BT.nil) (BT.node (o_297 P) (BT.node (o_427 P) BT.nil BT.nil) BT.nil)))))))
noncomputable def o_431 (P : Params) : Obj := { cls := Value.type "dict", data := Data.dict #[{ hash := PyData.keyHash P "__name__", key := Value.str "__name__" 165, val := Value.str "law_xm0157_01" 785 }, { hash := PyData.keyHash P "__doc__", key := Value.str "__doc__" 166, val := Value.none }, { hash := PyData.keyHash P "__package__", key := Value.str "__package__" 167, val := Value.none }, { hash := PyData.keyHash P "__loader__", key := Value.str "__loader__" 168, val := Value.builtin "__main__.__loader__#opaque" }, { hash := PyData.keyHash P "__spec__", key := Value.str "__spec__" 169, val := Value.none }, { hash := PyData.keyHash P "__annotations__", key := Value.str "__annotations__" 170, val := Value.ref 6 }, { hash := PyData.keyHash P "__builtins__", key := Value.str "__builtins__" 171, val := Value.ref 4 }, { hash := PyData.keyHash P "__file__", key := Value.str "__file__" 173, val := Value.str "/claim/cut.py" 172 }, { hash := PyData.keyHash P "__cached__", key := Value.str "__cached__" 174, val := Value.none }, { hash := PyData.keyHash P "CasFail", key := Value.str "CasFail" 219, val := Value.ref 31 }, { hash := PyData.keyHash P "gcd", key := Value.str "gcd" 229, val := Value.ref 41 }, { hash := PyData.keyHash P "bits_of", key := Value.str "bits_of" 239, val := Value.ref 48 }, { hash := PyData.keyHash P "gcd_all", key := Value.str "gcd_all" 248, val := Value.ref 55 }, { hash := PyData.keyHash P "root_of", key := Value.str "root_of" 259, val := Value.ref 62 }, { hash := PyData.keyHash P "is_square", key := Value.str "is_square" 266, val := Value.ref 69 }, { hash := PyData.keyHash P "least_divisor", key := Value.str "least_divisor" 275, val := Value.ref 76 }, { hash := PyData.keyHash P "prime_factors", key := Value.str "prime_factors" 285, val := Value.ref 83 }, { hash := PyData.keyHash P "divisors", key := Value.str "divisors" 291, val := Value.ref 88 }, { hash := PyData.keyHash P "R0", key := Value.str "R0" 296, val := Value.ref 89 }, { hash := PyData.keyHash P "rat", key := Value.str "rat" 305, val := Value.ref 96 }, { hash := PyData.keyHash P "radd", key := Value.str "radd" 313, val := Value.ref 103 }, { hash := PyData.keyHash P "rsub", key := Value.str "rsub" 321, val := Value.ref 110 }, { hash := PyData.keyHash P "rmul", key := Value.str "rmul" 329, val := Value.ref 117 }, { hash := PyData.keyHash P "rcompare", key := Value.str "rcompare" 338, val := Value.ref 124 }, { hash := PyData.keyHash P "rfloor", key := Value.str "rfloor" 345, val := Value.ref 131 }, { hash := PyData.keyHash P "ztrim", key := Value.str "ztrim" 355, val := Value.ref 138 }, { hash := PyData.keyHash P "zdegree", key := Value.str "zdegree" 362, val := Value.ref 145 }, { hash := PyData.keyHash P "zlead", key := Value.str "zlead" 369, val := Value.ref 152 }, { hash := PyData.keyHash P "zadd", key := Value.str "zadd" 375, val := Value.ref 157 }, { hash := PyData.keyHash P "zneg", key := Value.str "zneg" 381, val := Value.ref 162 }, { hash := PyData.keyHash P "zsub", key := Value.str "zsub" 389, val := Value.ref 169 }, { hash := PyData.keyHash P "zscale", key := Value.str "zscale" 395, val := Value.ref 174 }, { hash := PyData.keyHash P "zraise", key := Value.str "zraise" 403, val := Value.ref 181 }, { hash := PyData.keyHash P "zcontent", key := Value.str "zcontent" 410, val := Value.ref 188 }, { hash := PyData.keyHash P "zdivided", key := Value.str "zdivided" 416, val := Value.ref 193 }, { hash := PyData.keyHash P "zprimitive", key := Value.str "zprimitive" 424, val := Value.ref 200 }, { hash := PyData.keyHash P "zderive", key := Value.str "zderive" 430, val := Value.ref 205 }, { hash := PyData.keyHash P "check_bottom", key := Value.str "check_bottom" 439, val := Value.ref 212 }, { hash := PyData.keyHash P "zexact", key := Value.str "zexact" 451, val := Value.ref 219 }, { hash := PyData.keyHash P "pseudo", key := Value.str "pseudo" 467, val := Value.ref 226 }, { hash := PyData.keyHash P "zpseudo_rest", key := Value.str "zpseudo_rest" 475, val := Value.ref 233 }, { hash := PyData.keyHash P "next_height", key := Value.str "next_height" 486, val := Value.ref 240 }, { hash := PyData.keyHash P "subresultants", key := Value.str "subresultants" 499, val := Value.ref 247 }, { hash := PyData.keyHash P "zgcd", key := Value.str "zgcd" 510, val := Value.ref 254 }, { hash := PyData.keyHash P "sign_of", key := Value.str "sign_of" 519, val := Value.ref 261 }, { hash := PyData.keyHash P "value_sign", key := Value.str "value_sign" 532, val := Value.ref 268 }, { hash := PyData.keyHash P "end_sign", key := Value.str "end_sign" 541, val := Value.ref 275 }, { hash := PyData.keyHash P "sign_at", key := Value.str "sign_at" 549, val := Value.ref 282 }, { hash := PyData.keyHash P "simple_part", key := Value.str "simple_part" 557, val := Value.ref 289 }, { hash := PyData.keyHash P "lessened", key := Value.str "lessened" 563, val := Value.ref 294 }, { hash := PyData.keyHash P "next_of_row", key := Value.str "next_of_row" 574, val := Value.ref 301 }, { hash := PyData.keyHash P "sturm_row", key := Value.str "sturm_row" 583, val := Value.ref 308 }, { hash := PyData.keyHash P "changes_at", key := Value.str "changes_at" 589, val := Value.ref 313 }, { hash := PyData.keyHash P "count_by_row", key := Value.str "count_by_row" 598, val := Value.ref 320 }, { hash := PyData.keyHash P "root_bound", key := Value.str "root_bound" 604, val := Value.ref 325 }, { hash := PyData.keyHash P "HALF", key := Value.str "HALF" 609, val := Value.ref 326 }, { hash := PyData.keyHash P "MOST_DIVIDED", key := Value.str "MOST_DIVIDED" 613, val := Value.int 10000000000 612 }, { hash := PyData.keyHash P "middle", key := Value.str "middle" 621, val := Value.ref 333 }, { hash := PyData.keyHash P "linear_of", key := Value.str "linear_of" 628, val := Value.ref 340 }, { hash := PyData.keyHash P "is_inside", key := Value.str "is_inside" 636, val := Value.ref 347 }, { hash := PyData.keyHash P "split_roots", key := Value.str "split_roots" 651, val := Value.ref 354 }, { hash := PyData.keyHash P "isolate", key := Value.str "isolate" 657, val := Value.ref 359 }, { hash := PyData.keyHash P "kept_off", key := Value.str "kept_off" 663, val := Value.ref 364 }, { hash := PyData.keyHash P "sorted_intervals", key := Value.str "sorted_intervals" 673, val := Value.ref 371 }, { hash := PyData.keyHash P "halved", key := Value.str "halved" 685, val := Value.ref 378 }, { hash := PyData.keyHash P "refine", key := Value.str "refine" 695, val := Value.ref 385 }, { hash := PyData.keyHash P "rational_roots", key := Value.str "rational_roots" 706, val := Value.ref 392 }, { hash := PyData.keyHash P "tried_roots", key := Value.str "tried_roots" 717, val := Value.ref 399 }, { hash := PyData.keyHash P "candidates", key := Value.str "candidates" 730, val := Value.ref 406 }, { hash := PyData.keyHash P "sorted_roots", key := Value.str "sorted_roots" 740, val := Value.ref 413 }, { hash := PyData.keyHash P "pivot_row", key := Value.str "pivot_row" 751, val := Value.ref 420 }, { hash := PyData.keyHash P "bareiss_step", key := Value.str "bareiss_step" 764, val := Value.ref 427 }, { hash := PyData.keyHash P "determinant", key := Value.str "determinant" 770, val := Value.ref 432 }, { hash := PyData.keyHash P "whole_mul", key := Value.str "whole_mul" 778, val := Value.ref 437 }, { hash := PyData.keyHash P "whole_turned", key := Value.str "whole_turned" 784, val := Value.ref 442 }, { hash := PyData.keyHash P "_law_draw", key := Value.str "_law_draw" 795, val := Value.ref 449 }, { hash := PyData.keyHash P "_law_begin", key := Value.str "_law_begin" 813, val := Value.ref 456 }] 77 }
noncomputable def o_432 (P : Params) : Obj := { cls := Value.none, data := Data.fields #[Value.int 2 0, Value.int 0 0, Value.ref 20, Value.int 9 0, Value.int 0 0, Value.ref 40, Value.int 14 0, Value.int 0 0, Value.ref 47, Value.int 21 0, Value.int 0 0, Value.ref 54, Value.int 26 0, Value.int 0 0, Value.ref 61, Value.int 39 0, Value.int 0 0, Value.ref 68, Value.int 41 0, Value.int 0 0, Value.ref 75, Value.int 48 0, Value.int 0 0, Value.ref 82, Value.int 57 0, Value.int 0 0, Value.ref 87, Value.int 64 0, Value.int 0 0, Value.ref 95, Value.int 69 0, Value.int 0 0, Value.ref 102, Value.int 71 0, Value.int 0 0, Value.ref 109, Value.int 73 0, Value.int 0 0, Value.ref 116, Value.int 75 0, Value.int 0 0, Value.ref 123, Value.int 78 0, Value.int 0 0, Value.ref 130, Value.int 81 0, Value.int 0 0, Value.ref 137, Value.int 86 0, Value.int 0 0, Value.ref 144, Value.int 88 0, Value.int 0 0, Value.ref 151, Value.int 90 0, Value.int 0 0, Value.ref 156, Value.int 93 0, Value.int 0 0, Value.ref 161, Value.int 95 0, Value.int 0 0, Value.ref 168, Value.int 97 0, Value.int 0 0, Value.ref 173, Value.int 99 0, Value.int 0 0, Value.ref 180, Value.int 101 0, Value.int 0 0, Value.ref 187, Value.int 103 0, Value.int 0 0, Value.ref 192, Value.int 105 0, Value.int 0 0, Value.ref 199, Value.int 110 0, Value.int 0 0, Value.ref 204, Value.int 113 0, Value.int 0 0, Value.ref 211, Value.int 116 0, Value.int 0 0, Value.ref 218, Value.int 126 0, Value.int 0 0, Value.ref 225, Value.int 137 0, Value.int 0 0, Value.ref 232, Value.int 140 0, Value.int 0 0, Value.ref 239, Value.int 144 0, Value.int 0 0, Value.ref 246, Value.int 158 0, Value.int 0 0, Value.ref 253, Value.int 166 0, Value.int 0 0, Value.ref 260, Value.int 168 0, Value.int 0 0, Value.ref 267, Value.int 175 0, Value.int 0 0, Value.ref 274, Value.int 180 0, Value.int 0 0, Value.ref 281, Value.int 182 0, Value.int 0 0, Value.ref 288, Value.int 185 0, Value.int 0 0, Value.ref 293, Value.int 188 0, Value.int 0 0, Value.ref 300, Value.int 193 0, Value.int 0 0, Value.ref 307, Value.int 199 0, Value.int 0 0, Value.ref 312, Value.int 203 0, Value.int 0 0, Value.ref 319, Value.int 205 0, Value.int 0 0, Value.ref 324, Value.int 211 0, Value.int 0 0, Value.ref 332, Value.int 213 0, Value.int 0 0, Value.ref 339, Value.int 215 0, Value.int 0 0, Value.ref 346, Value.int 217 0, Value.int 0 0, Value.ref 353, Value.int 232 0, Value.int 0 0, Value.ref 358, Value.int 243 0, Value.int 0 0, Value.ref 363, Value.int 247 0, Value.int 0 0, Value.ref 370, Value.int 255 0, Value.int 0 0, Value.ref 377, Value.int 262 0, Value.int 0 0, Value.ref 384, Value.int 269 0, Value.int 0 0, Value.ref 391, Value.int 283 0, Value.int 0 0, Value.ref 398, Value.int 293 0, Value.int 0 0, Value.ref 405, Value.int 304 0, Value.int 0 0, Value.ref 412, Value.int 313 0, Value.int 0 0, Value.ref 419, Value.int 318 0, Value.int 0 0, Value.ref 426, Value.int 325 0, Value.int 0 0, Value.ref 431, Value.int 340 0, Value.int 0 0, Value.ref 436, Value.int 343 0, Value.int 0 0, Value.ref 441, Value.int 346 0, Value.int 0 0, Value.ref 448, Value.int 352 0, Value.int 0 0, Value.ref 455] }
noncomputable def o_433 (P : Params) : Obj := { cls := Value.type "tuple", data := Data.seq #[] }
noncomputable def o_434 (P : Params) : Obj := { cls := Value.none, data := Data.fields #[] }
noncomputable def o_435 (P : Params) : Obj := { cls := Value.type "tuple", data := Data.seq #[Value.str "f" 699, Value.str "left" 700, Value.str "found" 701, Value.str "x" 702, Value.str "many" 703] }
noncomputable def o_436 (P : Params) : Obj := { cls := Value.type "tuple", data := Data.seq #[] }
noncomputable def o_437 (P : Params) : Obj := { cls := Value.none, data := Data.func { name := "rational_roots", qualname := "rational_roots", params := (dv "rational_roots").params, body := FuncBody.stmts (dv "rational_roots").body, scope := (dv "rational_roots").scope, globals := 0, closure := [], defaults := Value.none, kwdefaults := Value.none } }
noncomputable def o_438 (P : Params) : Obj := { cls := Value.type "code", data := Data.fields #[Value.str "rational_roots" 696, Value.str "rational_roots" 697, Value.str "/claim/cut.py" 698, Value.int 269 0, Value.int 1 0, Value.int 0 0, Value.int 0 0, Value.int 3 0, Value.ref 386, Value.bool true, Value.int 181 0, Value.ref 387, Value.none, Value.ref 388, Value.ref 389, Value.ref 390, Value.int 704 0, Value.int 269 0, Value.str "/claim/cut.py" 705] }
noncomputable def o_439 (P : Params) : Obj := { cls := Value.type "function", data := Data.func { name := "rational_roots", qualname := "rational_roots", params := (dv "rational_roots").params, body := FuncBody.stmts (dv "rational_roots").body, scope := (dv "rational_roots").scope, globals := 3, closure := [], defaults := Value.none, kwdefaults := Value.none, pyModule := Value.str "cas.roots" 605, code := Value.ref 391 } }
noncomputable def o_440 (P : Params) : Obj := { cls := Value.type "tuple", data := Data.seq #[] }
noncomputable def o_441 (P : Params) : Obj := { cls := Value.none, data := Data.fields #[] }
noncomputable def o_442 (P : Params) : Obj := { cls := Value.type "tuple", data := Data.seq #[Value.str "f" 710, Value.str "found" 711, Value.str "lead" 712, Value.str "interval" 713, Value.str "high" 714] }
noncomputable def o_443 (P : Params) : Obj := { cls := Value.type "tuple", data := Data.seq #[] }
noncomputable def o_444 (P : Params) : Obj := { cls := Value.none, data := Data.func { name := "tried_roots", qualname := "tried_roots", params := (dv "tried_roots").params, body := FuncBody.stmts (dv "tried_roots").body, scope := (dv "tried_roots").scope, globals := 0, closure := [], defaults := Value.none, kwdefaults := Value.none } }
noncomputable def o_445 (P : Params) : Obj := { cls := Value.type "code", data := Data.fields #[Value.str "tried_roots" 707, Value.str "tried_roots" 708, Value.str "/claim/cut.py" 709, Value.int 283 0, Value.int 1 0, Value.int 0 0, Value.int 0 0, Value.int 3 0, Value.ref 393, Value.bool true, Value.int 181 0, Value.ref 394, Value.none, Value.ref 395, Value.ref 396, Value.ref 397, Value.int 715 0, Value.int 283 0, Value.str "/claim/cut.py" 716] }
noncomputable def o_446 (P : Params) : Obj := { cls := Value.type "function", data := Data.func { name := "tried_roots", qualname := "tried_roots", params := (dv "tried_roots").params, body := FuncBody.stmts (dv "tried_roots").body, scope := (dv "tried_roots").scope, globals := 3, closure := [], defaults := Value.none, kwdefaults := Value.none, pyModule := Value.str "cas.roots" 605, code := Value.ref 398 } }
noncomputable def o_447 (P : Params) : Obj := { cls := Value.type "tuple", data := Data.seq #[] }
noncomputable def o_448 (P : Params) : Obj := { cls := Value.none, data := Data.fields #[] }
noncomputable def o_449 (P : Params) : Obj := { cls := Value.type "tuple", data := Data.seq #[Value.str "f" 721, Value.str "met" 722, Value.str "found" 723, Value.str "bottoms" 724, Value.str "top" 725, Value.str "bottom" 726, Value.str "x" 727] }
noncomputable def o_450 (P : Params) : Obj := { cls := Value.type "tuple", data := Data.seq #[] }
noncomputable def o_451 (P : Params) : Obj := { cls := Value.none, data := Data.func { name := "candidates", qualname := "candidates", params := (dv "candidates").params, body := FuncBody.stmts (dv "candidates").body, scope := (dv "candidates").scope, globals := 0, closure := [], defaults := Value.none, kwdefaults := Value.none } }
noncomputable def o_452 (P : Params) : Obj := { cls := Value.type "code", data := Data.fields #[Value.str "candidates" 718, Value.str "candidates" 719, Value.str "/claim/cut.py" 720, Value.int 293 0, Value.int 1 0, Value.int 0 0, Value.int 0 0, Value.int 3 0, Value.ref 400, Value.bool true, Value.int 181 0, Value.ref 401, Value.none, Value.ref 402, Value.ref 403, Value.ref 404, Value.int 728 0, Value.int 293 0, Value.str "/claim/cut.py" 729] }
noncomputable def o_453 (P : Params) : Obj := { cls := Value.type "function", data := Data.func { name := "candidates", qualname := "candidates", params := (dv "candidates").params, body := FuncBody.stmts (dv "candidates").body, scope := (dv "candidates").scope, globals := 3, closure := [], defaults := Value.none, kwdefaults := Value.none, pyModule := Value.str "cas.roots" 605, code := Value.ref 405 } }
noncomputable def o_454 (P : Params) : Obj := { cls := Value.type "tuple", data := Data.seq #[] }
noncomputable def o_455 (P : Params) : Obj := { cls := Value.none, data := Data.fields #[] }
noncomputable def o_456 (P : Params) : Obj := { cls := Value.type "tuple", data := Data.seq #[Value.str "pairs" 734, Value.str "found" 735, Value.str "pair" 736, Value.str "at" 737] }
noncomputable def o_457 (P : Params) : Obj := { cls := Value.type "tuple", data := Data.seq #[] }
noncomputable def o_458 (P : Params) : Obj := { cls := Value.none, data := Data.func { name := "sorted_roots", qualname := "sorted_roots", params := (dv "sorted_roots").params, body := FuncBody.stmts (dv "sorted_roots").body, scope := (dv "sorted_roots").scope, globals := 0, closure := [], defaults := Value.none, kwdefaults := Value.none } }
noncomputable def o_459 (P : Params) : Obj := { cls := Value.type "code", data := Data.fields #[Value.str "sorted_roots" 731, Value.str "sorted_roots" 732, Value.str "/claim/cut.py" 733, Value.int 304 0, Value.int 1 0, Value.int 0 0, Value.int 0 0, Value.int 3 0, Value.ref 407, Value.bool true, Value.int 181 0, Value.ref 408, Value.none, Value.ref 409, Value.ref 410, Value.ref 411, Value.int 738 0, Value.int 304 0, Value.str "/claim/cut.py" 739] }
noncomputable def o_460 (P : Params) : Obj := { cls := Value.type "function", data := Data.func { name := "sorted_roots", qualname := "sorted_roots", params := (dv "sorted_roots").params, body := FuncBody.stmts (dv "sorted_roots").body, scope := (dv "sorted_roots").scope, globals := 3, closure := [], defaults := Value.none, kwdefaults := Value.none, pyModule := Value.str "cas.roots" 605, code := Value.ref 412 } }
noncomputable def o_461 (P : Params) : Obj := { cls := Value.type "tuple", data := Data.seq #[] }
noncomputable def o_462 (P : Params) : Obj := { cls := Value.none, data := Data.fields #[] }
noncomputable def o_463 (P : Params) : Obj := { cls := Value.type "tuple", data := Data.seq #[Value.str "a" 746, Value.str "step" 747, Value.str "row" 748] }
noncomputable def o_464 (P : Params) : Obj := { cls := Value.type "tuple", data := Data.seq #[] }
noncomputable def o_465 (P : Params) : Obj := { cls := Value.none, data := Data.func { name := "pivot_row", qualname := "pivot_row", params := (dv "pivot_row").params, body := FuncBody.stmts (dv "pivot_row").body, scope := (dv "pivot_row").scope, globals := 0, closure := [], defaults := Value.none, kwdefaults := Value.none } }
noncomputable def o_466 (P : Params) : Obj := { cls := Value.type "code", data := Data.fields #[Value.str "pivot_row" 743, Value.str "pivot_row" 744, Value.str "/claim/cut.py" 745, Value.int 313 0, Value.int 2 0, Value.int 0 0, Value.int 0 0, Value.int 3 0, Value.ref 414, Value.bool true, Value.int 181 0, Value.ref 415, Value.none, Value.ref 416, Value.ref 417, Value.ref 418, Value.int 749 0, Value.int 313 0, Value.str "/claim/cut.py" 750] }
noncomputable def o_467 (P : Params) : Obj := { cls := Value.type "function", data := Data.func { name := "pivot_row", qualname := "pivot_row", params := (dv "pivot_row").params, body := FuncBody.stmts (dv "pivot_row").body, scope := (dv "pivot_row").scope, globals := 3, closure := [], defaults := Value.none, kwdefaults := Value.none, pyModule := Value.str "cas.bareiss" 741, code := Value.ref 419 } }
noncomputable def o_468 (P : Params) : Obj := { cls := Value.type "tuple", data := Data.seq #[] }
noncomputable def o_469 (P : Params) : Obj := { cls := Value.none, data := Data.fields #[] }
noncomputable def o_470 (P : Params) : Obj := { cls := Value.type "tuple", data := Data.seq #[Value.str "a" 755, Value.str "step" 756, Value.str "ahead" 757, Value.str "lead" 758, Value.str "row" 759, Value.str "first" 760, Value.str "column" 761] }
noncomputable def o_471 (P : Params) : Obj := { cls := Value.type "tuple", data := Data.seq #[] }
noncomputable def o_472 (P : Params) : Obj := { cls := Value.none, data := Data.func { name := "bareiss_step", qualname := "bareiss_step", params := (dv "bareiss_step").params, body := FuncBody.stmts (dv "bareiss_step").body, scope := (dv "bareiss_step").scope, globals := 0, closure := [], defaults := Value.none, kwdefaults := Value.none } }
noncomputable def o_473 (P : Params) : Obj := { cls := Value.type "code", data := Data.fields #[Value.str "bareiss_step" 752, Value.str "bareiss_step" 753, Value.str "/claim/cut.py" 754, Value.int 318 0, Value.int 3 0, Value.int 0 0, Value.int 0 0, Value.int 3 0, Value.ref 421, Value.bool true, Value.int 181 0, Value.ref 422, Value.none, Value.ref 423, Value.ref 424, Value.ref 425, Value.int 762 0, Value.int 318 0, Value.str "/claim/cut.py" 763] }
noncomputable def o_474 (P : Params) : Obj := { cls := Value.type "function", data := Data.func { name := "bareiss_step", qualname := "bareiss_step", params := (dv "bareiss_step").params, body := FuncBody.stmts (dv "bareiss_step").body, scope := (dv "bareiss_step").scope, globals := 3, closure := [], defaults := Value.none, kwdefaults := Value.none, pyModule := Value.str "cas.bareiss" 741, code := Value.ref 426 } }
noncomputable def o_475 (P : Params) : Obj := { cls := Value.type "tuple", data := Data.seq #[] }
noncomputable def o_476 (P : Params) : Obj := { cls := Value.none, data := Data.fields #[] }
noncomputable def o_477 (P : Params) : Obj := { cls := Value.none, data := Data.func { name := "determinant", qualname := "determinant", params := (dv "determinant").params, body := FuncBody.stmts (dv "determinant").body, scope := (dv "determinant").scope, globals := 0, closure := [], defaults := Value.none, kwdefaults := Value.none } }
noncomputable def o_478 (P : Params) : Obj := { cls := Value.type "code", data := Data.fields #[Value.str "determinant" 765, Value.str "determinant" 766, Value.str "/claim/cut.py" 767, Value.int 325 0, Value.int 1 0, Value.int 0 0, Value.int 0 0, Value.int 3 0, Value.ref 428, Value.bool true, Value.int 181 0, Value.ref 429, Value.none, Value.none, Value.none, Value.ref 430, Value.int 768 0, Value.int 325 0, Value.str "/claim/cut.py" 769] }
noncomputable def o_479 (P : Params) : Obj := { cls := Value.type "function", data := Data.func { name := "determinant", qualname := "determinant", params := (dv "determinant").params, body := FuncBody.stmts (dv "determinant").body, scope := (dv "determinant").scope, globals := 3, closure := [], defaults := Value.none, kwdefaults := Value.none, pyModule := Value.str "cas.bareiss" 741, code := Value.ref 431 } }
noncomputable def o_480 (P : Params) : Obj := { cls := Value.type "tuple", data := Data.seq #[] }
noncomputable def o_481 (P : Params) : Obj := { cls := Value.none, data := Data.fields #[] }
noncomputable def o_482 (P : Params) : Obj := { cls := Value.none, data := Data.func { name := "whole_mul", qualname := "whole_mul", params := (dv "whole_mul").params, body := FuncBody.stmts (dv "whole_mul").body, scope := (dv "whole_mul").scope, globals := 0, closure := [], defaults := Value.none, kwdefaults := Value.none } }
noncomputable def o_483 (P : Params) : Obj := { cls := Value.type "code", data := Data.fields #[Value.str "whole_mul" 773, Value.str "whole_mul" 774, Value.str "/claim/cut.py" 775, Value.int 340 0, Value.int 2 0, Value.int 0 0, Value.int 0 0, Value.int 3 0, Value.ref 433, Value.bool true, Value.int 181 0, Value.ref 434, Value.none, Value.none, Value.none, Value.ref 435, Value.int 776 0, Value.int 340 0, Value.str "/claim/cut.py" 777] }
noncomputable def o_484 (P : Params) : Obj := { cls := Value.type "function", data := Data.func { name := "whole_mul", qualname := "whole_mul", params := (dv "whole_mul").params, body := FuncBody.stmts (dv "whole_mul").body, scope := (dv "whole_mul").scope, globals := 3, closure := [], defaults := Value.none, kwdefaults := Value.none, pyModule := Value.str "cas.normal" 771, code := Value.ref 436 } }
noncomputable def o_485 (P : Params) : Obj := { cls := Value.type "tuple", data := Data.seq #[] }
noncomputable def o_486 (P : Params) : Obj := { cls := Value.none, data := Data.fields #[] }
noncomputable def o_487 (P : Params) : Obj := { cls := Value.none, data := Data.func { name := "whole_turned", qualname := "whole_turned", params := (dv "whole_turned").params, body := FuncBody.stmts (dv "whole_turned").body, scope := (dv "whole_turned").scope, globals := 0, closure := [], defaults := Value.none, kwdefaults := Value.none } }
noncomputable def o_488 (P : Params) : Obj := { cls := Value.type "code", data := Data.fields #[Value.str "whole_turned" 779, Value.str "whole_turned" 780, Value.str "/claim/cut.py" 781, Value.int 343 0, Value.int 2 0, Value.int 0 0, Value.int 0 0, Value.int 3 0, Value.ref 438, Value.bool true, Value.int 181 0, Value.ref 439, Value.none, Value.none, Value.none, Value.ref 440, Value.int 782 0, Value.int 343 0, Value.str "/claim/cut.py" 783] }
noncomputable def o_489 (P : Params) : Obj := { cls := Value.type "function", data := Data.func { name := "whole_turned", qualname := "whole_turned", params := (dv "whole_turned").params, body := FuncBody.stmts (dv "whole_turned").body, scope := (dv "whole_turned").scope, globals := 3, closure := [], defaults := Value.none, kwdefaults := Value.none, pyModule := Value.str "cas.normal" 771, code := Value.ref 441 } }
noncomputable def o_490 (P : Params) : Obj := { cls := Value.type "tuple", data := Data.seq #[] }
noncomputable def o_491 (P : Params) : Obj := { cls := Value.none, data := Data.fields #[] }
noncomputable def o_492 (P : Params) : Obj := { cls := Value.type "tuple", data := Data.seq #[Value.str "pool" 790, Value.str "many" 791, Value.str "spot" 792] }
noncomputable def o_493 (P : Params) : Obj := { cls := Value.type "tuple", data := Data.seq #[] }
noncomputable def o_494 (P : Params) : Obj := { cls := Value.none, data := Data.func { name := "_law_draw", qualname := "_law_draw", params := (dv "_law_draw").params, body := FuncBody.stmts (dv "_law_draw").body, scope := (dv "_law_draw").scope, globals := 0, closure := [], defaults := Value.none, kwdefaults := Value.none } }
noncomputable def o_495 (P : Params) : Obj := { cls := Value.type "code", data := Data.fields #[Value.str "_law_draw" 787, Value.str "_law_draw" 788, Value.str "/claim/cut.py" 789, Value.int 346 0, Value.int 2 0, Value.int 0 0, Value.int 0 0, Value.int 3 0, Value.ref 443, Value.bool true, Value.int 181 0, Value.ref 444, Value.none, Value.ref 445, Value.ref 446, Value.ref 447, Value.int 793 0, Value.int 346 0, Value.str "/claim/cut.py" 794] }
noncomputable def o_496 (P : Params) : Obj := { cls := Value.type "function", data := Data.func { name := "_law_draw", qualname := "_law_draw", params := (dv "_law_draw").params, body := FuncBody.stmts (dv "_law_draw").body, scope := (dv "_law_draw").scope, globals := 3, closure := [], defaults := Value.none, kwdefaults := Value.none, pyModule := Value.str "law_xm0157_01" 785, code := Value.ref 448 } }
noncomputable def o_497 (P : Params) : Obj := { cls := Value.type "tuple", data := Data.seq #[] }
noncomputable def o_498 (P : Params) : Obj := { cls := Value.none, data := Data.fields #[] }
noncomputable def o_499 (P : Params) : Obj := { cls := Value.type "tuple", data := Data.seq #[Value.str "pool" 799, Value.str "rows" 800, Value.str "right" 801, Value.str "up" 802, Value.str "turned" 803, Value.str "found" 804, Value.str "other" 805, Value.str "bend" 806, Value.str "x" 807, Value.str "y" 808, Value.str "far" 809, Value.str "one" 810] }
noncomputable def o_500 (P : Params) : Obj := { cls := Value.type "tuple", data := Data.seq #[] }
noncomputable def o_501 (P : Params) : Obj := { cls := Value.none, data := Data.func { name := "_law_begin", qualname := "_law_begin", params := (dv "_law_begin").params, body := FuncBody.stmts (dv "_law_begin").body, scope := (dv "_law_begin").scope, globals := 0, closure := [], defaults := Value.none, kwdefaults := Value.none } }
noncomputable def o_502 (P : Params) : Obj := { cls := Value.type "code", data := Data.fields #[Value.str "_law_begin" 796, Value.str "_law_begin" 797, Value.str "/claim/cut.py" 798, Value.int 352 0, Value.int 1 0, Value.int 0 0, Value.int 0 0, Value.int 3 0, Value.ref 450, Value.bool true, Value.int 181 0, Value.ref 451, Value.none, Value.ref 452, Value.ref 453, Value.ref 454, Value.int 811 0, Value.int 352 0, Value.str "/claim/cut.py" 812] }
noncomputable def o_503 (P : Params) : Obj := { cls := Value.type "function", data := Data.func { name := "_law_begin", qualname := "_law_begin", params := (dv "_law_begin").params, body := FuncBody.stmts (dv "_law_begin").body, scope := (dv "_law_begin").scope, globals := 3, closure := [], defaults := Value.none, kwdefaults := Value.none, pyModule := Value.str "law_xm0157_01" 785, code := Value.ref 455 } }
noncomputable def tree_503 (P : Params) : BT := BT.node (boot_o_0 P) (BT.node (boot_o_1 P) (BT.node (o_431 P) (BT.node (boot_o_7 P) (BT.node (o_52 P) (BT.node (o_68 P) (BT.node (o_102 P) (BT.node (o_166 P) (BT.node (o_298 P) BT.nil BT.nil) (BT.node (o_428 P) BT.nil BT.nil)) (BT.node (o_232 P) (BT.node (o_364 P) BT.nil BT.nil) (BT.node (o_494 P) BT.nil BT.nil))) (BT.node (o_134 P) (BT.node (o_200 P) (BT.node (o_330 P) BT.nil BT.nil) (BT.node (o_462 P) BT.nil BT.nil)) (BT.node (o_264 P) (BT.node (o_396 P) BT.nil BT.nil) BT.nil))) (BT.node (o_84 P) (BT.node (o_118 P) (BT.node (o_182 P) (BT.node (o_314 P) BT.nil BT.nil) (BT.node (o_446 P) BT.nil BT.nil)) (BT.node (o_248 P) (BT.node (o_380 P) BT.nil BT.nil) BT.nil)) (BT.node (o_150 P) (BT.node (o_216 P) (BT.node (o_346 P) BT.nil BT.nil) (BT.node (o_478 P) BT.nil BT.nil)) (BT.node (o_282 P) (BT.node (o_412 P) BT.nil BT.nil) BT.nil)))) (BT.node (o_60 P) (BT.node (o_76 P) (BT.node (o_110 P) (BT.node (o_174 P) (BT.node (o_306 P) BT.nil BT.nil) (BT.node (o_438 P) BT.nil BT.nil)) (BT.node (o_240 P) (BT.node (o_372 P) BT.nil BT.nil) (BT.node (o_502 P) BT.nil BT.nil))) (BT.node (o_142 P) (BT.node (o_208 P) (BT.node (o_338 P) BT.nil BT.nil) (BT.node (o_470 P) BT.nil BT.nil)) (BT.node (o_274 P) (BT.node (o_404 P) BT.nil BT.nil) BT.nil))) (BT.node (o_92 P) (BT.node (o_126 P) (BT.node (o_192 P) (BT.node (o_322 P) BT.nil BT.nil) (BT.node (o_454 P) BT.nil BT.nil)) (BT.node (o_256 P) (BT.node (o_388 P) BT.nil BT.nil) BT.nil)) (BT.node (o_158 P) (BT.node (o_224 P) (BT.node (o_356 P) BT.nil BT.nil) (BT.node (o_486 P) BT.nil BT.nil)) (BT.node (o_290 P) (BT.node (o_420 P) BT.nil BT.nil) BT.nil))))) (BT.node (o_43 P) (BT.node (o_56 P) (BT.node (o_72 P) (BT.node (o_106 P) (BT.node (o_170 P) (BT.node (o_302 P) BT.nil BT.nil) (BT.node (o_434 P) BT.nil BT.nil)) (BT.node (o_236 P) (BT.node (o_368 P) BT.nil BT.nil) (BT.node (o_498 P) BT.nil BT.nil))) (BT.node (o_138 P) (BT.node (o_204 P) (BT.node (o_334 P) BT.nil BT.nil) (BT.node (o_466 P) BT.nil BT.nil)) (BT.node (o_270 P) (BT.node (o_400 P) BT.nil BT.nil) BT.nil))) (BT.node (o_88 P) (BT.node (o_122 P) (BT.node (o_188 P) (BT.node (o_318 P) BT.nil BT.nil) (BT.node (o_450 P) BT.nil BT.nil)) (BT.node (o_252 P) (BT.node (o_384 P) BT.nil BT.nil) BT.nil)) (BT.node (o_154 P) (BT.node (o_220 P) (BT.node (o_350 P) BT.nil BT.nil) (BT.node (o_482 P) BT.nil BT.nil)) (BT.node (o_286 P) (BT.node (o_416 P) BT.nil BT.nil) BT.nil)))) (BT.node (o_64 P) (BT.node (o_80 P) (BT.node (o_114 P) (BT.node (o_178 P) (BT.node (o_310 P) BT.nil BT.nil) (BT.node (o_442 P) BT.nil BT.nil)) (BT.node (o_244 P) (BT.node (o_376 P) BT.nil BT.nil) BT.nil)) (BT.node (o_146 P) (BT.node (o_212 P) (BT.node (o_342 P) BT.nil BT.nil) (BT.node (o_474 P) BT.nil BT.nil)) (BT.node (o_278 P) (BT.node (o_408 P) BT.nil BT.nil) BT.nil))) (BT.node (o_96 P) (BT.node (o_130 P) (BT.node (o_196 P) (BT.node (o_326 P) BT.nil BT.nil) (BT.node (o_458 P) BT.nil BT.nil)) (BT.node (o_260 P) (BT.node (o_392 P) BT.nil BT.nil) BT.nil)) (BT.node (o_162 P) (BT.node (o_228 P) (BT.node (o_360 P) BT.nil BT.nil) (BT.node (o_490 P) BT.nil BT.nil)) (BT.node (o_294 P) (BT.node (o_424 P) BT.nil BT.nil) BT.nil)))))) (BT.node (boot_o_5 P) (BT.node (boot_o_9 P) (BT.node (o_54 P) (BT.node (o_70 P) (BT.node (o_104 P) (BT.node (o_168 P) (BT.node (o_300 P) BT.nil BT.nil) (BT.node (o_430 P) BT.nil BT.nil)) (BT.node (o_234 P) (BT.node (o_366 P) BT.nil BT.nil) (BT.node (o_496 P) BT.nil BT.nil))) (BT.node (o_136 P) (BT.node (o_202 P) (BT.node (o_332 P) BT.nil BT.nil) (BT.node (o_464 P) BT.nil BT.nil)) (BT.node (o_266 P) (BT.node (o_398 P) BT.nil BT.nil) BT.nil))) (BT.node (o_86 P) (BT.node (o_120 P) (BT.node (o_184 P) (BT.node (o_316 P) BT.nil BT.nil) (BT.node (o_448 P) BT.nil BT.nil)) (BT.node (o_250 P) (BT.node (o_382 P) BT.nil BT.nil) BT.nil)) (BT.node (o_152 P) (BT.node (o_218 P) (BT.node (o_348 P) BT.nil BT.nil) (BT.node (o_480 P) BT.nil BT.nil)) (BT.node (o_284 P) (BT.node (o_414 P) BT.nil BT.nil) BT.nil)))) (BT.node (o_62 P) (BT.node (o_78 P) (BT.node (o_112 P) (BT.node (o_176 P) (BT.node (o_308 P) BT.nil BT.nil) (BT.node (o_440 P) BT.nil BT.nil)) (BT.node (o_242 P) (BT.node (o_374 P) BT.nil BT.nil) BT.nil)) (BT.node (o_144 P) (BT.node (o_210 P) (BT.node (o_340 P) BT.nil BT.nil) (BT.node (o_472 P) BT.nil BT.nil)) (BT.node (o_276 P) (BT.node (o_406 P) BT.nil BT.nil) BT.nil))) (BT.node (o_94 P) (BT.node (o_128 P) (BT.node (o_194 P) (BT.node (o_324 P) BT.nil BT.nil) (BT.node (o_456 P) BT.nil BT.nil)) (BT.node (o_258 P) (BT.node (o_390 P) BT.nil BT.nil) BT.nil)) (BT.node (o_160 P) (BT.node (o_226 P) (BT.node (o_358 P) BT.nil BT.nil) (BT.node (o_488 P) BT.nil BT.nil)) (BT.node (o_292 P) (BT.node (o_422 P) BT.nil BT.nil) BT.nil))))) (BT.node (o_45 P) (BT.node (o_58 P) (BT.node (o_74 P) (BT.node (o_108 P) (BT.node (o_172 P) (BT.node (o_304 P) BT.nil BT.nil) (BT.node (o_436 P) BT.nil BT.nil)) (BT.node (o_238 P) (BT.node (o_370 P) BT.nil BT.nil) (BT.node (o_500 P) BT.nil BT.nil))) (BT.node (o_140 P) (BT.node (o_206 P) (BT.node (o_336 P) BT.nil BT.nil) (BT.node (o_468 P) BT.nil BT.nil)) (BT.node (o_272 P) (BT.node (o_402 P) BT.nil BT.nil) BT.nil))) (BT.node (o_90 P) (BT.node (o_124 P) (BT.node (o_190 P) (BT.node (o_320 P) BT.nil BT.nil) (BT.node (o_452 P) BT.nil BT.nil)) (BT.node (o_254 P) (BT.node (o_386 P) BT.nil BT.nil) BT.nil)) (BT.node (o_156 P) (BT.node (o_222 P) (BT.node (o_354 P) BT.nil BT.nil) (BT.node (o_484 P) BT.nil BT.nil)) (BT.node (o_288 P) (BT.node (o_418 P) BT.nil BT.nil) BT.nil)))) (BT.node (o_66 P) (BT.node (o_82 P) (BT.node (o_116 P) (BT.node (o_180 P) (BT.node (o_312 P) BT.nil BT.nil) (BT.node (o_444 P) BT.nil BT.nil)) (BT.node (o_246 P) (BT.node (o_378 P) BT.nil BT.nil) BT.nil)) (BT.node (o_148 P) (BT.node (o_214 P) (BT.node (o_344 P) BT.nil BT.nil) (BT.node (o_476 P) BT.nil BT.nil)) (BT.node (o_280 P) (BT.node (o_410 P) BT.nil BT.nil) BT.nil))) (BT.node (o_98 P) (BT.node (o_132 P) (BT.node (o_198 P) (BT.node (o_328 P) BT.nil BT.nil) (BT.node (o_460 P) BT.nil BT.nil)) (BT.node (o_262 P) (BT.node (o_394 P) BT.nil BT.nil) BT.nil)) (BT.node (o_164 P) (BT.node (o_230 P) (BT.node (o_362 P) BT.nil BT.nil) (BT.node (o_492 P) BT.nil BT.nil)) (BT.node (o_296 P) (BT.node (o_426 P) BT.nil BT.nil) BT.nil))))))) (BT.node (o_49 P) (BT.node (boot_o_4 P) (BT.node (boot_o_8 P) (BT.node (o_53 P) (BT.node (o_69 P) (BT.node (o_103 P) (BT.node (o_167 P) (BT.node (o_299 P) BT.nil BT.nil) (BT.node (o_429 P) BT.nil BT.nil)) (BT.node (o_233 P) (BT.node (o_365 P) BT.nil BT.nil) (BT.node (o_495 P) BT.nil BT.nil))) (BT.node (o_135 P) (BT.node (o_201 P) (BT.node (o_331 P) BT.nil BT.nil) (BT.node (o_463 P) BT.nil BT.nil)) (BT.node (o_265 P) (BT.node (o_397 P) BT.nil BT.nil) BT.nil))) (BT.node (o_85 P) (BT.node (o_119 P) (BT.node (o_183 P) (BT.node (o_315 P) BT.nil BT.nil) (BT.node (o_447 P) BT.nil BT.nil)) (BT.node (o_249 P) (BT.node (o_381 P) BT.nil BT.nil) BT.nil)) (BT.node (o_151 P) (BT.node (o_217 P) (BT.node (o_347 P) BT.nil BT.nil) (BT.node (o_479 P) BT.nil BT.nil)) (BT.node (o_283 P) (BT.node (o_413 P) BT.nil BT.nil) BT.nil)))) (BT.node (o_61 P) (BT.node (o_77 P) (BT.node (o_111 P) (BT.node (o_175 P) (BT.node (o_307 P) BT.nil BT.nil) (BT.node (o_439 P) BT.nil BT.nil)) (BT.node (o_241 P) (BT.node (o_373 P) BT.nil BT.nil) (BT.node (o_503 P) BT.nil BT.nil))) (BT.node (o_143 P) (BT.node (o_209 P) (BT.node (o_339 P) BT.nil BT.nil) (BT.node (o_471 P) BT.nil BT.nil)) (BT.node (o_275 P) (BT.node (o_405 P) BT.nil BT.nil) BT.nil))) (BT.node (o_93 P) (BT.node (o_127 P) (BT.node (o_193 P) (BT.node (o_323 P) BT.nil BT.nil) (BT.node (o_455 P) BT.nil BT.nil)) (BT.node (o_257 P) (BT.node (o_389 P) BT.nil BT.nil) BT.nil)) (BT.node (o_159 P) (BT.node (o_225 P) (BT.node (o_357 P) BT.nil BT.nil) (BT.node (o_487 P) BT.nil BT.nil)) (BT.node (o_291 P) (BT.node (o_421 P) BT.nil BT.nil) BT.nil))))) (BT.node (o_432 P) (BT.node (o_57 P) (BT.node (o_73 P) (BT.node (o_107 P) (BT.node (o_171 P) (BT.node (o_303 P) BT.nil BT.nil) (BT.node (o_435 P) BT.nil BT.nil)) (BT.node (o_237 P) (BT.node (o_369 P) BT.nil BT.nil) (BT.node (o_499 P) BT.nil BT.nil))) (BT.node (o_139 P) (BT.node (o_205 P) (BT.node (o_335 P) BT.nil BT.nil) (BT.node (o_467 P) BT.nil BT.nil)) (BT.node (o_271 P) (BT.node (o_401 P) BT.nil BT.nil) BT.nil))) (BT.node (o_89 P) (BT.node (o_123 P) (BT.node (o_189 P) (BT.node (o_319 P) BT.nil BT.nil) (BT.node (o_451 P) BT.nil BT.nil)) (BT.node (o_253 P) (BT.node (o_385 P) BT.nil BT.nil) BT.nil)) (BT.node (o_155 P) (BT.node (o_221 P) (BT.node (o_351 P) BT.nil BT.nil) (BT.node (o_483 P) BT.nil BT.nil)) (BT.node (o_287 P) (BT.node (o_417 P) BT.nil BT.nil) BT.nil)))) (BT.node (o_65 P) (BT.node (o_81 P) (BT.node (o_115 P) (BT.node (o_179 P) (BT.node (o_311 P) BT.nil BT.nil) (BT.node (o_443 P) BT.nil BT.nil)) (BT.node (o_245 P) (BT.node (o_377 P) BT.nil BT.nil) BT.nil)) (BT.node (o_147 P) (BT.node (o_213 P) (BT.node (o_343 P) BT.nil BT.nil) (BT.node (o_475 P) BT.nil BT.nil)) (BT.node (o_279 P) (BT.node (o_409 P) BT.nil BT.nil) BT.nil))) (BT.node (o_97 P) (BT.node (o_131 P) (BT.node (o_197 P) (BT.node (o_327 P) BT.nil BT.nil) (BT.node (o_459 P) BT.nil BT.nil)) (BT.node (o_261 P) (BT.node (o_393 P) BT.nil BT.nil) BT.nil)) (BT.node (o_163 P) (BT.node (o_229 P) (BT.node (o_361 P) BT.nil BT.nil) (BT.node (o_491 P) BT.nil BT.nil)) (BT.node (o_295 P) (BT.node (o_425 P) BT.nil BT.nil) BT.nil)))))) (BT.node (boot_o_6 P) (BT.node (boot_o_10 P) (BT.node (o_55 P) (BT.node (o_71 P) (BT.node (o_105 P) (BT.node (o_169 P) (BT.node (o_301 P) BT.nil BT.nil) (BT.node (o_433 P) BT.nil BT.nil)) (BT.node (o_235 P) (BT.node (o_367 P) BT.nil BT.nil) (BT.node (o_497 P) BT.nil BT.nil))) (BT.node (o_137 P) (BT.node (o_203 P) (BT.node (o_333 P) BT.nil BT.nil) (BT.node (o_465 P) BT.nil BT.nil)) (BT.node (o_267 P) (BT.node (o_399 P) BT.nil BT.nil) BT.nil))) (BT.node (o_87 P) (BT.node (o_121 P) (BT.node (o_187 P) (BT.node (o_317 P) BT.nil BT.nil) (BT.node (o_449 P) BT.nil BT.nil)) (BT.node (o_251 P) (BT.node (o_383 P) BT.nil BT.nil) BT.nil)) (BT.node (o_153 P) (BT.node (o_219 P) (BT.node (o_349 P) BT.nil BT.nil) (BT.node (o_481 P) BT.nil BT.nil)) (BT.node (o_285 P) (BT.node (o_415 P) BT.nil BT.nil) BT.nil)))) (BT.node (o_63 P) (BT.node (o_79 P) (BT.node (o_113 P) (BT.node (o_177 P) (BT.node (o_309 P) BT.nil BT.nil) (BT.node (o_441 P) BT.nil BT.nil)) (BT.node (o_243 P) (BT.node (o_375 P) BT.nil BT.nil) BT.nil)) (BT.node (o_145 P) (BT.node (o_211 P) (BT.node (o_341 P) BT.nil BT.nil) (BT.node (o_473 P) BT.nil BT.nil)) (BT.node (o_277 P) (BT.node (o_407 P) BT.nil BT.nil) BT.nil))) (BT.node (o_95 P) (BT.node (o_129 P) (BT.node (o_195 P) (BT.node (o_325 P) BT.nil BT.nil) (BT.node (o_457 P) BT.nil BT.nil)) (BT.node (o_259 P) (BT.node (o_391 P) BT.nil BT.nil) BT.nil)) (BT.node (o_161 P) (BT.node (o_227 P) (BT.node (o_359 P) BT.nil BT.nil) (BT.node (o_489 P) BT.nil BT.nil)) (BT.node (o_293 P) (BT.node (o_423 P) BT.nil BT.nil) BT.nil))))) (BT.node (o_46 P) (BT.node (o_59 P) (BT.node (o_75 P) (BT.node (o_109 P) (BT.node (o_173 P) (BT.node (o_305 P) BT.nil BT.nil) (BT.node (o_437 P) BT.nil BT.nil)) (BT.node (o_239 P) (BT.node (o_371 P) BT.nil BT.nil) (BT.node (o_501 P) BT.nil BT.nil))) (BT.node (o_141 P) (BT.node (o_207 P) (BT.node (o_337 P) BT.nil BT.nil) (BT.node (o_469 P) BT.nil BT.nil)) (BT.node (o_273 P) (BT.node (o_403 P) BT.nil BT.nil) BT.nil))) (BT.node (o_91 P) (BT.node (o_125 P) (BT.node (o_191 P) (BT.node (o_321 P) BT.nil BT.nil) (BT.node (o_453 P) BT.nil BT.nil)) (BT.node (o_255 P) (BT.node (o_387 P) BT.nil BT.nil) BT.nil)) (BT.node (o_157 P) (BT.node (o_223 P) (BT.node (o_355 P) BT.nil BT.nil) (BT.node (o_485 P) BT.nil BT.nil)) (BT.node (o_289 P) (BT.node (o_419 P) BT.nil BT.nil) BT.nil)))) (BT.node (o_67 P) (BT.node (o_83 P) (BT.node (o_117 P) (BT.node (o_181 P) (BT.node (o_313 P) BT.nil BT.nil) (BT.node (o_445 P) BT.nil BT.nil)) (BT.node (o_247 P) (BT.node (o_379 P) BT.nil BT.nil) BT.nil)) (BT.node (o_149 P) (BT.node (o_215 P) (BT.node (o_345 P) BT.nil BT.nil) (BT.node (o_477 P) BT.nil BT.nil)) (BT.node (o_281 P) (BT.node (o_411 P) BT.nil BT.nil) BT.nil))) (BT.node (o_99 P) (BT.node (o_133 P) (BT.node (o_199 P) (BT.node (o_329 P) BT.nil BT.nil) (BT.node (o_461 P) BT.nil BT.nil)) (BT.node (o_263 P) (BT.node (o_395 P) BT.nil BT.nil) BT.nil)) (BT.node (o_165 P) (BT.node (o_231 P) (BT.node (o_363 P) BT.nil BT.nil) (BT.node (o_493 P) BT.nil BT.nil)) (BT.node (o_297 P) (BT.node (o_427 P) BT.nil BT.nil) BT.nil)))))))
noncomputable def o_504 (P : Params) : Obj := { cls := Value.type "dict", data := Data.dict #[{ hash := PyData.keyHash P "__name__", key := Value.str "__name__" 165, val := Value.str "law_xm0157_01" 785 }, { hash := PyData.keyHash P "__doc__", key := Value.str "__doc__" 166, val := Value.none }, { hash := PyData.keyHash P "__package__", key := Value.str "__package__" 167, val := Value.none }, { hash := PyData.keyHash P "__loader__", key := Value.str "__loader__" 168, val := Value.builtin "__main__.__loader__#opaque" }, { hash := PyData.keyHash P "__spec__", key := Value.str "__spec__" 169, val := Value.none }, { hash := PyData.keyHash P "__annotations__", key := Value.str "__annotations__" 170, val := Value.ref 6 }, { hash := PyData.keyHash P "__builtins__", key := Value.str "__builtins__" 171, val := Value.ref 4 }, { hash := PyData.keyHash P "__file__", key := Value.str "__file__" 173, val := Value.str "/claim/cut.py" 172 }, { hash := PyData.keyHash P "__cached__", key := Value.str "__cached__" 174, val := Value.none }, { hash := PyData.keyHash P "CasFail", key := Value.str "CasFail" 219, val := Value.ref 31 }, { hash := PyData.keyHash P "gcd", key := Value.str "gcd" 229, val := Value.ref 41 }, { hash := PyData.keyHash P "bits_of", key := Value.str "bits_of" 239, val := Value.ref 48 }, { hash := PyData.keyHash P "gcd_all", key := Value.str "gcd_all" 248, val := Value.ref 55 }, { hash := PyData.keyHash P "root_of", key := Value.str "root_of" 259, val := Value.ref 62 }, { hash := PyData.keyHash P "is_square", key := Value.str "is_square" 266, val := Value.ref 69 }, { hash := PyData.keyHash P "least_divisor", key := Value.str "least_divisor" 275, val := Value.ref 76 }, { hash := PyData.keyHash P "prime_factors", key := Value.str "prime_factors" 285, val := Value.ref 83 }, { hash := PyData.keyHash P "divisors", key := Value.str "divisors" 291, val := Value.ref 88 }, { hash := PyData.keyHash P "R0", key := Value.str "R0" 296, val := Value.ref 89 }, { hash := PyData.keyHash P "rat", key := Value.str "rat" 305, val := Value.ref 96 }, { hash := PyData.keyHash P "radd", key := Value.str "radd" 313, val := Value.ref 103 }, { hash := PyData.keyHash P "rsub", key := Value.str "rsub" 321, val := Value.ref 110 }, { hash := PyData.keyHash P "rmul", key := Value.str "rmul" 329, val := Value.ref 117 }, { hash := PyData.keyHash P "rcompare", key := Value.str "rcompare" 338, val := Value.ref 124 }, { hash := PyData.keyHash P "rfloor", key := Value.str "rfloor" 345, val := Value.ref 131 }, { hash := PyData.keyHash P "ztrim", key := Value.str "ztrim" 355, val := Value.ref 138 }, { hash := PyData.keyHash P "zdegree", key := Value.str "zdegree" 362, val := Value.ref 145 }, { hash := PyData.keyHash P "zlead", key := Value.str "zlead" 369, val := Value.ref 152 }, { hash := PyData.keyHash P "zadd", key := Value.str "zadd" 375, val := Value.ref 157 }, { hash := PyData.keyHash P "zneg", key := Value.str "zneg" 381, val := Value.ref 162 }, { hash := PyData.keyHash P "zsub", key := Value.str "zsub" 389, val := Value.ref 169 }, { hash := PyData.keyHash P "zscale", key := Value.str "zscale" 395, val := Value.ref 174 }, { hash := PyData.keyHash P "zraise", key := Value.str "zraise" 403, val := Value.ref 181 }, { hash := PyData.keyHash P "zcontent", key := Value.str "zcontent" 410, val := Value.ref 188 }, { hash := PyData.keyHash P "zdivided", key := Value.str "zdivided" 416, val := Value.ref 193 }, { hash := PyData.keyHash P "zprimitive", key := Value.str "zprimitive" 424, val := Value.ref 200 }, { hash := PyData.keyHash P "zderive", key := Value.str "zderive" 430, val := Value.ref 205 }, { hash := PyData.keyHash P "check_bottom", key := Value.str "check_bottom" 439, val := Value.ref 212 }, { hash := PyData.keyHash P "zexact", key := Value.str "zexact" 451, val := Value.ref 219 }, { hash := PyData.keyHash P "pseudo", key := Value.str "pseudo" 467, val := Value.ref 226 }, { hash := PyData.keyHash P "zpseudo_rest", key := Value.str "zpseudo_rest" 475, val := Value.ref 233 }, { hash := PyData.keyHash P "next_height", key := Value.str "next_height" 486, val := Value.ref 240 }, { hash := PyData.keyHash P "subresultants", key := Value.str "subresultants" 499, val := Value.ref 247 }, { hash := PyData.keyHash P "zgcd", key := Value.str "zgcd" 510, val := Value.ref 254 }, { hash := PyData.keyHash P "sign_of", key := Value.str "sign_of" 519, val := Value.ref 261 }, { hash := PyData.keyHash P "value_sign", key := Value.str "value_sign" 532, val := Value.ref 268 }, { hash := PyData.keyHash P "end_sign", key := Value.str "end_sign" 541, val := Value.ref 275 }, { hash := PyData.keyHash P "sign_at", key := Value.str "sign_at" 549, val := Value.ref 282 }, { hash := PyData.keyHash P "simple_part", key := Value.str "simple_part" 557, val := Value.ref 289 }, { hash := PyData.keyHash P "lessened", key := Value.str "lessened" 563, val := Value.ref 294 }, { hash := PyData.keyHash P "next_of_row", key := Value.str "next_of_row" 574, val := Value.ref 301 }, { hash := PyData.keyHash P "sturm_row", key := Value.str "sturm_row" 583, val := Value.ref 308 }, { hash := PyData.keyHash P "changes_at", key := Value.str "changes_at" 589, val := Value.ref 313 }, { hash := PyData.keyHash P "count_by_row", key := Value.str "count_by_row" 598, val := Value.ref 320 }, { hash := PyData.keyHash P "root_bound", key := Value.str "root_bound" 604, val := Value.ref 325 }, { hash := PyData.keyHash P "HALF", key := Value.str "HALF" 609, val := Value.ref 326 }, { hash := PyData.keyHash P "MOST_DIVIDED", key := Value.str "MOST_DIVIDED" 613, val := Value.int 10000000000 612 }, { hash := PyData.keyHash P "middle", key := Value.str "middle" 621, val := Value.ref 333 }, { hash := PyData.keyHash P "linear_of", key := Value.str "linear_of" 628, val := Value.ref 340 }, { hash := PyData.keyHash P "is_inside", key := Value.str "is_inside" 636, val := Value.ref 347 }, { hash := PyData.keyHash P "split_roots", key := Value.str "split_roots" 651, val := Value.ref 354 }, { hash := PyData.keyHash P "isolate", key := Value.str "isolate" 657, val := Value.ref 359 }, { hash := PyData.keyHash P "kept_off", key := Value.str "kept_off" 663, val := Value.ref 364 }, { hash := PyData.keyHash P "sorted_intervals", key := Value.str "sorted_intervals" 673, val := Value.ref 371 }, { hash := PyData.keyHash P "halved", key := Value.str "halved" 685, val := Value.ref 378 }, { hash := PyData.keyHash P "refine", key := Value.str "refine" 695, val := Value.ref 385 }, { hash := PyData.keyHash P "rational_roots", key := Value.str "rational_roots" 706, val := Value.ref 392 }, { hash := PyData.keyHash P "tried_roots", key := Value.str "tried_roots" 717, val := Value.ref 399 }, { hash := PyData.keyHash P "candidates", key := Value.str "candidates" 730, val := Value.ref 406 }, { hash := PyData.keyHash P "sorted_roots", key := Value.str "sorted_roots" 740, val := Value.ref 413 }, { hash := PyData.keyHash P "pivot_row", key := Value.str "pivot_row" 751, val := Value.ref 420 }, { hash := PyData.keyHash P "bareiss_step", key := Value.str "bareiss_step" 764, val := Value.ref 427 }, { hash := PyData.keyHash P "determinant", key := Value.str "determinant" 770, val := Value.ref 432 }, { hash := PyData.keyHash P "whole_mul", key := Value.str "whole_mul" 778, val := Value.ref 437 }, { hash := PyData.keyHash P "whole_turned", key := Value.str "whole_turned" 784, val := Value.ref 442 }, { hash := PyData.keyHash P "_law_draw", key := Value.str "_law_draw" 795, val := Value.ref 449 }, { hash := PyData.keyHash P "_law_begin", key := Value.str "_law_begin" 813, val := Value.ref 456 }, { hash := PyData.keyHash P "_law_touch", key := Value.str "_law_touch" 825, val := Value.ref 463 }, { hash := PyData.keyHash P "_law_keeps", key := Value.str "_law_keeps" 831, val := Value.ref 468 }, { hash := PyData.keyHash P "_law_mirrored", key := Value.str "_law_mirrored" 837, val := Value.ref 473 }, { hash := PyData.keyHash P "_law_least", key := Value.str "_law_least" 847, val := Value.ref 480 }, { hash := PyData.keyHash P "law", key := Value.str "law" 853, val := Value.ref 485 }] 82 }
noncomputable def o_505 (P : Params) : Obj := { cls := Value.none, data := Data.fields #[Value.int 2 0, Value.int 0 0, Value.ref 20, Value.int 9 0, Value.int 0 0, Value.ref 40, Value.int 14 0, Value.int 0 0, Value.ref 47, Value.int 21 0, Value.int 0 0, Value.ref 54, Value.int 26 0, Value.int 0 0, Value.ref 61, Value.int 39 0, Value.int 0 0, Value.ref 68, Value.int 41 0, Value.int 0 0, Value.ref 75, Value.int 48 0, Value.int 0 0, Value.ref 82, Value.int 57 0, Value.int 0 0, Value.ref 87, Value.int 64 0, Value.int 0 0, Value.ref 95, Value.int 69 0, Value.int 0 0, Value.ref 102, Value.int 71 0, Value.int 0 0, Value.ref 109, Value.int 73 0, Value.int 0 0, Value.ref 116, Value.int 75 0, Value.int 0 0, Value.ref 123, Value.int 78 0, Value.int 0 0, Value.ref 130, Value.int 81 0, Value.int 0 0, Value.ref 137, Value.int 86 0, Value.int 0 0, Value.ref 144, Value.int 88 0, Value.int 0 0, Value.ref 151, Value.int 90 0, Value.int 0 0, Value.ref 156, Value.int 93 0, Value.int 0 0, Value.ref 161, Value.int 95 0, Value.int 0 0, Value.ref 168, Value.int 97 0, Value.int 0 0, Value.ref 173, Value.int 99 0, Value.int 0 0, Value.ref 180, Value.int 101 0, Value.int 0 0, Value.ref 187, Value.int 103 0, Value.int 0 0, Value.ref 192, Value.int 105 0, Value.int 0 0, Value.ref 199, Value.int 110 0, Value.int 0 0, Value.ref 204, Value.int 113 0, Value.int 0 0, Value.ref 211, Value.int 116 0, Value.int 0 0, Value.ref 218, Value.int 126 0, Value.int 0 0, Value.ref 225, Value.int 137 0, Value.int 0 0, Value.ref 232, Value.int 140 0, Value.int 0 0, Value.ref 239, Value.int 144 0, Value.int 0 0, Value.ref 246, Value.int 158 0, Value.int 0 0, Value.ref 253, Value.int 166 0, Value.int 0 0, Value.ref 260, Value.int 168 0, Value.int 0 0, Value.ref 267, Value.int 175 0, Value.int 0 0, Value.ref 274, Value.int 180 0, Value.int 0 0, Value.ref 281, Value.int 182 0, Value.int 0 0, Value.ref 288, Value.int 185 0, Value.int 0 0, Value.ref 293, Value.int 188 0, Value.int 0 0, Value.ref 300, Value.int 193 0, Value.int 0 0, Value.ref 307, Value.int 199 0, Value.int 0 0, Value.ref 312, Value.int 203 0, Value.int 0 0, Value.ref 319, Value.int 205 0, Value.int 0 0, Value.ref 324, Value.int 211 0, Value.int 0 0, Value.ref 332, Value.int 213 0, Value.int 0 0, Value.ref 339, Value.int 215 0, Value.int 0 0, Value.ref 346, Value.int 217 0, Value.int 0 0, Value.ref 353, Value.int 232 0, Value.int 0 0, Value.ref 358, Value.int 243 0, Value.int 0 0, Value.ref 363, Value.int 247 0, Value.int 0 0, Value.ref 370, Value.int 255 0, Value.int 0 0, Value.ref 377, Value.int 262 0, Value.int 0 0, Value.ref 384, Value.int 269 0, Value.int 0 0, Value.ref 391, Value.int 283 0, Value.int 0 0, Value.ref 398, Value.int 293 0, Value.int 0 0, Value.ref 405, Value.int 304 0, Value.int 0 0, Value.ref 412, Value.int 313 0, Value.int 0 0, Value.ref 419, Value.int 318 0, Value.int 0 0, Value.ref 426, Value.int 325 0, Value.int 0 0, Value.ref 431, Value.int 340 0, Value.int 0 0, Value.ref 436, Value.int 343 0, Value.int 0 0, Value.ref 441, Value.int 346 0, Value.int 0 0, Value.ref 448, Value.int 352 0, Value.int 0 0, Value.ref 455, Value.int 364 0, Value.int 0 0, Value.ref 462, Value.int 371 0, Value.int 0 0, Value.ref 467, Value.int 375 0, Value.int 0 0, Value.ref 472, Value.int 378 0, Value.int 0 0, Value.ref 479, Value.int 386 0, Value.int 0 0, Value.ref 484] }
noncomputable def o_506 (P : Params) : Obj := { cls := Value.type "tuple", data := Data.seq #[] }
noncomputable def o_507 (P : Params) : Obj := { cls := Value.none, data := Data.fields #[] }
noncomputable def o_508 (P : Params) : Obj := { cls := Value.type "tuple", data := Data.seq #[Value.str "rows" 817, Value.str "at" 818, Value.str "one" 819, Value.str "other" 820, Value.str "x" 821, Value.str "y" 822] }
noncomputable def o_509 (P : Params) : Obj := { cls := Value.type "tuple", data := Data.seq #[] }
noncomputable def o_510 (P : Params) : Obj := { cls := Value.none, data := Data.func { name := "_law_touch", qualname := "_law_touch", params := (dv "_law_touch").params, body := FuncBody.stmts (dv "_law_touch").body, scope := (dv "_law_touch").scope, globals := 0, closure := [], defaults := Value.none, kwdefaults := Value.none } }
noncomputable def o_511 (P : Params) : Obj := { cls := Value.type "code", data := Data.fields #[Value.str "_law_touch" 814, Value.str "_law_touch" 815, Value.str "/claim/cut.py" 816, Value.int 364 0, Value.int 1 0, Value.int 0 0, Value.int 0 0, Value.int 3 0, Value.ref 457, Value.bool true, Value.int 181 0, Value.ref 458, Value.none, Value.ref 459, Value.ref 460, Value.ref 461, Value.int 823 0, Value.int 364 0, Value.str "/claim/cut.py" 824] }
noncomputable def o_512 (P : Params) : Obj := { cls := Value.type "function", data := Data.func { name := "_law_touch", qualname := "_law_touch", params := (dv "_law_touch").params, body := FuncBody.stmts (dv "_law_touch").body, scope := (dv "_law_touch").scope, globals := 3, closure := [], defaults := Value.none, kwdefaults := Value.none, pyModule := Value.str "law_xm0157_01" 785, code := Value.ref 462 } }
noncomputable def o_513 (P : Params) : Obj := { cls := Value.type "tuple", data := Data.seq #[] }
noncomputable def o_514 (P : Params) : Obj := { cls := Value.none, data := Data.fields #[] }
noncomputable def o_515 (P : Params) : Obj := { cls := Value.none, data := Data.func { name := "_law_keeps", qualname := "_law_keeps", params := (dv "_law_keeps").params, body := FuncBody.stmts (dv "_law_keeps").body, scope := (dv "_law_keeps").scope, globals := 0, closure := [], defaults := Value.none, kwdefaults := Value.none } }
noncomputable def o_516 (P : Params) : Obj := { cls := Value.type "code", data := Data.fields #[Value.str "_law_keeps" 826, Value.str "_law_keeps" 827, Value.str "/claim/cut.py" 828, Value.int 371 0, Value.int 1 0, Value.int 0 0, Value.int 0 0, Value.int 3 0, Value.ref 464, Value.bool true, Value.int 181 0, Value.ref 465, Value.none, Value.none, Value.none, Value.ref 466, Value.int 829 0, Value.int 371 0, Value.str "/claim/cut.py" 830] }
noncomputable def o_517 (P : Params) : Obj := { cls := Value.type "function", data := Data.func { name := "_law_keeps", qualname := "_law_keeps", params := (dv "_law_keeps").params, body := FuncBody.stmts (dv "_law_keeps").body, scope := (dv "_law_keeps").scope, globals := 3, closure := [], defaults := Value.none, kwdefaults := Value.none, pyModule := Value.str "law_xm0157_01" 785, code := Value.ref 467 } }
noncomputable def o_518 (P : Params) : Obj := { cls := Value.type "tuple", data := Data.seq #[] }
noncomputable def o_519 (P : Params) : Obj := { cls := Value.none, data := Data.fields #[] }
noncomputable def o_520 (P : Params) : Obj := { cls := Value.none, data := Data.func { name := "_law_mirrored", qualname := "_law_mirrored", params := (dv "_law_mirrored").params, body := FuncBody.stmts (dv "_law_mirrored").body, scope := (dv "_law_mirrored").scope, globals := 0, closure := [], defaults := Value.none, kwdefaults := Value.none } }
noncomputable def o_521 (P : Params) : Obj := { cls := Value.type "code", data := Data.fields #[Value.str "_law_mirrored" 832, Value.str "_law_mirrored" 833, Value.str "/claim/cut.py" 834, Value.int 375 0, Value.int 2 0, Value.int 0 0, Value.int 0 0, Value.int 3 0, Value.ref 469, Value.bool true, Value.int 181 0, Value.ref 470, Value.none, Value.none, Value.none, Value.ref 471, Value.int 835 0, Value.int 375 0, Value.str "/claim/cut.py" 836] }
noncomputable def o_522 (P : Params) : Obj := { cls := Value.type "function", data := Data.func { name := "_law_mirrored", qualname := "_law_mirrored", params := (dv "_law_mirrored").params, body := FuncBody.stmts (dv "_law_mirrored").body, scope := (dv "_law_mirrored").scope, globals := 3, closure := [], defaults := Value.none, kwdefaults := Value.none, pyModule := Value.str "law_xm0157_01" 785, code := Value.ref 472 } }
noncomputable def o_523 (P : Params) : Obj := { cls := Value.type "tuple", data := Data.seq #[] }
noncomputable def o_524 (P : Params) : Obj := { cls := Value.none, data := Data.fields #[] }
noncomputable def o_525 (P : Params) : Obj := { cls := Value.type "tuple", data := Data.seq #[Value.str "bends" 841, Value.str "found" 842, Value.str "turn" 843, Value.str "beyond" 844] }
noncomputable def o_526 (P : Params) : Obj := { cls := Value.type "tuple", data := Data.seq #[] }
noncomputable def o_527 (P : Params) : Obj := { cls := Value.none, data := Data.func { name := "_law_least", qualname := "_law_least", params := (dv "_law_least").params, body := FuncBody.stmts (dv "_law_least").body, scope := (dv "_law_least").scope, globals := 0, closure := [], defaults := Value.none, kwdefaults := Value.none } }
noncomputable def o_528 (P : Params) : Obj := { cls := Value.type "code", data := Data.fields #[Value.str "_law_least" 838, Value.str "_law_least" 839, Value.str "/claim/cut.py" 840, Value.int 378 0, Value.int 1 0, Value.int 0 0, Value.int 0 0, Value.int 3 0, Value.ref 474, Value.bool true, Value.int 181 0, Value.ref 475, Value.none, Value.ref 476, Value.ref 477, Value.ref 478, Value.int 845 0, Value.int 378 0, Value.str "/claim/cut.py" 846] }
noncomputable def o_529 (P : Params) : Obj := { cls := Value.type "function", data := Data.func { name := "_law_least", qualname := "_law_least", params := (dv "_law_least").params, body := FuncBody.stmts (dv "_law_least").body, scope := (dv "_law_least").scope, globals := 3, closure := [], defaults := Value.none, kwdefaults := Value.none, pyModule := Value.str "law_xm0157_01" 785, code := Value.ref 479 } }
noncomputable def o_530 (P : Params) : Obj := { cls := Value.type "tuple", data := Data.seq #[] }
noncomputable def o_531 (P : Params) : Obj := { cls := Value.none, data := Data.fields #[] }
noncomputable def o_532 (P : Params) : Obj := { cls := Value.none, data := Data.func { name := "law", qualname := "law", params := (dv "law").params, body := FuncBody.stmts (dv "law").body, scope := (dv "law").scope, globals := 0, closure := [], defaults := Value.none, kwdefaults := Value.none } }
noncomputable def o_533 (P : Params) : Obj := { cls := Value.type "code", data := Data.fields #[Value.str "law" 848, Value.str "law" 849, Value.str "/claim/cut.py" 850, Value.int 386 0, Value.int 1 0, Value.int 0 0, Value.int 0 0, Value.int 3 0, Value.ref 481, Value.bool true, Value.int 181 0, Value.ref 482, Value.none, Value.none, Value.none, Value.ref 483, Value.int 851 0, Value.int 386 0, Value.str "/claim/cut.py" 852] }
noncomputable def o_534 (P : Params) : Obj := { cls := Value.type "function", data := Data.func { name := "law", qualname := "law", params := (dv "law").params, body := FuncBody.stmts (dv "law").body, scope := (dv "law").scope, globals := 3, closure := [], defaults := Value.none, kwdefaults := Value.none, pyModule := Value.str "law_xm0157_01" 785, code := Value.ref 484 } }
noncomputable def tree_534 (P : Params) : BT := BT.node (boot_o_0 P) (BT.node (boot_o_1 P) (BT.node (o_504 P) (BT.node (boot_o_7 P) (BT.node (o_52 P) (BT.node (o_68 P) (BT.node (o_102 P) (BT.node (o_166 P) (BT.node (o_298 P) BT.nil BT.nil) (BT.node (o_428 P) BT.nil BT.nil)) (BT.node (o_232 P) (BT.node (o_364 P) BT.nil BT.nil) (BT.node (o_494 P) BT.nil BT.nil))) (BT.node (o_134 P) (BT.node (o_200 P) (BT.node (o_330 P) BT.nil BT.nil) (BT.node (o_462 P) BT.nil BT.nil)) (BT.node (o_264 P) (BT.node (o_396 P) BT.nil BT.nil) (BT.node (o_528 P) BT.nil BT.nil)))) (BT.node (o_84 P) (BT.node (o_118 P) (BT.node (o_182 P) (BT.node (o_314 P) BT.nil BT.nil) (BT.node (o_446 P) BT.nil BT.nil)) (BT.node (o_248 P) (BT.node (o_380 P) BT.nil BT.nil) (BT.node (o_512 P) BT.nil BT.nil))) (BT.node (o_150 P) (BT.node (o_216 P) (BT.node (o_346 P) BT.nil BT.nil) (BT.node (o_478 P) BT.nil BT.nil)) (BT.node (o_282 P) (BT.node (o_412 P) BT.nil BT.nil) BT.nil)))) (BT.node (o_60 P) (BT.node (o_76 P) (BT.node (o_110 P) (BT.node (o_174 P) (BT.node (o_306 P) BT.nil BT.nil) (BT.node (o_438 P) BT.nil BT.nil)) (BT.node (o_240 P) (BT.node (o_372 P) BT.nil BT.nil) (BT.node (o_502 P) BT.nil BT.nil))) (BT.node (o_142 P) (BT.node (o_208 P) (BT.node (o_338 P) BT.nil BT.nil) (BT.node (o_470 P) BT.nil BT.nil)) (BT.node (o_274 P) (BT.node (o_404 P) BT.nil BT.nil) BT.nil))) (BT.node (o_92 P) (BT.node (o_126 P) (BT.node (o_192 P) (BT.node (o_322 P) BT.nil BT.nil) (BT.node (o_454 P) BT.nil BT.nil)) (BT.node (o_256 P) (BT.node (o_388 P) BT.nil BT.nil) (BT.node (o_520 P) BT.nil BT.nil))) (BT.node (o_158 P) (BT.node (o_224 P) (BT.node (o_356 P) BT.nil BT.nil) (BT.node (o_486 P) BT.nil BT.nil)) (BT.node (o_290 P) (BT.node (o_420 P) BT.nil BT.nil) BT.nil))))) (BT.node (o_43 P) (BT.node (o_56 P) (BT.node (o_72 P) (BT.node (o_106 P) (BT.node (o_170 P) (BT.node (o_302 P) BT.nil BT.nil) (BT.node (o_434 P) BT.nil BT.nil)) (BT.node (o_236 P) (BT.node (o_368 P) BT.nil BT.nil) (BT.node (o_498 P) BT.nil BT.nil))) (BT.node (o_138 P) (BT.node (o_204 P) (BT.node (o_334 P) BT.nil BT.nil) (BT.node (o_466 P) BT.nil BT.nil)) (BT.node (o_270 P) (BT.node (o_400 P) BT.nil BT.nil) (BT.node (o_532 P) BT.nil BT.nil)))) (BT.node (o_88 P) (BT.node (o_122 P) (BT.node (o_188 P) (BT.node (o_318 P) BT.nil BT.nil) (BT.node (o_450 P) BT.nil BT.nil)) (BT.node (o_252 P) (BT.node (o_384 P) BT.nil BT.nil) (BT.node (o_516 P) BT.nil BT.nil))) (BT.node (o_154 P) (BT.node (o_220 P) (BT.node (o_350 P) BT.nil BT.nil) (BT.node (o_482 P) BT.nil BT.nil)) (BT.node (o_286 P) (BT.node (o_416 P) BT.nil BT.nil) BT.nil)))) (BT.node (o_64 P) (BT.node (o_80 P) (BT.node (o_114 P) (BT.node (o_178 P) (BT.node (o_310 P) BT.nil BT.nil) (BT.node (o_442 P) BT.nil BT.nil)) (BT.node (o_244 P) (BT.node (o_376 P) BT.nil BT.nil) (BT.node (o_508 P) BT.nil BT.nil))) (BT.node (o_146 P) (BT.node (o_212 P) (BT.node (o_342 P) BT.nil BT.nil) (BT.node (o_474 P) BT.nil BT.nil)) (BT.node (o_278 P) (BT.node (o_408 P) BT.nil BT.nil) BT.nil))) (BT.node (o_96 P) (BT.node (o_130 P) (BT.node (o_196 P) (BT.node (o_326 P) BT.nil BT.nil) (BT.node (o_458 P) BT.nil BT.nil)) (BT.node (o_260 P) (BT.node (o_392 P) BT.nil BT.nil) (BT.node (o_524 P) BT.nil BT.nil))) (BT.node (o_162 P) (BT.node (o_228 P) (BT.node (o_360 P) BT.nil BT.nil) (BT.node (o_490 P) BT.nil BT.nil)) (BT.node (o_294 P) (BT.node (o_424 P) BT.nil BT.nil) BT.nil)))))) (BT.node (boot_o_5 P) (BT.node (boot_o_9 P) (BT.node (o_54 P) (BT.node (o_70 P) (BT.node (o_104 P) (BT.node (o_168 P) (BT.node (o_300 P) BT.nil BT.nil) (BT.node (o_430 P) BT.nil BT.nil)) (BT.node (o_234 P) (BT.node (o_366 P) BT.nil BT.nil) (BT.node (o_496 P) BT.nil BT.nil))) (BT.node (o_136 P) (BT.node (o_202 P) (BT.node (o_332 P) BT.nil BT.nil) (BT.node (o_464 P) BT.nil BT.nil)) (BT.node (o_266 P) (BT.node (o_398 P) BT.nil BT.nil) (BT.node (o_530 P) BT.nil BT.nil)))) (BT.node (o_86 P) (BT.node (o_120 P) (BT.node (o_184 P) (BT.node (o_316 P) BT.nil BT.nil) (BT.node (o_448 P) BT.nil BT.nil)) (BT.node (o_250 P) (BT.node (o_382 P) BT.nil BT.nil) (BT.node (o_514 P) BT.nil BT.nil))) (BT.node (o_152 P) (BT.node (o_218 P) (BT.node (o_348 P) BT.nil BT.nil) (BT.node (o_480 P) BT.nil BT.nil)) (BT.node (o_284 P) (BT.node (o_414 P) BT.nil BT.nil) BT.nil)))) (BT.node (o_62 P) (BT.node (o_78 P) (BT.node (o_112 P) (BT.node (o_176 P) (BT.node (o_308 P) BT.nil BT.nil) (BT.node (o_440 P) BT.nil BT.nil)) (BT.node (o_242 P) (BT.node (o_374 P) BT.nil BT.nil) (BT.node (o_506 P) BT.nil BT.nil))) (BT.node (o_144 P) (BT.node (o_210 P) (BT.node (o_340 P) BT.nil BT.nil) (BT.node (o_472 P) BT.nil BT.nil)) (BT.node (o_276 P) (BT.node (o_406 P) BT.nil BT.nil) BT.nil))) (BT.node (o_94 P) (BT.node (o_128 P) (BT.node (o_194 P) (BT.node (o_324 P) BT.nil BT.nil) (BT.node (o_456 P) BT.nil BT.nil)) (BT.node (o_258 P) (BT.node (o_390 P) BT.nil BT.nil) (BT.node (o_522 P) BT.nil BT.nil))) (BT.node (o_160 P) (BT.node (o_226 P) (BT.node (o_358 P) BT.nil BT.nil) (BT.node (o_488 P) BT.nil BT.nil)) (BT.node (o_292 P) (BT.node (o_422 P) BT.nil BT.nil) BT.nil))))) (BT.node (o_45 P) (BT.node (o_58 P) (BT.node (o_74 P) (BT.node (o_108 P) (BT.node (o_172 P) (BT.node (o_304 P) BT.nil BT.nil) (BT.node (o_436 P) BT.nil BT.nil)) (BT.node (o_238 P) (BT.node (o_370 P) BT.nil BT.nil) (BT.node (o_500 P) BT.nil BT.nil))) (BT.node (o_140 P) (BT.node (o_206 P) (BT.node (o_336 P) BT.nil BT.nil) (BT.node (o_468 P) BT.nil BT.nil)) (BT.node (o_272 P) (BT.node (o_402 P) BT.nil BT.nil) (BT.node (o_534 P) BT.nil BT.nil)))) (BT.node (o_90 P) (BT.node (o_124 P) (BT.node (o_190 P) (BT.node (o_320 P) BT.nil BT.nil) (BT.node (o_452 P) BT.nil BT.nil)) (BT.node (o_254 P) (BT.node (o_386 P) BT.nil BT.nil) (BT.node (o_518 P) BT.nil BT.nil))) (BT.node (o_156 P) (BT.node (o_222 P) (BT.node (o_354 P) BT.nil BT.nil) (BT.node (o_484 P) BT.nil BT.nil)) (BT.node (o_288 P) (BT.node (o_418 P) BT.nil BT.nil) BT.nil)))) (BT.node (o_66 P) (BT.node (o_82 P) (BT.node (o_116 P) (BT.node (o_180 P) (BT.node (o_312 P) BT.nil BT.nil) (BT.node (o_444 P) BT.nil BT.nil)) (BT.node (o_246 P) (BT.node (o_378 P) BT.nil BT.nil) (BT.node (o_510 P) BT.nil BT.nil))) (BT.node (o_148 P) (BT.node (o_214 P) (BT.node (o_344 P) BT.nil BT.nil) (BT.node (o_476 P) BT.nil BT.nil)) (BT.node (o_280 P) (BT.node (o_410 P) BT.nil BT.nil) BT.nil))) (BT.node (o_98 P) (BT.node (o_132 P) (BT.node (o_198 P) (BT.node (o_328 P) BT.nil BT.nil) (BT.node (o_460 P) BT.nil BT.nil)) (BT.node (o_262 P) (BT.node (o_394 P) BT.nil BT.nil) (BT.node (o_526 P) BT.nil BT.nil))) (BT.node (o_164 P) (BT.node (o_230 P) (BT.node (o_362 P) BT.nil BT.nil) (BT.node (o_492 P) BT.nil BT.nil)) (BT.node (o_296 P) (BT.node (o_426 P) BT.nil BT.nil) BT.nil))))))) (BT.node (o_49 P) (BT.node (boot_o_4 P) (BT.node (boot_o_8 P) (BT.node (o_53 P) (BT.node (o_69 P) (BT.node (o_103 P) (BT.node (o_167 P) (BT.node (o_299 P) BT.nil BT.nil) (BT.node (o_429 P) BT.nil BT.nil)) (BT.node (o_233 P) (BT.node (o_365 P) BT.nil BT.nil) (BT.node (o_495 P) BT.nil BT.nil))) (BT.node (o_135 P) (BT.node (o_201 P) (BT.node (o_331 P) BT.nil BT.nil) (BT.node (o_463 P) BT.nil BT.nil)) (BT.node (o_265 P) (BT.node (o_397 P) BT.nil BT.nil) (BT.node (o_529 P) BT.nil BT.nil)))) (BT.node (o_85 P) (BT.node (o_119 P) (BT.node (o_183 P) (BT.node (o_315 P) BT.nil BT.nil) (BT.node (o_447 P) BT.nil BT.nil)) (BT.node (o_249 P) (BT.node (o_381 P) BT.nil BT.nil) (BT.node (o_513 P) BT.nil BT.nil))) (BT.node (o_151 P) (BT.node (o_217 P) (BT.node (o_347 P) BT.nil BT.nil) (BT.node (o_479 P) BT.nil BT.nil)) (BT.node (o_283 P) (BT.node (o_413 P) BT.nil BT.nil) BT.nil)))) (BT.node (o_61 P) (BT.node (o_77 P) (BT.node (o_111 P) (BT.node (o_175 P) (BT.node (o_307 P) BT.nil BT.nil) (BT.node (o_439 P) BT.nil BT.nil)) (BT.node (o_241 P) (BT.node (o_373 P) BT.nil BT.nil) (BT.node (o_503 P) BT.nil BT.nil))) (BT.node (o_143 P) (BT.node (o_209 P) (BT.node (o_339 P) BT.nil BT.nil) (BT.node (o_471 P) BT.nil BT.nil)) (BT.node (o_275 P) (BT.node (o_405 P) BT.nil BT.nil) BT.nil))) (BT.node (o_93 P) (BT.node (o_127 P) (BT.node (o_193 P) (BT.node (o_323 P) BT.nil BT.nil) (BT.node (o_455 P) BT.nil BT.nil)) (BT.node (o_257 P) (BT.node (o_389 P) BT.nil BT.nil) (BT.node (o_521 P) BT.nil BT.nil))) (BT.node (o_159 P) (BT.node (o_225 P) (BT.node (o_357 P) BT.nil BT.nil) (BT.node (o_487 P) BT.nil BT.nil)) (BT.node (o_291 P) (BT.node (o_421 P) BT.nil BT.nil) BT.nil))))) (BT.node (o_505 P) (BT.node (o_57 P) (BT.node (o_73 P) (BT.node (o_107 P) (BT.node (o_171 P) (BT.node (o_303 P) BT.nil BT.nil) (BT.node (o_435 P) BT.nil BT.nil)) (BT.node (o_237 P) (BT.node (o_369 P) BT.nil BT.nil) (BT.node (o_499 P) BT.nil BT.nil))) (BT.node (o_139 P) (BT.node (o_205 P) (BT.node (o_335 P) BT.nil BT.nil) (BT.node (o_467 P) BT.nil BT.nil)) (BT.node (o_271 P) (BT.node (o_401 P) BT.nil BT.nil) (BT.node (o_533 P) BT.nil BT.nil)))) (BT.node (o_89 P) (BT.node (o_123 P) (BT.node (o_189 P) (BT.node (o_319 P) BT.nil BT.nil) (BT.node (o_451 P) BT.nil BT.nil)) (BT.node (o_253 P) (BT.node (o_385 P) BT.nil BT.nil) (BT.node (o_517 P) BT.nil BT.nil))) (BT.node (o_155 P) (BT.node (o_221 P) (BT.node (o_351 P) BT.nil BT.nil) (BT.node (o_483 P) BT.nil BT.nil)) (BT.node (o_287 P) (BT.node (o_417 P) BT.nil BT.nil) BT.nil)))) (BT.node (o_65 P) (BT.node (o_81 P) (BT.node (o_115 P) (BT.node (o_179 P) (BT.node (o_311 P) BT.nil BT.nil) (BT.node (o_443 P) BT.nil BT.nil)) (BT.node (o_245 P) (BT.node (o_377 P) BT.nil BT.nil) (BT.node (o_509 P) BT.nil BT.nil))) (BT.node (o_147 P) (BT.node (o_213 P) (BT.node (o_343 P) BT.nil BT.nil) (BT.node (o_475 P) BT.nil BT.nil)) (BT.node (o_279 P) (BT.node (o_409 P) BT.nil BT.nil) BT.nil))) (BT.node (o_97 P) (BT.node (o_131 P) (BT.node (o_197 P) (BT.node (o_327 P) BT.nil BT.nil) (BT.node (o_459 P) BT.nil BT.nil)) (BT.node (o_261 P) (BT.node (o_393 P) BT.nil BT.nil) (BT.node (o_525 P) BT.nil BT.nil))) (BT.node (o_163 P) (BT.node (o_229 P) (BT.node (o_361 P) BT.nil BT.nil) (BT.node (o_491 P) BT.nil BT.nil)) (BT.node (o_295 P) (BT.node (o_425 P) BT.nil BT.nil) BT.nil)))))) (BT.node (boot_o_6 P) (BT.node (boot_o_10 P) (BT.node (o_55 P) (BT.node (o_71 P) (BT.node (o_105 P) (BT.node (o_169 P) (BT.node (o_301 P) BT.nil BT.nil) (BT.node (o_433 P) BT.nil BT.nil)) (BT.node (o_235 P) (BT.node (o_367 P) BT.nil BT.nil) (BT.node (o_497 P) BT.nil BT.nil))) (BT.node (o_137 P) (BT.node (o_203 P) (BT.node (o_333 P) BT.nil BT.nil) (BT.node (o_465 P) BT.nil BT.nil)) (BT.node (o_267 P) (BT.node (o_399 P) BT.nil BT.nil) (BT.node (o_531 P) BT.nil BT.nil)))) (BT.node (o_87 P) (BT.node (o_121 P) (BT.node (o_187 P) (BT.node (o_317 P) BT.nil BT.nil) (BT.node (o_449 P) BT.nil BT.nil)) (BT.node (o_251 P) (BT.node (o_383 P) BT.nil BT.nil) (BT.node (o_515 P) BT.nil BT.nil))) (BT.node (o_153 P) (BT.node (o_219 P) (BT.node (o_349 P) BT.nil BT.nil) (BT.node (o_481 P) BT.nil BT.nil)) (BT.node (o_285 P) (BT.node (o_415 P) BT.nil BT.nil) BT.nil)))) (BT.node (o_63 P) (BT.node (o_79 P) (BT.node (o_113 P) (BT.node (o_177 P) (BT.node (o_309 P) BT.nil BT.nil) (BT.node (o_441 P) BT.nil BT.nil)) (BT.node (o_243 P) (BT.node (o_375 P) BT.nil BT.nil) (BT.node (o_507 P) BT.nil BT.nil))) (BT.node (o_145 P) (BT.node (o_211 P) (BT.node (o_341 P) BT.nil BT.nil) (BT.node (o_473 P) BT.nil BT.nil)) (BT.node (o_277 P) (BT.node (o_407 P) BT.nil BT.nil) BT.nil))) (BT.node (o_95 P) (BT.node (o_129 P) (BT.node (o_195 P) (BT.node (o_325 P) BT.nil BT.nil) (BT.node (o_457 P) BT.nil BT.nil)) (BT.node (o_259 P) (BT.node (o_391 P) BT.nil BT.nil) (BT.node (o_523 P) BT.nil BT.nil))) (BT.node (o_161 P) (BT.node (o_227 P) (BT.node (o_359 P) BT.nil BT.nil) (BT.node (o_489 P) BT.nil BT.nil)) (BT.node (o_293 P) (BT.node (o_423 P) BT.nil BT.nil) BT.nil))))) (BT.node (o_46 P) (BT.node (o_59 P) (BT.node (o_75 P) (BT.node (o_109 P) (BT.node (o_173 P) (BT.node (o_305 P) BT.nil BT.nil) (BT.node (o_437 P) BT.nil BT.nil)) (BT.node (o_239 P) (BT.node (o_371 P) BT.nil BT.nil) (BT.node (o_501 P) BT.nil BT.nil))) (BT.node (o_141 P) (BT.node (o_207 P) (BT.node (o_337 P) BT.nil BT.nil) (BT.node (o_469 P) BT.nil BT.nil)) (BT.node (o_273 P) (BT.node (o_403 P) BT.nil BT.nil) BT.nil))) (BT.node (o_91 P) (BT.node (o_125 P) (BT.node (o_191 P) (BT.node (o_321 P) BT.nil BT.nil) (BT.node (o_453 P) BT.nil BT.nil)) (BT.node (o_255 P) (BT.node (o_387 P) BT.nil BT.nil) (BT.node (o_519 P) BT.nil BT.nil))) (BT.node (o_157 P) (BT.node (o_223 P) (BT.node (o_355 P) BT.nil BT.nil) (BT.node (o_485 P) BT.nil BT.nil)) (BT.node (o_289 P) (BT.node (o_419 P) BT.nil BT.nil) BT.nil)))) (BT.node (o_67 P) (BT.node (o_83 P) (BT.node (o_117 P) (BT.node (o_181 P) (BT.node (o_313 P) BT.nil BT.nil) (BT.node (o_445 P) BT.nil BT.nil)) (BT.node (o_247 P) (BT.node (o_379 P) BT.nil BT.nil) (BT.node (o_511 P) BT.nil BT.nil))) (BT.node (o_149 P) (BT.node (o_215 P) (BT.node (o_345 P) BT.nil BT.nil) (BT.node (o_477 P) BT.nil BT.nil)) (BT.node (o_281 P) (BT.node (o_411 P) BT.nil BT.nil) BT.nil))) (BT.node (o_99 P) (BT.node (o_133 P) (BT.node (o_199 P) (BT.node (o_329 P) BT.nil BT.nil) (BT.node (o_461 P) BT.nil BT.nil)) (BT.node (o_263 P) (BT.node (o_395 P) BT.nil BT.nil) (BT.node (o_527 P) BT.nil BT.nil))) (BT.node (o_165 P) (BT.node (o_231 P) (BT.node (o_363 P) BT.nil BT.nil) (BT.node (o_493 P) BT.nil BT.nil)) (BT.node (o_297 P) (BT.node (o_427 P) BT.nil BT.nil) BT.nil)))))))
noncomputable def heap_535 (P : Params) : Heap := { objs := { toList := [boot_o_0 P, boot_o_1 P, o_49 P, o_504 P, boot_o_4 P, boot_o_5 P, boot_o_6 P, boot_o_7 P, boot_o_8 P, boot_o_9 P, boot_o_10 P, o_43 P, o_505 P, o_45 P, o_46 P, o_52 P, o_53 P, o_54 P, o_55 P, o_56 P, o_57 P, o_58 P, o_59 P, o_60 P, o_61 P, o_62 P, o_63 P, o_64 P, o_65 P, o_66 P, o_67 P, o_68 P, o_69 P, o_70 P, o_71 P, o_72 P, o_73 P, o_74 P, o_75 P, o_76 P, o_77 P, o_78 P, o_79 P, o_80 P, o_81 P, o_82 P, o_83 P, o_84 P, o_85 P, o_86 P, o_87 P, o_88 P, o_89 P, o_90 P, o_91 P, o_92 P, o_93 P, o_94 P, o_95 P, o_96 P, o_97 P, o_98 P, o_99 P, o_102 P, o_103 P, o_104 P, o_105 P, o_106 P, o_107 P, o_108 P, o_109 P, o_110 P, o_111 P, o_112 P, o_113 P, o_114 P, o_115 P, o_116 P, o_117 P, o_118 P, o_119 P, o_120 P, o_121 P, o_122 P, o_123 P, o_124 P, o_125 P, o_126 P, o_127 P, o_128 P, o_129 P, o_130 P, o_131 P, o_132 P, o_133 P, o_134 P, o_135 P, o_136 P, o_137 P, o_138 P, o_139 P, o_140 P, o_141 P, o_142 P, o_143 P, o_144 P, o_145 P, o_146 P, o_147 P, o_148 P, o_149 P, o_150 P, o_151 P, o_152 P, o_153 P, o_154 P, o_155 P, o_156 P, o_157 P, o_158 P, o_159 P, o_160 P, o_161 P, o_162 P, o_163 P, o_164 P, o_165 P, o_166 P, o_167 P, o_168 P, o_169 P, o_170 P, o_171 P, o_172 P, o_173 P, o_174 P, o_175 P, o_176 P, o_177 P, o_178 P, o_179 P, o_180 P, o_181 P, o_182 P, o_183 P, o_184 P, o_187 P, o_188 P, o_189 P, o_190 P, o_191 P, o_192 P, o_193 P, o_194 P, o_195 P, o_196 P, o_197 P, o_198 P, o_199 P, o_200 P, o_201 P, o_202 P, o_203 P, o_204 P, o_205 P, o_206 P, o_207 P, o_208 P, o_209 P, o_210 P, o_211 P, o_212 P, o_213 P, o_214 P, o_215 P, o_216 P, o_217 P, o_218 P, o_219 P, o_220 P, o_221 P, o_222 P, o_223 P, o_224 P, o_225 P, o_226 P, o_227 P, o_228 P, o_229 P, o_230 P, o_231 P, o_232 P, o_233 P, o_234 P, o_235 P, o_236 P, o_237 P, o_238 P, o_239 P, o_240 P, o_241 P, o_242 P, o_243 P, o_244 P, o_245 P, o_246 P, o_247 P, o_248 P, o_249 P, o_250 P, o_251 P, o_252 P, o_253 P, o_254 P, o_255 P, o_256 P, o_257 P, o_258 P, o_259 P, o_260 P, o_261 P, o_262 P, o_263 P, o_264 P, o_265 P, o_266 P, o_267 P, o_270 P, o_271 P, o_272 P, o_273 P, o_274 P, o_275 P, o_276 P, o_277 P, o_278 P, o_279 P, o_280 P, o_281 P, o_282 P, o_283 P, o_284 P, o_285 P, o_286 P, o_287 P, o_288 P, o_289 P, o_290 P, o_291 P, o_292 P, o_293 P, o_294 P, o_295 P, o_296 P, o_297 P, o_298 P, o_299 P, o_300 P, o_301 P, o_302 P, o_303 P, o_304 P, o_305 P, o_306 P, o_307 P, o_308 P, o_309 P, o_310 P, o_311 P, o_312 P, o_313 P, o_314 P, o_315 P, o_316 P, o_317 P, o_318 P, o_319 P, o_320 P, o_321 P, o_322 P, o_323 P, o_324 P, o_325 P, o_326 P, o_327 P, o_328 P, o_329 P, o_330 P, o_331 P, o_332 P, o_333 P, o_334 P, o_335 P, o_336 P, o_337 P, o_338 P, o_339 P, o_340 P, o_341 P, o_342 P, o_343 P, o_344 P, o_345 P, o_346 P, o_347 P, o_348 P, o_349 P, o_350 P, o_351 P, o_354 P, o_355 P, o_356 P, o_357 P, o_358 P, o_359 P, o_360 P, o_361 P, o_362 P, o_363 P, o_364 P, o_365 P, o_366 P, o_367 P, o_368 P, o_369 P, o_370 P, o_371 P, o_372 P, o_373 P, o_374 P, o_375 P, o_376 P, o_377 P, o_378 P, o_379 P, o_380 P, o_381 P, o_382 P, o_383 P, o_384 P, o_385 P, o_386 P, o_387 P, o_388 P, o_389 P, o_390 P, o_391 P, o_392 P, o_393 P, o_394 P, o_395 P, o_396 P, o_397 P, o_398 P, o_399 P, o_400 P, o_401 P, o_402 P, o_403 P, o_404 P, o_405 P, o_406 P, o_407 P, o_408 P, o_409 P, o_410 P, o_411 P, o_412 P, o_413 P, o_414 P, o_415 P, o_416 P, o_417 P, o_418 P, o_419 P, o_420 P, o_421 P, o_422 P, o_423 P, o_424 P, o_425 P, o_426 P, o_427 P, o_428 P, o_429 P, o_430 P, o_433 P, o_434 P, o_435 P, o_436 P, o_437 P, o_438 P, o_439 P, o_440 P, o_441 P, o_442 P, o_443 P, o_444 P, o_445 P, o_446 P, o_447 P, o_448 P, o_449 P, o_450 P, o_451 P, o_452 P, o_453 P, o_454 P, o_455 P, o_456 P, o_457 P, o_458 P, o_459 P, o_460 P, o_461 P, o_462 P, o_463 P, o_464 P, o_465 P, o_466 P, o_467 P, o_468 P, o_469 P, o_470 P, o_471 P, o_472 P, o_473 P, o_474 P, o_475 P, o_476 P, o_477 P, o_478 P, o_479 P, o_480 P, o_481 P, o_482 P, o_483 P, o_484 P, o_485 P, o_486 P, o_487 P, o_488 P, o_489 P, o_490 P, o_491 P, o_492 P, o_493 P, o_494 P, o_495 P, o_496 P, o_497 P, o_498 P, o_499 P, o_500 P, o_501 P, o_502 P, o_503 P, o_506 P, o_507 P, o_508 P, o_509 P, o_510 P, o_511 P, o_512 P, o_513 P, o_514 P, o_515 P, o_516 P, o_517 P, o_518 P, o_519 P, o_520 P, o_521 P, o_522 P, o_523 P, o_524 P, o_525 P, o_526 P, o_527 P, o_528 P, o_529 P, o_530 P, o_531 P, o_532 P, o_533 P, o_534 P] } }
noncomputable def env0 : Env := { scope := pg.main.scope, locals := mainNs, globals := mainNs, cells := [], code := Value.ref 13, frame := some 14 }
noncomputable def bt0 : List Stmt := behindTheImports pg
noncomputable def cd0 : Code := Code.body bt0 env0
noncomputable abbrev sh (h : Heap) (k : Nat) (os : OsState) : Shared := { heap := h, toks := k, os := os }
noncomputable abbrev shT (t : BT) (n k : Nat) (os : OsState) : SharedT := { tree := t, n := n, life := {}, gens := #[], drawn := {}, toks := k, os := os }
theorem go0 (w : World) (os : OsState) : topGo treeTable pg w 11 (some (.ref 6)) 12 { heap := boot_heap w.params, gens := #[], drawn := boot_drawn, toks := boot_toks, os := os } (topStub pg) = some (sh (heap_46 w.params) 187 os, ⟨denote treeTable cd0, cd0, ⟨0, 0, 0, 0⟩, [topFrame ⟨0, 0, 0, 0⟩]⟩) := by kernel_rfl
theorem go1 (w : World) (os : OsState) : segRun treeTable pg w 11 (some (.ref 6)) 1 1 (sh (heap_46 w.params) 187 os) (blockOf bt0 env0 cd0 ⟨0, 0, 0, 0⟩ [topFrame ⟨0, 0, 0, 0⟩]) = some (.next, (shT (tree_47 w.params) 15 187 os).abs, cd0, ⟨0, 0, 0, 0⟩) := by kernel_rfl
noncomputable def rest1 : List Stmt := bt0.drop 7
theorem seg1 (w : World) (os : OsState) : segRunT treeTable pg w 11 (some (.ref 6)) 1 375 (shT (tree_47 w.params) 15 187 os) (piecesOf (bt0.take 7) env0 cd0 ⟨0, 0, 0, 0⟩ [topFrame ⟨0, 0, 0, 0⟩]) = some (.next, shT (tree_99 w.params) 63 260 os, cd0, ⟨26, 0, 38, 14⟩) := by kernel_rfl
noncomputable def rest2 : List Stmt := rest1.drop 15
theorem seg2 (w : World) (os : OsState) : segRunT treeTable pg w 11 (some (.ref 6)) 1 389 (shT (tree_99 w.params) 63 260 os) (piecesOf (rest1.take 15) env0 cd0 ⟨26, 0, 38, 14⟩ [topFrame ⟨0, 0, 0, 0⟩]) = some (.next, shT (tree_184 w.params) 146 363 os, cd0, ⟨86, 0, 87, 21⟩) := by kernel_rfl
noncomputable def rest3 : List Stmt := rest2.drop 14
theorem seg3 (w : World) (os : OsState) : segRunT treeTable pg w 11 (some (.ref 6)) 1 389 (shT (tree_184 w.params) 146 363 os) (piecesOf (rest2.take 14) env0 cd0 ⟨86, 0, 87, 21⟩ [topFrame ⟨0, 0, 0, 0⟩]) = some (.next, shT (tree_267 w.params) 227 468 os, cd0, ⟨126, 0, 136, 58⟩) := by kernel_rfl
noncomputable def rest4 : List Stmt := rest3.drop 14
theorem seg4 (w : World) (os : OsState) : segRunT treeTable pg w 11 (some (.ref 6)) 1 393 (shT (tree_267 w.params) 227 468 os) (piecesOf (rest3.take 14) env0 cd0 ⟨126, 0, 136, 58⟩ [topFrame ⟨0, 0, 0, 0⟩]) = some (.next, shT (tree_351 w.params) 309 584 os, cd0, ⟨193, 0, 198, 16⟩) := by kernel_rfl
noncomputable def rest5 : List Stmt := rest4.drop 15
theorem seg5 (w : World) (os : OsState) : segRunT treeTable pg w 11 (some (.ref 6)) 1 396 (shT (tree_351 w.params) 309 584 os) (piecesOf (rest4.take 15) env0 cd0 ⟨193, 0, 198, 16⟩ [topFrame ⟨0, 0, 0, 0⟩]) = some (.next, shT (tree_430 w.params) 386 696 os, cd0, ⟨262, 0, 268, 19⟩) := by kernel_rfl
noncomputable def rest6 : List Stmt := rest5.drop 14
theorem seg6 (w : World) (os : OsState) : segRunT treeTable pg w 11 (some (.ref 6)) 1 376 (shT (tree_430 w.params) 386 696 os) (piecesOf (rest5.take 14) env0 cd0 ⟨262, 0, 268, 19⟩ [topFrame ⟨0, 0, 0, 0⟩]) = some (.next, shT (tree_503 w.params) 457 814 os, cd0, ⟨352, 0, 363, 26⟩) := by kernel_rfl
noncomputable def rest7 : List Stmt := rest6.drop 5
theorem seg7 (w : World) (os : OsState) : segRunT treeTable pg w 11 (some (.ref 6)) 1 145 (shT (tree_503 w.params) 457 814 os) (piecesOf (rest6.take 5) env0 cd0 ⟨352, 0, 363, 26⟩ [topFrame ⟨0, 0, 0, 0⟩]) = some (.next, shT (tree_534 w.params) 486 854 os, cd0, ⟨386, 0, 405, 79⟩) := by kernel_rfl
theorem rest_nil : rest7 = [] := by kernel_rfl
theorem goZ (w : World) (os : OsState) : topRun treeTable pg w 11 (some (.ref 6)) 2 (shT (tree_534 w.params) 486 854 os).abs ⟨doneF .next, cd0, ⟨386, 0, 405, 79⟩, [topFrame ⟨0, 0, 0, 0⟩]⟩ = some (sh (heap_535 w.params) 854 os) := by kernel_rfl
theorem piece_cut {tb : String → Option Builtin} {p : Program} {w : World} {n₀ : Nat} {ann : Option Value} {env : Env} {q : Pos} {n N k : Nat} {s r : Shared} {s' : SharedT} {t : SharedT} {l : List Stmt} {c : Code} {pos p' : Pos} (e : s = t.abs)
    (h : segRunT tb p w n₀ ann 1 n t (piecesOf (l.take k) env c pos [topFrame q]) = some (.next, s', c, p')) (m : topRun tb p w n₀ ann N s'.abs (restOf (l.drop k) env c p' [topFrame q]) = some r) : topRun tb p w n₀ ann (n + N) s (restOf l env c pos [topFrame q]) = some r := by
  subst e
  have := piece_app (segRun_of h) m
  rwa [List.take_append_drop] at this
theorem ran (w : World) (os : OsState) : topRun treeTable pg w 11 (some (.ref 6)) (12 + (1 + (375 + (389 + (389 + (393 + (396 + (376 + (145 + 2))))))))) { heap := boot_heap w.params, gens := #[], drawn := boot_drawn, toks := boot_toks, os := os } (topStub pg) = some (sh (heap_535 w.params) 854 os) :=
  go_top (go0 w os) (piece_block (go1 w os) (piece_cut rfl (seg1 w os) (piece_cut rfl (seg2 w os) (piece_cut rfl (seg3 w os) (piece_cut rfl (seg4 w os) (piece_cut rfl (seg5 w os) (piece_cut rfl (seg6 w os) (piece_cut rfl (seg7 w os) (by
    show topRun _ _ _ _ _ _ _ (restOf rest7 _ _ _ _) = _
    rw [rest_nil]
    exact piece_nil (goZ w os))))))))))
theorem opened (w : World) : (fencedOpening treeTable pg w 5038).map (fun s => (s.heap, s.gens, s.drawn, s.toks)) = some (boot_heap w.params, #[], boot_drawn, boot_toks) := boot_open (by kernel_rfl) (by rfl) (fun s => by rfl) w
theorem sized (w : World) : ((boot_heap w.params).isNs mainGlobals && (#[] : Array GenState).size == 0, (boot_heap w.params).objs.size, (boot_heap w.params).nsMap mainGlobals "__annotations__") = (true, 11, some (.ref 6)) := by kernel_rfl
noncomputable abbrev lseW : List Str := ["MOST_DIVIDED"]
noncomputable abbrev xlT : Shared → Bool := fun s => xlAt vw [("MOST_DIVIDED", .int 10000000000)] s && recOk [] s
noncomputable abbrev seenZ (w : World) (os : OsState) := openSeen vw lseW (importedModules pg.main.body) xlT true (sh (heap_535 w.params) 854 os)
theorem looked (w : World) (os : OsState) : ((staticsOk (importedModules pg.main.body) (boot_heap w.params) (heap_535 w.params) && namesBound pg (heap_535 w.params) && gensDone (sh (heap_535 w.params) 854 os) && laidKept (boot_heap w.params) (heap_535 w.params)), seenZ w os) = (true, openGood vw lseW) := by kernel_rfl
theorem left : LeftO pg vw lseW xlT (fun _ => ()) (fun _ => ()) 5038 :=
  LeftO.of_pieces (H₀ := boot_heap) (H₁ := heap_535) (gs₀ := #[]) (gs₁ := #[]) (d₀ := boot_drawn) (d₁ := {}) (k₀ := boot_toks) (k₁ := 854) opened sized ran (by rfl) fun w => funext fun os =>
    Prod.ext (Prod.mk.inj (looked w os)).1 (Prod.ext (Prod.mk.inj (looked w os)).2 rfl)
end
section

noncomputable abbrev law0 : OpenLaw := PySem.Challenge.rw_xm0157_01
theorem sa1 : sreFenced law0.row.prog.main = true := by kernel_rfl
theorem sa2 : namesResolve law0.row.prog = true := by kernel_rfl
theorem sa3 : law0.row.prog.boundNames.all (fun n => !worldNames.contains n) = true := by kernel_rfl
theorem sa4 : noRoadLSs { strict := !(importedModules law0.row.prog.main.body).all cThrough.contains, foot := none, bare := (["vars", "dir", "locals"] : List Str).filter (readsOut law0.row.prog law0.row.prog.main.body) } law0.row.prog.main.body = true := by kernel_rfl
theorem sa5 : (namesMeet law0.row.prog law0.row.prog.main.body fun _ n => attrL n) = true := by kernel_rfl
theorem sd1 : (looksOpen law0.row.prog) = true := by
  unfold looksOpen
  rw [sa1, sa2, sa3, sa4, sa5]
  kernel_rfl
theorem sd2 : law0.row.wellSaid = true := by
  unfold OpenRow.wellSaid OpenRow.partSaid
  rw [sd1]
  kernel_rfl
theorem sd3 : noRoadLSs { strict := true, foot := some law0.bound', writes := law0.writes, may := law0.may } law0.footing = true := by kernel_rfl
theorem sd4 : namesMeet law0.prog law0.above (fun _ n => !law0.own.contains n) = true := by kernel_rfl
theorem sd : law0.wellSaid = true := by
  unfold OpenLaw.wellSaid
  rw [sd2, sd3, sd4]
  kernel_rfl
end
end Mine
open PySem PySem.W PySem.Spec PySem.Calls PyProof.Rows
set_option maxHeartbeats 8000000 in
theorem PySem.Challenge.cw_xm0157_01_holds : PySem.Challenge.rw_xm0157_01.Holds := by
  w_on
  refine holds_law Mine.sd fun said => ?_
  refine holds_open (q := Mine.vw) (loose := ["MOST_DIVIDED"]) (Xt := fun s => xlAt Mine.vw [("MOST_DIVIDED", .int 10000000000)] s && recOk [] s) (XP := XL Mine.vw [("MOST_DIVIDED", .int 10000000000)]) (Yf := fun _ => ()) (Ya := fun _ => ()) (YP := fun _ _ => True) (N := 5038) ?hl (fun _ _ _ => trivial) (fun _ _ _ _ _ => trivial) (fun s e => xl_of s (Bool.and_eq_true_iff.mp e).1) XL.keeps (by rfl) (by rfl) (by rfl) (fun s e => recFacts_of (Bool.and_eq_true_iff.mp e).2) (by rfl) (by first | assumption | decide +kernel) (by decide +kernel) ⟨rfl, rfl, rfl, rfl, rfl, by decide +kernel⟩ ?hw ?hc
  case hl => exact Mine.left
  case hw => w_witness2
  case hc =>
    intro w s₀ s₁ mg mb G Y fa o pm cd doc dV kV ho hd hcd hD hmg hg args vals as hpre hlay hrd hwl hlo
    have V := (Ground.X G).2
    refine Ground.open G ?_
    intro T B D TE TW
    have TA := at_of_top T
    obtain ⟨_, _, he, B0⟩ := based_of_top T rfl hmg ho hd
    have he' : cd = _ := he
    subst he'
    clear he hmg
    wrow_args hpre hlay hrd hwl hlo
    refine enter_call ?_
    w_top on
    refine codeAny_mono ?_ (fun _ _ g => GoodW.toG g)
    have K0 := below_caller (Top.heap T)
    w_call any ho hd hcd hD T F
    clear hd TA
    k_drop
    rename ¬ _ => hlen
    obtain ⟨mv, m1, m2⟩ := LooseAre.val V _ (.head _)
    obtain ⟨mt, rfl, -⟩ := readsW_int_inv m2
    refine Mine.join (pa := _) (by assumption) (by kernel_rfl) ?hfree ⟨mt, m1⟩ (by rfl) rfl rfl (by decide +kernel) (by assumption) rfl (by assumption) (by assumption) (by omega) (by assumption) ?hQ
    case hfree =>
      exact Mine.hfree_of T (by kernel_rfl)
    case hQ =>
      intro s' k1 k2 k3
      refine ⟨.inl ⟨.bool true, .bool true, [], rfl, raisesW_false (by wrow_none_raised), .bool true, ?hp, unshared_nil⟩, k1, k3, k2⟩
      refine' postW_of ?q1 ?q2 ?q3; (case q1 => o_shape); (case q2 => wtm_val); (case q3 => w_fin)
