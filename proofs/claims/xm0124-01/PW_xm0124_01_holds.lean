import PyProof.Rows.All
import Wide.All
import OpenK.AllK
import Wide.FinOn
import Lean
import PySem.Challenge.RW_xm0124_01
open PySem PySem.W PyProof.Rows
set_option Elab.async false
set_option linter.unusedVariables false
set_option linter.unusedSimpArgs false
namespace Mine
set_option maxRecDepth 100000 in
set_option maxHeartbeats 8000000 in
open_top hd for PySem.Challenge.rw_xm0124_01
end Mine
open PySem.Calls PySem.Spec
set_option autoImplicit false
namespace Mine

inductive V where
  | none
  | bool (b : Bool)
  | int (i : Int)
  | ref (k : Nat)

structure O where
  tup : Bool
  items : List V

abbrev Hp := List O
abbrev Loc := List (Option V)

noncomputable def nth {α : Type} : List α → Nat → Option α
  | [], _ => .none
  | x :: r, k => match k with
    | 0 => .some x
    | k + 1 => nth r k
theorem nth_eq {α : Type} : ∀ (l : List α) (k : Nat), nth l k = l[k]?
  | [], k => by simp [nth]
  | x :: r, 0 => by simp [nth]
  | x :: r, k + 1 => by simp [nth, nth_eq r k]
noncomputable def setN {α : Type} : List α → Nat → α → List α
  | [], _, _ => []
  | x :: r, k, y => match k with
    | 0 => y :: r
    | k + 1 => x :: setN r k y
theorem setN_eq {α : Type} : ∀ (l : List α) (k : Nat) (y : α), setN l k y = l.set k y
  | [], k, y => by simp [setN]
  | x :: r, 0, y => by simp [setN]
  | x :: r, k + 1, y => by simp [setN, setN_eq r k y]

inductive VR (φ : List Addr) : V → Value → Prop
  | none : VR φ .none .none
  | bool (b : Bool) : VR φ (.bool b) (.bool b)
  | int (i : Int) (t : Tok) : VR φ (.int i) (.int i t)
  | ref {k : Nat} {a : Addr} : φ[k]? = some a → VR φ (.ref k) (.ref a)

inductive VsR (φ : List Addr) : List V → List Value → Prop
  | nil : VsR φ [] []
  | cons {v x vs xs} : VR φ v x → VsR φ vs xs → VsR φ (v :: vs) (x :: xs)

theorem VR.mono {φ ψ : List Addr} {v : V} {x : Value} (h : VR φ v x) : VR (φ ++ ψ) v x := by
  cases h with
  | none => exact .none
  | bool b => exact .bool b
  | int i t => exact .int i t
  | ref e =>
    refine .ref ?_
    have := (List.getElem?_eq_some_iff.mp e).1
    rw [List.getElem?_append_left this]; exact e
theorem VsR.mono {φ ψ : List Addr} : ∀ {vs : List V} {xs : List Value}, VsR φ vs xs → VsR (φ ++ ψ) vs xs
  | _, _, .nil => .nil
  | _, _, .cons h r => .cons h.mono r.mono
theorem VsR.length {φ : List Addr} : ∀ {vs : List V} {xs : List Value}, VsR φ vs xs → xs.length = vs.length
  | _, _, .nil => rfl
  | _, _, .cons _ r => by simp [r.length]
theorem VsR.get {φ : List Addr} : ∀ {vs : List V} {xs : List Value}, VsR φ vs xs → ∀ {k : Nat} {v : V}, vs[k]? = some v → ∃ x, xs[k]? = some x ∧ VR φ v x
  | _, _, .nil, _, _, e => by simp at e
  | _, _, .cons h r, 0, _, e => by simp at e; subst e; exact ⟨_, rfl, h⟩
  | _, _, .cons h r, k + 1, _, e => by simp at e; obtain ⟨x, e', hx⟩ := r.get e; exact ⟨x, by simpa using e', hx⟩
theorem VsR.set {φ : List Addr} : ∀ {vs : List V} {xs : List Value}, VsR φ vs xs → ∀ (k : Nat) {v : V} {x : Value}, VR φ v x → VsR φ (vs.set k v) (xs.set k x)
  | _, _, .nil, _, _, _, _ => by simp; exact .nil
  | _, _, .cons h r, 0, _, _, hv => by simp; exact .cons hv r
  | _, _, .cons h r, k + 1, _, _, hv => by simp; exact .cons h (r.set k hv)
theorem VsR.append {φ : List Addr} : ∀ {vs ws : List V} {xs ys : List Value}, VsR φ vs xs → VsR φ ws ys → VsR φ (vs ++ ws) (xs ++ ys)
  | _, _, _, _, .nil, h => h
  | _, _, _, _, .cons a r, h => .cons a (r.append h)
theorem VsR.take {φ : List Addr} : ∀ {vs : List V} {xs : List Value}, VsR φ vs xs → ∀ k, VsR φ (vs.take k) (xs.take k)
  | _, _, _, 0 => by simp; exact .nil
  | _, _, .nil, k + 1 => by simp; exact .nil
  | _, _, .cons a r, k + 1 => by simp; exact .cons a (r.take k)
theorem VsR.replicate {φ : List Addr} {v : V} {x : Value} (h : VR φ v x) : ∀ k, VsR φ (List.replicate k v) (List.replicate k x)
  | 0 => .nil
  | k + 1 => .cons h (VsR.replicate h k)
theorem VsR.snoc {φ : List Addr} {vs : List V} {xs : List Value} {v : V} {x : Value} (h : VsR φ vs xs) (hv : VR φ v x) : VsR φ (vs ++ [v]) (xs ++ [x]) := h.append (.cons hv .nil)

noncomputable def Keep (h h' : Heap) : Prop := ∀ b o, h.get? b = some o → h'.get? b = some o
theorem Keep.refl (h : Heap) : Keep h h := fun _ _ e => e
theorem Keep.trans {a b c : Heap} (h : Keep a b) (g : Keep b c) : Keep a c := fun x o e => g x o (h x o e)
theorem Keep.push (h : Heap) (o : Obj) : Keep h (h.push o) := fun _ _ e => Heap.get?_push_of_some _ e

noncomputable def ObjIs (φ : List Addr) (o : O) (h : Heap) (a : Addr) : Prop :=
  ∃ xs, VsR φ o.items xs ∧ ∃ ob n, h.get? a = some ob ∧ ob.cls = .type (if o.tup then "tuple" else "list") ∧ ob.data = .seq xs.toArray n

theorem ObjIs.at {φ : List Addr} {o : O} {h h' : Heap} {a : Addr} (x : ObjIs φ o h a) (k : ∀ ob, h.get? a = some ob → h'.get? a = some ob) : ObjIs φ o h' a :=
  let ⟨xs, hv, ob, n, e, r⟩ := x; ⟨xs, hv, ob, n, k ob e, r⟩
theorem ObjIs.mono {φ ψ : List Addr} {o : O} {h : Heap} {a : Addr} (x : ObjIs φ o h a) : ObjIs (φ ++ ψ) o h a :=
  let ⟨xs, hv, r⟩ := x; ⟨xs, hv.mono, r⟩
theorem ObjIs.some {φ : List Addr} {o : O} {h : Heap} {a : Addr} (x : ObjIs φ o h a) : ∃ ob, h.get? a = some ob := let ⟨_, _, ob, _, e, _⟩ := x; ⟨ob, e⟩

structure HR (h₀ : Heap) (φ : List Addr) (σ : Hp) (h : Heap) : Prop where
  keep : Keep h₀ h
  len : φ.length = σ.length
  nodup : φ.Nodup
  new : ∀ a ∈ φ, h₀.get? a = none
  obj : ∀ (k : Nat) (a : Addr) (o : O), φ[k]? = some a → σ[k]? = some o → ObjIs φ o h a

theorem HR.alloc {h₀ : Heap} {φ : List Addr} {σ : Hp} {h : Heap} (H : HR h₀ φ σ h) {a : Addr} (ha : a ∈ φ) : ∃ ob, h.get? a = some ob := by
  obtain ⟨k, e⟩ := List.mem_iff_getElem?.mp ha
  have hk := (List.getElem?_eq_some_iff.mp e).1
  have : k < σ.length := H.len ▸ hk
  exact (H.obj k a _ e (List.getElem?_eq_getElem this)).some
theorem HR.keeps {h₀ : Heap} {φ : List Addr} {σ : Hp} {h h' : Heap} (H : HR h₀ φ σ h) (k : Keep h h') : HR h₀ φ σ h' :=
  ⟨H.keep.trans k, H.len, H.nodup, H.new, fun i a o e1 e2 => (H.obj i a o e1 e2).at fun ob e => k _ _ e⟩
/-- only what is no tracked object has turned -/
theorem HR.keepsOn {h₀ : Heap} {φ : List Addr} {σ : Hp} {h h' : Heap} (H : HR h₀ φ σ h) (k0 : Keep h₀ h') (k : ∀ a ∈ φ, ∀ o, h.get? a = some o → h'.get? a = some o) : HR h₀ φ σ h' :=
  ⟨k0, H.len, H.nodup, H.new, fun i a o e1 e2 => (H.obj i a o e1 e2).at fun ob e => k _ (List.mem_of_getElem? e1) _ e⟩

theorem HR.lookup {h₀ : Heap} {φ : List Addr} {σ : Hp} {h : Heap} (H : HR h₀ φ σ h) {k : Nat} {a : Addr} {o : O} (e : φ[k]? = some a) (eo : nth σ k = some o) : ObjIs φ o h a :=
  H.obj k a o e (nth_eq σ k ▸ eo)
theorem HR.list {h₀ : Heap} {φ : List Addr} {σ : Hp} {h : Heap} (H : HR h₀ φ σ h) {k : Nat} {a : Addr} {its : List V} (e : φ[k]? = some a) (eo : nth σ k = some ⟨false, its⟩) :
    ∃ xs, VsR φ its xs ∧ h.IsList a xs.toArray := by
  obtain ⟨xs, hv, ob, n, e1, e2, e3⟩ := H.lookup e eo
  exact ⟨xs, hv, ob, e1, by simpa using e2, n, e3⟩
theorem HR.tuple {h₀ : Heap} {φ : List Addr} {σ : Hp} {h : Heap} (H : HR h₀ φ σ h) {k : Nat} {a : Addr} {its : List V} (e : φ[k]? = some a) (eo : nth σ k = some ⟨true, its⟩) :
    ∃ xs, VsR φ its xs ∧ h.IsTuple a xs.toArray := by
  obtain ⟨xs, hv, ob, n, e1, e2, e3⟩ := H.lookup e eo
  exact ⟨xs, hv, ob, e1, by simpa using e2, n, e3⟩

/-- a new object is taken onto the ledger -/
theorem HR.add {h₀ : Heap} {φ : List Addr} {σ : Hp} {h h' : Heap} {a : Addr} {o : O} (H : HR h₀ φ σ h) (k : Keep h h') (fresh : h.get? a = none) (ho : ObjIs φ o h' a) : HR h₀ (φ ++ [a]) (σ ++ [o]) h' := by
  have hn : a ∉ φ := fun ha => by obtain ⟨ob, e⟩ := H.alloc ha; rw [fresh] at e; cases e
  refine ⟨H.keep.trans k, by simp [H.len], ?_, ?_, ?_⟩
  · rw [List.nodup_append]
    refine ⟨H.nodup, by simp, fun b hb c hc => ?_⟩
    simp only [List.mem_singleton] at hc
    subst hc; intro e; subst e; exact hn hb
  · intro b hb
    rcases List.mem_append.mp hb with hb | hb
    · exact H.new b hb
    · simp only [List.mem_singleton] at hb
      subst hb
      cases e : h₀.get? b with
      | none => rfl
      | some ob => have := H.keep b ob e; rw [fresh] at this; cases this
  · intro i b ob e1 e2
    by_cases hi : i < φ.length
    · rw [List.getElem?_append_left hi] at e1
      rw [List.getElem?_append_left (H.len ▸ hi)] at e2
      exact ((H.obj i b ob e1 e2).at fun x e => k _ _ e).mono
    · have hi' : i = φ.length := by
        have := (List.getElem?_eq_some_iff.mp e1).1
        simp at this; omega
      subst hi'
      rw [List.getElem?_append_right (Nat.le_refl _)] at e1
      rw [H.len, List.getElem?_append_right (Nat.le_refl _)] at e2
      simp at e1 e2
      subst e1 e2
      exact ho.mono

structure Ext (n0 : Nat) (φ φ' : List Addr) (h h' : Heap) : Prop where
  pre : ∃ ψ, φ' = φ ++ ψ ∧ ∀ b ∈ ψ, h.get? b = none
  keep : ∀ b o, b ∉ φ.drop n0 → h.get? b = some o → h'.get? b = some o

theorem Ext.of_keep {n0 : Nat} {φ : List Addr} {h h' : Heap} (k : Keep h h') : Ext n0 φ φ h h' := ⟨⟨[], by simp, by simp⟩, fun b o _ e => k b o e⟩
theorem Ext.of_add {n0 : Nat} {φ : List Addr} {h h' : Heap} {a : Addr} (k : Keep h h') (fresh : h.get? a = none) : Ext n0 φ (φ ++ [a]) h h' :=
  ⟨⟨[a], rfl, by simp [fresh]⟩, fun b o _ e => k b o e⟩
theorem drop_mem_append {n0 : Nat} {φ ψ : List Addr} {b : Addr} (h : b ∈ (φ ++ ψ).drop n0) : b ∈ φ.drop n0 ∨ b ∈ ψ := by
  rw [List.drop_append] at h
  rcases List.mem_append.mp h with h | h
  · exact .inl h
  · exact .inr (List.mem_of_mem_drop h)
theorem Ext.trans {n0 : Nat} {h₀ : Heap} {φ φ' φ'' : List Addr} {σ' : Hp} {h h' h'' : Heap} (a : Ext n0 φ φ' h h') (H : HR h₀ φ' σ' h') (b : Ext n0 φ' φ'' h' h'') : Ext n0 φ φ'' h h'' := by
  obtain ⟨⟨ψ, rfl, f1⟩, k1⟩ := a
  obtain ⟨⟨ψ', rfl, f2⟩, k2⟩ := b
  refine ⟨⟨ψ ++ ψ', by simp, fun x hx => ?_⟩, fun x o hx e => ?_⟩
  · rcases List.mem_append.mp hx with hx | hx
    · exact f1 x hx
    · have e2 := f2 x hx
      cases e : h.get? x with
      | none => rfl
      | some o =>
        by_cases hm : x ∈ φ
        · obtain ⟨ob, e'⟩ := H.alloc (List.mem_append_left ψ hm)
          rw [e2] at e'; cases e'
        · have := k1 x o (fun q => hm (List.mem_of_mem_drop q)) e
          rw [e2] at this; cases this
  · refine k2 x o (fun q => ?_) (k1 x o hx e)
    rcases drop_mem_append q with q | q
    · exact hx q
    · rw [f1 x q] at e; cases e

noncomputable def OVR (φ : List Addr) : Option V → Option Value → Prop
  | .none, _ => True
  | .some v, .some x => VR φ v x
  | .some _, .none => False
theorem OVR.mono {φ ψ : List Addr} : ∀ {ov : Option V} {ox : Option Value}, OVR φ ov ox → OVR (φ ++ ψ) ov ox
  | .none, _, _ => trivial
  | .some _, .some _, h => VR.mono h
  | .some _, .none, h => h.elim
theorem OVR.some {φ : List Addr} {v : V} {ox : Option Value} (h : OVR φ (.some v) ox) : ∃ x, ox = .some x ∧ VR φ v x := by
  cases ox with
  | none => exact h.elim
  | some x => exact ⟨x, rfl, h⟩

noncomputable def VarIs (env : Env) (m : Str → Option Value) (φ : List Addr) (h : Heap) (x : Str) (ov : Option V) : Prop :=
  match env.kindOf x with
  | some .local => OVR φ ov (m x)
  | some .cell | some .free => ∃ c cv, env.cells.lookup x = some c ∧ c ∉ φ ∧ h.IsCell c cv ∧ OVR φ ov cv
  | _ => ov = Option.none

noncomputable def look (ρ : Loc) (i : Nat) : Option V := match nth ρ i with
  | some (some v) => some v
  | _ => .none
noncomputable def put (ρ : Loc) (i : Nat) (v : V) : Loc := setN ρ i (some v)

noncomputable def own (env : Env) : List Addr := env.locals :: env.cells.map (·.2)

structure EnvOK (h₀ : Heap) (ns : List (Str × NameKind)) (env : Env) : Prop where
  kind : env.scope.kind = .function
  names : env.scope.names = ns
  glob : env.globals = mainGlobals
  blt : env.builtins = builtinsNs
  new : ∀ b ∈ own env, h₀.get? b = none

theorem EnvOK.kindOf {h₀ : Heap} {ns : List (Str × NameKind)} {env : Env} (h : EnvOK h₀ ns env) (x : Str) : env.kindOf x = ns.lookup x := by
  unfold Env.kindOf; rw [h.names]

structure FOK (env : Env) (tab : List Str) (ρ : Loc) (φ : List Addr) (h : Heap) : Prop where
  own : ∀ b ∈ own env, b ∉ φ ∧ ∃ o, h.get? b = some o
  len : ρ.length = tab.length
  ns : ∃ m, h.Ns env.locals m ∧ ∀ i x, tab[i]? = some x → VarIs env m φ h x (look ρ i)

theorem mem_of_lookup' {α β : Type} [BEq α] [LawfulBEq α] {x : α} {c : β} : ∀ {l : List (α × β)}, l.lookup x = some c → (x, c) ∈ l
  | [], h => by simp at h
  | (y, d) :: r, h => by
    rw [List.lookup_cons] at h
    by_cases e : (x == y) = true
    · rw [e] at h
      have := eq_of_beq e
      subst this
      simp at h; subst h; exact .head _
    · have e' : (x == y) = false := by simpa using e
      rw [e'] at h
      exact .tail _ (mem_of_lookup' h)

theorem VarIs.keeps {env : Env} {m : Str → Option Value} {φ ψ : List Addr} {h h' : Heap} {x : Str} {ov : Option V} (H : VarIs env m φ h x ov)
    (hψ : ∀ b ∈ ψ, h.get? b = none) (k : ∀ b o, b ∉ φ → h.get? b = some o → h'.get? b = some o) : VarIs env m (φ ++ ψ) h' x ov := by
  unfold VarIs at H ⊢
  split at H
  · exact OVR.mono H
  all_goals first
    | exact H
    | (obtain ⟨c, cv, h1, h2, ⟨o, e, d⟩, h4⟩ := H
       refine ⟨c, cv, h1, fun q => ?_, ⟨o, k c o h2 e, d⟩, OVR.mono h4⟩
       rcases List.mem_append.mp q with q | q
       · exact h2 q
       · rw [hψ c q] at e; cases e)

theorem FOK.keepsE {env : Env} {tab : List Str} {ρ : Loc} {φ ψ : List Addr} {h h' : Heap} (H : FOK env tab ρ φ h)
    (hψ : ∀ b ∈ ψ, h.get? b = none) (k : ∀ b o, b ∉ φ → h.get? b = some o → h'.get? b = some o) : FOK env tab ρ (φ ++ ψ) h' := by
  obtain ⟨hl, hn, m, ⟨o, es, ep, e, r⟩, hv⟩ := H
  refine ⟨fun b hb => ?_, hn, m, ⟨o, es, ep, k _ _ (hl _ (.head _)).1 e, r⟩, fun i x e => (hv i x e).keeps hψ k⟩
  obtain ⟨h1, o1, e1⟩ := hl b hb
  refine ⟨fun q => ?_, o1, k _ _ h1 e1⟩
  rcases List.mem_append.mp q with q | q
  · exact h1 q
  · rw [hψ _ q] at e1; cases e1
theorem FOK.ext {n0 : Nat} {env : Env} {tab : List Str} {ρ : Loc} {φ φ' : List Addr} {h h' : Heap} (H : FOK env tab ρ φ h) (E : Ext n0 φ φ' h h') : FOK env tab ρ φ' h' := by
  obtain ⟨⟨ψ, rfl, f⟩, k⟩ := E
  exact H.keepsE f fun b o q e => k b o (fun q' => q (List.mem_of_mem_drop q')) e
theorem FOK.keeps {env : Env} {tab : List Str} {ρ : Loc} {φ : List Addr} {h h' : Heap} (H : FOK env tab ρ φ h) (k : Keep h h') : FOK env tab ρ φ h' := by
  have := H.keepsE (ψ := []) (by simp) fun b o _ e => k b o e
  simpa using this

noncomputable def Room (n : Nat) (A : Around) : Prop := A.handled = none ∧ A.depth + n < recursionLimit ∧ A.units + 3 * n + 200 < cLine
theorem Room.mono {n k : Nat} {A : Around} (h : Room n A) (hk : k ≤ n) : Room k A := ⟨h.1, by have := h.2.1; omega, by have := h.2.2; omega⟩
theorem Room.deeper {n : Nat} {A : Around} {env : Env} (h : Room (n + 1) A) : Room n (A.deeper env) :=
  ⟨h.1, by have := h.2.1; show A.depth + 1 + n < _; omega, by have := h.2.2; show A.units + 3 + 3 * n + 200 < _; omega⟩

section
variable (prog : Program) (w : World) (h₀ : Heap) (n : Nat) (ns : List (Str × NameKind)) (tab : List Str)

/-- an expression that makes nothing tracked and turns nothing -/
structure HP (e : Expr) (f : Loc → Hp → Option V) : Prop where
  run : ∀ env, EnvOK h₀ ns env → ∀ A, Room n A → ∀ ρ σ φ s, HR h₀ φ σ s.heap → FOK env tab ρ φ s.heap → ∀ v, f ρ σ = some v → ∀ (Q E : Value → Shared → Prop),
    (∀ x h' tk, Keep s.heap h' → VR φ v x → Q x { s with heap := h', toks := tk }) → wpAny (model prog w) A (eval e env) Q E s

structure HE (e : Expr) (f : Nat → Loc → Hp → Option (V × Hp)) : Prop where
  run : ∀ env, EnvOK h₀ ns env → ∀ A, Room n A → ∀ n0 ρ σ φ s, HR h₀ φ σ s.heap → FOK env tab ρ φ s.heap → ∀ v σ', f n0 ρ σ = some (v, σ') → ∀ (Q E : Value → Shared → Prop),
    (∀ φ' x h' tk, Ext n0 φ φ' s.heap h' → HR h₀ φ' σ' h' → VR φ' v x → Q x { s with heap := h', toks := tk }) → wpAny (model prog w) A (eval e env) Q E s

/-- a test -/
structure HT (e : Expr) (f : Loc → Hp → Option Bool) : Prop where
  run : ∀ env, EnvOK h₀ ns env → ∀ A, Room n A → ∀ ρ σ φ s, HR h₀ φ σ s.heap → FOK env tab ρ φ s.heap → ∀ b, f ρ σ = some b → ∀ (Q : Bool → Shared → Prop) (E : Value → Shared → Prop),
    (∀ h' tk, Keep s.heap h' → Q b { s with heap := h', toks := tk }) → wpAny (model prog w) A (PySem.isTrue e env (eval e env)) Q E s
structure HTE (e : Expr) (f : Nat → Loc → Hp → Option (Bool × Hp)) : Prop where
  run : ∀ env, EnvOK h₀ ns env → ∀ A, Room n A → ∀ n0 ρ σ φ s, HR h₀ φ σ s.heap → FOK env tab ρ φ s.heap → ∀ b σ', f n0 ρ σ = some (b, σ') → ∀ (Q : Bool → Shared → Prop) (E : Value → Shared → Prop),
    (∀ φ' h' tk, Ext n0 φ φ' s.heap h' → HR h₀ φ' σ' h' → Q b { s with heap := h', toks := tk }) → wpAny (model prog w) A (PySem.isTrue e env (eval e env)) Q E s
end

section
variable {prog : Program} {w : World} {h₀ : Heap} {n : Nat} {ns : List (Str × NameKind)} {tab : List Str}

noncomputable def liftP (f : Loc → Hp → Option V) (_ : Nat) (ρ : Loc) (σ : Hp) : Option (V × Hp) := match f ρ σ with
  | some v => some (v, σ)
  | .none => .none
theorem HP.toE {e : Expr} {f} (h : HP prog w h₀ n ns tab e f) : HE prog w h₀ n ns tab e (liftP f) := by
  constructor
  intro env he A hA n0 ρ σ φ s H F v σ' hf Q E hQ
  unfold liftP at hf
  split at hf
  · rename_i v' e1
    cases hf
    exact h.1 env he A hA ρ σ φ s H F _ e1 Q E fun x h' tk k hv => hQ φ x h' tk (.of_keep k) (H.keeps k) hv
  · cases hf
noncomputable def liftT (f : Loc → Hp → Option Bool) (_ : Nat) (ρ : Loc) (σ : Hp) : Option (Bool × Hp) := match f ρ σ with
  | some v => some (v, σ)
  | .none => .none
theorem HT.toE {e : Expr} {f} (h : HT prog w h₀ n ns tab e f) : HTE prog w h₀ n ns tab e (liftT f) := by
  constructor
  intro env he A hA n0 ρ σ φ s H F v σ' hf Q E hQ
  unfold liftT at hf
  split at hf
  · rename_i v' e1
    cases hf
    exact h.1 env he A hA ρ σ φ s H F _ e1 Q E fun h' tk k => hQ φ h' tk (.of_keep k) (H.keeps k)
  · cases hf

noncomputable def isVar (k : Option NameKind) : Bool := k == some .local || k == some .cell || k == some .free

noncomputable def varF (i : Nat) (ρ : Loc) (_ : Hp) : Option V := look ρ i
theorem load_var {env : Env} (he : EnvOK h₀ ns env) {A : Around} {ρ : Loc} {σ : Hp} {φ : List Addr} {s : Shared} (F : FOK env tab ρ φ s.heap) {i : Nat} {x : Str} (hi : nth tab i = some x)
    (hk : isVar (ns.lookup x) = true) (hd : (x == ("__classdict__" : Str)) = false) {v : V} (hv : look ρ i = some v) {Q E : Value → Shared → Prop} (hQ : ∀ y, VR φ v y → Q y s) :
    wpAny (model prog w) A (loadName env x) Q E s := by
  obtain ⟨hl, hlen, m, hm, hvar⟩ := F
  have hV := hvar i x (nth_eq tab i ▸ hi)
  rw [hv] at hV
  unfold VarIs at hV
  rw [he.kindOf] at hV
  split at hV
  · rename_i e
    obtain ⟨y, ey, hy⟩ := OVR.some hV
    exact wpAny_loadName_local he.kind (by rw [he.kindOf]; exact e) hm ey (hQ y hy)
  · rename_i e
    obtain ⟨c, cv, h1, h2, h3, h4⟩ := hV
    obtain ⟨y, ey, hy⟩ := OVR.some h4
    subst ey
    exact wpAny_loadName_cell he.kind (by rw [he.kindOf]; exact e) h1 h3 (hQ y hy)
  · rename_i e
    obtain ⟨c, cv, h1, h2, h3, h4⟩ := hV
    obtain ⟨y, ey, hy⟩ := OVR.some h4
    subst ey
    exact wpAny_loadName_free he.kind (by rw [he.kindOf]; exact e) h1 h3 (hQ y hy) hd
  · cases hV

theorem HP.var {x : Str} {pos : Pos} (i : Nat) (hi : nth tab i = some x) (hk : isVar (ns.lookup x) = true) (hc : (x == ("__classdict__" : Str)) = false) (hd : (x == ("__debug__" : Str)) = false) :
    HP prog w h₀ n ns tab (.Name x pos) (varF i) := by
  constructor
  intro env he A hA ρ σ φ s H F v hf Q E hQ
  exact wpAny_Name (load_var (σ := σ) he F hi hk hc hf fun y hy => hQ y s.heap s.toks (Keep.refl _) hy) hd

noncomputable def intF (i : Int) (_ : Loc) (_ : Hp) : Option V := some (.int i)
theorem HP.int {i : Int} {k : Nat} {pos : Pos} : HP prog w h₀ n ns tab (.Constant (.int i) k pos) (intF i) := by
  constructor
  intro env he A hA ρ σ φ s H F v hf Q E hQ
  cases hf
  exact wpAny_Constant_int (hQ _ _ _ (Keep.refl _) (.int _ _))
noncomputable def noneF (_ : Loc) (_ : Hp) : Option V := some .none
theorem HP.none {k : Nat} {pos : Pos} : HP prog w h₀ n ns tab (.Constant .none k pos) noneF := by
  constructor
  intro env he A hA ρ σ φ s H F v hf Q E hQ
  cases hf
  exact wpAny_Constant_none (hQ _ _ _ (Keep.refl _) .none)
noncomputable def boolF (b : Bool) (_ : Loc) (_ : Hp) : Option V := some (.bool b)
theorem HP.bool {b : Bool} {k : Nat} {pos : Pos} : HP prog w h₀ n ns tab (.Constant (.bool b) k pos) (boolF b) := by
  constructor
  intro env he A hA ρ σ φ s H F v hf Q E hQ
  cases hf
  exact wpAny_Constant_bool (hQ _ _ _ (Keep.refl _) (.bool _))

end
end Mine
namespace Mine

theorem bits_small {a : Int} (h : a.natAbs < 2 ^ 62) : Builtin.Int.intBits a ≤ 64 := by
  unfold Builtin.Int.intBits
  split
  · omega
  · rename_i hne
    have h0 : a.natAbs ≠ 0 := by
      intro e
      exact hne (by have : a = 0 := by omega
                    subst this; rfl)
    have := (Nat.log2_lt h0).mpr h
    omega

noncomputable def powF (a b : Int) : Option Int :=
  if b < 0 then .none
  else if b == 0 then some 1
  else if a == 0 || a == 1 then some a
  else if a == -1 then some (if b % 2 == 0 then 1 else -1)
  else if Builtin.Int.intTooBig (((Builtin.Int.intBits a : Nat) : Int) * b) then .none
  else some (a ^ b.toNat)

noncomputable def arF (op : Operator) (a b : Int) : Option Int := match op with
  | .Add => some (a + b)
  | .Sub => some (a - b)
  | .Mult => if decide (a.natAbs < 2 ^ 62) then some (a * b) else .none
  | .FloorDiv => if b == 0 then .none else if Builtin.divisionGoesByPylong a b then .none else some (a.fdiv b)
  | .Mod => if b == 0 then .none else some (a.fmod b)
  | .Pow => powF a b
  | _ => .none

section
variable {prog : Program} {w : World} {A : Around} {E : Value → Shared → Prop} {s : Shared}
theorem binop_int {op : Operator} {a b r : Int} {t u : Tok} {Q : Value → Shared → Prop} (h : arF op a b = some r) (hQ : ∀ x tk, Q (.int r x) { s with toks := tk }) :
    wpAny (model prog w) A (binaryOp op (.int a t) (.int b u)) Q E s := by
  cases op <;> simp only [arF] at h <;> try (cases h)
  · exact AutoIntOps.add_0 (hQ _ _)
  · exact AutoIntOps.sub_0 (hQ _ _)
  · split at h
    · rename_i hc; cases h
      exact AutoIntOps.mul_0 (hQ _ _) (IntMulOk.of_left (bits_small (by simpa using hc)))
    · cases h
  · split at h
    · cases h
    · rename_i hb; cases h
      exact AutoIntOps.mod_1 hb (hQ _ _)
  · unfold powF at h
    split at h
    · cases h
    rename_i hb
    split at h
    · rename_i h0; cases h; exact AutoIntOps.pow_0 (by omega) h0 (hQ _ _)
    rename_i h0
    split at h
    · rename_i h1; cases h; exact AutoIntOps.pow_1 (by omega) h0 h1 (hQ _ _)
    rename_i h1
    split at h
    · rename_i h2; cases h; exact AutoIntOps.pow_2 (by omega) h0 h1 h2 (hQ _ _)
    rename_i h2
    split at h
    · cases h
    rename_i h3
    cases h
    exact AutoIntOps.pow_4 (by omega) h0 h1 h2 h3 (hQ _ _)
  · split at h
    · cases h
    split at h
    · cases h
    rename_i hb hp
    cases h
    exact AutoIntOps.floordiv_1 hb hp (hQ _ _)
theorem iop_int {op : Operator} {a b r : Int} {t u : Tok} {Q : Value → Shared → Prop} (h : (match op with | .Add => some (a + b) | .Sub => some (a - b) | _ => Option.none) = some r) (hQ : ∀ x tk, Q (.int r x) { s with toks := tk }) :
    wpAny (model prog w) A (inplaceOp op (.int a t) (.int b u)) Q E s := by
  cases op <;> simp only at h <;> try (cases h)
  · exact AutoIntOps.iadd_0 (hQ _ _)
  · exact AutoIntOps.isub_0 (hQ _ _)

noncomputable def cmpF (op : CmpOp) (a b : Int) : Option Bool := match op with
  | .Eq => some (a == b)
  | .NotEq => some (a != b)
  | .Lt => some (decide (a < b))
  | .LtE => some (decide (a ≤ b))
  | .Gt => some (decide (b < a))
  | .GtE => some (decide (b ≤ a))
  | _ => .none
theorem cmp_int {op : CmpOp} {a b : Int} {r : Bool} {t u : Tok} {Q : Value → Shared → Prop} (h : cmpF op a b = some r) (hQ : Q (.bool r) s) :
    wpAny (model prog w) A (compareOp op (.int a t) (.int b u)) Q E s := by
  cases op <;> simp only [cmpF] at h <;> cases h
  · exact eq_int hQ
  · exact ne_int hQ
  · exact lt_int hQ
  · exact PyProof.Rows.le_int hQ
  · exact gt_int hQ
  · exact ge_int hQ
end

noncomputable def isStar : Expr → Bool
  | .Starred .. => true
  | _ => false
theorem star_each {e : Expr} {rest : List Expr} {env : Env} (h : isStar e = false) : starEach (e :: rest) env = (false, eval e env) :: starEach rest env := by
  cases e <;> first | rfl | cases h

section
variable {prog : Program} {w : World} {h₀ : Heap} {n : Nat} {ns : List (Str × NameKind)} {tab : List Str}

noncomputable def binF (op : Operator) (f g : Loc → Hp → Option V) (ρ : Loc) (σ : Hp) : Option V := match f ρ σ with
  | some (.int a) => match g ρ σ with
    | some (.int b) => match arF op a b with
      | some r => some (.int r)
      | .none => .none
    | _ => .none
  | _ => .none
theorem HP.bin {l r : Expr} {op : Operator} {pos : Pos} {f g} (hl : HP prog w h₀ n ns tab l f) (hr : HP prog w h₀ n ns tab r g) : HP prog w h₀ n ns tab (.BinOp l op r pos) (binF op f g) := by
  constructor
  intro env he A hA ρ σ φ s H F v hf Q E hQ
  unfold binF at hf
  split at hf
  case h_2 => cases hf
  rename_i a ea
  split at hf
  case h_2 => cases hf
  rename_i b eb
  split at hf
  case h_2 => cases hf
  rename_i r er
  cases hf
  refine wpAny_BinOp (hl.1 env he A hA ρ σ φ s H F _ ea _ _ fun x h' tk k hv => ?_)
  cases hv
  refine hr.1 env he A hA ρ σ φ _ (H.keeps k) (F.keeps k) _ eb _ _ fun y h'' tk' k' hv' => ?_
  cases hv'
  exact binop_int er fun x' tk'' => hQ _ _ _ (k.trans k') (.int _ _)

noncomputable def binE (op : Operator) (f g : Nat → Loc → Hp → Option (V × Hp)) (n0 : Nat) (ρ : Loc) (σ : Hp) : Option (V × Hp) := match f n0 ρ σ with
  | some (.int a, σ') => match g n0 ρ σ' with
    | some (.int b, σ'') => match arF op a b with
      | some r => some (.int r, σ'')
      | .none => .none
    | _ => .none
  | _ => .none
theorem HE.bin {l r : Expr} {op : Operator} {pos : Pos} {f g} (hl : HE prog w h₀ n ns tab l f) (hr : HE prog w h₀ n ns tab r g) : HE prog w h₀ n ns tab (.BinOp l op r pos) (binE op f g) := by
  constructor
  intro env he A hA n0 ρ σ φ s H F v σ₁ hf Q E hQ
  unfold binE at hf
  split at hf
  case h_2 => cases hf
  rename_i a σ' ea
  split at hf
  case h_2 => cases hf
  rename_i b σ'' eb
  split at hf
  case h_2 => cases hf
  rename_i r er
  cases hf
  refine wpAny_BinOp (hl.1 env he A hA n0 ρ σ φ s H F _ _ ea _ _ fun φ' x h' tk k H' hv => ?_)
  cases hv
  refine hr.1 env he A hA n0 ρ _ φ' _ H' (F.ext k) _ _ eb _ _ fun φ'' y h'' tk' k' H'' hv' => ?_
  cases hv'
  exact binop_int er fun x' tk'' => hQ _ _ _ _ (k.trans H' k') H'' (.int _ _)

noncomputable def negF (f : Loc → Hp → Option V) (ρ : Loc) (σ : Hp) : Option V := match f ρ σ with
  | some (.int a) => some (.int (-a))
  | _ => .none
theorem HP.neg {e : Expr} {pos : Pos} {f} (h : HP prog w h₀ n ns tab e f) : HP prog w h₀ n ns tab (.UnaryOp .USub e pos) (negF f) := by
  constructor
  intro env he A hA ρ σ φ s H F v hf Q E hQ
  unfold negF at hf
  split at hf
  case h_2 => cases hf
  rename_i a ea
  cases hf
  refine wpAny_UnaryOp (h.1 env he A hA ρ σ φ s H F _ ea _ _ fun x h' tk k hv => ?_)
  cases hv
  exact neg_int (hQ _ _ _ k (.int _ _))

noncomputable def cmpT (op : CmpOp) (f g : Loc → Hp → Option V) (ρ : Loc) (σ : Hp) : Option Bool := match f ρ σ with
  | some (.int a) => match g ρ σ with
    | some (.int b) => cmpF op a b
    | _ => .none
  | _ => .none
theorem HT.cmp {l r : Expr} {op : CmpOp} {pos : Pos} {f g} (hl : HP prog w h₀ n ns tab l f) (hr : HP prog w h₀ n ns tab r g) (hb : behindInMarks op r = false) : HT prog w h₀ n ns tab (.Compare l [op] [r] pos) (cmpT op f g) := by
  constructor
  intro env he A hA ρ σ φ s H F v hf Q E hQ
  unfold cmpT at hf
  split at hf
  case h_2 => cases hf
  rename_i a ea
  split at hf
  case h_2 => cases hf
  rename_i b eb
  refine wpAny_isTrue_Compare1 (hl.1 env he A hA ρ σ φ s H F _ ea _ _ fun x h' tk k hv => ?_) hb
  cases hv
  refine hr.1 env he A hA ρ σ φ _ (H.keeps k) (F.keeps k) _ eb _ _ fun y h'' tk' k' hv' => ?_
  cases hv'
  exact cmp_int hf (wpAny_truthy_bool (hQ _ _ (k.trans k')))

/-- a comparison of two ints as a test, the sides making things -/
noncomputable def cmpTE (op : CmpOp) (f g : Nat → Loc → Hp → Option (V × Hp)) (n0 : Nat) (ρ : Loc) (σ : Hp) : Option (Bool × Hp) := match f n0 ρ σ with
  | some (.int a, σ') => match g n0 ρ σ' with
    | some (.int b, σ'') => match cmpF op a b with
      | some r => some (r, σ'')
      | .none => .none
    | _ => .none
  | _ => .none
theorem HTE.cmp {l r : Expr} {op : CmpOp} {pos : Pos} {f g} (hl : HE prog w h₀ n ns tab l f) (hr : HE prog w h₀ n ns tab r g) (hb : behindInMarks op r = false) : HTE prog w h₀ n ns tab (.Compare l [op] [r] pos) (cmpTE op f g) := by
  constructor
  intro env he A hA n0 ρ σ φ s H F v σ₁ hf Q E hQ
  unfold cmpTE at hf
  split at hf
  case h_2 => cases hf
  rename_i a σ' ea
  split at hf
  case h_2 => cases hf
  rename_i b σ'' eb
  split at hf
  case h_2 => cases hf
  rename_i c ec
  cases hf
  refine wpAny_isTrue_Compare1 (hl.1 env he A hA n0 ρ σ φ s H F _ _ ea _ _ fun φ' x h' tk k H' hv => ?_) hb
  cases hv
  refine hr.1 env he A hA n0 ρ _ φ' _ H' (F.ext k) _ _ eb _ _ fun φ'' y h'' tk' k' H'' hv' => ?_
  cases hv'
  exact cmp_int ec (wpAny_truthy_bool (hQ _ _ _ (k.trans H' k') H''))

noncomputable def isNoneT (f : Loc → Hp → Option V) (ρ : Loc) (σ : Hp) : Option Bool := match f ρ σ with
  | some .none => some true
  | some (.ref _) => some false
  | _ => .none
theorem HT.isNone {l : Expr} {kd : Nat} {p pos : Pos} {f} (hl : HP prog w h₀ n ns tab l f) (hb : behindInMarks .Is (.Constant .none kd p) = false) : HT prog w h₀ n ns tab (.Compare l [.Is] [.Constant .none kd p] pos) (isNoneT f) := by
  constructor
  intro env he A hA ρ σ φ s H F v hf Q E hQ
  unfold isNoneT at hf
  split at hf
  · rename_i ea
    cases hf
    refine wpAny_isTrue_Compare1 (hl.1 env he A hA ρ σ φ s H F _ ea _ _ fun x h' tk k hv => ?_) hb
    cases hv
    exact wpAny_Constant_none (wpAny_is_self rfl (wpAny_truthy_bool (hQ _ _ k)))
  · rename_i ea
    cases hf
    refine wpAny_isTrue_Compare1 (hl.1 env he A hA ρ σ φ s H F _ ea _ _ fun x h' tk k hv => ?_) hb
    cases hv
    exact wpAny_Constant_none (wpAny_is_other rfl (by intro e; cases e) (wpAny_truthy_bool (hQ _ _ k)))
  · cases hf

noncomputable def allInts : List V → Option (List Int)
  | [] => some []
  | .int i :: r => match allInts r with
    | some l => some (i :: l)
    | .none => .none
  | _ => .none
theorem allInts_are {φ : List Addr} : ∀ {vs : List V} {xs : List Value} {is : List Int}, VsR φ vs xs → allInts vs = some is → IntsAre xs is
  | _, _, _, .nil, e => by cases e; exact .nil
  | _, _, _, .cons (v := v) h r, e => by
    cases h <;> simp only [allInts] at e
    case int i t =>
      split at e
      · rename_i l el; cases e; exact .cons i t (allInts_are r el)
      · cases e
    all_goals cases e

noncomputable def getList (σ : Hp) (v : V) : Option (List V) := match v with
  | .ref k => match nth σ k with
    | some ⟨false, its⟩ => some its
    | _ => .none
  | _ => .none
theorem getList_is {φ : List Addr} {σ : Hp} {h : Heap} (H : HR h₀ φ σ h) {v : V} {its : List V} (e : getList σ v = some its) {x : Value} (hv : VR φ v x) : ∃ a xs, x = .ref a ∧ VsR φ its xs ∧ h.IsList a xs.toArray := by
  cases hv <;> simp only [getList] at e <;> try (cases e)
  rename_i k a ha
  split at e
  · rename_i its' eo; cases e
    obtain ⟨xs, hx, hl⟩ := H.list ha eo
    exact ⟨a, xs, rfl, hx, hl⟩
  · cases e

/-- two lists of ints compared -/
noncomputable def eqL (neg : Bool) (σ : Hp) (a b : V) : Option Bool := match getList σ a with
  | some xs => match getList σ b with
    | some ys => match allInts xs with
      | some is => match allInts ys with
        | some js => some (if decide (is = js) then !neg else neg)
        | .none => .none
      | .none => .none
    | .none => .none
  | .none => .none
theorem eqL_ok {A : Around} (hA : Room n A) {E : Value → Shared → Prop} {s : Shared} {φ : List Addr} {σ : Hp} (H : HR h₀ φ σ s.heap) {op : CmpOp} (neg : Bool) (hop : op = if neg then .NotEq else .Eq)
    {a b : V} {x y : Value} {r : Bool} (hx : VR φ a x) (hy : VR φ b y) (e : eqL neg σ a b = some r) {Q : Value → Shared → Prop} (hQ : Q (.bool r) s) : wpAny (model prog w) A (compareOp op x y) Q E s := by
  unfold eqL at e
  split at e
  case h_2 => cases e
  rename_i xs e1
  split at e
  case h_2 => cases e
  rename_i ys e2
  split at e
  case h_2 => cases e
  rename_i is e3
  split at e
  case h_2 => cases e
  rename_i js e4
  cases e
  obtain ⟨ax, xs', rfl, hxs, hlx⟩ := getList_is H e1 hx
  obtain ⟨ay, ys', rfl, hys, hly⟩ := getList_is H e2 hy
  have hu : A.units + 64 < cLine := by have := hA.2.2; omega
  subst hop
  cases neg
  · refine eq_intsK hlx (allInts_are hxs e3) hly (allInts_are hys e4) hu ?_
    by_cases q : is = js
    · simpa [q] using hQ
    · simpa [q] using hQ
  · refine ne_intsK hlx (allInts_are hxs e3) hly (allInts_are hys e4) hu ?_
    by_cases q : is = js
    · simpa [q] using hQ
    · simpa [q] using hQ

noncomputable def eqTE (neg : Bool) (f g : Nat → Loc → Hp → Option (V × Hp)) (n0 : Nat) (ρ : Loc) (σ : Hp) : Option (Bool × Hp) := match f n0 ρ σ with
  | some (a, σ') => match g n0 ρ σ' with
    | some (b, σ'') => match eqL neg σ'' a b with
      | some r => some (r, σ'')
      | .none => .none
    | _ => .none
  | _ => .none
theorem VR.ext {n0 : Nat} {φ φ' : List Addr} {h h' : Heap} (E : Ext n0 φ φ' h h') {v : V} {x : Value} (hv : VR φ v x) : VR φ' v x := by
  obtain ⟨⟨ψ, rfl, _⟩, _⟩ := E; exact hv.mono
theorem VsR.ext {n0 : Nat} {φ φ' : List Addr} {h h' : Heap} (E : Ext n0 φ φ' h h') {v : List V} {x : List Value} (hv : VsR φ v x) : VsR φ' v x := by
  obtain ⟨⟨ψ, rfl, _⟩, _⟩ := E; exact hv.mono
theorem HTE.eqL {l r : Expr} {op : CmpOp} {pos : Pos} {f g} (neg : Bool) (hop : op = if neg then .NotEq else .Eq) (hl : HE prog w h₀ n ns tab l f) (hr : HE prog w h₀ n ns tab r g) (hb : behindInMarks op r = false) :
    HTE prog w h₀ n ns tab (.Compare l [op] [r] pos) (eqTE neg f g) := by
  constructor
  intro env he A hA n0 ρ σ φ s H F v σ₁ hf Q E hQ
  unfold eqTE at hf
  split at hf
  case h_2 => cases hf
  rename_i a σ' ea
  split at hf
  case h_2 => cases hf
  rename_i b σ'' eb
  split at hf
  case h_2 => cases hf
  rename_i c ec
  cases hf
  refine wpAny_isTrue_Compare1 (hl.1 env he A hA n0 ρ σ φ s H F _ _ ea _ _ fun φ' x h' tk k H' hv => ?_) hb
  refine hr.1 env he A hA n0 ρ _ φ' _ H' (F.ext k) _ _ eb _ _ fun φ'' y h'' tk' k' H'' hv' => ?_
  exact eqL_ok hA H'' neg hop (hv.ext k') hv' ec (wpAny_truthy_bool (hQ _ _ _ (k.trans H' k') H''))
noncomputable def eqVE (neg : Bool) (f g : Nat → Loc → Hp → Option (V × Hp)) (n0 : Nat) (ρ : Loc) (σ : Hp) : Option (V × Hp) := match eqTE neg f g n0 ρ σ with
  | some (b, σ') => some (.bool b, σ')
  | .none => .none
theorem HE.eqL {l r : Expr} {op : CmpOp} {pos : Pos} {f g} (neg : Bool) (hop : op = if neg then .NotEq else .Eq) (hl : HE prog w h₀ n ns tab l f) (hr : HE prog w h₀ n ns tab r g) (hb : behindInMarks op r = false) :
    HE prog w h₀ n ns tab (.Compare l [op] [r] pos) (eqVE neg f g) := by
  constructor
  intro env he A hA n0 ρ σ φ s H F v σ₁ hf Q E hQ
  unfold eqVE at hf
  split at hf
  case h_2 => cases hf
  rename_i b σ' hf'
  cases hf
  unfold eqTE at hf'
  split at hf'
  case h_2 => cases hf'
  rename_i a σ' ea
  split at hf'
  case h_2 => cases hf'
  rename_i b σ'' eb
  split at hf'
  case h_2 => cases hf'
  rename_i c ec
  cases hf'
  refine wpAny_Compare1 (hl.1 env he A hA n0 ρ σ φ s H F _ _ ea _ _ fun φ' x h' tk k H' hv => ?_) hb
  refine hr.1 env he A hA n0 ρ _ φ' _ H' (F.ext k) _ _ eb _ _ fun φ'' y h'' tk' k' H'' hv' => ?_
  exact eqL_ok hA H'' neg hop (hv.ext k') hv' ec (hQ _ _ _ _ (k.trans H' k') H'' (.bool _))

-- and, or
noncomputable def andT (f g : Loc → Hp → Option Bool) (ρ : Loc) (σ : Hp) : Option Bool := match f ρ σ with
  | some true => g ρ σ
  | r => r
theorem HT.and {l r : Expr} {pos : Pos} {f g} (hl : HT prog w h₀ n ns tab l f) (hr : HT prog w h₀ n ns tab r g) : HT prog w h₀ n ns tab (.BoolOp .And [l, r] pos) (andT f g) := by
  constructor
  intro env he A hA ρ σ φ s H F v hf Q E hQ
  unfold andT at hf
  split at hf
  · rename_i ea
    refine wpAny_isTrue_BoolOp (wpAny_allTrue_And_cons (hl.1 env he A hA ρ σ φ s H F _ ea _ _ fun h' tk k => ?_))
    rw [if_pos rfl]
    refine wpAny_allTrue_And_cons (hr.1 env he A hA ρ σ φ _ (H.keeps k) (F.keeps k) _ hf _ _ fun h'' tk' k' => ?_)
    cases v
    · rw [if_neg (by decide)]; exact hQ _ _ (k.trans k')
    · rw [if_pos rfl]; exact wpAny_allTrue_And_nil (hQ _ _ (k.trans k'))
  · rename_i q
    cases v
    · refine wpAny_isTrue_BoolOp (wpAny_allTrue_And_cons (hl.1 env he A hA ρ σ φ s H F _ hf _ _ fun h' tk k => ?_))
      rw [if_neg (by decide)]; exact hQ _ _ k
    · exact absurd hf (q ·)

/-- several tests under or -/
noncomputable def orTE : List (Nat → Loc → Hp → Option (Bool × Hp)) → Nat → Loc → Hp → Option (Bool × Hp)
  | [], _, _, σ => some (false, σ)
  | f :: fs, n0, ρ, σ => match f n0 ρ σ with
    | some (false, σ') => orTE fs n0 ρ σ'
    | r => r
inductive HTs (prog : Program) (w : World) (h₀ : Heap) (n : Nat) (ns : List (Str × NameKind)) (tab : List Str) : List Expr → List (Nat → Loc → Hp → Option (Bool × Hp)) → Prop
  | nil : HTs prog w h₀ n ns tab [] []
  | cons {e es f fs} : HTE prog w h₀ n ns tab e f → HTs prog w h₀ n ns tab es fs → HTs prog w h₀ n ns tab (e :: es) (f :: fs)
theorem orTE_ok {env : Env} (he : EnvOK h₀ ns env) {A : Around} (hA : Room n A) {n0 : Nat} {ρ : Loc} {E : Value → Shared → Prop} : ∀ {es fs}, HTs prog w h₀ n ns tab es fs → ∀ {σ : Hp} {φ : List Addr} {s : Shared}, HR h₀ φ σ s.heap → FOK env tab ρ φ s.heap → ∀ {b σ'}, orTE fs n0 ρ σ = some (b, σ') →
    ∀ {Q : Bool → Shared → Prop}, (∀ φ' h' tk, Ext n0 φ φ' s.heap h' → HR h₀ φ' σ' h' → Q b { s with heap := h', toks := tk }) → wpAny (model prog w) A (allTrue .Or es env) Q E s := by
  intro es fs h
  induction h with
  | nil =>
    intro σ φ s H F b σ' e Q hQ
    cases e
    exact wpAny_allTrue_Or_nil (hQ φ s.heap s.toks (.of_keep (Keep.refl _)) H)
  | cons h r ih =>
    intro σ φ s H F b σ' e Q hQ
    unfold orTE at e
    split at e
    · rename_i σ₁ e1
      refine wpAny_allTrue_Or_cons (h.1 env he A hA n0 ρ σ φ s H F _ _ e1 _ _ fun φ' h' tk k H' => ?_)
      rw [if_neg (by decide)]
      exact ih (s := { s with heap := h', toks := tk }) H' (F.ext k) e fun φ'' h'' tk' k' H'' => hQ _ _ _ (k.trans H' k') H''
    · rename_i q
      cases b
      · exact absurd e (q _ ·)
      · refine wpAny_allTrue_Or_cons (h.1 env he A hA n0 ρ σ φ s H F _ _ e _ _ fun φ' h' tk k H' => ?_)
        rw [if_pos rfl]
        exact hQ _ _ _ k H'
theorem HTE.or {es : List Expr} {pos : Pos} {fs} (h : HTs prog w h₀ n ns tab es fs) : HTE prog w h₀ n ns tab (.BoolOp .Or es pos) (orTE fs) := by
  constructor
  intro env he A hA n0 ρ σ φ s H F v σ₁ hf Q E hQ
  exact wpAny_isTrue_BoolOp (orTE_ok he hA h H F hf hQ)

noncomputable def ifP (t : Loc → Hp → Option Bool) (f g : Loc → Hp → Option V) (ρ : Loc) (σ : Hp) : Option V := match t ρ σ with
  | some true => f ρ σ
  | some false => g ρ σ
  | .none => .none
theorem HP.ife {c a b : Expr} {pos : Pos} {t f g} (hc : HT prog w h₀ n ns tab c t) (ha : HP prog w h₀ n ns tab a f) (hb : HP prog w h₀ n ns tab b g) : HP prog w h₀ n ns tab (.IfExp c a b pos) (ifP t f g) := by
  constructor
  intro env he A hA ρ σ φ s H F v hf Q E hQ
  unfold ifP at hf
  split at hf
  · rename_i e
    refine wpAny_IfExp (hc.1 env he A hA ρ σ φ s H F _ e _ _ fun h' tk k => ?_)
    rw [if_pos rfl]
    exact ha.1 env he A hA ρ σ φ _ (H.keeps k) (F.keeps k) _ hf _ _ fun x h'' tk' k' hv => hQ _ _ _ (k.trans k') hv
  · rename_i e
    refine wpAny_IfExp (hc.1 env he A hA ρ σ φ s H F _ e _ _ fun h' tk k => ?_)
    rw [if_neg (by decide)]
    exact hb.1 env he A hA ρ σ φ _ (H.keeps k) (F.keeps k) _ hf _ _ fun x h'' tk' k' hv => hQ _ _ _ (k.trans k') hv
  · cases hf
noncomputable def ifE (t : Nat → Loc → Hp → Option (Bool × Hp)) (f g : Nat → Loc → Hp → Option (V × Hp)) (n0 : Nat) (ρ : Loc) (σ : Hp) : Option (V × Hp) := match t n0 ρ σ with
  | some (true, σ') => f n0 ρ σ'
  | some (false, σ') => g n0 ρ σ'
  | .none => .none
theorem HE.ife {c a b : Expr} {pos : Pos} {t f g} (hc : HTE prog w h₀ n ns tab c t) (ha : HE prog w h₀ n ns tab a f) (hb : HE prog w h₀ n ns tab b g) : HE prog w h₀ n ns tab (.IfExp c a b pos) (ifE t f g) := by
  constructor
  intro env he A hA n0 ρ σ φ s H F v σ₁ hf Q E hQ
  unfold ifE at hf
  split at hf
  · rename_i σ' e
    refine wpAny_IfExp (hc.1 env he A hA n0 ρ σ φ s H F _ _ e _ _ fun φ' h' tk k H' => ?_)
    rw [if_pos rfl]
    exact ha.1 env he A hA n0 ρ _ φ' _ H' (F.ext k) _ _ hf _ _ fun φ'' x h'' tk' k' H'' hv => hQ _ _ _ _ (k.trans H' k') H'' hv
  · rename_i σ' e
    refine wpAny_IfExp (hc.1 env he A hA n0 ρ σ φ s H F _ _ e _ _ fun φ' h' tk k H' => ?_)
    rw [if_neg (by decide)]
    exact hb.1 env he A hA n0 ρ _ φ' _ H' (F.ext k) _ _ hf _ _ fun φ'' x h'' tk' k' H'' hv => hQ _ _ _ _ (k.trans H' k') H'' hv
  · cases hf

-- items
noncomputable def idxF (len : Nat) (k : Int) : Option Nat := if k < 0 then (if decide (-(len : Int) ≤ k) then some (k + len).toNat else .none) else if decide (k < (len : Int)) then some k.toNat else .none
noncomputable def itemF (o : O) (k : Int) : Option V :=
  if k < 0 then (if decide (-(2 ^ 62 : Int) ≤ k) && decide (-(o.items.length : Int) ≤ k) then nth o.items (k + o.items.length).toNat else .none)
  else (if decide (k < 2 ^ 62) then nth o.items k.toNat else .none)
noncomputable def subVal (σ : Hp) (v : V) (k : V) : Option V := match v with
  | .ref a => match nth σ a with
    | some o => match k with
      | .int i => itemF o i
      | _ => .none
    | .none => .none
  | _ => .none
theorem subTail {M' : Program} {w' : World} {A : Around} {E : Value → Shared → Prop} {s : Shared} {value slice : Expr} {o i : Value} {T id : String} {ops : List Value} {Q : Value → Shared → Prop} (hT : s.TypeIs o T)
    (hl : typeLookup (.type T) "__getitem__" = pure (some (.builtin id))) (h : wpAny (model M' w') A (getItem o i) Q E s) (hs : subscripted slice false o i = operate ops (getItem o i)) :
    wpAny (model M' w') A (subscriptTail value slice o i) Q E s := by
  unfold subscriptTail
  refine wpAny_bind ?_
  rw [getitemInPython_of_ne hT.not_modules]
  refine wpAny_bind (wpAny_specialOf hT hl ?_)
  have fin : wpAny (model M' w') A (subscripted slice false o i) (fun r s₃ => wpAny (model M' w') A (letTemporaryGo value o r >>= fun _ => pure r) Q E s₃) E s := by
    rw [hs]
    exact wpAny_operating (wpAny_mono h (fun r s₃ h₃ => wpAny_bind (wpAny_letTemporaryGo (wpAny_pure h₃))) fun _ _ x => x)
  exact wpAny_pure (wpAny_bind fin)
theorem nth_toArray {xs : List Value} {k : Nat} : xs.toArray[k]? = xs[k]? := by simp
theorem subVal_ok {A : Around} {E : Value → Shared → Prop} {s : Shared} {φ : List Addr} {σ : Hp} (H : HR h₀ φ σ s.heap) {v k r : V} {x y : Value} (hv : VR φ v x) (hk : VR φ k y) (e : subVal σ v k = some r)
    {value slice : Expr} (hs : ∀ o i, subscripted slice false o i = operate [o, i] (getItem o i)) {Q : Value → Shared → Prop} (hQ : ∀ z, VR φ r z → Q z s) :
    wpAny (model prog w) A (subscriptTail value slice x y) Q E s := by
  cases hv <;> simp only [subVal] at e <;> try (cases e)
  rename_i a ad had
  split at e
  case h_2 => cases e
  rename_i o eo
  cases hk <;> simp only at e <;> try (cases e)
  rename_i i t
  obtain ⟨xs, hxs, ob, nn, g1, g2, g3⟩ := H.lookup had eo
  have hlen := hxs.length
  unfold itemF at e
  cases ht' : o.tup
  · rw [ht'] at g2
    have hl : s.heap.IsList ad xs.toArray := ⟨ob, g1, by simpa using g2, nn, g3⟩
    refine subTail (Heap.IsList.typeIs hl) list_getitem_lookup ?_ (hs _ _)
    split at e
    · rename_i hneg
      split at e
      · rename_i hc
        simp only [Bool.and_eq_true, decide_eq_true_eq] at hc
        rw [nth_eq] at e
        obtain ⟨z, ez, hz⟩ := hxs.get e
        refine wpAny_getItem_list_neg hl hneg (by simp [hlen]; omega) (by omega) (x := z) ?_ (hQ z hz)
        rw [nth_toArray]; simpa [hlen] using ez
      · cases e
    · rename_i hneg
      split at e
      · rename_i hc
        simp only [decide_eq_true_eq] at hc
        rw [nth_eq] at e
        obtain ⟨z, ez, hz⟩ := hxs.get e
        exact wpAny_getItem_list hl (by omega) (by omega) (x := z) (by rw [nth_toArray]; exact ez) (hQ z hz)
      · cases e
  · rw [ht'] at g2
    have hl : IsTup s.heap ad xs.toArray := ⟨ob, g1, by simpa using g2, nn, g3⟩
    refine subTail (IsTup.typeIs hl) PyProof.Rows.slot_tuple_getitem.lookup ?_ (hs _ _)
    split at e
    · rename_i hneg
      split at e
      · rename_i hc
        simp only [Bool.and_eq_true, decide_eq_true_eq] at hc
        rw [nth_eq] at e
        obtain ⟨z, ez, hz⟩ := hxs.get e
        exact getItem_tuple hl (by omega) (by omega) (seqIndex_neg hneg (by simp [hlen]; omega)) (x := z) (by rw [nth_toArray]; simpa [hlen] using ez) (hQ z hz)
      · cases e
    · rename_i hneg
      split at e
      · rename_i hc
        simp only [decide_eq_true_eq] at hc
        rw [nth_eq] at e
        obtain ⟨z, ez, hz⟩ := hxs.get e
        have hlt := (List.getElem?_eq_some_iff.mp ez).1
        exact getItem_tuple hl (by omega) (by omega) (seqIndex_of (by omega) (by simp; omega)) (x := z) (by rw [nth_toArray]; exact ez) (hQ z hz)
      · cases e

noncomputable def subP (f g : Loc → Hp → Option V) (ρ : Loc) (σ : Hp) : Option V := match f ρ σ with
  | some v => match g ρ σ with
    | some k => subVal σ v k
    | .none => .none
  | .none => .none
theorem HP.sub {value slice : Expr} {pos : Pos} {f g} (hf : HP prog w h₀ n ns tab value f) (hg : HP prog w h₀ n ns tab slice g)
    (hs : ∀ o i, subscripted slice false o i = operate [o, i] (getItem o i)) : HP prog w h₀ n ns tab (.Subscript value slice pos) (subP f g) := by
  constructor
  intro env he A hA ρ σ φ s H F v hr Q E hQ
  unfold subP at hr
  split at hr
  case h_2 => cases hr
  rename_i a ea
  split at hr
  case h_2 => cases hr
  rename_i b eb
  refine Subscript_ (hf.1 env he A hA ρ σ φ s H F _ ea _ _ fun x h' tk k hv => ?_)
  refine hg.1 env he A hA ρ σ φ _ (H.keeps k) (F.keeps k) _ eb _ _ fun y h'' tk' k' hv' => ?_
  exact subVal_ok ((H.keeps k).keeps k') hv hv' hr hs fun z hz => hQ _ _ _ (k.trans k') hz
noncomputable def subE (f g : Nat → Loc → Hp → Option (V × Hp)) (n0 : Nat) (ρ : Loc) (σ : Hp) : Option (V × Hp) := match f n0 ρ σ with
  | some (v, σ') => match g n0 ρ σ' with
    | some (k, σ'') => match subVal σ'' v k with
      | some r => some (r, σ'')
      | .none => .none
    | .none => .none
  | .none => .none
theorem HE.sub {value slice : Expr} {pos : Pos} {f g} (hf : HE prog w h₀ n ns tab value f) (hg : HE prog w h₀ n ns tab slice g)
    (hs : ∀ o i, subscripted slice false o i = operate [o, i] (getItem o i)) : HE prog w h₀ n ns tab (.Subscript value slice pos) (subE f g) := by
  constructor
  intro env he A hA n0 ρ σ φ s H F v σ₁ hr Q E hQ
  unfold subE at hr
  split at hr
  case h_2 => cases hr
  rename_i a σ' ea
  split at hr
  case h_2 => cases hr
  rename_i b σ'' eb
  split at hr
  case h_2 => cases hr
  rename_i r er
  cases hr
  refine Subscript_ (hf.1 env he A hA n0 ρ σ φ s H F _ _ ea _ _ fun φ' x h' tk k H' hv => ?_)
  refine hg.1 env he A hA n0 ρ _ φ' _ H' (F.ext k) _ _ eb _ _ fun φ'' y h'' tk' k' H'' hv' => ?_
  exact subVal_ok H'' (hv.ext k') hv' er hs fun z hz => hQ _ _ _ _ (k.trans H' k') H'' hz
end
end Mine
namespace Mine

structure GC (mg mb : Str → Option Value) (h₀ : Heap) : Prop where
  g : h₀.Ns mainGlobals mg
  b : h₀.Ns builtinsNs mb
  lim : h₀.NoLimit

theorem Heap.none_size (h : Heap) : h.get? h.objs.size = none := by
  cases e : h.get? h.objs.size with
  | none => rfl
  | some o => exact absurd (Heap.lt_size e) (Nat.lt_irrefl _)

theorem pushSeq {h₀ : Heap} {φ : List Addr} {σ : Hp} {h : Heap} (H : HR h₀ φ σ h) (tup : Bool) {vs : List V} {xs : List Value} (hv : VsR φ vs xs) :
    HR h₀ (φ ++ [h.objs.size]) (σ ++ [⟨tup, vs⟩]) (h.push { cls := .type (if tup then "tuple" else "list"), data := .seq xs.toArray }) :=
  H.add (Keep.push _ _) (Heap.none_size h) ⟨xs, hv, _, 0, Heap.get?_push_size _ rfl, rfl, rfl⟩
theorem VR.top {h₀ : Heap} {φ : List Addr} {σ : Hp} {h : Heap} (H : HR h₀ φ σ h) (a : Addr) : VR (φ ++ [a]) (.ref σ.length) (.ref a) := .ref (by rw [← H.len]; simp)
theorem Ext.push {n0 : Nat} {φ : List Addr} (h : Heap) (o : Obj) : Ext n0 φ (φ ++ [h.objs.size]) h (h.push o) := .of_add (Keep.push _ _) (Heap.none_size h)

section
variable {prog : Program} {w : World} {h₀ : Heap} {n : Nat} {ns : List (Str × NameKind)} {tab : List Str} {mg mb : Str → Option Value}

theorem name_global (G : GC mg mb h₀) {env : Env} (he : EnvOK h₀ ns env) {M : Model} {A : Around} {E : Value → Shared → Prop} {s : Shared} {φ : List Addr} {σ : Hp} (H : HR h₀ φ σ s.heap) {x : Str} {pos : Pos} {v : Value} (hk : ns.lookup x = some .globalImplicit)
    (hv : mg x = some v) (hd : (x == ("__debug__" : Str)) = false) {Q : Value → Shared → Prop} (h : Q v s) : wpAny M A (eval (.Name x pos) env) Q E s :=
  Name_function_global he.kind (by rw [he.kindOf]; exact hk) (loadGlobal_global (by rw [he.glob]; exact G.g.keeps H.keep) hv h) hd
theorem name_builtin (G : GC mg mb h₀) {env : Env} (he : EnvOK h₀ ns env) {M : Model} {A : Around} {E : Value → Shared → Prop} {s : Shared} {φ : List Addr} {σ : Hp} (H : HR h₀ φ σ s.heap) {x : Str} {pos : Pos} {v : Value} (hk : ns.lookup x = some .globalImplicit)
    (hm : mg x = Option.none) (hv : mb x = some v) (hd : (x == ("__debug__" : Str)) = false) {Q : Value → Shared → Prop} (h : Q v s) : wpAny M A (eval (.Name x pos) env) Q E s :=
  Name_function_global he.kind (by rw [he.kindOf]; exact hk) (loadGlobal_builtin (by rw [he.glob]; exact G.g.keeps H.keep) hm (by rw [he.blt]; exact G.b.keeps H.keep) hv h) hd

/-- arguments, items of a display -/
structure HAs (prog : Program) (w : World) (h₀ : Heap) (n : Nat) (ns : List (Str × NameKind)) (tab : List Str) (es : List Expr) (fs : Nat → Loc → Hp → Option (List V × Hp)) : Prop where
  star : ∀ e ∈ es, isStar e = false
  run : ∀ env, EnvOK h₀ ns env → ∀ A, Room n A → ∀ n0 ρ σ φ s, HR h₀ φ σ s.heap → FOK env tab ρ φ s.heap → ∀ vs σ', fs n0 ρ σ = some (vs, σ') → ∀ pos (Q : List Value → Shared → Prop) (E : Value → Shared → Prop),
    (∀ φ' xs h' tk, Ext n0 φ φ' s.heap h' → HR h₀ φ' σ' h' → VsR φ' vs xs → Q xs { s with heap := h', toks := tk }) → wpAny (model prog w) A (spliced (backTo pos (starEach es env))) Q E s
noncomputable def asNil (_ : Nat) (_ : Loc) (σ : Hp) : Option (List V × Hp) := some ([], σ)
theorem HAs.nil : HAs prog w h₀ n ns tab [] asNil := by
  refine ⟨by simp, ?_⟩
  intro env he A hA n0 ρ σ φ s H F vs σ' hf pos Q E hQ
  cases hf
  exact args_nil (hQ φ [] s.heap s.toks (.of_keep (Keep.refl _)) H .nil)
noncomputable def asCons (f : Nat → Loc → Hp → Option (V × Hp)) (fs : Nat → Loc → Hp → Option (List V × Hp)) (n0 : Nat) (ρ : Loc) (σ : Hp) : Option (List V × Hp) := match f n0 ρ σ with
  | some (v, σ') => match fs n0 ρ σ' with
    | some (vs, σ'') => some (v :: vs, σ'')
    | .none => .none
  | .none => .none
theorem HAs.cons {e : Expr} {es : List Expr} {f fs} (h : HE prog w h₀ n ns tab e f) (hs : HAs prog w h₀ n ns tab es fs) (hst : isStar e = false) : HAs prog w h₀ n ns tab (e :: es) (asCons f fs) := by
  refine ⟨fun x hx => by rcases List.mem_cons.mp hx with rfl | hx; exact hst; exact hs.1 x hx, ?_⟩
  intro env he A hA n0 ρ σ φ s H F vs σ₁ hf pos Q E hQ
  unfold asCons at hf
  split at hf
  case h_2 => cases hf
  rename_i v σ' ev
  split at hf
  case h_2 => cases hf
  rename_i vs' σ'' evs
  cases hf
  refine args_cons (h.1 env he A hA n0 ρ σ φ s H F _ _ ev _ _ fun φ' x h' tk k H' hv => ?_) (star_each hst)
  exact hs.2 env he A hA n0 ρ _ φ' _ H' (F.ext k) _ _ evs pos _ _ fun φ'' xs h'' tk' k' H'' hvs => hQ _ _ _ _ (k.trans H' k') H'' (.cons (hv.ext k') hvs)

theorem noStars {es : List Expr} {env : Env} {pos : Pos} (h : ∀ e ∈ es, isStar e = false) : (backTo pos (starEach es env)).any (·.1) = false := by
  induction es with
  | nil => rfl
  | cons e r ih =>
    rw [star_each (h e (.head _))]
    have := ih fun x hx => h x (.tail _ hx)
    simpa [backTo] using this

noncomputable def dispE (tup : Bool) (fs : Nat → Loc → Hp → Option (List V × Hp)) (n0 : Nat) (ρ : Loc) (σ : Hp) : Option (V × Hp) := match fs n0 ρ σ with
  | some (vs, σ') => if decide (vs.length ≤ 1000) then some (.ref σ'.length, σ' ++ [⟨tup, vs⟩]) else .none
  | .none => .none
theorem HE.list {es : List Expr} {pos : Pos} {fs} (h : HAs prog w h₀ n ns tab es fs) : HE prog w h₀ n ns tab (.List es pos) (dispE false fs) := by
  constructor
  intro env he A hA n0 ρ σ φ s H F v σ₁ hf Q E hQ
  unfold dispE at hf
  split at hf
  case h_2 => cases hf
  rename_i vs σ' e
  split at hf
  case isFalse => cases hf
  rename_i hlen
  cases hf
  refine wpAny_List (h.2 env he A hA n0 ρ σ φ s H F _ _ e _ _ _ fun φ' xs h' tk k H' hv => ⟨?_, ?_⟩)
  · have := hv.length; simp only [decide_eq_true_eq] at hlen; rw [sizeLine_eq]; omega
  · exact hQ _ _ _ _ (k.trans H' (Ext.push _ _)) (pushSeq H' false hv) (VR.top H' _)
theorem HE.tuple {es : List Expr} {kk : Nat} {pos : Pos} {fs} (h : HAs prog w h₀ n ns tab es fs) : HE prog w h₀ n ns tab (.Tuple es kk pos) (dispE true fs) := by
  constructor
  intro env he A hA n0 ρ σ φ s H F v σ₁ hf Q E hQ
  unfold dispE at hf
  split at hf
  case h_2 => cases hf
  rename_i vs σ' e
  split at hf
  case isFalse => cases hf
  rename_i hlen
  cases hf
  refine wpAny_Tuple (h.2 env he A hA n0 ρ σ φ s H F _ _ e _ _ _ fun φ' xs h' tk k H' hv => ⟨?_, ?_⟩)
  · have := hv.length; simp only [decide_eq_true_eq] at hlen; rw [sizeLine_eq]; omega
  · exact hQ _ _ _ _ (k.trans H' (Ext.push _ _)) (pushSeq H' true hv) (VR.top H' _)

-- built-in calls upon one pure argument
noncomputable def HB (prog : Program) (w : World) (h₀ : Heap) (n : Nat) (f : Value) (F : V → Hp → Option V) : Prop :=
  ∀ A, Room n A → ∀ σ φ s, HR h₀ φ σ s.heap → ∀ v x r, VR φ v x → F v σ = some r → ∀ (Q E : Value → Shared → Prop), (∀ y h' tk, Keep s.heap h' → VR φ r y → Q y { s with heap := h', toks := tk }) → wpAny (model prog w) A (call f [x]) Q E s
noncomputable def callP1 (F : V → Hp → Option V) (f : Loc → Hp → Option V) (ρ : Loc) (σ : Hp) : Option V := match f ρ σ with
  | some v => F v σ
  | .none => .none
theorem HP.call1 (G : GC mg mb h₀) {x : Str} {np pos : Pos} {e : Expr} {id : String} {F f} (hk : ns.lookup x = some .globalImplicit) (hm : mg x = Option.none) (hv : mb x = some (.builtin id)) (hd : (x == ("__debug__" : Str)) = false) (hst : isStar e = false)
    (hB : HB prog w h₀ n (.builtin id) F) (h : HP prog w h₀ n ns tab e f) : HP prog w h₀ n ns tab (.Call (.Name x np) [e] [] pos) (callP1 F f) := by
  constructor
  intro env he A hA ρ σ φ s H Fk v hf Q E hQ
  unfold callP1 at hf
  split at hf
  case h_2 => cases hf
  rename_i a ea
  refine wpAny_Call_NameR (name_builtin G he H hk hm hv hd ?_)
  refine callWith_builtin1 (args_cons (h.1 env he A hA ρ σ φ s H Fk _ ea _ _ fun y h' tk k hy => args_nil ?_) (star_each hst)) (star_each hst) rfl
  exact hB A hA σ φ _ (H.keeps k) a y v hy hf _ _ fun z h'' tk' k' hz => hQ _ _ _ (k.trans k') hz

noncomputable def lenF (v : V) (σ : Hp) : Option V := match getList σ v with
  | some its => if decide (its.length < 2 ^ 62) then some (.int its.length) else .none
  | .none => .none
theorem HB.len : HB prog w h₀ n (.builtin "len") lenF := by
  intro A hA σ φ s H v x r hx hf Q E hQ
  unfold lenF at hf
  split at hf
  case h_2 => cases hf
  rename_i its e
  split at hf
  case isFalse => cases hf
  rename_i hl
  cases hf
  obtain ⟨a, xs, rfl, hxs, hlist⟩ := getList_is H e hx
  have hle := hxs.length
  simp only [decide_eq_true_eq] at hl
  refine Calls.call_len_list hlist (by simp [hle]; omega) ?_
  have := hQ (.int its.length (s.toks + 1)) s.heap (s.toks + 1 + 1) (Keep.refl _) (.int _ _)
  simpa [hle] using this
noncomputable def absF (v : V) (_ : Hp) : Option V := match v with
  | .int i => some (.int (if i < 0 then -i else i))
  | _ => .none
theorem HB.abs : HB prog w h₀ n (.builtin "abs") absF := by
  intro A hA σ φ s H v x r hx hf Q E hQ
  cases hx <;> simp only [absF] at hf <;> cases hf
  exact call_abs_int fun u tk => hQ _ s.heap tk (Keep.refl _) (.int _ _)

noncomputable def max2P (f g : Loc → Hp → Option V) (ρ : Loc) (σ : Hp) : Option V := match f ρ σ with
  | some (.int a) => match g ρ σ with
    | some (.int b) => some (.int (if b > a then b else a))
    | _ => .none
  | _ => .none
theorem HP.max2 (G : GC mg mb h₀) {x : Str} {np pos : Pos} {e e' : Expr} {f g} (hk : ns.lookup x = some .globalImplicit) (hm : mg x = Option.none) (hv : mb x = some (.builtin "max")) (hd : (x == ("__debug__" : Str)) = false) (hst : isStar e = false) (hst' : isStar e' = false)
    (h : HP prog w h₀ n ns tab e f) (h' : HP prog w h₀ n ns tab e' g) : HP prog w h₀ n ns tab (.Call (.Name x np) [e, e'] [] pos) (max2P f g) := by
  constructor
  intro env he A hA ρ σ φ s H Fk v hf Q E hQ
  unfold max2P at hf
  split at hf
  case h_2 => cases hf
  rename_i a ea
  split at hf
  case h_2 => cases hf
  rename_i b eb
  cases hf
  refine wpAny_Call_NameR (name_builtin G he H hk hm hv hd ?_)
  refine callWith_builtin1 (args_cons (h.1 env he A hA ρ σ φ s H Fk _ ea _ _ fun y h₁ tk k hy => args_cons (h'.1 env he A hA ρ σ φ _ (H.keeps k) (Fk.keeps k) _ eb _ _ fun z h₂ tk' k' hz => args_nil ?_) (star_each hst')) (star_each hst)) (star_each hst)
    (noStars (by simpa using hst'))
  cases hy
  cases hz
  refine max_two_ints hA.1 fun h₃ tk₃ k₃ => ?_
  by_cases c : b > a
  · rw [if_pos c]; rw [if_pos c] at hQ; exact hQ _ _ _ ((k.trans k').trans k₃) (.int _ _)
  · rw [if_neg c]; rw [if_neg c] at hQ; exact hQ _ _ _ ((k.trans k').trans k₃) (.int _ _)

-- calls that make a new object out of one argument
noncomputable def HBE (prog : Program) (w : World) (h₀ : Heap) (n : Nat) (f : Value) (F : V → Hp → Option (V × Hp)) : Prop :=
  ∀ A, Room n A → ∀ n0 σ φ s, HR h₀ φ σ s.heap → ∀ v x r σ', VR φ v x → F v σ = some (r, σ') → ∀ (Q E : Value → Shared → Prop), (∀ φ' y h' tk, Ext n0 φ φ' s.heap h' → HR h₀ φ' σ' h' → VR φ' r y → Q y { s with heap := h', toks := tk }) → wpAny (model prog w) A (call f [x]) Q E s
noncomputable def callE1 (F : V → Hp → Option (V × Hp)) (f : Nat → Loc → Hp → Option (V × Hp)) (n0 : Nat) (ρ : Loc) (σ : Hp) : Option (V × Hp) := match f n0 ρ σ with
  | some (v, σ') => F v σ'
  | .none => .none
theorem HE.callB (G : GC mg mb h₀) {x : Str} {np pos : Pos} {e : Expr} {id : String} {F f} (hk : ns.lookup x = some .globalImplicit) (hm : mg x = Option.none) (hv : mb x = some (.builtin id)) (hd : (x == ("__debug__" : Str)) = false) (hst : isStar e = false)
    (hB : HBE prog w h₀ n (.builtin id) F) (h : HE prog w h₀ n ns tab e f) : HE prog w h₀ n ns tab (.Call (.Name x np) [e] [] pos) (callE1 F f) := by
  constructor
  intro env he A hA n0 ρ σ φ s H Fk v σ₁ hf Q E hQ
  unfold callE1 at hf
  split at hf
  case h_2 => cases hf
  rename_i a σ' ea
  refine wpAny_Call_NameR (name_builtin G he H hk hm hv hd ?_)
  refine callWith_builtin1 (args_cons (h.1 env he A hA n0 ρ σ φ s H Fk _ _ ea _ _ fun φ' y h' tk k H' hy => args_nil ?_) (star_each hst)) (star_each hst) rfl
  exact hB A hA n0 _ φ' _ H' a y v _ hy hf _ _ fun φ'' z h'' tk' k' H'' hz => hQ _ _ _ _ (k.trans H' k') H'' hz
theorem HE.callT (G : GC mg mb h₀) {x : Str} {np pos : Pos} {e : Expr} {T : String} {F f} (hk : ns.lookup x = some .globalImplicit) (hm : mg x = Option.none) (hv : mb x = some (.type T)) (hd : (x == ("__debug__" : Str)) = false) (hst : isStar e = false)
    (hB : HBE prog w h₀ n (.type T) F) (h : HE prog w h₀ n ns tab e f) : HE prog w h₀ n ns tab (.Call (.Name x np) [e] [] pos) (callE1 F f) := by
  constructor
  intro env he A hA n0 ρ σ φ s H Fk v σ₁ hf Q E hQ
  unfold callE1 at hf
  split at hf
  case h_2 => cases hf
  rename_i a σ' ea
  refine wpAny_Call_NameR (name_builtin G he H hk hm hv hd ?_)
  refine callWith_type1 (args_cons (h.1 env he A hA n0 ρ σ φ s H Fk _ _ ea _ _ fun φ' y h' tk k H' hy => args_nil ?_) (star_each hst)) (star_each hst) rfl
  exact hB A hA n0 _ φ' _ H' a y v _ hy hf _ _ fun φ'' z h'' tk' k' H'' hz => hQ _ _ _ _ (k.trans H' k') H'' hz

noncomputable def listF (v : V) (σ : Hp) : Option (V × Hp) := match getList σ v with
  | some its => if decide (its.length ≤ 1000) then some (.ref σ.length, σ ++ [⟨false, its⟩]) else .none
  | .none => .none
theorem HBE.list : HBE prog w h₀ n (.type "list") listF := by
  intro A hA n0 σ φ s H v x r σ' hx hf Q E hQ
  unfold listF at hf
  split at hf
  case h_2 => cases hf
  rename_i its e
  split at hf
  case isFalse => cases hf
  rename_i hl
  cases hf
  obtain ⟨a, xs, rfl, hxs, ob, hob, hcl, nn, hdt⟩ := getList_is H e hx
  have hle := hxs.length
  simp only [decide_eq_true_eq] at hl
  refine call_list_seq a (.inl rfl) hob hcl hdt (fun h' c' k e' => ?_) (by simp [hle, sizeLine_eq]; omega)
  exact hQ _ _ h' s.toks (.of_add k (Heap.none_size _)) (H.add k (Heap.none_size _) ⟨xs, hxs, _, _, e', rfl, rfl⟩) (VR.top H _)

noncomputable def maxInts : Int → List Int → Int
  | m, [] => m
  | m, a :: r => maxInts (if a > m then a else m) r
theorem maxInts_spec : ∀ (l : List Int) (m : Int), (maxInts m l = m ∨ maxInts m l ∈ l) ∧ m ≤ maxInts m l ∧ ∀ a ∈ l, a ≤ maxInts m l
  | [], m => ⟨.inl rfl, Int.le_refl _, by simp⟩
  | a :: r, m => by
    unfold maxInts
    obtain ⟨h1, h2, h3⟩ := maxInts_spec r (if a > m then a else m)
    refine ⟨?_, ?_, ?_⟩
    · rcases h1 with h1 | h1
      · rw [h1]
        split
        · exact .inr (.head _)
        · exact .inl rfl
      · exact .inr (.tail _ h1)
    · refine Int.le_trans ?_ h2
      split <;> omega
    · intro b hb
      rcases List.mem_cons.mp hb with rfl | hb
      · refine Int.le_trans ?_ h2
        split <;> omega
      · exact h3 b hb
noncomputable def maxLF (v : V) (σ : Hp) : Option (V × Hp) := match getList σ v with
  | some its => match allInts its with
    | some (i :: is) => some (.int (maxInts i is), σ)
    | _ => .none
  | .none => .none
theorem HBE.maxL : HBE prog w h₀ n (.builtin "max") maxLF := by
  intro A hA n0 σ φ s H v x r σ' hx hf Q E hQ
  unfold maxLF at hf
  split at hf
  case h_2 => cases hf
  rename_i its e
  split at hf
  case h_2 => cases hf
  rename_i i is ei
  cases hf
  obtain ⟨a, xs, rfl, hxs, hl⟩ := getList_is H e hx
  have hi := allInts_are hxs ei
  obtain ⟨ys, e'⟩ := hi.allInts.items
  have hns : i :: is = ys.toList.map (·.1) := by
    rw [← hi.numsOf, ← nums_intItems, ← e']
  have hsz : 0 < ys.size := by
    have : (ys.toList.map (·.1)).length = (i :: is).length := by rw [hns]
    rw [List.length_map, Array.length_toList, List.length_cons] at this; omega
  rw [e'] at hl
  refine max_intList hA.1 hl hsz fun v h' tk hv hk => ?_
  obtain ⟨t, rfl⟩ := intItems_at hv
  obtain ⟨h1, h2⟩ := argBest_gt (numAt ys) (ys.size - 1)
  have hval : numAt ys (argBest (fun i j => decide (numAt ys i > numAt ys j)) (ys.size - 1)) = maxInts i is := by
    obtain ⟨g1, g2, g3⟩ := maxInts_spec is i
    refine Int.le_antisymm ?_ ?_
    · have hm : numAt ys (argBest (fun i j => decide (numAt ys i > numAt ys j)) (ys.size - 1)) ∈ i :: is := by
        rw [hns, numAt_eq]; exact getD_mem (by rw [List.length_map, Array.length_toList]; omega)
      rcases List.mem_cons.mp hm with q | q
      · rw [q]; exact g2
      · exact g3 _ q
    · have hm : maxInts i is ∈ i :: is := by
        rcases g1 with q | q
        · rw [q]; exact .head _
        · exact .tail _ q
      rw [hns] at hm
      obtain ⟨j, hj, ej⟩ := mem_getD hm
      rw [List.length_map, Array.length_toList] at hj
      rw [← ej, ← numAt_eq]; exact h2 j (by omega)
  rw [hval]
  exact hQ _ _ h' tk (.of_keep hk) (H.keeps hk) (.int _ _)

-- a list times an int, two lists
noncomputable def repL (its : List V) : Nat → List V
  | 0 => []
  | k + 1 => its ++ repL its k
theorem repL_is {φ : List Addr} {its : List V} {xs : List Value} (h : VsR φ its xs) : ∀ k, VsR φ (repL its k) (List.replicate k xs).flatten
  | 0 => by simp [repL]; exact .nil
  | k + 1 => by simp [repL, List.replicate_succ]; exact h.append (repL_is h k)
theorem mul_push {A : Around} {E : Value → Shared → Prop} {s : Shared} {l : Addr} {vs : List Value} {x : Int} {u : Tok} {Q : Value → Shared → Prop} (hl : s.heap.IsList l vs.toArray)
    (hlo : -(2 ^ 63 : Int) ≤ x) (hhi : x < 2 ^ 63) (hsz : vs.length * x.toNat ≤ 2 ^ 24)
    (h : Q (.ref s.heap.objs.size) { s with heap := s.heap.push { cls := .type "list", data := .seq (List.replicate x.toNat vs).flatten.toArray } }) :
    wpAny (model prog w) A (binaryOp .Mult (.ref l) (.int x u)) Q E s := by
  obtain ⟨⟨cls, d, data, sl⟩, ho, hcl, k, hd⟩ := id hl
  simp only at hcl hd
  subst hcl hd
  have hsz' : vs.toArray.size * x.toNat ≤ 2 ^ 24 := by simpa using hsz
  refine wpAny_binaryOp_repeat_ref (T := "list") (U := "int") (by decide) ⟨_, ho, rfl⟩ (fun s' => typeIs_int s' x u) noFill_list_mul F.fills_int_mul F.slot_int_rmul repeat_list F.slot_int_index.lookup
    (call_meets F.slot_int_rmul (typeIs_int s x u) F.entry_int_rmul (F.args_int_rmul_2 _ _) (lm_int_rmul_list_any x u l vs.toArray k d sl)
      ⟨ho, rfl, ⟨_, ho, rfl⟩, call_meets F.slot_list_mul ⟨_, ho, rfl⟩ F.entry_list_mul (F.args_list_mul_2 _ _)
        (lm_list_mul_any l vs.toArray k d sl x u (by simp [Builtin.List.listFitsIndex]; omega) (by omega) (by simp [Builtin.List.listTooLong, sizeLine]; omega))
        ⟨ho, ?_⟩⟩)
  have e : List.foldl (fun x1 x2 => x1 ++ x2) #[] (List.replicate (if vs.toArray.isEmpty = true then 0 else x.toNat) vs.toArray) = (List.replicate x.toNat vs).flatten.toArray := by
    rw [listMul_foldl_if]
  rw [← e] at h
  exact h
noncomputable def mulLE (f g : Nat → Loc → Hp → Option (V × Hp)) (n0 : Nat) (ρ : Loc) (σ : Hp) : Option (V × Hp) := match f n0 ρ σ with
  | some (v, σ') => match g n0 ρ σ' with
    | some (.int k, σ'') => match getList σ'' v with
      | some its => if decide (its.length ≤ 1000) && (decide (-1000 ≤ k) && decide (k ≤ 1000)) then some (.ref σ''.length, σ'' ++ [⟨false, repL its k.toNat⟩]) else .none
      | .none => .none
    | _ => .none
  | .none => .none
theorem HE.mulL {l r : Expr} {pos : Pos} {f g} (hl : HE prog w h₀ n ns tab l f) (hr : HE prog w h₀ n ns tab r g) : HE prog w h₀ n ns tab (.BinOp l .Mult r pos) (mulLE f g) := by
  constructor
  intro env he A hA n0 ρ σ φ s H F v σ₁ hf Q E hQ
  unfold mulLE at hf
  split at hf
  case h_2 => cases hf
  rename_i a σ' ea
  split at hf
  case h_2 => cases hf
  rename_i b σ'' eb
  split at hf
  case h_2 => cases hf
  rename_i its ei
  split at hf
  case isFalse => cases hf
  rename_i hc
  cases hf
  simp only [Bool.and_eq_true, decide_eq_true_eq] at hc
  refine wpAny_BinOp (hl.1 env he A hA n0 ρ σ φ s H F _ _ ea _ _ fun φ' x h' tk k H' hv => ?_)
  refine hr.1 env he A hA n0 ρ _ φ' _ H' (F.ext k) _ _ eb _ _ fun φ'' y h'' tk' k' H'' hv' => ?_
  cases hv'
  obtain ⟨ad, xs, rfl, hxs, hlist⟩ := getList_is H'' ei (hv.ext k')
  have hle := hxs.length
  have h1 : xs.length ≤ 1000 := by omega
  have h2 : b.toNat ≤ 1000 := by omega
  refine mul_push hlist (by omega) (by omega) (Nat.le_trans (Nat.mul_le_mul h1 h2) (by decide)) ?_
  exact hQ _ _ _ _ ((k.trans H' k').trans H'' (Ext.push _ _)) (pushSeq H'' false (repL_is hxs _)) (VR.top H'' _)

theorem add_push {A : Around} {E : Value → Shared → Prop} {s : Shared} {l b : Addr} {vs ws : List Value} {Q : Value → Shared → Prop} (hl : s.heap.IsList l vs.toArray) (hb : s.heap.IsList b ws.toArray) (hsz : vs.length + ws.length ≤ sizeLine)
    (h : Q (.ref s.heap.objs.size) { s with heap := s.heap.push { cls := .type "list", data := .seq (vs ++ ws).toArray } }) :
    wpAny (model prog w) A (binaryOp .Add (.ref l) (.ref b)) Q E s := by
  obtain ⟨⟨cls, dd, data, sl⟩, ho, hc, n, hd⟩ := id hl
  obtain ⟨⟨cls2, dd2, data2, sl2⟩, ho2, hc2, n2, hd2⟩ := id hb
  simp only at hc hd hc2 hd2
  subst hc hd hc2 hd2
  have e : vs.toArray ++ ws.toArray = (vs ++ ws).toArray := by simp
  refine concat_meets ⟨_, ho, rfl⟩ ⟨_, ho2, rfl⟩ noFill_list_add seq_list_add PySem.F.slot_list_add PySem.F.entry_list_add (PySem.F.args_list_add_2 _ _) (list_addW l b vs.toArray ws.toArray n n2 dd dd2 sl sl2 (by simpa using hsz)) ⟨ho, ho2, ?_⟩
  rw [e]
  exact h
noncomputable def addLE (f g : Nat → Loc → Hp → Option (V × Hp)) (n0 : Nat) (ρ : Loc) (σ : Hp) : Option (V × Hp) := match f n0 ρ σ with
  | some (v, σ') => match g n0 ρ σ' with
    | some (u, σ'') => match getList σ'' v with
      | some its => match getList σ'' u with
        | some its' => if decide (its.length ≤ 1000) && decide (its'.length ≤ 1000) then some (.ref σ''.length, σ'' ++ [⟨false, its ++ its'⟩]) else .none
        | .none => .none
      | .none => .none
    | _ => .none
  | .none => .none
theorem HE.addL {l r : Expr} {pos : Pos} {f g} (hl : HE prog w h₀ n ns tab l f) (hr : HE prog w h₀ n ns tab r g) : HE prog w h₀ n ns tab (.BinOp l .Add r pos) (addLE f g) := by
  constructor
  intro env he A hA n0 ρ σ φ s H F v σ₁ hf Q E hQ
  unfold addLE at hf
  split at hf
  case h_2 => cases hf
  rename_i a σ' ea
  split at hf
  case h_2 => cases hf
  rename_i b σ'' eb
  split at hf
  case h_2 => cases hf
  rename_i its ei
  split at hf
  case h_2 => cases hf
  rename_i its' ei'
  split at hf
  case isFalse => cases hf
  rename_i hc
  cases hf
  simp only [Bool.and_eq_true, decide_eq_true_eq] at hc
  refine wpAny_BinOp (hl.1 env he A hA n0 ρ σ φ s H F _ _ ea _ _ fun φ' x h' tk k H' hv => ?_)
  refine hr.1 env he A hA n0 ρ _ φ' _ H' (F.ext k) _ _ eb _ _ fun φ'' y h'' tk' k' H'' hv' => ?_
  obtain ⟨ad, xs, rfl, hxs, hlist⟩ := getList_is H'' ei (hv.ext k')
  obtain ⟨ad', xs', rfl, hxs', hlist'⟩ := getList_is H'' ei' hv'
  have hle := hxs.length
  have hle' := hxs'.length
  refine add_push hlist hlist' (by rw [sizeLine_eq]; omega) ?_
  exact hQ _ _ _ _ ((k.trans H' k').trans H'' (Ext.push _ _)) (pushSeq H'' false (hxs.append hxs')) (VR.top H'' _)

-- xs[:k]
noncomputable def takeE (f g : Loc → Hp → Option V) (_ : Nat) (ρ : Loc) (σ : Hp) : Option (V × Hp) := match f ρ σ with
  | some v => match g ρ σ with
    | some (.int k) => match getList σ v with
      | some its => if decide (0 ≤ k) && decide (its.length ≤ 1000) then some (.ref σ.length, σ ++ [⟨false, its.take k.toNat⟩]) else .none
      | .none => .none
    | _ => .none
  | .none => .none
theorem HE.take {value u : Expr} {p pos : Pos} {f g} (hf : HP prog w h₀ n ns tab value f) (hg : HP prog w h₀ n ns tab u g) (ht : ∀ o r, letTemporaryGo value o r = pure ()) :
    HE prog w h₀ n ns tab (.Subscript value (.Slice none (some u) none p) pos) (takeE f g) := by
  constructor
  intro env he A hA n0 ρ σ φ s H F v σ₁ hr Q E hQ
  unfold takeE at hr
  split at hr
  case h_2 => cases hr
  rename_i a ea
  split at hr
  case h_2 => cases hr
  rename_i k eb
  split at hr
  case h_2 => cases hr
  rename_i its ei
  split at hr
  case isFalse => cases hr
  rename_i hc
  cases hr
  simp only [Bool.and_eq_true, decide_eq_true_eq] at hc
  refine wpAny_Subscript_list_slice (hf.1 env he A hA ρ σ φ s H F _ ea _ _ fun x h' tk k' hv => ?_) ht
  refine wpAny_evalPart_none (wpAny_evalPart_some (hg.1 env he A hA ρ σ φ _ (H.keeps k') (F.keeps k') _ eb _ _ fun y h'' tk' k'' hv' => ?_))
  obtain ⟨tok9, rfl⟩ : ∃ t, y = .int k t := by cases hv' with | int _ t => exact ⟨t, rfl⟩
  have H'' := (H.keeps k').keeps k''
  obtain ⟨ad, xs, rfl, hxs, hlist⟩ := getList_is H'' ei hv
  have hle := hxs.length
  refine ⟨ad, xs.toArray, none, some k, rfl, hlist, by simp [hle, sizeLine_eq]; omega, .none, .int _ _, ?_⟩
  have e : slicePick xs.toArray none (some k) none = (xs.take k.toNat).toArray := by
    have := slicePick_upto' xs.toArray k.toNat
    rw [Int.toNat_of_nonneg hc.1] at this
    simpa using this
  rw [e]
  refine hQ (φ ++ [h''.objs.size + 1]) _ _ _ ?_ ?_ (VR.top H'' _)
  · refine .of_add ((k'.trans k'').trans ((Keep.push _ _).trans (Keep.push _ _))) ?_
    cases q : s.heap.get? (h''.objs.size + 1) with
    | none => rfl
    | some o => have this : h''.objs.size + 1 < h''.objs.size := Heap.lt_size (k'' _ _ (k' _ _ q)); omega
  · have hsz : (h''.push { cls := Value.type "slice", data := Data.fields #[Value.none, Value.int k tok9, Value.none] }).objs.size = h''.objs.size + 1 := Heap.size_push ..
    have := pushSeq (H''.keeps (Keep.push h'' { cls := Value.type "slice", data := Data.fields #[Value.none, Value.int k tok9, Value.none] })) false (hxs.take k.toNat)
    rw [hsz] at this
    exact this
end
end Mine
namespace Mine

inductive Fl where
  | next
  | ret (v : V)
inductive FlR (φ : List Addr) : Fl → Flow → Prop
  | next : FlR φ .next .next
  | ret {v x} : VR φ v x → FlR φ (.ret v) (.ret x)

noncomputable def Apart (env : Env) : Prop := env.cells.Pairwise fun x y => x.2 ≠ y.2

structure ExtS (env : Env) (n0 : Nat) (φ φ' : List Addr) (h h' : Heap) : Prop where
  pre : ∃ ψ, φ' = φ ++ ψ ∧ ∀ b ∈ ψ, h.get? b = none
  keep : ∀ b o, b ∉ φ.drop n0 → b ∉ own env → h.get? b = some o → h'.get? b = some o
theorem Ext.toS {env : Env} {n0 : Nat} {φ φ' : List Addr} {h h' : Heap} (E : Ext n0 φ φ' h h') : ExtS env n0 φ φ' h h' := ⟨E.pre, fun b o h1 _ e => E.keep b o h1 e⟩
theorem ExtS.refl {env : Env} {n0 : Nat} {φ : List Addr} {h : Heap} : ExtS env n0 φ φ h h := (Ext.of_keep (Keep.refl h)).toS
theorem ExtS.trans {env : Env} {tab : List Str} {ρ : Loc} {n0 : Nat} {h₀ : Heap} {φ φ' φ'' : List Addr} {σ' : Hp} {h h' h'' : Heap} (a : ExtS env n0 φ φ' h h') (H : HR h₀ φ' σ' h') (F : FOK env tab ρ φ' h') (b : ExtS env n0 φ' φ'' h' h'') :
    ExtS env n0 φ φ'' h h'' := by
  obtain ⟨⟨ψ, rfl, f1⟩, k1⟩ := a
  obtain ⟨⟨ψ', rfl, f2⟩, k2⟩ := b
  refine ⟨⟨ψ ++ ψ', by simp, fun x hx => ?_⟩, fun x o hx ho e => ?_⟩
  · rcases List.mem_append.mp hx with hx | hx
    · exact f1 x hx
    · have e2 := f2 x hx
      cases e : h.get? x with
      | none => rfl
      | some o =>
        by_cases hm : x ∈ φ
        · obtain ⟨ob, e'⟩ := H.alloc (List.mem_append_left ψ hm)
          rw [e2] at e'; cases e'
        · by_cases ho : x ∈ own env
          · obtain ⟨_, ob, e'⟩ := F.own x ho
            rw [e2] at e'; cases e'
          · have := k1 x o (fun q => hm (List.mem_of_mem_drop q)) ho e
            rw [e2] at this; cases this
  · refine k2 x o (fun q => ?_) ho (k1 x o hx ho e)
    rcases drop_mem_append q with q | q
    · exact hx q
    · rw [f1 x q] at e; cases e
theorem ExtS.mono {env : Env} {n0 : Nat} {φ φ' : List Addr} {h h' : Heap} (E : ExtS env n0 φ φ' h h') {v : V} {x : Value} (hv : VR φ v x) : VR φ' v x := by
  obtain ⟨⟨ψ, rfl, _⟩, _⟩ := E; exact hv.mono

theorem look_put {ρ : Loc} {i : Nat} {v : V} (h : i < ρ.length) : look (put ρ i v) i = some v := by
  unfold look put
  rw [nth_eq, setN_eq, List.getElem?_set_self h]
theorem look_put_ne {ρ : Loc} {i j : Nat} {v : V} (h : i ≠ j) : look (put ρ i v) j = look ρ j := by
  unfold look put
  rw [nth_eq, setN_eq, List.getElem?_set_ne h, nth_eq]
theorem put_length {ρ : Loc} {i : Nat} {v : V} : (put ρ i v).length = ρ.length := by
  unfold put; rw [setN_eq, List.length_set]

noncomputable def isStore (k : Option NameKind) : Bool := k == some .local || k == some .cell

section
variable {prog : Program} {w : World} {h₀ : Heap} {n : Nat} {ns : List (Str × NameKind)} {tab : List Str}

theorem store_var {env : Env} (he : EnvOK h₀ ns env) {x : Str} (ap : ns.lookup x = some .cell → Apart env) {M : Model} {A : Around} {E : Value → Shared → Prop} {s : Shared} {ρ : Loc} {φ : List Addr} (F : FOK env tab ρ φ s.heap) {i : Nat} (hi : nth tab i = some x)
    (hk : isStore (ns.lookup x) = true) (nd : tab.Nodup) {v : V} {y : Value} (hv : VR φ v y) {Q : Unit → Shared → Prop}
    (hQ : ∀ h' tk, (∀ b o, (b ∉ own env ∨ (ns.lookup x = some .local ∧ b ≠ env.locals)) → s.heap.get? b = some o → h'.get? b = some o) → FOK env tab (put ρ i v) φ h' → Q () { s with heap := h', toks := tk }) : wpAny M A (storeName env x y) Q E s := by
  obtain ⟨hown, hlen, m, hm, hvar⟩ := F
  rw [nth_eq] at hi
  have hil : i < ρ.length := by rw [hlen]; exact (List.getElem?_eq_some_iff.mp hi).1
  have inj : ∀ j, tab[j]? = some x → i = j := fun j hj => (List.getElem?_inj (by rw [← hlen]; exact hil) nd).mp (hi.trans hj.symm)
  have hkx := hvar i x hi
  rcases Bool.or_eq_true_iff.mp hk with hk | hk
  · have hk : env.kindOf x = some .local := by rw [he.kindOf]; simpa using hk
    refine wpAny_storeName_local hk hm (fun h' hn' hs' => hQ h' _ (fun b o hb e => hs'.extBut b o (hb.elim (fun hb q => hb (q ▸ .head _)) (·.2)) e) ⟨fun b hb => ?_, by rw [put_length]; exact hlen, _, hn', fun j z hz => ?_⟩) (by rw [he.kind]; rfl)
    · obtain ⟨h1, o1, e1⟩ := hown b hb
      refine ⟨h1, ?_⟩
      by_cases q : b = env.locals
      · subst q
        obtain ⟨o, _, _, e, _⟩ := hn'
        exact ⟨o, e⟩
      · exact ⟨o1, hs'.extBut b o1 q e1⟩
    · by_cases q : z = x
      · subst q
        have := inj j hz
        subst this
        unfold VarIs
        rw [hk, look_put hil]
        simpa [OVR] using hv
      · have hne : i ≠ j := fun e => by subst e; rw [hi] at hz; exact q (Option.some.inj hz).symm
        rw [look_put_ne hne]
        have hV := hvar j z hz
        unfold VarIs at hV ⊢
        split at hV
        · simpa [q] using hV
        all_goals first
          | exact hV
          | (obtain ⟨c, cv, h1, h2, h3, h4⟩ := hV
             refine ⟨c, cv, h1, h2, h3.sameBut hs' (fun e => ?_), h4⟩
             obtain ⟨o, eo, d⟩ := h3
             obtain ⟨o', es, ep, eo', d', _⟩ := hm
             rw [e, eo'] at eo
             cases eo
             rw [d'] at d; cases d)
  · have hk : env.kindOf x = some .cell := by rw [he.kindOf]; simpa using hk
    have hV := hkx
    unfold VarIs at hV
    rw [hk] at hV
    obtain ⟨c, cv, h1, h2, h3, h4⟩ := hV
    have hcL : env.locals ≠ c := fun e => by
      obtain ⟨o, eo, d⟩ := h3
      obtain ⟨o', es, ep, eo', d', _⟩ := hm
      rw [← e, eo'] at eo
      cases eo
      rw [d'] at d; cases d
    have hmem := mem_of_lookup' h1
    have hc : c ∈ own env := .tail _ (List.mem_map.mpr ⟨_, hmem, rfl⟩)
    refine wpAny_storeName_cell he.kind hk h1 h3 (fun h' hc' hs' => hQ h' _ (fun b o hb e => hs'.extBut b o (hb.elim (fun hb q => hb (q ▸ hc)) (fun q => by have := q.1; rw [← he.kindOf, hk] at this; cases this)) e) ⟨fun b hb => ?_, by rw [put_length]; exact hlen, _, hm.sameBut hs' hcL, fun j z hz => ?_⟩)
    · obtain ⟨g1, o1, e1⟩ := hown b hb
      refine ⟨g1, ?_⟩
      by_cases q : b = c
      · subst q
        obtain ⟨o, e, _⟩ := hc'
        exact ⟨o, e⟩
      · exact ⟨o1, hs'.extBut b o1 q e1⟩
    · by_cases q : z = x
      · subst q
        have := inj j hz
        subst this
        unfold VarIs
        rw [hk, look_put hil]
        exact ⟨c, some y, h1, h2, hc', hv⟩
      · have hne : i ≠ j := fun e => by subst e; rw [hi] at hz; exact q (Option.some.inj hz).symm
        rw [look_put_ne hne]
        have hV := hvar j z hz
        unfold VarIs at hV ⊢
        split at hV
        · exact hV
        all_goals first
          | exact hV
          | (obtain ⟨c', cv', g1, g2, g3, g4⟩ := hV
             refine ⟨c', cv', g1, g2, g3.sameBut hs' (fun e => ?_), g4⟩
             exact q (name_of_addr (ap (by rw [← he.kindOf]; exact hk)) (mem_of_lookup' g1) (e ▸ hmem)))

theorem HR.keepsOwn {env : Env} (he : EnvOK h₀ ns env) {tab : List Str} {ρ : Loc} {φ : List Addr} {σ : Hp} {h h' : Heap} (H : HR h₀ φ σ h) (F : FOK env tab ρ φ h) (k : ∀ b o, b ∉ own env → h.get? b = some o → h'.get? b = some o) : HR h₀ φ σ h' :=
  H.keepsOn (fun b o e => k b o (fun q => by rw [he.new b q] at e; cases e) (H.keep b o e)) fun a ha o e => k a o (fun q => (F.own a q).1 ha) e
end

section
variable (prog : Program) (w : World) (h₀ : Heap) (n : Nat) (ns : List (Str × NameKind)) (tab : List Str)
structure HS (st : Stmt) (f : Nat → Loc → Hp → Option (Fl × Loc × Hp)) : Prop where
  run : ∀ env, EnvOK h₀ ns env → Apart env → ∀ A, Room n A → ∀ n0 ρ σ φ s, HR h₀ φ σ s.heap → FOK env tab ρ φ s.heap → ∀ fl ρ' σ', f n0 ρ σ = some (fl, ρ', σ') → ∀ (Q : Flow → Shared → Prop) (E : Value → Shared → Prop),
    (∀ φ' y h' tk, ExtS env n0 φ φ' s.heap h' → HR h₀ φ' σ' h' → FOK env tab ρ' φ' h' → FlR φ' fl y → Q y { s with heap := h', toks := tk }) → wpAny (model prog w) A (exec st env) Q E s
structure HSs (st : List Stmt) (f : Nat → Loc → Hp → Option (Fl × Loc × Hp)) : Prop where
  run : ∀ env, EnvOK h₀ ns env → Apart env → ∀ A, Room n A → ∀ n0 ρ σ φ s, HR h₀ φ σ s.heap → FOK env tab ρ φ s.heap → ∀ fl ρ' σ', f n0 ρ σ = some (fl, ρ', σ') → ∀ (Q : Flow → Shared → Prop) (E : Value → Shared → Prop),
    (∀ φ' y h' tk, ExtS env n0 φ φ' s.heap h' → HR h₀ φ' σ' h' → FOK env tab ρ' φ' h' → FlR φ' fl y → Q y { s with heap := h', toks := tk }) → wpAny (model prog w) A (execs st env) Q E s
end

section
variable {prog : Program} {w : World} {h₀ : Heap} {n : Nat} {ns : List (Str × NameKind)} {tab : List Str}

noncomputable def sNil (_ : Nat) (ρ : Loc) (σ : Hp) : Option (Fl × Loc × Hp) := some (.next, ρ, σ)
noncomputable def sCons (f g : Nat → Loc → Hp → Option (Fl × Loc × Hp)) (n0 : Nat) (ρ : Loc) (σ : Hp) : Option (Fl × Loc × Hp) := match f n0 ρ σ with
  | some (.next, ρ', σ') => g n0 ρ' σ'
  | r => r
theorem HSs.nil : HSs prog w h₀ n ns tab [] sNil := by
  constructor
  intro env he ap A hA n0 ρ σ φ s H F fl ρ' σ' hf Q E hQ
  cases hf
  exact wpAny_execs_nil (hQ φ .next s.heap s.toks .refl H F .next)
theorem HSs.cons {st : Stmt} {rest : List Stmt} {f g} (h : HS prog w h₀ n ns tab st f) (hr : HSs prog w h₀ n ns tab rest g) : HSs prog w h₀ n ns tab (st :: rest) (sCons f g) := by
  constructor
  intro env he ap A hA n0 ρ σ φ s H F fl ρ' σ' hf Q E hQ
  unfold sCons at hf
  split at hf
  · rename_i ρ₁ σ₁ e
    refine wpAny_execs_cons (h.1 env he ap A hA n0 ρ σ φ s H F _ _ _ e _ _ fun φ' y h' tk k H' F' hy => ?_)
    cases hy
    exact hr.1 env he ap A hA n0 _ _ φ' _ H' F' _ _ _ hf _ _ fun φ'' y h'' tk' k' H'' F'' hy => hQ _ _ _ _ (k.trans H' F' k') H'' F'' hy
  · rename_i q
    refine wpAny_execs_cons (h.1 env he ap A hA n0 ρ σ φ s H F _ _ _ hf _ _ fun φ' y h' tk k H' F' hy => ?_)
    cases hy
    · exact absurd hf (q _ _ ·)
    · rename_i v x hv
      exact hQ _ _ _ _ k H' F' (.ret hv)

/-- what is not reached -/
noncomputable def sDead (_ : Nat) (_ : Loc) (_ : Hp) : Option (Fl × Loc × Hp) := .none
theorem HSs.dead {st : List Stmt} : HSs prog w h₀ n ns tab st sDead := by
  constructor
  intro env he ap A hA n0 ρ σ φ s H F fl ρ' σ' hf
  cases hf

noncomputable def sRet (f : Nat → Loc → Hp → Option (V × Hp)) (n0 : Nat) (ρ : Loc) (σ : Hp) : Option (Fl × Loc × Hp) := match f n0 ρ σ with
  | some (v, σ') => some (.ret v, ρ, σ')
  | .none => .none
theorem HS.ret {e : Expr} {pos : Pos} {f} (h : HE prog w h₀ n ns tab e f) : HS prog w h₀ n ns tab (.Return (some e) pos) (sRet f) := by
  constructor
  intro env he ap A hA n0 ρ σ φ s H F fl ρ' σ' hf Q E hQ
  unfold sRet at hf
  split at hf
  case h_2 => cases hf
  rename_i v σ₁ e
  cases hf
  exact wpAny_Return_some (h.1 env he A hA n0 ρ σ φ s H F _ _ e _ _ fun φ' x h' tk k H' hv => hQ _ _ _ _ k.toS H' (F.ext k) (.ret hv))

noncomputable def sAsg (i : Nat) (f : Nat → Loc → Hp → Option (V × Hp)) (n0 : Nat) (ρ : Loc) (σ : Hp) : Option (Fl × Loc × Hp) := match f n0 ρ σ with
  | some (v, σ') => some (.next, put ρ i v, σ')
  | .none => .none
theorem HS.asg {x : Str} {p pos : Pos} {value : Expr} {f} (i : Nat) (hi : nth tab i = some x) (hk : isStore (ns.lookup x) = true) (nd : tab.Nodup)
    (hs : ∀ env, EnvOK h₀ ns env → swapsWith value (some (.Name x p)) pos.line env = pure false) (h : HE prog w h₀ n ns tab value f) : HS prog w h₀ n ns tab (.Assign [.Name x p] value pos) (sAsg i f) := by
  constructor
  intro env he ap A hA n0 ρ σ φ s H F fl ρ' σ' hf Q E hQ
  unfold sAsg at hf
  split at hf
  case h_2 => cases hf
  rename_i v σ₁ e
  cases hf
  refine wpAny_Assign_Name (h.1 env he A hA n0 ρ σ φ s H F _ _ e _ _ fun φ' y h' tk k H' hv => ?_) (hs env he)
  refine store_var he (fun _ => ap) (F.ext k) hi hk nd hv fun h'' tk' k' F'' => ?_
  have e1 : ExtS env n0 φ' φ' h' h'' := ⟨⟨[], by simp, by simp⟩, fun b o _ ho e => k' b o (.inl ho) e⟩
  exact hQ _ _ _ _ (k.toS.trans H' (F.ext k) e1) (HR.keepsOwn he H' (F.ext k) fun b o hb e => k' b o (.inl hb) e) F'' .next

noncomputable def sIf (t : Nat → Loc → Hp → Option (Bool × Hp)) (f g : Nat → Loc → Hp → Option (Fl × Loc × Hp)) (n0 : Nat) (ρ : Loc) (σ : Hp) : Option (Fl × Loc × Hp) := match t n0 ρ σ with
  | some (true, σ') => f n0 ρ σ'
  | some (false, σ') => g n0 ρ σ'
  | .none => .none
theorem HS.ite {test : Expr} {body orelse : List Stmt} {pos : Pos} {t f g} (ht : HTE prog w h₀ n ns tab test t) (hf : HSs prog w h₀ n ns tab body f) (hg : HSs prog w h₀ n ns tab orelse g) :
    HS prog w h₀ n ns tab (.If test body orelse pos) (sIf t f g) := by
  constructor
  intro env he ap A hA n0 ρ σ φ s H F fl ρ' σ' e Q E hQ
  unfold sIf at e
  split at e
  · rename_i σ₁ e1
    refine wpAny_If (ht.1 env he A hA n0 ρ σ φ s H F _ _ e1 _ _ fun φ' h' tk k H' => ?_)
    rw [if_pos rfl]
    exact hf.1 env he ap A hA n0 _ _ φ' _ H' (F.ext k) _ _ _ e _ _ fun φ'' y h'' tk' k' H'' F'' hy => hQ _ _ _ _ (k.toS.trans H' (F.ext k) k') H'' F'' hy
  · rename_i σ₁ e1
    refine wpAny_If (ht.1 env he A hA n0 ρ σ φ s H F _ _ e1 _ _ fun φ' h' tk k H' => ?_)
    rw [if_neg (by decide)]
    exact hg.1 env he ap A hA n0 _ _ φ' _ H' (F.ext k) _ _ _ e _ _ fun φ'' y h'' tk' k' H'' F'' hy => hQ _ _ _ _ (k.toS.trans H' (F.ext k) k') H'' F'' hy
  · cases e

noncomputable def sExpr (f : Nat → Loc → Hp → Option (V × Hp)) (n0 : Nat) (ρ : Loc) (σ : Hp) : Option (Fl × Loc × Hp) := match f n0 ρ σ with
  | some (_, σ') => some (.next, ρ, σ')
  | .none => .none
theorem HS.expr {e : Expr} {pos : Pos} {f} (hi : ∀ env, EnvOK h₀ ns env → interactive env = false) (hs : ∀ env, swapsWith e none pos.line env = pure false) (h : HE prog w h₀ n ns tab e f) : HS prog w h₀ n ns tab (.Expr e pos) (sExpr f) := by
  constructor
  intro env he ap A hA n0 ρ σ φ s H F fl ρ' σ' hf Q E hQ
  unfold sExpr at hf
  split at hf
  case h_2 => cases hf
  rename_i v σ₁ e
  cases hf
  exact wpAny_Expr_any (h.1 env he A hA n0 ρ σ φ s H F _ _ e _ _ fun φ' x h' tk k H' hv => hQ _ _ _ _ k.toS H' (F.ext k) .next) (hi env he) (hs env)

noncomputable def iopF (op : Operator) (a b : Int) : Option Int := match op with
  | .Add => some (a + b)
  | .Sub => some (a - b)
  | _ => .none
/-- x += e, x -= e -/
noncomputable def sAug (i : Nat) (op : Operator) (f : Loc → Hp → Option V) (_ : Nat) (ρ : Loc) (σ : Hp) : Option (Fl × Loc × Hp) := match look ρ i with
  | some (.int a) => match f ρ σ with
    | some (.int b) => match iopF op a b with
      | some r => some (.next, put ρ i (.int r), σ)
      | .none => .none
    | _ => .none
  | _ => .none
theorem HS.aug {x : Str} {p pos : Pos} {op : Operator} {value : Expr} {f} (i : Nat) (hi : nth tab i = some x) (hk : isStore (ns.lookup x) = true) (nd : tab.Nodup) (hc : (x == ("__classdict__" : Str)) = false)
    (h : HP prog w h₀ n ns tab value f) : HS prog w h₀ n ns tab (.AugAssign (.Name x p) op value pos) (sAug i op f) := by
  constructor
  intro env he ap A hA n0 ρ σ φ s H F fl ρ' σ' hf Q E hQ
  unfold sAug at hf
  split at hf
  case h_2 => cases hf
  rename_i a ea
  split at hf
  case h_2 => cases hf
  rename_i b eb
  split at hf
  case h_2 => cases hf
  rename_i r er
  cases hf
  have hvar : isVar (ns.lookup x) = true := by
    unfold isStore at hk
    unfold isVar
    rcases Bool.or_eq_true_iff.mp hk with q | q <;> simp [q]
  refine wpAny_AugAssign_Name (load_var (σ := σ) he F hi hvar hc ea fun y hy => ?_)
  cases hy
  refine h.1 env he A hA ρ σ φ _ H F _ eb _ _ fun z h' tk k hz => ?_
  cases hz
  refine iop_int (by unfold iopF at er; exact er) fun t tk' => ?_
  refine store_var he (fun _ => ap) (F.keeps k) hi hk nd (.int r t) fun h'' tk'' k' F'' => ?_
  have e1 : ExtS env n0 φ φ h' h'' := ⟨⟨[], by simp, by simp⟩, fun b o _ ho e => k' b o (.inl ho) e⟩
  exact hQ _ _ _ _ ((Ext.of_keep (n0 := n0) k).toS.trans (H.keeps k) (F.keeps k) e1) (HR.keepsOwn he (H.keeps k) (F.keeps k) fun b o hb e => k' b o (.inl hb) e) F'' .next

-- a store into a list
noncomputable def setVal (n0 : Nat) (σ : Hp) (v k x : V) : Option Hp := match v with
  | .ref a => if decide (n0 ≤ a) then match nth σ a with
    | some ⟨false, its⟩ => match k with
      | .int i => if decide (0 ≤ i) && (decide (i < its.length) && decide (its.length < 2 ^ 62)) then some (setN σ a ⟨false, setN its i.toNat x⟩) else .none
      | _ => .none
    | _ => .none
    else .none
  | _ => .none
theorem setVal_ok {A : Around} {E : Value → Shared → Prop} {s : Shared} {φ : List Addr} {σ σ' : Hp} (H : HR h₀ φ σ s.heap) {n0 : Nat} {v k x : V} {xv xk xx : Value} (hv : VR φ v xv) (hk : VR φ k xk) (hx : VR φ x xx)
    (e : setVal n0 σ v k x = some σ') {Q : Unit → Shared → Prop} (hQ : ∀ h', Ext n0 φ φ s.heap h' → HR h₀ φ σ' h' → Q () { s with heap := h' }) : wpAny (model prog w) A (setItem xv xk xx) Q E s := by
  cases hv <;> simp only [setVal] at e <;> try (cases e)
  rename_i a ad had
  split at e
  case isFalse => cases e
  rename_i hn0
  simp only [decide_eq_true_eq] at hn0
  split at e
  case h_2 => cases e
  rename_i its eo
  cases hk <;> simp only at e <;> try (cases e)
  rename_i i t
  split at e
  case isFalse => cases e
  rename_i hc
  simp only [Bool.and_eq_true, decide_eq_true_eq] at hc
  cases e
  obtain ⟨xs, hxs, hl⟩ := H.list had eo
  have hle := hxs.length
  have hmem : ad ∈ φ := List.mem_of_getElem? had
  have hdrop : ad ∈ φ.drop n0 := by
    have hlt := (List.getElem?_eq_some_iff.mp had).1
    refine List.mem_iff_getElem?.mpr ⟨a - n0, ?_⟩
    rw [List.getElem?_drop, show n0 + (a - n0) = a by omega]; exact had
  refine wpAny_setItem_list hl hc.1 (by omega) (by simp [hle]; omega) fun h' hl' hs' => hQ h' ⟨⟨[], by simp, by simp⟩, fun b o hb e => ?_⟩ ?_
  · exact hs'.extBut b o (fun q => hb (q ▸ hdrop)) e
  · refine ⟨fun b o e => hs'.extBut b o (fun q => ?_) (H.keep b o e), by rw [setN_eq, List.length_set]; exact H.len, H.nodup, H.new, fun j c o e1 e2 => ?_⟩
    · subst q; rw [H.new _ hmem] at e; cases e
    · rw [setN_eq] at e2
      by_cases q : j = a
      · subst q
        rw [had] at e1; cases e1
        have hlt : j < σ.length := by rw [← H.len]; exact (List.getElem?_eq_some_iff.mp had).1
        rw [List.getElem?_set_self hlt] at e2
        cases e2
        obtain ⟨ob, g1, g2, nn, g3⟩ := hl'
        refine ⟨xs.set i.toNat xx, ?_, ob, nn, g1, g2, ?_⟩
        · rw [setN_eq]; exact hxs.set _ hx
        · rw [g3]; simp
      · rw [List.getElem?_set_ne (Ne.symm q)] at e2
        have hne : c ≠ ad := fun ec => by
          subst ec
          exact q ((List.getElem?_inj (List.getElem?_eq_some_iff.mp e1).1 H.nodup).mp (e1.trans had.symm))
        exact (H.obj j c o e1 e2).at fun ob eb => hs'.extBut c ob hne eb

/-- xs[i] = e -/
noncomputable def sSet (fo fi : Loc → Hp → Option V) (f : Nat → Loc → Hp → Option (V × Hp)) (n0 : Nat) (ρ : Loc) (σ : Hp) : Option (Fl × Loc × Hp) := match f n0 ρ σ with
  | some (x, σ') => match fo ρ σ' with
    | some v => match fi ρ σ' with
      | some k => match setVal n0 σ' v k x with
        | some σ'' => some (.next, ρ, σ'')
        | .none => .none
      | .none => .none
    | .none => .none
  | .none => .none
theorem HS.set {o i value : Expr} {p pos : Pos} {fo fi f} (ho : HP prog w h₀ n ns tab o fo) (hi : HP prog w h₀ n ns tab i fi) (h : HE prog w h₀ n ns tab value f)
    (hs : ∀ env, swapsWith value (some (.Subscript o i p)) pos.line env = pure false) : HS prog w h₀ n ns tab (.Assign [.Subscript o i p] value pos) (sSet fo fi f) := by
  constructor
  intro env he ap A hA n0 ρ σ φ s H F fl ρ' σ' hf Q E hQ
  unfold sSet at hf
  split at hf
  case h_2 => cases hf
  rename_i x σ₁ ex
  split at hf
  case h_2 => cases hf
  rename_i v ev
  split at hf
  case h_2 => cases hf
  rename_i k ek
  split at hf
  case h_2 => cases hf
  rename_i σ₂ es
  cases hf
  refine wpAny_Assign_Subscript (h.1 env he A hA n0 ρ σ φ s H F _ _ ex _ _ fun φ' y h' tk k' H' hx => ?_) (hs env)
  refine ho.1 env he A hA ρ _ φ' _ H' (F.ext k') _ ev _ _ fun z h₁ tk₁ k₁ hz => ?_
  refine hi.1 env he A hA ρ _ φ' _ (H'.keeps k₁) ((F.ext k').keeps k₁) _ ek _ _ fun z' h₂ tk₂ k₂ hz' => ?_
  have H2 := (H'.keeps k₁).keeps k₂
  have F2 := ((F.ext k').keeps k₁).keeps k₂
  refine setVal_ok (s := { s with heap := h₂, toks := tk₂ }) H2 hz hz' hx es fun h₃ k₃ H₃ => ?_
  have e1 : Ext n0 φ φ' s.heap h₂ := (k'.trans H' (.of_keep k₁)).trans (H'.keeps k₁) (.of_keep k₂)
  exact hQ _ _ _ _ (e1.trans H2 k₃).toS H₃ (F2.ext k₃) .next

/-- xs[i] += e, xs[i] -= e -/
noncomputable def sAugSet (fo fi : Loc → Hp → Option V) (op : Operator) (f : Loc → Hp → Option V) (n0 : Nat) (ρ : Loc) (σ : Hp) : Option (Fl × Loc × Hp) := match fo ρ σ with
  | some v => match fi ρ σ with
    | some k => match subVal σ v k with
      | some (.int a) => match f ρ σ with
        | some (.int b) => match iopF op a b with
          | some r => match setVal n0 σ v k (.int r) with
            | some σ'' => some (.next, ρ, σ'')
            | .none => .none
          | .none => .none
        | _ => .none
      | _ => .none
    | .none => .none
  | .none => .none
theorem getItem_ok {A : Around} {E : Value → Shared → Prop} {s : Shared} {φ : List Addr} {σ : Hp} (H : HR h₀ φ σ s.heap) {v k r : V} {x y : Value} (hv : VR φ v x) (hk : VR φ k y) (e : subVal σ v k = some r) (hl : ∃ its, getList σ v = some its)
    {Q : Value → Shared → Prop} (hQ : ∀ z, VR φ r z → Q z s) : wpAny (model prog w) A (getItem x y) Q E s := by
  obtain ⟨its, hl⟩ := hl
  obtain ⟨ad, xs, rfl, hxs, hlist⟩ := getList_is H hl hv
  cases v <;> simp only [getList] at hl <;> try (cases hl)
  rename_i kk
  split at hl
  case h_2 => cases hl
  rename_i its' eo
  cases hl
  simp only [subVal, eo] at e
  cases hk <;> simp only at e <;> try (cases e)
  rename_i i t
  have hlen := hxs.length
  unfold itemF at e
  split at e
  · rename_i hneg
    split at e
    case isFalse => cases e
    rename_i hc
    simp only [Bool.and_eq_true, decide_eq_true_eq] at hc
    rw [nth_eq] at e
    obtain ⟨z, ez, hz⟩ := hxs.get e
    refine wpAny_getItem_list_neg hlist hneg (by simp [hlen]; omega) (by omega) (x := z) ?_ (hQ z hz)
    rw [nth_toArray]; simpa [hlen] using ez
  · split at e
    case isFalse => cases e
    rename_i hc
    simp only [decide_eq_true_eq] at hc
    rw [nth_eq] at e
    obtain ⟨z, ez, hz⟩ := hxs.get e
    exact wpAny_getItem_list hlist (by omega) (by omega) (x := z) (by rw [nth_toArray]; exact ez) (hQ z hz)
theorem setVal_list {n0 : Nat} {σ σ' : Hp} {v k x : V} (e : setVal n0 σ v k x = some σ') : ∃ its, getList σ v = some its := by
  cases v <;> simp only [setVal] at e <;> try (cases e)
  split at e
  case isFalse => cases e
  split at e
  case h_2 => cases e
  rename_i its eo
  exact ⟨its, by simp [getList, eo]⟩
theorem HS.augSet {o i value : Expr} {p pos : Pos} {op : Operator} {fo fi f} (ho : HP prog w h₀ n ns tab o fo) (hi : HP prog w h₀ n ns tab i fi) (h : HP prog w h₀ n ns tab value f)
    (hs : ∀ (ov iv new : Value), augStore i ov iv new = do
            holding [new, ov, iv] (setItem ov iv new)
            release [new, ov, iv] []
            pure Flow.next) : HS prog w h₀ n ns tab (.AugAssign (.Subscript o i p) op value pos) (sAugSet fo fi op f) := by
  constructor
  intro env he ap A hA n0 ρ σ φ s H F fl ρ' σ' hf Q E hQ
  unfold sAugSet at hf
  split at hf
  case h_2 => cases hf
  rename_i v ev
  split at hf
  case h_2 => cases hf
  rename_i k ek
  split at hf
  case h_2 => cases hf
  rename_i a ea
  split at hf
  case h_2 => cases hf
  rename_i b eb
  split at hf
  case h_2 => cases hf
  rename_i r er
  split at hf
  case h_2 => cases hf
  rename_i σ₂ es
  cases hf
  refine wpAny_AugAssign_SubscriptAny (ho.1 env he A hA ρ _ φ _ H F _ ev _ _ fun z h₁ tk₁ k₁ hz => ?_) hs
  refine hi.1 env he A hA ρ _ φ _ (H.keeps k₁) (F.keeps k₁) _ ek _ _ fun z' h₂ tk₂ k₂ hz' => ?_
  have H2 := (H.keeps k₁).keeps k₂
  have F2 := (F.keeps k₁).keeps k₂
  refine getItem_ok (s := { s with heap := h₂, toks := tk₂ }) H2 hz hz' ea (setVal_list es) fun y hy => ?_
  cases hy
  refine h.1 env he A hA ρ _ φ _ H2 F2 _ eb _ _ fun y h₃ tk₃ k₃ hy => ?_
  cases hy
  refine iop_int (by unfold iopF at er; exact er) fun t tk' => ?_
  refine setVal_ok (s := { s with heap := h₃, toks := tk' }) (H2.keeps k₃) hz hz' (.int r t) es fun h₄ k₄ H₄ => ?_
  have e1 : Ext n0 φ φ s.heap h₃ := .of_keep ((k₁.trans k₂).trans k₃)
  exact hQ _ _ _ _ (e1.trans (H2.keeps k₃) k₄).toS H₄ ((F2.keeps k₃).ext k₄) .next
end
end Mine
namespace Mine

theorem env_elim {h₀ : Heap} {ns : List (Str × NameKind)} {P : Env → Prop}
    (h : ∀ ig ic mo L g cl q fn cd fr bl, P { scope := { kind := .function, names := ns, isGenerator := ig, isCoroutine := ic, more := mo }, locals := L, globals := g, cells := cl, qual := q, func := fn, code := cd, frame := fr, builtins := bl }) :
    ∀ env, EnvOK h₀ ns env → P env := by
  rintro ⟨⟨k, nm, ig, ic, mo⟩, L, g, cl, q, fn, cd, fr, bl⟩ he
  have h1 : k = .function := he.kind
  have h2 : nm = ns := he.names
  subst h1 h2
  exact h ..

inductive Bound (tab : List Str) (ns : List (Str × NameKind)) : List Nat → List Str → Prop
  | nil : Bound tab ns [] []
  | cons {i x is xs} : nth tab i = some x → isStore (ns.lookup x) = true → Bound tab ns is xs → Bound tab ns (i :: is) (x :: xs)
inductive Trees (env : Env) : List Str → List (Value → Sem Unit) → Prop
  | nil : Trees env [] []
  | cons {x t xs ts} : (∀ (M : Model) (A : Around) (v : Value) (Q : Unit → Shared → Prop) (E : Value → Shared → Prop) (s : Shared), wpAny M A (storeName env x v) Q E s → wpAny M A (t v) Q E s) → Trees env xs ts → Trees env (x :: xs) (t :: ts)
theorem Trees.bind {env : Env} : ∀ (xs : List Str), Trees env xs (xs.map fun n => bindName env n)
  | [] => .nil
  | x :: xs => .cons (fun M A v Q E s h => wpAny_bindName h) (Trees.bind xs)
theorem Trees.assign {env : Env} : ∀ (xs : List (Str × Pos)), Trees env (xs.map (·.1)) ((assignEach (xs.map fun p => Expr.Name p.1 p.2) env).map (·.2))
  | [] => .nil
  | x :: xs => .cons (fun M A v Q E s h => wpAny_assign_Name h) (Trees.assign xs)
theorem assignEach_len {env : Env} : ∀ (xs : List (Str × Pos)), (assignEach (xs.map fun p => Expr.Name p.1 p.2) env).length = xs.length
  | [] => rfl
  | x :: xs => by show (assignEach _ env).length + 1 = _; rw [assignEach_len xs]; rfl
theorem assignEach_plain {env : Env} : ∀ (xs : List (Str × Pos)), List.findIdx? (fun x => x.fst) (assignEach (xs.map fun p => Expr.Name p.1 p.2) env) = none
  | [] => rfl
  | x :: xs => by
    show List.findIdx? (fun x => x.fst) ((false, _) :: assignEach _ env) = none
    rw [List.findIdx?_cons, assignEach_plain xs]; rfl

noncomputable def putAll : Loc → List Nat → List V → Option Loc
  | ρ, [], [] => some ρ
  | ρ, i :: is, v :: vs => putAll (put ρ i v) is vs
  | _, _, _ => .none

section
variable {prog : Program} {w : World} {h₀ : Heap} {n : Nat} {ns : List (Str × NameKind)} {tab : List Str} {mg mb : Str → Option Value}

theorem stores_ok {env : Env} (he : EnvOK h₀ ns env) {M : Model} {A : Around} {E : Value → Shared → Prop} (nd : tab.Nodup) {φ : List Addr} {σ : Hp} : ∀ {is : List Nat} {ns' : List Str} {ts : List (Value → Sem Unit)} {vs : List V} {xs : List Value} {ρ ρ' : Loc} {s : Shared},
    (∀ x ∈ ns', ns.lookup x = some .cell → Apart env) → Bound tab ns is ns' → Trees env ns' ts → VsR φ vs xs → putAll ρ is vs = some ρ' → HR h₀ φ σ s.heap → FOK env tab ρ φ s.heap → ∀ {Q : Unit → Shared → Prop},
    (∀ h' tk, (∀ b o, (b ∉ own env ∨ ((∀ x ∈ ns', ns.lookup x = some .local) ∧ b ≠ env.locals)) → s.heap.get? b = some o → h'.get? b = some o) → HR h₀ φ σ h' → FOK env tab ρ' φ h' → Q () { s with heap := h', toks := tk }) → wpAny M A (assignInOrder ts xs) Q E s := by
  intro is ns' ts vs xs ρ ρ' s ap hb
  induction hb generalizing ts vs xs ρ s with
  | nil =>
    intro hts hvs e H F Q hQ
    cases hts
    cases hvs with
    | nil =>
      cases e
      exact assignInOrder_nil (hQ s.heap s.toks (fun b o _ e => e) H F)
    | cons _ _ => cases e
  | cons hi hk hb ih =>
    intro hts hvs e H F Q hQ
    cases hts with
    | cons ht hts =>
      cases hvs with
      | nil => cases e
      | cons hv hvs =>
        simp only [putAll] at e
        refine assignInOrder_cons (ht _ _ _ _ _ _ (store_var he (ap _ (.head _)) F hi hk nd hv fun h' tk k F' => ?_))
        exact ih (fun x hx => ap x (.tail _ hx)) hts hvs e (s := { s with heap := h', toks := tk }) (HR.keepsOwn he H F fun b o hb e => k b o (.inl hb) e) F' fun h'' tk' k' H'' F'' => hQ _ _ (fun b o hb e => k' b o (hb.imp id fun q => ⟨fun x hx => q.1 x (.tail _ hx), q.2⟩) (k b o (hb.imp id fun q => ⟨q.1 _ (.head _), q.2⟩) e)) H'' F''

noncomputable def tupItems (σ : Hp) (v : V) : Option (List V) := match v with
  | .ref k => (match nth σ k with | some ⟨true, its⟩ => some its | _ => Option.none)
  | _ => Option.none

theorem tupleOf {φ : List Addr} {σ : Hp} {h : Heap} (H : HR h₀ φ σ h) {v : V} {x : Value} {vs : List V} (hv : VR φ v x) (e : tupItems σ v = some vs) :
    ∃ a xs, x = .ref a ∧ VsR φ vs xs ∧ h.IsTuple a xs.toArray := by
  cases hv <;> simp only [tupItems] at e <;> try (cases e)
  rename_i k a ha
  split at e
  · rename_i its eo; cases e
    obtain ⟨xs, hx, hl⟩ := H.tuple ha eo
    exact ⟨a, xs, rfl, hx, hl⟩
  · cases e
/-- x, y = value: the value a tuple -/
noncomputable def sUnp (is : List Nat) (f : Nat → Loc → Hp → Option (V × Hp)) (n0 : Nat) (ρ : Loc) (σ : Hp) : Option (Fl × Loc × Hp) := match f n0 ρ σ with
  | some (v, σ') => match tupItems σ' v with
    | some vs => match putAll ρ is vs with
      | some ρ' => some (.next, ρ', σ')
      | .none => .none
    | .none => .none
  | .none => .none
theorem putAll_len : ∀ {is : List Nat} {vs : List V} {ρ ρ' : Loc}, putAll ρ is vs = some ρ' → vs.length = is.length
  | [], [], _, _, _ => rfl
  | _ :: is, _ :: vs, _, _, e => by simp only [putAll] at e; simp [putAll_len e]
  | [], _ :: _, _, _, e => by cases e
  | _ :: _, [], _, _, e => by cases e
theorem Bound.length : ∀ {is : List Nat} {xs : List Str}, Bound tab ns is xs → xs.length = is.length
  | _, _, .nil => rfl
  | _, _, .cons _ _ r => by simp [r.length]
theorem HS.unp {xs : List (Str × Pos)} {k : Nat} {tpos pos : Pos} {value : Expr} {f} (is : List Nat) (hb : Bound tab ns is (xs.map (·.1))) (nd : tab.Nodup) (h : HE prog w h₀ n ns tab value f)
    (hs : ∀ env, EnvOK h₀ ns env → swapsWithSole [.Tuple (xs.map fun p => Expr.Name p.1 p.2) k tpos] value pos.line env = pure false)
    (hw : ∀ env, EnvOK h₀ ns env → swappedStores [.Tuple (xs.map fun p => Expr.Name p.1 p.2) k tpos] value env = pure none) :
    HS prog w h₀ n ns tab (.Assign [.Tuple (xs.map fun p => Expr.Name p.1 p.2) k tpos] value pos) (sUnp is f) := by
  constructor
  intro env he ap A hA n0 ρ σ φ s H F fl ρ' σ' hf Q E hQ
  unfold sUnp at hf
  split at hf
  case h_2 => cases hf
  rename_i v σ₁ ev
  split at hf
  case h_2 => cases hf
  rename_i vs evs
  split at hf
  case h_2 => cases hf
  rename_i ρ₁ ep
  cases hf
  refine Assign_Tuple (h.1 env he A hA n0 ρ σ φ s H F _ _ ev _ _ fun φ' y h' tk k' H' hv => ?_) (hs env he) (hw env he)
  obtain ⟨a, xs', rfl, hxs, ht⟩ := tupleOf H' hv evs
  have hlen := hxs.length
  have hl2 := putAll_len ep
  have hl3 := hb.length
  refine wpAny_assign_Tuple hA.1 ht (by rw [assignEach_len]; simp; rw [List.length_map] at hl3; omega) (assignEach_plain xs) fun h'' hext => ?_
  have k2 : Keep h' h'' := fun b o e => hext b o (Nat.ne_of_lt (Heap.lt_size e)) e
  refine stores_ok he nd (fun _ _ _ => ap) hb (Trees.assign xs) (by simpa using hxs) ep (H'.keeps k2) ((F.ext k').keeps k2) fun h₃ tk₃ k₃ H₃ F₃ => ?_
  have e1 : ExtS env n0 φ' φ' h'' h₃ := ⟨⟨[], by simp, by simp⟩, fun b o _ ho e => k₃ b o (.inl ho) e⟩
  exact hQ _ _ _ _ ((k'.trans H' (.of_keep k2)).toS.trans (H'.keeps k2) ((F.ext k').keeps k2) e1) H₃ F₃ .next

/-- x, y = (a, b): the display is not kept -/
noncomputable def sUnpT (is : List Nat) (fs : Nat → Loc → Hp → Option (List V × Hp)) (n0 : Nat) (ρ : Loc) (σ : Hp) : Option (Fl × Loc × Hp) := match fs n0 ρ σ with
  | some (vs, σ') => if decide (vs.length ≤ 100) then match putAll ρ is vs with
      | some ρ' => some (.next, ρ', σ')
      | .none => .none
    else .none
  | .none => .none
theorem VsR.reverse {φ : List Addr} : ∀ {vs : List V} {xs : List Value}, VsR φ vs xs → VsR φ vs.reverse xs.reverse
  | _, _, .nil => .nil
  | _, _, .cons h r => by simp only [List.reverse_cons]; exact r.reverse.snoc h
theorem push_tuple (h : Heap) (xs : List Value) : (h.push { cls := .type "tuple", data := .seq xs.toArray }).IsTuple h.objs.size xs.toArray := ⟨_, Heap.get?_push_size _ rfl, rfl, 0, rfl⟩
theorem HS.unpT {xs : List (Str × Pos)} {es : List Expr} {k kk : Nat} {tpos vpos pos : Pos} {fs} (is : List Nat) (hb : Bound tab ns is (xs.map (·.1))) (nd : tab.Nodup) (h : HAs prog w h₀ n ns tab es fs)
    (hs : ∀ env, EnvOK h₀ ns env → swapsWithSole [.Tuple (xs.map fun p => Expr.Name p.1 p.2) k tpos] (.Tuple es kk vpos) pos.line env = pure false)
    (hw : ∀ env, EnvOK h₀ ns env → swappedStores [.Tuple (xs.map fun p => Expr.Name p.1 p.2) k tpos] (.Tuple es kk vpos) env = pure none) :
    HS prog w h₀ n ns tab (.Assign [.Tuple (xs.map fun p => Expr.Name p.1 p.2) k tpos] (.Tuple es kk vpos) pos) (sUnpT is fs) := by
  constructor
  intro env he ap A hA n0 ρ σ φ s H F fl ρ' σ' hf Q E hQ
  unfold sUnpT at hf
  split at hf
  case h_2 => cases hf
  rename_i vs σ₁ ev
  split at hf
  case isFalse => cases hf
  rename_i hln
  simp only [decide_eq_true_eq] at hln
  split at hf
  case h_2 => cases hf
  rename_i ρ₁ ep
  cases hf
  refine Assign_Tuple (wpAny_Tuple (h.2 env he A hA n0 ρ σ φ s H F _ _ ev _ _ _ fun φ' ys h' tk k' H' hv => ⟨by rw [hv.length, sizeLine_eq]; omega, ?_⟩)) (hs env he) (hw env he)
  have hlen := hv.length
  have hl2 := putAll_len ep
  have hl3 := hb.length
  dsimp only
  refine wpAny_assign_Tuple hA.1 (push_tuple h' ys) (by rw [assignEach_len]; simp; rw [List.length_map] at hl3; omega) (assignEach_plain xs) fun h'' hext => ?_
  have k2 : Keep h' h'' := (Keep.push _ _).trans fun b o e => hext b o (Nat.ne_of_lt (Heap.lt_size e)) e
  refine stores_ok he nd (fun _ _ _ => ap) hb (Trees.assign xs) (by simpa using hv) ep (H'.keeps k2) ((F.ext k').keeps k2) fun h₃ tk₃ k₃ H₃ F₃ => ?_
  have e1 : ExtS env n0 φ' φ' h'' h₃ := ⟨⟨[], by simp, by simp⟩, fun b o _ ho e => k₃ b o (.inl ho) e⟩
  exact hQ _ _ _ _ ((k'.trans H' (.of_keep k2)).toS.trans (H'.keeps k2) ((F.ext k').keeps k2) e1) H₃ F₃ .next
/-- the same, the stores in the order from behind -/
noncomputable def sUnpS (is : List Nat) (fs : Nat → Loc → Hp → Option (List V × Hp)) (n0 : Nat) (ρ : Loc) (σ : Hp) : Option (Fl × Loc × Hp) := match fs n0 ρ σ with
  | some (vs, σ') => if decide (vs.length ≤ 100) then match putAll ρ is vs.reverse with
      | some ρ' => some (.next, ρ', σ')
      | .none => .none
    else .none
  | .none => .none
theorem HS.unpS {elts : List Expr} {xs : List Str} {es : List Expr} {k kk : Nat} {tpos vpos pos : Pos} {fs} (is : List Nat) (hb : Bound tab ns is xs.reverse) (nd : tab.Nodup) (h : HAs prog w h₀ n ns tab es fs)
    (hs : ∀ env, EnvOK h₀ ns env → swapsWithSole [.Tuple elts k tpos] (.Tuple es kk vpos) pos.line env = pure false)
    (hw : ∀ env, EnvOK h₀ ns env → swappedStores [.Tuple elts k tpos] (.Tuple es kk vpos) env = pure (some xs)) :
    HS prog w h₀ n ns tab (.Assign [.Tuple elts k tpos] (.Tuple es kk vpos) pos) (sUnpS is fs) := by
  constructor
  intro env he ap A hA n0 ρ σ φ s H F fl ρ' σ' hf Q E hQ
  unfold sUnpS at hf
  split at hf
  case h_2 => cases hf
  rename_i vs σ₁ ev
  split at hf
  case isFalse => cases hf
  rename_i hln
  simp only [decide_eq_true_eq] at hln
  split at hf
  case h_2 => cases hf
  rename_i ρ₁ ep
  cases hf
  refine Assign_Tuple_swapped (wpAny_Tuple (h.2 env he A hA n0 ρ σ φ s H F _ _ ev _ _ _ fun φ' ys h' tk k' H' hv => ⟨by rw [hv.length, sizeLine_eq]; omega, ?_⟩)) (hs env he) (hw env he)
  have hlen := hv.length
  have hl2 := putAll_len ep
  have hl3 := hb.length
  rw [List.length_reverse] at hl2 hl3
  dsimp only
  have hsz : xs.length = ys.toArray.size := by simp; omega
  rw [hsz]
  refine wpAny_unpackItems_tuple hA.1 (push_tuple h' ys) fun h'' hext => ?_
  have k2 : Keep h' h'' := (Keep.push _ _).trans fun b o e => hext b o (Nat.ne_of_lt (Heap.lt_size e)) e
  refine stores_ok he nd (fun _ _ _ => ap) hb (Trees.bind _) (by simpa using hv.reverse) ep (H'.keeps k2) ((F.ext k').keeps k2) fun h₃ tk₃ k₃ H₃ F₃ => ?_
  have e1 : ExtS env n0 φ' φ' h'' h₃ := ⟨⟨[], by simp, by simp⟩, fun b o _ ho e => k₃ b o (.inl ho) e⟩
  exact hQ _ _ _ _ ((k'.trans H' (.of_keep k2)).toS.trans (H'.keeps k2) ((F.ext k').keeps k2) e1) H₃ F₃ .next

-- the text's own defs
structure HC (prog : Program) (w : World) (h₀ : Heap) (mg : Str → Option Value) (n : Nat) (name : Str) (F : Nat → List V → Hp → Option (V × Hp)) : Prop where
  at' : ∃ a o fd, mg name = some (.ref a) ∧ h₀.get? a = some o ∧ o.data = .func fd
  code : ∀ a, mg name = some (.ref a) → ∀ A, Room n A → ∀ n0 vs σ φ s xs v σ', HR h₀ φ σ s.heap → VsR φ vs xs → F n0 vs σ = some (v, σ') → ∀ (R : Result → Shared → Prop),
    (∀ φ' x h' tk, Ext n0 φ φ' s.heap h' → HR h₀ φ' σ' h' → VR φ' v x → R (.ok (.ret x)) { s with heap := h', toks := tk }) → codeAny (model prog w) A (.call (.ref a) ⟨xs, []⟩) R s

/-- a call that may turn the caller's own lists -/
noncomputable def callI (F : Nat → List V → Hp → Option (V × Hp)) (fs : Nat → Loc → Hp → Option (List V × Hp)) (n0 : Nat) (ρ : Loc) (σ : Hp) : Option (V × Hp) := match fs n0 ρ σ with
  | some (vs, σ') => F n0 vs σ'
  | .none => .none
theorem HE.callI (G : GC mg mb h₀) {x : Str} {np pos : Pos} {e : Expr} {es : List Expr} {k : Nat} {F fs} (hC : HC prog w h₀ mg k x F) (hkn : k ≤ n) (hk : ns.lookup x = some .globalImplicit) (hd : (x == ("__debug__" : Str)) = false)
    (h : HAs prog w h₀ n ns tab (e :: es) fs) : HE prog w h₀ n ns tab (.Call (.Name x np) (e :: es) [] pos) (callI F fs) := by
  constructor
  intro env he A hA n0 ρ σ φ s H Fk v σ₁ hf Q E hQ
  unfold Mine.callI at hf
  split at hf
  case h_2 => cases hf
  rename_i vs σ' evs
  obtain ⟨a, o, fd, hv, ho, hdat⟩ := hC.at'
  refine wpAny_Call_NameR (name_global G he H hk hv hd ?_)
  refine callWith_def hdat (h.2 env he A hA n0 ρ σ φ s H Fk _ _ evs _ _ _ fun φ' xs h' tk k' H' hx => ⟨H'.keep _ _ ho, ?_⟩) (star_each (h.1 _ (.head _)))
  refine wpAny_call ?_
  exact hC.code a hv A (hA.mono hkn) n0 vs _ φ' { s with heap := h', toks := tk } xs v _ H' hx hf _ fun φ'' x h'' tk' k'' H'' hx' => hQ _ _ _ _ (k'.trans H' k'') H'' hx'

noncomputable def flat : List V → Bool
  | [] => true
  | .ref _ :: _ => false
  | _ :: r => flat r
theorem flat_any {φ φ' : List Addr} : ∀ {vs : List V} {xs : List Value}, VsR φ vs xs → flat vs = true → VsR φ' vs xs
  | _, _, .nil, _ => .nil
  | _, _, .cons h r, e => by
    cases h
    · exact .cons .none (flat_any r (by simpa [flat] using e))
    · exact .cons (.bool _) (flat_any r (by simpa [flat] using e))
    · exact .cons (.int _ _) (flat_any r (by simpa [flat] using e))
    · simp [flat] at e
/-- what a pure call leaves: its answer alone -/
noncomputable def collapse (σ : Hp) : Option (V × Hp) → Option (V × Hp)
  | some (.ref k, σ') => if decide (k < σ.length) then some (.ref k, σ) else match nth σ' k with
    | some o => if flat o.items then some (.ref σ.length, σ ++ [o]) else some (.ref k, σ')
    | .none => .none
  | some (v, _) => some (v, σ)
  | .none => .none
noncomputable def callC (F : Nat → List V → Hp → Option (V × Hp)) (fs : Nat → Loc → Hp → Option (List V × Hp)) (n0 : Nat) (ρ : Loc) (σ : Hp) : Option (V × Hp) := match fs n0 ρ σ with
  | some (vs, σ') => collapse σ' (F σ'.length vs σ')
  | .none => .none
theorem HE.callC (G : GC mg mb h₀) {x : Str} {np pos : Pos} {e : Expr} {es : List Expr} {k : Nat} {F fs} (hC : HC prog w h₀ mg k x F) (hkn : k ≤ n) (hk : ns.lookup x = some .globalImplicit) (hd : (x == ("__debug__" : Str)) = false)
    (h : HAs prog w h₀ n ns tab (e :: es) fs) : HE prog w h₀ n ns tab (.Call (.Name x np) (e :: es) [] pos) (callC F fs) := by
  constructor
  intro env he A hA n0 ρ σ φ s H Fk v σ₁ hf Q E hQ
  unfold Mine.callC at hf
  split at hf
  case h_2 => cases hf
  rename_i vs σ' evs
  obtain ⟨a, o, fd, hv, ho, hdat⟩ := hC.at'
  refine wpAny_Call_NameR (name_global G he H hk hv hd ?_)
  refine callWith_def hdat (h.2 env he A hA n0 ρ σ φ s H Fk _ _ evs _ _ _ fun φ' xs h' tk k' H' hx => ⟨H'.keep _ _ ho, ?_⟩) (star_each (h.1 _ (.head _)))
  refine wpAny_call ?_
  have kk : ∀ {φ'' h''}, Ext σ'.length φ' φ'' h' h'' → Keep h' h'' := fun k2 b o e => k2.keep b o (by rw [← H'.len]; simp) e
  unfold collapse at hf
  split at hf
  · rename_i kr σ'' eF
    split at hf
    · rename_i hlt
      cases hf
      simp only [decide_eq_true_eq] at hlt
      refine hC.code a hv A (hA.mono hkn) _ vs _ φ' { s with heap := h', toks := tk } xs _ _ H' hx eF _ fun φ'' x h'' tk' k'' H'' hx' => ?_
      refine hQ φ' x h'' tk' (k'.trans H' (.of_keep (kk k''))) (H'.keeps (kk k'')) ?_
      obtain ⟨ψ, rfl, _⟩ := k''.pre
      cases hx' with
      | ref e => rw [List.getElem?_append_left (by rw [H'.len]; exact hlt)] at e; exact .ref e
    · rename_i hlt
      split at hf
      case h_2 => cases hf
      rename_i ob eo
      split at hf
      · rename_i hfl
        cases hf
        simp only [decide_eq_true_eq] at hlt
        refine hC.code a hv A (hA.mono hkn) _ vs _ φ' { s with heap := h', toks := tk } xs _ _ H' hx eF _ fun φ'' x h'' tk' k'' H'' hx' => ?_
        cases hx' with
        | @ref _ b e =>
        have hob := H''.lookup e eo
        obtain ⟨ψ, rfl, hψ⟩ := k''.pre
        have hb : b ∈ ψ := by
          rw [List.getElem?_append_right (by rw [H'.len]; omega)] at e
          exact List.mem_of_getElem? e
        have fresh : h'.get? b = none := hψ b hb
        refine hQ (φ' ++ [b]) _ h'' tk' (k'.trans H' (.of_add (kk k'') fresh)) (H'.add (kk k'') fresh ?_) (VR.top H' b)
        obtain ⟨ys, hys, r⟩ := hob
        exact ⟨ys, flat_any hys hfl, r⟩
      · cases hf
        refine hC.code a hv A (hA.mono hkn) _ vs _ φ' { s with heap := h', toks := tk } xs _ _ H' hx eF _ fun φ'' x h'' tk' k'' H'' hx' => ?_
        refine hQ φ'' x h'' tk' (k'.trans H' ⟨k''.pre, fun b o _ e => kk k'' b o e⟩) H'' hx'
  · rename_i u σ'' hne eF
    cases hf
    refine hC.code a hv A (hA.mono hkn) _ vs _ φ' { s with heap := h', toks := tk } xs _ _ H' hx eF _ fun φ'' x h'' tk' k'' H'' hx' => ?_
    refine hQ φ' x h'' tk' (k'.trans H' (.of_keep (kk k''))) (H'.keeps (kk k'')) ?_
    cases hx' with
    | none => exact .none
    | bool b => exact .bool b
    | int i t => exact .int i t
    | ref e => exact (hne _ rfl).elim
  · cases hf

noncomputable def asP (fs : Loc → Hp → Option (List V)) (_ : Nat) (ρ : Loc) (σ : Hp) : Option (List V × Hp) := match fs ρ σ with
  | some vs => some (vs, σ)
  | .none => .none
/-- a pure call in a pure place: its answer is no object -/
noncomputable def callPP (F : Nat → List V → Hp → Option (V × Hp)) (f : Loc → Hp → Option V) (ρ : Loc) (σ : Hp) : Option V := match f ρ σ with
  | some a => match F σ.length [a] σ with
    | some (.ref _, _) => .none
    | some (v, _) => some v
    | .none => .none
  | .none => .none
theorem HP.callPP (G : GC mg mb h₀) {x : Str} {np pos : Pos} {e : Expr} {k : Nat} {F f} (hC : HC prog w h₀ mg k x F) (hkn : k ≤ n) (hk : ns.lookup x = some .globalImplicit) (hd : (x == ("__debug__" : Str)) = false) (hst : isStar e = false)
    (h : HP prog w h₀ n ns tab e f) : HP prog w h₀ n ns tab (.Call (.Name x np) [e] [] pos) (callPP F f) := by
  constructor
  intro env he A hA ρ σ φ s H Fk v hf Q E hQ
  unfold Mine.callPP at hf
  split at hf
  case h_2 => cases hf
  rename_i a ea
  obtain ⟨ad, o, fd, hv, ho, hdat⟩ := hC.at'
  refine wpAny_Call_NameR (name_global G he H hk hv hd ?_)
  refine callWith_def hdat (args_cons (h.1 env he A hA ρ σ φ s H Fk _ ea _ _ fun y h' tk k' hy => args_nil ⟨k' _ _ (H.keep _ _ ho), ?_⟩) (star_each hst)) (star_each hst)
  refine wpAny_call ?_
  split at hf
  · cases hf
  · rename_i u σ'' hne eF
    cases hf
    refine hC.code ad hv A (hA.mono hkn) _ [a] _ φ { s with heap := h', toks := tk } [y] _ _ (H.keeps k') (.cons hy .nil) eF _ fun φ'' x h'' tk' k'' H'' hx' => ?_
    have kk : Keep h' h'' := fun b o e => k''.keep b o (by rw [← H.len]; simp) e
    refine hQ x h'' tk' (k'.trans kk) ?_
    cases hx' with
    | none => exact .none
    | bool b => exact .bool b
    | int i t => exact .int i t
    | ref e => exact (hne _ rfl).elim
  · cases hf

-- entering a def
noncomputable def initLoc (vs : List V) (m : Nat) : Loc := vs.map some ++ List.replicate (m - vs.length) .none
noncomputable def runDef (m : Nat) (f : Nat → Loc → Hp → Option (Fl × Loc × Hp)) (n0 : Nat) (vs : List V) (σ : Hp) : Option (V × Hp) := match f n0 (initLoc vs m) σ with
  | some (.ret v, _, σ') => some (v, σ')
  | some (.next, _, σ') => some (.none, σ')
  | .none => .none

noncomputable def mkF (np m : Nat) (f : Nat → Loc → Hp → Option (Fl × Loc × Hp)) (n0 : Nat) (vs : List V) (σ : Hp) : Option (V × Hp) := if vs.length == np then runDef m f n0 vs σ else .none

theorem bindL_get {kindOf : Str → Option NameKind} {φ : List Addr} : ∀ {ps : List Str} {vs : List V} {xs : List Value}, VsR φ vs xs → ps.Nodup → ∀ (m : Str → Option Value) {i : Nat} {x : Str} {v : V}, ps[i]? = some x → vs[i]? = some v → kindOf x = some .local →
    ∃ y, bindL kindOf (ps.zip xs) m x = some y ∧ VR φ v y := by
  have keep : ∀ {ps : List Str} {xs : List Value} (m : Str → Option Value) {x : Str}, x ∉ ps → bindL kindOf (ps.zip xs) m x = m x := by
    intro ps
    induction ps with
    | nil => intro xs m x _; rfl
    | cons p r ih =>
      intro xs m x hx
      cases xs with
      | nil => rfl
      | cons y ys =>
        simp only [List.zip_cons_cons, bindL]
        rw [ih _ (fun q => hx (.tail _ q))]
        split
        · have : x ≠ p := fun e => hx (e ▸ .head _)
          simp [this]
        · rfl
  intro ps vs xs h nd
  induction h generalizing ps with
  | nil => intro m i x v _ hv; simp at hv
  | @cons v0 x0 vs' xs' h0 hr ih =>
    intro m i x v hp hv hk
    cases ps with
    | nil => simp at hp
    | cons p r =>
      obtain ⟨nd1, nd2⟩ := List.nodup_cons.mp nd
      simp only [List.zip_cons_cons, bindL]
      cases i with
      | zero =>
        simp at hp hv
        subst hp hv
        rw [keep _ nd1, if_pos hk]
        exact ⟨x0, by simp, h0⟩
      | succ i =>
        simp at hp hv
        exact ih nd2 _ hp hv hk
theorem bindC_get {kindOf : Str → Option NameKind} {φ : List Addr} : ∀ {ps : List Str} {vs : List V} {xs : List Value}, VsR φ vs xs → ps.Nodup → ∀ (m : Str → Option Value) {i : Nat} {x : Str} {v : V}, ps[i]? = some x → vs[i]? = some v → kindOf x ≠ some .local →
    ∃ y, bindC kindOf (ps.zip xs) m x = some y ∧ VR φ v y := by
  have keep : ∀ {ps : List Str} {xs : List Value} (m : Str → Option Value) {x : Str}, x ∉ ps → bindC kindOf (ps.zip xs) m x = m x := by
    intro ps
    induction ps with
    | nil => intro xs m x _; rfl
    | cons p r ih =>
      intro xs m x hx
      cases xs with
      | nil => rfl
      | cons y ys =>
        simp only [List.zip_cons_cons, bindC]
        rw [ih _ (fun q => hx (.tail _ q))]
        split
        · rfl
        · have : x ≠ p := fun e => hx (e ▸ .head _)
          simp [this]
  intro ps vs xs h nd
  induction h generalizing ps with
  | nil => intro m i x v _ hv; simp at hv
  | @cons v0 x0 vs' xs' h0 hr ih =>
    intro m i x v hp hv hk
    cases ps with
    | nil => simp at hp
    | cons p r =>
      obtain ⟨nd1, nd2⟩ := List.nodup_cons.mp nd
      simp only [List.zip_cons_cons, bindC]
      cases i with
      | zero =>
        simp at hp hv
        subst hp hv
        rw [keep _ nd1, if_neg hk]
        exact ⟨x0, by simp, h0⟩
      | succ i =>
        simp at hp hv
        exact ih nd2 _ hp hv hk

structure FnAt (mg : Str → Option Value) (h₀ : Heap) (name : Str) (params : Arguments) (body : List Stmt) (scope : Scope) : Prop where
  at' : ∃ a o pm code doc, mg name = some (.ref a) ∧ h₀.get? a = some o ∧ o.data = .func (docDef name params body scope pm code doc) ∧ h₀.CodeRec code name

theorem initLoc_look {vs : List V} {m i : Nat} : look (initLoc vs m) i = vs[i]? := by
  unfold look initLoc
  rw [nth_eq]
  by_cases h : i < vs.length
  · rw [List.getElem?_append_left (by simpa using h), List.getElem?_map, List.getElem?_eq_getElem h]; rfl
  · rw [List.getElem?_append_right (by simpa using h), List.getElem?_replicate, List.getElem?_eq_none (Nat.not_lt.mp h)]
    split <;> rename_i e <;> first | rfl | (split at e <;> cases e)

theorem cells_keys : ∀ (names : List (Str × NameKind)) (n k : Nat) (acc acc' : List (Str × Addr)), acc.map (·.1) = acc'.map (·.1) → (cellsFrom n names acc).map (·.1) = (cellsFrom k names acc').map (·.1)
  | [], _, _, _, _, h => h
  | (nm, kd) :: r, n, k, acc, acc', h => by
    unfold cellsFrom
    split
    · exact cells_keys r _ _ _ _ (by simp [h])
    · exact cells_keys r _ _ _ _ h
theorem lookup_of_mem : ∀ {l : List (Str × Addr)}, (l.map (·.1)).Nodup → ∀ {x : Str} {c : Addr}, (x, c) ∈ l → l.lookup x = some c
  | (y, d) :: r, nd, x, c, h => by
    obtain ⟨n1, n2⟩ := List.nodup_cons.mp nd
    rw [List.lookup_cons]
    rcases List.mem_cons.mp h with e | h
    · cases e; simp
    · have hne : x ≠ y := fun e => n1 (e ▸ List.mem_map.mpr ⟨_, h, rfl⟩)
      have : (x == y) = false := by simpa using hne
      rw [this]; exact lookup_of_mem n2 h
theorem HC.ofBody {name : Str} {params : Arguments} {body : List Stmt} {scope : Scope} {f} {ps rest : List Str} (G : GC mg mb h₀) (hat : FnAt mg h₀ name params body scope)
    (hns : scope.names = ns) (hkind : scope.kind = .function) (hco : scope.isCoroutine = false) (hge : scope.isGenerator = false)
    (htab : tab = ps ++ rest) (nd : tab.Nodup) (hst : ∀ x ∈ tab, isStore (ns.lookup x) = true)
    (hcn : ((cellsFrom 0 scope.names []).map (·.1)).Nodup)
    (hbind : ∀ pm code doc (xs : List Value), xs.length = ps.length → bindArgs (docDef name params body scope pm code doc) ⟨xs, []⟩ = pure (ps.zip xs))
    (hb : HSs prog w h₀ n ns tab body f) : HC prog w h₀ mg (n + 1) name (mkF ps.length tab.length f) := by
  obtain ⟨a, o, pm, code, doc, hv, ho, hdat, hrec⟩ := hat.at'
  refine ⟨⟨a, o, _, hv, ho, hdat⟩, ?_⟩
  intro a' hv' A hA n0 vs σ φ s xs v σ' H hxs hF R hR
  rw [hv] at hv'; cases hv'
  unfold mkF at hF
  split at hF
  case isFalse => cases hF
  rename_i hlen
  have hlen : vs.length = ps.length := by simpa using hlen
  have hxl := hxs.length
  subst hns
  have nd' : ps.Nodup := (List.nodup_append.mp (htab ▸ nd)).1
  have hstp : ∀ x ∈ ps, isStore (scope.names.lookup x) = true := fun x hx => hst x (by rw [htab]; exact List.mem_append_left _ hx)
  have hroom : A.depth < recursionLimit := by have := hA.2.1; omega
  have hsel : ∀ {x : Str}, isStore (scope.names.lookup x) = true → scope.names.lookup x = some .local ∨ scope.names.lookup x = some .cell := fun h => (Bool.or_eq_true_iff.mp h).imp (fun q => by simpa using q) (fun q => by simpa using q)
  refine codeAny_call_cells (fd := docDef name params body scope pm code doc) (body := body) (binds := ps.zip xs) hroom (H.keep _ _ ho) hdat (G.lim.keeps H.keep) (hrec.keeps H.keep) rfl (hbind _ _ _ _ (by omega)) rfl ?_ (fun s₁ I => ?_) hco hge hkind
  · rintro ⟨p, x⟩ hx
    have hp := hstp p (List.of_mem_zip hx).1
    rcases hsel hp with q | q
    · exact .inl q
    · exact .inr ⟨q, cellsFrom_some _ _ _ (.inl q)⟩
  obtain ⟨⟨⟨h1, tk1, rfl⟩, ins, ikeep, ifresh⟩, icell, iapart, iabove⟩ := I
  have below : ∀ {b : Addr} {o : Obj}, s.heap.get? b = some o → b < s.heap.objs.size := fun e => Heap.lt_size e
  have phi_lt : ∀ {b}, b ∈ φ → b < s.heap.objs.size := fun hb => by obtain ⟨o, e⟩ := H.alloc hb; exact below e
  have own_ge : ∀ b ∈ own (callEnvC (docDef name params body scope pm code doc) s.heap.objs.size a), s.heap.objs.size ≤ b := by
    intro b hb
    rcases List.mem_cons.mp hb with rfl | hb
    · exact Nat.le_refl _
    · obtain ⟨⟨nm, c⟩, hm, rfl⟩ := List.mem_map.mp hb
      exact Nat.le_of_lt (iabove nm c hm)
  have none0 : ∀ {b : Addr}, s.heap.objs.size ≤ b → h₀.get? b = none := fun {b} hb => by
    cases e : h₀.get? b with
    | none => rfl
    | some ob => exact absurd (below (H.keep _ _ e)) (Nat.not_lt.mpr hb)
  have he : EnvOK h₀ scope.names (callEnvC (docDef name params body scope pm code doc) s.heap.objs.size a) := ⟨hkind, rfl, rfl, rfl, fun b hb => none0 (own_ge b hb)⟩
  have F : FOK (callEnvC (docDef name params body scope pm code doc) s.heap.objs.size a) tab (initLoc vs tab.length) φ h1 := by
    refine ⟨fun b hb => ⟨fun q => absurd (phi_lt q) (Nat.not_lt.mpr (own_ge b hb)), ?_⟩, ?_, _, ins, fun i x hx => ?_⟩
    · rcases List.mem_cons.mp hb with rfl | hb
      · obtain ⟨o', _, _, e, _⟩ := ins; exact ⟨o', e⟩
      · obtain ⟨⟨nm, c⟩, hm, rfl⟩ := List.mem_map.mp hb
        obtain ⟨o', e, _⟩ := icell nm c (lookup_of_mem (by
          show ((cellsFrom (s.heap.objs.size + 1) scope.names []).map (·.1)).Nodup
          rw [cells_keys scope.names (s.heap.objs.size + 1) 0 [] [] rfl]; exact hcn) hm)
        exact ⟨o', e⟩
    · simp only [initLoc, List.length_append, List.length_map, List.length_replicate]
      have : tab.length = ps.length + rest.length := by rw [htab, List.length_append]
      omega
    · rw [initLoc_look]
      have hk := hst x (List.mem_of_getElem? hx)
      have hpx : ∀ v', vs[i]? = some v' → ps[i]? = some x := fun v' e => by
        have hi := (List.getElem?_eq_some_iff.mp e).1
        rw [htab, List.getElem?_append_left (by omega)] at hx; exact hx
      unfold VarIs
      rw [show (callEnvC (docDef name params body scope pm code doc) s.heap.objs.size a).kindOf x = scope.names.lookup x from rfl]
      rcases hsel hk with q | q
      · rw [q]
        cases ev : vs[i]? with
        | none => trivial
        | some v' =>
          obtain ⟨y, ey, hy⟩ := bindL_get (kindOf := (callEnvC (docDef name params body scope pm code doc) s.heap.objs.size a).kindOf) hxs nd' (fun _ => none) (hpx v' ev) ev q
          show OVR φ (some v') _
          rw [ey]; exact hy
      · rw [q]
        obtain ⟨c, hc⟩ := Option.isSome_iff_exists.mp (cellsFrom_some scope.names (s.heap.objs.size + 1) [] (.inl q))
        refine ⟨c, _, hc, fun hm => ?_, icell x c hc, ?_⟩
        · have := iabove x c (mem_of_lookup' hc)
          exact absurd (phi_lt hm) (Nat.not_lt.mpr (Nat.le_of_lt this))
        · cases ev : vs[i]? with
          | none => trivial
          | some v' =>
            obtain ⟨y, ey, hy⟩ := bindC_get (kindOf := (callEnvC (docDef name params body scope pm code doc) s.heap.objs.size a).kindOf) hxs nd' (fun _ => none) (hpx v' ev) ev (by
              show scope.names.lookup x ≠ some .local
              rw [q]; decide)
            rw [ey]; exact hy
  have fin : ∀ {φ' h'}, ExtS (callEnvC (docDef name params body scope pm code doc) s.heap.objs.size a) n0 φ φ' h1 h' → Ext n0 φ φ' s.heap h' := fun {φ' h'} e => by
    obtain ⟨⟨ψ, rfl, f1⟩, k1⟩ := e
    refine ⟨⟨ψ, rfl, fun b hb => ?_⟩, fun b o hb e => k1 b o hb (fun q => absurd (below e) (Nat.not_lt.mpr (own_ge b q))) (ikeep _ _ e)⟩
    cases e : s.heap.get? b with
    | none => rfl
    | some o' => have := ikeep _ _ e; rw [f1 b hb] at this; cases this
  unfold runDef at hF
  split at hF
  · rename_i v' ρ' σ₁ ef
    cases hF
    refine hb.1 _ he iapart _ hA.deeper n0 _ σ φ _ (H.keeps ikeep) F _ _ _ ef _ _ fun φ' y h' tk k H' F' hy => ?_
    cases hy
    rename_i x hx
    exact hR φ' x h' tk (fin k) H' hx
  · rename_i ρ' σ₁ ef
    cases hF
    refine hb.1 _ he iapart _ hA.deeper n0 _ σ φ _ (H.keeps ikeep) F _ _ _ ef _ _ fun φ' y h' tk k H' F' hy => ?_
    cases hy
    exact hR φ' .none h' tk (fin k) H' .none
  · cases hF
end
end Mine
namespace Mine

section
variable {prog : Program} {w : World} {h₀ : Heap} {n : Nat} {ns : List (Str × NameKind)} {tab : List Str} {mg mb : Str → Option Value}

noncomputable def whileGo (t : Nat → Loc → Hp → Option (Bool × Hp)) (f : Nat → Loc → Hp → Option (Fl × Loc × Hp)) (n0 : Nat) : Nat → Loc → Hp → Option (Fl × Loc × Hp)
  | 0, _, _ => .none
  | k + 1, ρ, σ => match t n0 ρ σ with
    | some (true, σ') => match f n0 ρ σ' with
      | some (.next, ρ', σ'') => whileGo t f n0 k ρ' σ''
      | r => r
    | some (false, σ') => some (.next, ρ, σ')
    | .none => .none
noncomputable def sWhile (t : Nat → Loc → Hp → Option (Bool × Hp)) (f : Nat → Loc → Hp → Option (Fl × Loc × Hp)) (n0 : Nat) (ρ : Loc) (σ : Hp) : Option (Fl × Loc × Hp) := whileGo t f n0 1000 ρ σ

theorem HS.while {test : Expr} {body : List Stmt} {pos : Pos} {t f} (ht : HTE prog w h₀ n ns tab test t) (hf : HSs prog w h₀ n ns tab body f) : HS prog w h₀ n ns tab (.While test body [] pos) (sWhile t f) := by
  constructor
  intro env he ap A hA n0 ρ σ φ s H F fl ρ' σ' e Q E hQ
  refine wpAny_While (codeAny_whileLoop (fun k s' => ∃ ρ₁ σ₁ φ₁ h₁ tk₁, s' = { s with heap := h₁, toks := tk₁ } ∧ ExtS env n0 φ φ₁ s.heap h₁ ∧ HR h₀ φ₁ σ₁ h₁ ∧ FOK env tab ρ₁ φ₁ h₁ ∧ whileGo t f n0 k ρ₁ σ₁ = some (fl, ρ', σ')) ?_ 1000 ⟨ρ, σ, φ, s.heap, s.toks, rfl, .refl, H, F, e⟩)
  rintro k s' ⟨ρ₁, σ₁, φ₁, h₁, tk₁, rfl, k₁, H₁, F₁, e₁⟩
  cases k with
  | zero => cases e₁
  | succ k =>
    unfold whileGo at e₁
    split at e₁
    · rename_i σ₂ e₂
      refine ht.1 env he A hA n0 _ _ φ₁ _ H₁ F₁ _ _ e₂ _ _ fun φ₂ h₂ tk₂ k₂ H₂ => ?_
      rw [if_pos rfl]
      have F₂ := F₁.ext k₂
      have e12 := k₁.trans H₁ F₁ k₂.toS
      split at e₁
      · rename_i ρ₃ σ₃ e₃
        refine hf.1 env he ap A hA n0 _ _ φ₂ _ H₂ F₂ _ _ _ e₃ _ _ fun φ₃ y h₃ tk₃ k₃ H₃ F₃ hy => ?_
        cases hy
        exact ⟨k, Nat.lt_succ_self k, ρ₃, σ₃, φ₃, h₃, tk₃, rfl, e12.trans H₂ F₂ k₃, H₃, F₃, e₁⟩
      · rename_i q
        refine hf.1 env he ap A hA n0 _ _ φ₂ _ H₂ F₂ _ _ _ e₁ _ _ fun φ₃ y h₃ tk₃ k₃ H₃ F₃ hy => ?_
        cases hy
        · exact absurd e₁ (q _ _ ·)
        · rename_i v x hv
          exact hQ _ _ _ _ (e12.trans H₂ F₂ k₃) H₃ F₃ (.ret hv)
    · rename_i σ₂ e₂
      cases e₁
      refine ht.1 env he A hA n0 _ _ φ₁ _ H₁ F₁ _ _ e₂ _ _ fun φ₂ h₂ tk₂ k₂ H₂ => ?_
      rw [if_neg (by decide)]
      exact wpAny_execs_nil (hQ _ _ _ _ (k₁.trans H₁ F₁ k₂.toS) H₂ (F₁.ext k₂) .next)
    · cases e₁

-- iterators
inductive Src where
  | lst (k : Nat)
  | rng (a : Int) (len : Nat)
  | enm (k : Nat)
  | rev (k : Nat) (len : Nat)
  | tup (k : Nat)

noncomputable def SrcAt (φ : List Addr) (src : Src) (I : Addr) (W : List Addr) (i : Nat) (h : Heap) : Prop := match src with
  | .lst k => W = [I] ∧ ∃ a, φ[k]? = some a ∧ h.IsListIter I a i
  | .rng x len => W = [I] ∧ i ≤ len ∧ IsRangeIter h I (x + i) ((len : Int) - i) 1
  | .enm k => ∃ it old a, W = [I, it] ∧ I ≠ it ∧ φ[k]? = some a ∧ IsEnum h I it i old ∧ h.IsListIter it a i
  | .rev k len => W = [I] ∧ i ≤ len ∧ ∃ a, φ[k]? = some a ∧ h.IsRevIter I a ((len : Int) - 1 - i)
  | .tup k => W = [I] ∧ ∃ a, φ[k]? = some a ∧ h.IsTupleIter I a i

theorem SrcAt.frame {φ : List Addr} {src : Src} {I : Addr} {W : List Addr} {i : Nat} {h h' : Heap} (x : SrcAt φ src I W i h) (k : ∀ b ∈ W, ∀ o, h.get? b = some o → h'.get? b = some o) : SrcAt φ src I W i h' := by
  cases src with
  | lst j => obtain ⟨rfl, a, e, o, g, r⟩ := x; exact ⟨rfl, a, e, o, k _ (by simp) _ g, r⟩
  | rng a len => obtain ⟨rfl, hi, g⟩ := x; exact ⟨rfl, hi, k _ (by simp) _ g⟩
  | enm j => obtain ⟨it, old, a, rfl, hne, e, g, o, g', r⟩ := x; exact ⟨it, old, a, rfl, hne, e, k _ (by simp) _ g, o, k _ (by simp) _ g', r⟩
  | rev j len => obtain ⟨rfl, hi, a, e, o, g, r⟩ := x; exact ⟨rfl, hi, a, e, o, k _ (by simp) _ g, r⟩
  | tup j => obtain ⟨rfl, a, e, o, g, r⟩ := x; exact ⟨rfl, a, e, o, k _ (by simp) _ g, r⟩
theorem get_mono {φ ψ : List Addr} {k : Nat} {a : Addr} (e : φ[k]? = some a) : (φ ++ ψ)[k]? = some a := by
  rw [List.getElem?_append_left (List.getElem?_eq_some_iff.mp e).1]; exact e
theorem SrcAt.mono {φ ψ : List Addr} {src : Src} {I : Addr} {W : List Addr} {i : Nat} {h : Heap} (x : SrcAt φ src I W i h) : SrcAt (φ ++ ψ) src I W i h := by
  cases src with
  | lst j => obtain ⟨rfl, a, e, r⟩ := x; exact ⟨rfl, a, get_mono e, r⟩
  | rng a len => exact x
  | enm j => obtain ⟨it, old, a, rfl, hne, e, r⟩ := x; exact ⟨it, old, a, rfl, hne, get_mono e, r⟩
  | rev j len => obtain ⟨rfl, hi, a, e, r⟩ := x; exact ⟨rfl, hi, a, get_mono e, r⟩
  | tup j => obtain ⟨rfl, a, e, r⟩ := x; exact ⟨rfl, a, get_mono e, r⟩
theorem SrcAt.self {φ : List Addr} {src : Src} {I : Addr} {W : List Addr} {i : Nat} {A : Around} {E : Value → Shared → Prop} {s : Shared} (x : SrcAt φ src I W i s.heap) {Q : Value → Shared → Prop} (h : Q (.ref I) s) : wpAny (model prog w) A (pyIter (.ref I)) Q E s := by
  cases src with
  | lst j => obtain ⟨rfl, a, e, r⟩ := x; exact wpAny_pyIter_listiter r h
  | rng a len => obtain ⟨rfl, hi, r⟩ := x; exact wpAny_pyIter_rangeiter r h
  | enm j => obtain ⟨it, old, a, rfl, hne, e, r, _⟩ := x; exact wpAny_pyIter_enum r h
  | rev j len => obtain ⟨rfl, hi, a, e, r⟩ := x; exact wpAny_pyIter_revIter r h
  | tup j => obtain ⟨rfl, a, e, r⟩ := x; exact wpAny_pyIter_tupleiter r h
theorem SrcAt.mem {φ : List Addr} {src : Src} {I : Addr} {W : List Addr} {i : Nat} {h : Heap} (x : SrcAt φ src I W i h) : I ∈ W := by
  cases src with
  | lst j => obtain ⟨rfl, _⟩ := x; simp
  | rng a len => obtain ⟨rfl, _⟩ := x; simp
  | enm j => obtain ⟨it, old, a, rfl, _⟩ := x; simp
  | rev j len => obtain ⟨rfl, _⟩ := x; simp
  | tup j => obtain ⟨rfl, _⟩ := x; simp
theorem SrcAt.alloc {φ : List Addr} {src : Src} {I : Addr} {W : List Addr} {i : Nat} {h : Heap} (x : SrcAt φ src I W i h) : ∀ b ∈ W, ∃ o, h.get? b = some o := by
  cases src with
  | lst j => obtain ⟨rfl, a, e, o, g, _⟩ := x; intro b hb; simp at hb; subst hb; exact ⟨o, g⟩
  | rng a len => obtain ⟨rfl, hi, g⟩ := x; intro b hb; simp at hb; subst hb; exact ⟨_, g⟩
  | enm j => obtain ⟨it, old, a, rfl, hne, e, g, o, g', _⟩ := x; intro b hb; simp at hb; rcases hb with rfl | rfl; exact ⟨_, g⟩; exact ⟨o, g'⟩
  | rev j len => obtain ⟨rfl, hi, a, e, o, g, _⟩ := x; intro b hb; simp at hb; subst hb; exact ⟨o, g⟩
  | tup j => obtain ⟨rfl, a, e, o, g, _⟩ := x; intro b hb; simp at hb; subst hb; exact ⟨o, g⟩

theorem letGo_tupleiter {elts : List Expr} {x1 : Nat} {pos : Pos} {I l T : Addr} {i : Nat} {A : Around} {E : Value → Shared → Prop} {s : Shared} {Q : Unit → Shared → Prop} (hit : s.heap.IsTupleIter I l i) (hQ : Q () s) :
    wpAny (model prog w) A (letOwnedTupleGo (.Tuple elts x1 pos) (.ref I) (.ref T)) Q E s := by
  obtain ⟨o, ho, hc, hd⟩ := hit
  unfold letOwnedTupleGo
  refine wpAny_bind (wpAny_load ho ?_)
  rw [hc, hd]
  show wpAny _ A (if (["enumerate", "zip", "dict_itemiterator", "dict_reverseitemiterator", "odict_iterator", "itertools.zip_longest", "itertools.pairwise"].contains "tuple_iterator" &&
      (#[.ref l, .int i 0] : Array Value)[0]? == some (rawInt T)) = true then _ else _) Q E s
  rw [if_neg (by
    intro h
    rw [show (["enumerate", "zip", "dict_itemiterator", "dict_reverseitemiterator", "odict_iterator", "itertools.zip_longest", "itertools.pairwise"].contains "tuple_iterator") = false from by decide, Bool.false_and] at h
    cases h)]
  exact wpAny_pure hQ

theorem FOK.keepsOn {env : Env} {ρ : Loc} {φ : List Addr} {h h' : Heap} (H : FOK env tab ρ φ h) (k : ∀ b ∈ Mine.own env, ∀ o, h.get? b = some o → h'.get? b = some o) : FOK env tab ρ φ h' := by
  obtain ⟨hl, hn, m, ⟨o, es, ep, e, r⟩, hv⟩ := H
  refine ⟨fun b hb => ?_, hn, m, ⟨o, es, ep, k _ (.head _) _ e, r⟩, fun i x e => ?_⟩
  · obtain ⟨h1, o1, e1⟩ := hl b hb
    exact ⟨h1, o1, k _ hb _ e1⟩
  · have hV := hv i x e
    unfold VarIs at hV ⊢
    split at hV
    · exact hV
    all_goals first
      | exact hV
      | (obtain ⟨c, cv, h1, h2, ⟨o, e, d⟩, h4⟩ := hV
         exact ⟨c, cv, h1, h2, ⟨o, k c (.tail _ (List.mem_map.mpr ⟨_, mem_of_lookup' h1, rfl⟩)) o e, d⟩, h4⟩)

/-- one turn of an iterator with its target -/
noncomputable def Turn (prog : Program) (w : World) (h₀ : Heap) (n : Nat) (tab : List Str) (env : Env) (target : Expr) (src : Src) (step : Nat → Loc → Hp → Option (Option Loc)) : Prop :=
  ∀ A, Room n A → ∀ i ρ σ φ s I W, HR h₀ φ σ s.heap → FOK env tab ρ φ s.heap → SrcAt φ src I W i s.heap → (∀ b ∈ W, h₀.get? b = none ∧ b ∉ φ ∧ b ∉ own env) → ∀ r, step i ρ σ = some r → ∀ (N Y : Shared → Prop) (E0 E1 E2 : Value → Shared → Prop),
    (r = none → ∀ h' tk, (∀ b o, b ∉ W → s.heap.get? b = some o → h'.get? b = some o) → N { s with heap := h', toks := tk }) →
    (∀ ρ', r = some ρ' → ∀ h' tk, (∀ b o, b ∉ W → b ≠ env.locals → s.heap.get? b = some o → h'.get? b = some o) → SrcAt φ src I W (i + 1) h' → HR h₀ φ σ h' → FOK env tab ρ' φ h' → Y { s with heap := h', toks := tk }) →
    wpAny (model prog w) A (pyNext (.ref I)) (fun r s₁ => match r with
      | none => N s₁
      | some v => wpAny (model prog w) A (letOwnedTupleGo target (.ref I) v) (fun _ s₁' => wpAny (model prog w) A (assign target env v) (fun _ s₂ => Y s₂) E2 s₁') E1 s₁) E0 s

noncomputable def step1 (src : Src) (j : Nat) (i : Nat) (ρ : Loc) (σ : Hp) : Option (Option Loc) := match src with
  | .lst k => match nth σ k with
    | some ⟨false, its⟩ => match nth its i with
      | some v => some (some (put ρ j v))
      | .none => some .none
    | _ => .none
  | .rng a len => if decide (i < len) then some (some (put ρ j (.int (a + i)))) else some .none
  | .rev k len => if decide (i < len) then match nth σ k with
      | some ⟨false, its⟩ => match nth its (len - 1 - i) with
        | some v => some (some (put ρ j v))
        | .none => .none
      | _ => .none
    else some .none
  | _ => .none

theorem HR.offW {φ : List Addr} {σ : Hp} {h h' : Heap} {W : List Addr} {O : Addr → Prop} (H : HR h₀ φ σ h) (hW : ∀ b ∈ W, h₀.get? b = none ∧ b ∉ φ ∧ O b) (k : ∀ b o, b ∉ W → h.get? b = some o → h'.get? b = some o) : HR h₀ φ σ h' :=
  H.keepsOn (fun b o e => k b o (fun q => by rw [(hW b q).1] at e; cases e) (H.keep b o e)) fun a ha o e => k a o (fun q => (hW a q).2.1 ha) e
theorem FOK.offW {env : Env} {ρ : Loc} {φ : List Addr} {h h' : Heap} {W : List Addr} (F : FOK env tab ρ φ h) (hW : ∀ b ∈ W, h₀.get? b = none ∧ b ∉ φ ∧ b ∉ Mine.own env) (k : ∀ b o, b ∉ W → h.get? b = some o → h'.get? b = some o) : FOK env tab ρ φ h' :=
  F.keepsOn fun b hb o e => k b o (fun q => (hW b q).2.2 hb) e

theorem turn1 {env : Env} (he : EnvOK h₀ ns env) {x : Str} {p : Pos} {src : Src} (j : Nat) (hj : nth tab j = some x) (hk : ns.lookup x = some .local) (nd : tab.Nodup) :
    Turn prog w h₀ n tab env (.Name x p) src (step1 src j) := by
  intro A hA i ρ σ φ s I W H F S hW r hr N Y E0 E1 E2 hN hY
  have item : ∀ (v : V) (y : Value) (h₁ : Heap) (tk : Nat), VR φ v y → r = some (put ρ j v) → (∀ b o, b ∉ W → s.heap.get? b = some o → h₁.get? b = some o) → SrcAt φ src I W (i + 1) h₁ →
      wpAny (model prog w) A (letOwnedTupleGo (.Name x p) (.ref I) y) (fun _ s₁' => wpAny (model prog w) A (assign (.Name x p) env y) (fun _ s₂ => Y s₂) E2 s₁') E1 { s with heap := h₁, toks := tk } := by
    intro v y h₁ tk hv er k S'
    refine wpAny_of_eq (a := ()) rfl (wpAny_assign_Name ?_)
    refine store_var (s := { s with heap := h₁, toks := tk }) he (fun q => by rw [hk] at q; cases q) (F.offW hW k) hj (by rw [hk]; rfl) nd hv fun h₂ tk₂ k₂ F₂ => ?_
    have S2 : SrcAt φ src I W (i + 1) h₂ := S'.frame fun b hb o e => k₂ b o (.inl (hW b hb).2.2) e
    exact hY _ er h₂ tk₂ (fun b o hb ho e => k₂ b o (.inr ⟨hk, ho⟩) (k b o hb e)) S2 (HR.keepsOwn he (H.offW hW k) (F.offW hW k) fun b o hb e => k₂ b o (.inl hb) e) F₂
  unfold step1 at hr
  cases src with
  | lst kk =>
    simp only at hr
    obtain ⟨rfl, a, ea, hit⟩ := S
    split at hr
    case h_2 => cases hr
    rename_i its eo
    obtain ⟨xs, hxs, hl⟩ := H.list ea eo
    have hle := hxs.length
    split at hr
    · rename_i v ev
      cases hr
      rw [nth_eq] at ev
      obtain ⟨y, ey, hv⟩ := hxs.get ev
      refine wpAny_pyNext_list_item hit hl (x := y) (by rw [nth_toArray]; exact ey) fun h' hit' hs' => ?_
      exact item v y h' s.toks hv rfl (fun b o hb e => hs'.extBut b o (by simpa using hb) e) ⟨rfl, a, ea, hit'⟩
    · rename_i ev
      cases hr
      rw [nth_eq] at ev
      refine wpAny_pyNext_list_end hA.1 hit hl ?_ fun h' hs' => hN rfl h' s.toks fun b o hb e => hs' b o (by simpa using hb) e
      rw [nth_toArray]
      have := List.getElem?_eq_none_iff.mp ev
      exact List.getElem?_eq_none (by omega)
  | rng a len =>
    simp only at hr
    obtain ⟨rfl, hi, hit⟩ := S
    split at hr
    · rename_i hlt
      simp only [decide_eq_true_eq] at hlt
      cases hr
      refine wpAny_pyNext_range_item hit (by omega) fun h' hit' hs' => ?_
      refine item (.int (a + i)) _ h' _ (.int _ _) rfl (fun b o hb e => hs'.extBut b o (by simpa using hb) e) ⟨rfl, hlt, ?_⟩
      have e1 : a + (i : Int) + 1 = a + ((i + 1 : Nat) : Int) := by omega
      have e2 : (len : Int) - (i : Int) - 1 = (len : Int) - ((i + 1 : Nat) : Int) := by omega
      rw [e1, e2] at hit'
      exact hit'
    · rename_i hlt
      simp only [decide_eq_true_eq] at hlt
      cases hr
      exact wpAny_pyNext_range_end hA.1 hit (by omega) fun h' hs' => hN rfl h' s.toks fun b o hb e => hs' b o (by simpa using hb) e
  | enm kk => cases hr
  | rev kk len =>
    simp only at hr
    obtain ⟨rfl, hi, a, ea, hit⟩ := S
    split at hr
    · rename_i hlt
      simp only [decide_eq_true_eq] at hlt
      split at hr
      case h_2 => cases hr
      rename_i its eo
      obtain ⟨xs, hxs, hl⟩ := H.list ea eo
      split at hr
      case h_2 => cases hr
      rename_i v ev
      cases hr
      rw [nth_eq] at ev
      obtain ⟨y, ey, hv⟩ := hxs.get ev
      have e1 : (len : Int) - 1 - (i : Int) = ((len - 1 - i : Nat) : Int) := by omega
      rw [e1] at hit
      refine wpAny_pyNext_rev_item hit hl (x := y) (by rw [nth_toArray]; exact ey) fun h' hit' hs' => ?_
      refine item v y h' s.toks hv rfl (fun b o hb e => hs'.extBut b o (by simpa using hb) e) ⟨rfl, hlt, a, ea, ?_⟩
      have e2 : ((len - 1 - i : Nat) : Int) - 1 = (len : Int) - 1 - ((i + 1 : Nat) : Int) := by omega
      rw [e2] at hit'
      exact hit'
    · rename_i hlt
      simp only [decide_eq_true_eq] at hlt
      cases hr
      have e1 : (len : Int) - 1 - (i : Int) = -1 := by omega
      rw [e1] at hit
      exact wpAny_pyNext_rev_end hA.1 hit fun h' hs' => hN rfl h' s.toks fun b o hb e => hs' b o (by simpa using hb) e
  | tup kk => cases hr

noncomputable def step2 (src : Src) (j1 j2 : Nat) (i : Nat) (ρ : Loc) (σ : Hp) : Option (Option Loc) := match src with
  | .enm k => match nth σ k with
    | some ⟨false, its⟩ => match nth its i with
      | some v => some (some (put (put ρ j1 (.int i)) j2 v))
      | .none => some .none
    | _ => .none
  | .tup k => match nth σ k with
    | some ⟨true, its⟩ => match nth its i with
      | some v => match tupItems σ v with
        | some [a, b] => some (some (put (put ρ j1 a) j2 b))
        | _ => .none
      | .none => some .none
    | _ => .none
  | _ => .none

theorem turn2 {env : Env} (he : EnvOK h₀ ns env) {x1 x2 : Str} (hl : ∀ x ∈ [x1, x2], ns.lookup x = some .local) {p1 p2 tp : Pos} {tk0 : Nat} {src : Src} (j1 j2 : Nat) (hb : Bound tab ns [j1, j2] [x1, x2]) (nd : tab.Nodup) :
    Turn prog w h₀ n tab env (.Tuple [.Name x1 p1, .Name x2 p2] tk0 tp) src (step2 src j1 j2) := by
  intro A hA i ρ σ φ s I W H F S hW r hr N Y E0 E1 E2 hN hY
  have item : ∀ (a b : V) (ya yb : Value) (t : Addr) (h₁ : Heap) (tk : Nat), VR φ a ya → VR φ b yb → h₁.IsTuple t #[ya, yb] → r = some (put (put ρ j1 a) j2 b) → (∀ b o, b ∉ W → s.heap.get? b = some o → h₁.get? b = some o) → SrcAt φ src I W (i + 1) h₁ →
      wpAny (model prog w) A (assign (.Tuple [.Name x1 p1, .Name x2 p2] tk0 tp) env (.ref t)) (fun _ s₂ => Y s₂) E2 { s with heap := h₁, toks := tk } := by
    intro a b ya yb t h₁ tk ha hb' ht er k S'
    refine wpAny_assign_Tuple (s := { s with heap := h₁, toks := tk }) hA.1 ht rfl rfl fun h₂ hext => ?_
    have k2 : Keep h₁ h₂ := fun b o e => hext b o (Nat.ne_of_lt (Heap.lt_size e)) e
    have H1 := H.offW hW k
    have F1 := F.offW hW k
    refine stores_ok (s := { s with heap := h₂, toks := tk }) he nd (fun x hx q => by rw [hl x hx] at q; cases q) hb (Trees.assign [(x1, p1), (x2, p2)]) (vs := [a, b]) (.cons ha (.cons hb' .nil)) rfl (H1.keeps k2) (F1.keeps k2) fun h₃ tk₃ k₃ H₃ F₃ => ?_
    have S2 : SrcAt φ src I W (i + 1) h₃ := (S'.frame fun b _ o e => k2 b o e).frame fun b hb o e => k₃ b o (.inl (hW b hb).2.2) e
    exact hY _ er h₃ tk₃ (fun b o hb ho e => k₃ b o (.inr ⟨hl, ho⟩) (k2 b o (k b o hb e))) S2 H₃ F₃
  unfold step2 at hr
  cases src with
  | lst kk => cases hr
  | rng a len => cases hr
  | rev kk len => cases hr
  | enm kk =>
    simp only at hr
    obtain ⟨it, old, a, rfl, hne, ea, hen, hit⟩ := S
    split at hr
    case h_2 => cases hr
    rename_i its eo
    obtain ⟨xs, hxs, hl⟩ := H.list ea eo
    have hle := hxs.length
    split at hr
    · rename_i v ev
      cases hr
      rw [nth_eq] at ev
      obtain ⟨y, ey, hv⟩ := hxs.get ev
      refine wpAny_pyNext_enum_item hen hit hl (x := y) (by rw [nth_toArray]; exact ey) hne fun h' hen' hit' ht hsz hk => ?_
      refine wpAny_letOwnedTupleGo_enum hen' fun h'' hen'' hs'' => ?_
      have hlt : s.heap.objs.size ≠ I := fun q => by have := Heap.lt_size hen; rw [q] at this; exact Nat.lt_irrefl _ this
      refine item (.int i) v (.int i s.toks) y s.heap.objs.size h'' _ (.int _ _) hv ⟨_, hs''.extBut _ _ hlt ht, rfl, 0, rfl⟩ rfl (fun b o hb e => ?_) ⟨it, y, a, rfl, hne, ea, ?_, ?_⟩
      · simp only [List.mem_cons, List.not_mem_nil, or_false, not_or] at hb
        exact hs''.extBut b o hb.1 (hk b o hb.1 hb.2 e)
      · simpa using hen''
      · obtain ⟨o, g, r⟩ := hit'
        exact ⟨o, hs''.extBut _ _ (Ne.symm hne) g, r⟩
    · rename_i ev
      cases hr
      rw [nth_eq] at ev
      refine wpAny_pyNext_enum_end hA.1 hen hit hl ?_ fun h' hs' => hN rfl h' s.toks fun b o hb e => ?_
      · rw [nth_toArray]
        have := List.getElem?_eq_none_iff.mp ev
        exact List.getElem?_eq_none (by omega)
      · simp only [List.mem_cons, List.not_mem_nil, or_false, not_or] at hb
        exact hs' b o hb.2 e
  | tup kk =>
    simp only at hr
    obtain ⟨rfl, a, ea, hit⟩ := S
    split at hr
    case h_2 => cases hr
    rename_i its eo
    obtain ⟨xs, hxs, hl⟩ := H.tuple ea eo
    have hle := hxs.length
    split at hr
    · rename_i v ev
      split at hr
      case h_2 => cases hr
      rename_i va vb et
      cases hr
      rw [nth_eq] at ev
      obtain ⟨y, ey, hv⟩ := hxs.get ev
      obtain ⟨t, ys, rfl, hys, ht⟩ := tupleOf H hv et
      refine wpAny_pyNext_tuple_item hit hl (x := .ref t) (by rw [nth_toArray]; exact ey) fun h' hit' hs' => ?_
      refine letGo_tupleiter hit' ?_
      have htI : t ≠ I := by
        intro q
        cases hv with
        | ref e => exact (hW I (by simp)).2.1 (q ▸ List.mem_of_getElem? e)
      cases hys with
      | cons h1 h2 => cases h2 with
        | cons h2 h3 => cases h3 with
          | nil =>
            refine item va vb _ _ t h' s.toks h1 h2 ?_ rfl (fun b o hb e => hs'.extBut b o (by simpa using hb) e) ⟨rfl, a, ea, hit'⟩
            obtain ⟨o, g, r⟩ := ht
            exact ⟨o, hs'.extBut _ _ htI g, r⟩
    · rename_i ev
      cases hr
      rw [nth_eq] at ev
      refine wpAny_pyNext_tuple_end hA.1 hit hl ?_ fun h' hs' => hN rfl h' s.toks fun b o hb e => hs' b o (by simpa using hb) e
      rw [nth_toArray]
      have := List.getElem?_eq_none_iff.mp ev
      exact List.getElem?_eq_none (by omega)

/-- what a loop goes over -/
structure HI (prog : Program) (w : World) (h₀ : Heap) (n : Nat) (ns : List (Str × NameKind)) (tab : List Str) (e : Expr) (g : Nat → Loc → Hp → Option (Src × Hp)) : Prop where
  run : ∀ env, EnvOK h₀ ns env → ∀ A, Room n A → ∀ n0 ρ σ φ s, HR h₀ φ σ s.heap → FOK env tab ρ φ s.heap → ∀ src σ', g n0 ρ σ = some (src, σ') → ∀ (Q E : Value → Shared → Prop),
    (∀ φ' I W h' tk, Ext n0 φ φ' s.heap h' → HR h₀ φ' σ' h' → SrcAt φ' src I W 0 h' → (∀ b ∈ W, s.heap.get? b = none ∧ b ∉ φ') → Q (.ref I) { s with heap := h', toks := tk }) →
    wpAny (model prog w) A (eval e env) (fun x s₁ => wpAny (model prog w) A (pyIter x) Q E s₁) E s

theorem Ext.back {n0 : Nat} {φ φ' : List Addr} {σ : Hp} {h h' : Heap} (E : Ext n0 φ φ' h h') (H : HR h₀ φ' σ h') {b : Addr} (e : h'.get? b = none) : h.get? b = none ∧ b ∉ φ' := by
  have hb : b ∉ φ' := fun q => by obtain ⟨o, g⟩ := H.alloc q; rw [e] at g; cases g
  refine ⟨?_, hb⟩
  cases g : h.get? b with
  | none => rfl
  | some o =>
    obtain ⟨⟨ψ, rfl, _⟩, k⟩ := E
    have := k b o (fun q => hb (List.mem_append_left _ (List.mem_of_mem_drop q))) g
    rw [e] at this; cases this

noncomputable def gList (f : Nat → Loc → Hp → Option (V × Hp)) (n0 : Nat) (ρ : Loc) (σ : Hp) : Option (Src × Hp) := match f n0 ρ σ with
  | some (.ref k, σ') => match nth σ' k with
    | some ⟨false, _⟩ => some (.lst k, σ')
    | some ⟨true, _⟩ => some (.tup k, σ')
    | .none => .none
  | _ => .none
theorem HI.list {e : Expr} {f} (h : HE prog w h₀ n ns tab e f) : HI prog w h₀ n ns tab e (gList f) := by
  constructor
  intro env he A hA n0 ρ σ φ s H F src σ' hg Q E hQ
  unfold gList at hg
  split at hg
  case h_2 => cases hg
  rename_i k σ₁ e1
  split at hg
  · rename_i its eo
    cases hg
    refine h.1 env he A hA n0 ρ σ φ s H F _ _ e1 _ _ fun φ' x h' tk k' H' hv => ?_
    cases hv with
    | @ref _ a ea =>
    obtain ⟨xs, hxs, hl⟩ := H'.list ea eo
    refine wpAny_pyIter_list hl (hQ φ' _ [h'.objs.size] _ _ (k'.trans H' (.of_keep (Keep.push _ _))) (H'.keeps (Keep.push _ _)) ⟨rfl, a, ea, _, Heap.get?_push_size _ rfl, rfl, rfl⟩ fun b hb => ?_)
    simp at hb; subst hb
    exact k'.back H' (Heap.none_size _)
  · rename_i its eo
    cases hg
    refine h.1 env he A hA n0 ρ σ φ s H F _ _ e1 _ _ fun φ' x h' tk k' H' hv => ?_
    cases hv with
    | @ref _ a ea =>
    obtain ⟨xs, hxs, hl⟩ := H'.tuple ea eo
    refine wpAny_pyIter_tuple hl (hQ φ' _ [h'.objs.size] _ _ (k'.trans H' (.of_keep (Keep.push _ _))) (H'.keeps (Keep.push _ _)) ⟨rfl, a, ea, _, Heap.get?_push_size _ rfl, rfl, rfl⟩ fun b hb => ?_)
    simp at hb; subst hb
    exact k'.back H' (Heap.none_size _)
  · cases hg

noncomputable def small (a : Int) : Bool := decide (-1000000 ≤ a) && decide (a ≤ 1000000)
theorem iter_range {A : Around} {E : Value → Shared → Prop} {s s₁ : Shared} {φ : List Addr} {σ : Hp} {a b : Int} {t u v : Tok} {h' : Heap} {tk : Nat} (H : HR h₀ φ σ s.heap) (hs : s₁ = { s with heap := h'.push { cls := .type "range", data := .fields #[.int a t, .int b u, .int 1 v] }, toks := tk }) (k : Keep s.heap h')
    (ha : small a = true) (hb : small b = true) {n0 : Nat} {Q : Value → Shared → Prop}
    (hQ : ∀ φ' I W h'' tk', Ext n0 φ φ' s.heap h'' → HR h₀ φ' σ h'' → SrcAt φ' (.rng a (b - a).toNat) I W 0 h'' → (∀ b ∈ W, s.heap.get? b = none ∧ b ∉ φ') → Q (.ref I) { s with heap := h'', toks := tk' }) :
    wpAny (model prog w) A (pyIter (.ref h'.objs.size)) Q E s₁ := by
  subst hs
  simp only [small, Bool.and_eq_true, decide_eq_true_eq] at ha hb
  refine wpAny_pyIter_range (IsRange.new h' a b 1 t u v) (small_one (by omega) (by omega) (by omega) (by omega)) ?_
  have k2 := (k.trans (Keep.push h' { cls := .type "range", data := .fields #[.int a t, .int b u, .int 1 v] })).trans (Keep.push (h'.push { cls := .type "range", data := .fields #[.int a t, .int b u, .int 1 v] }) { cls := Value.type "range_iterator", data := Data.fields #[rawInt a, rawInt (Builtin.Range.rangeSize a b 1), rawInt 1] })
  have hsz : (h'.push { cls := .type "range", data := .fields #[.int a t, .int b u, .int 1 v] }).objs.size = h'.objs.size + 1 := Heap.size_push ..
  refine hQ φ _ [_] _ _ (.of_keep k2) (H.keeps k2) ⟨rfl, Nat.zero_le _, ?_⟩ fun c hc => ?_
  · show IsRangeIter _ _ _ _ _
    have := Heap.get?_push_size (h'.push { cls := .type "range", data := .fields #[.int a t, .int b u, .int 1 v] }) (o := { cls := Value.type "range_iterator", data := Data.fields #[rawInt a, rawInt (Builtin.Range.rangeSize a b 1), rawInt 1] }) rfl
    rw [rangeSize_nat] at this ⊢
    rw [show a + ((0 : Nat) : Int) = a by omega, show (((b - a).toNat : Nat) : Int) - ((0 : Nat) : Int) = (((b - a).toNat : Nat) : Int) by omega]
    exact this
  · rw [List.mem_singleton.mp hc, hsz]
    refine (Ext.of_keep (n0 := n0) (φ := φ) k).back (H.keeps k) ?_
    cases e : h'.get? (h'.objs.size + 1) with
    | none => rfl
    | some o => exact absurd (Heap.lt_size e) (Nat.not_lt.mpr (Nat.le_succ _))

noncomputable def gRange1 (f : Loc → Hp → Option V) (_ : Nat) (ρ : Loc) (σ : Hp) : Option (Src × Hp) := match f ρ σ with
  | some (.int b) => if small b then some (.rng 0 (b - 0).toNat, σ) else .none
  | _ => .none
theorem HI.range1 (G : GC mg mb h₀) {x : Str} {np pos : Pos} {e : Expr} {f} (hk : ns.lookup x = some .globalImplicit) (hm : mg x = Option.none) (hv : mb x = some (.type "range")) (hd : (x == ("__debug__" : Str)) = false) (hst : isStar e = false)
    (h : HP prog w h₀ n ns tab e f) : HI prog w h₀ n ns tab (.Call (.Name x np) [e] [] pos) (gRange1 f) := by
  constructor
  intro env he A hA n0 ρ σ φ s H F src σ' hg Q E hQ
  unfold gRange1 at hg
  split at hg
  case h_2 => cases hg
  rename_i b eb
  split at hg
  case isFalse => cases hg
  rename_i hsm
  cases hg
  refine wpAny_Call_NameR (name_builtin G he H hk hm hv hd ?_)
  refine callWith_type1 (args_cons (h.1 env he A hA ρ σ φ s H F _ eb _ _ fun y h' tk k hy => args_nil ?_) (star_each hst)) (star_each hst) rfl
  cases hy
  refine call_range_1 ?_
  exact iter_range H rfl k (by decide) hsm hQ
noncomputable def gRange2 (f g : Loc → Hp → Option V) (_ : Nat) (ρ : Loc) (σ : Hp) : Option (Src × Hp) := match f ρ σ with
  | some (.int a) => match g ρ σ with
    | some (.int b) => if small a && small b then some (.rng a (b - a).toNat, σ) else .none
    | _ => .none
  | _ => .none
theorem HI.range2 (G : GC mg mb h₀) {x : Str} {np pos : Pos} {e e' : Expr} {f g} (hk : ns.lookup x = some .globalImplicit) (hm : mg x = Option.none) (hv : mb x = some (.type "range")) (hd : (x == ("__debug__" : Str)) = false) (hst : isStar e = false) (hst' : isStar e' = false)
    (h : HP prog w h₀ n ns tab e f) (h' : HP prog w h₀ n ns tab e' g) : HI prog w h₀ n ns tab (.Call (.Name x np) [e, e'] [] pos) (gRange2 f g) := by
  constructor
  intro env he A hA n0 ρ σ φ s H F src σ' hg Q E hQ
  unfold gRange2 at hg
  split at hg
  case h_2 => cases hg
  rename_i a ea
  split at hg
  case h_2 => cases hg
  rename_i b eb
  split at hg
  case isFalse => cases hg
  rename_i hsm
  simp only [Bool.and_eq_true] at hsm
  cases hg
  refine wpAny_Call_NameR (name_builtin G he H hk hm hv hd ?_)
  refine callWith_type1 (args_cons (h.1 env he A hA ρ σ φ s H F _ ea _ _ fun y h₁ tk k hy => args_cons (h'.1 env he A hA ρ σ φ _ (H.keeps k) (F.keeps k) _ eb _ _ fun z h₂ tk' k' hz => args_nil ?_) (star_each hst')) (star_each hst)) (star_each hst)
    (noStars (by simpa using hst'))
  cases hy
  cases hz
  refine call_range_2 ?_
  exact iter_range H rfl (k.trans k') hsm.1 hsm.2 hQ

noncomputable def gEnum (f : Loc → Hp → Option V) (_ : Nat) (ρ : Loc) (σ : Hp) : Option (Src × Hp) := match f ρ σ with
  | some (.ref k) => match nth σ k with
    | some ⟨false, _⟩ => some (.enm k, σ)
    | _ => .none
  | _ => .none
theorem HI.enum (G : GC mg mb h₀) {x : Str} {np pos : Pos} {e : Expr} {f} (hk : ns.lookup x = some .globalImplicit) (hm : mg x = Option.none) (hv : mb x = some (.type "enumerate")) (hd : (x == ("__debug__" : Str)) = false) (hst : isStar e = false)
    (h : HP prog w h₀ n ns tab e f) : HI prog w h₀ n ns tab (.Call (.Name x np) [e] [] pos) (gEnum f) := by
  constructor
  intro env he A hA n0 ρ σ φ s H F src σ' hg Q E hQ
  unfold gEnum at hg
  split at hg
  case h_2 => cases hg
  rename_i k eb
  split at hg
  case h_2 => cases hg
  rename_i its eo
  cases hg
  refine wpAny_Call_NameR (name_builtin G he H hk hm hv hd ?_)
  refine callWith_type1 (args_cons (h.1 env he A hA ρ σ φ s H F _ eb _ _ fun y h' tk k' hy => args_nil ?_) (star_each hst)) (star_each hst) rfl
  cases hy with
  | @ref _ a ea =>
  obtain ⟨xs, hxs, hl⟩ := (H.keeps k').list ea eo
  refine call_enumerate_list hl fun h'' hen hit hsz hk' => ?_
  refine wpAny_pyIter_enum hen ?_
  have kk : Keep s.heap h'' := k'.trans hk'
  refine hQ φ _ [h'.objs.size + 1, h'.objs.size] _ _ (.of_keep kk) (H.keeps kk) ⟨_, _, a, rfl, Nat.succ_ne_self _, ea, hen, hit⟩ fun b hb => ?_
  refine (Ext.of_keep (n0 := n0) (φ := φ) k').back (H.keeps k') ?_
  cases e : h'.get? b with
  | none => rfl
  | some o =>
    have hlt := Heap.lt_size e
    rcases List.mem_cons.mp hb with rfl | hb
    · exact absurd hlt (Nat.not_lt.mpr (Nat.le_succ _))
    · rw [List.mem_singleton.mp hb] at hlt
      exact absurd hlt (Nat.lt_irrefl _)

noncomputable def gRev (f : Loc → Hp → Option V) (_ : Nat) (ρ : Loc) (σ : Hp) : Option (Src × Hp) := match f ρ σ with
  | some (.ref k) => match nth σ k with
    | some ⟨false, its⟩ => some (.rev k its.length, σ)
    | _ => .none
  | _ => .none
theorem HI.rev (G : GC mg mb h₀) {x : Str} {np pos : Pos} {e : Expr} {f} (hk : ns.lookup x = some .globalImplicit) (hm : mg x = Option.none) (hv : mb x = some (.type "reversed")) (hd : (x == ("__debug__" : Str)) = false) (hst : isStar e = false)
    (h : HP prog w h₀ n ns tab e f) : HI prog w h₀ n ns tab (.Call (.Name x np) [e] [] pos) (gRev f) := by
  constructor
  intro env he A hA n0 ρ σ φ s H F src σ' hg Q E hQ
  unfold gRev at hg
  split at hg
  case h_2 => cases hg
  rename_i k eb
  split at hg
  case h_2 => cases hg
  rename_i its eo
  cases hg
  refine wpAny_Call_NameR (name_builtin G he H hk hm hv hd ?_)
  refine callWith_type1 (args_cons (h.1 env he A hA ρ σ φ s H F _ eb _ _ fun y h' tk k' hy => args_nil ?_) (star_each hst)) (star_each hst) rfl
  cases hy with
  | @ref _ a ea =>
  obtain ⟨xs, hxs, hl⟩ := (H.keeps k').list ea eo
  have hle := hxs.length
  refine call_reversed_list hl ?_
  have hit : (h'.push (revObj a ((xs.toArray.size : Int) - 1))).IsRevIter h'.objs.size a (((its.length : Nat) : Int) - 1 - (0 : Nat)) := ⟨_, Heap.get?_push_size _ rfl, rfl, by simp [hle]; rfl⟩
  refine wpAny_pyIter_revIter hit ?_
  have kk : Keep s.heap _ := k'.trans (Keep.push h' (revObj a ((xs.toArray.size : Int) - 1)))
  refine hQ φ _ [h'.objs.size] _ _ (.of_keep kk) (H.keeps kk) ⟨rfl, Nat.zero_le _, a, ea, hit⟩ fun b hb => ?_
  simp at hb
  subst hb
  exact (Ext.of_keep (n0 := n0) (φ := φ) k').back (H.keeps k') (Heap.none_size _)

noncomputable def forGo (step : Nat → Loc → Hp → Option (Option Loc)) (f : Nat → Loc → Hp → Option (Fl × Loc × Hp)) (n0 : Nat) : Nat → Nat → Loc → Hp → Option (Fl × Loc × Hp)
  | 0, _, _, _ => .none
  | k + 1, i, ρ, σ => match step i ρ σ with
    | some (some ρ') => match f n0 ρ' σ with
      | some (.next, ρ'', σ'') => forGo step f n0 k (i + 1) ρ'' σ''
      | r => r
    | some .none => some (.next, ρ, σ)
    | .none => .none
noncomputable def sFor (mk : Nat → Loc → Hp → Option (Src × Hp)) (step : Src → Nat → Loc → Hp → Option (Option Loc)) (f : Nat → Loc → Hp → Option (Fl × Loc × Hp)) (n0 : Nat) (ρ : Loc) (σ : Hp) : Option (Fl × Loc × Hp) := match mk n0 ρ σ with
  | some (src, σ') => forGo (step src) f n0 1000 0 ρ σ'
  | .none => .none
theorem HS.for {target iter : Expr} {body : List Stmt} {pos : Pos} {mk step f} (hI : HI prog w h₀ n ns tab iter mk) (hT : ∀ env, EnvOK h₀ ns env → ∀ src, Turn prog w h₀ n tab env target src (step src)) (hf : HSs prog w h₀ n ns tab body f)
    (hfold : ∀ env x, foldedSetIterable iter env x = pure x) : HS prog w h₀ n ns tab (.For target iter body [] pos) (sFor mk step f) := by
  constructor
  intro env he ap A hA n0 ρ σ φ s H F fl ρ' σ' e Q E hQ
  unfold sFor at e
  split at e
  case h_2 => cases e
  rename_i src σ₀ e0
  refine wpAny_For (hI.1 env he A hA n0 ρ σ φ s H F _ _ e0 _ _ fun φ₀ I W h₁ tk₁ k₁ H₁ S₁ hW => ?_) (hfold env)
  have F₁ := F.ext k₁
  have hW₀ : ∀ b ∈ W, h₀.get? b = none ∧ b ∉ own env := fun b hb => by
    obtain ⟨e1, _⟩ := hW b hb
    refine ⟨?_, fun q => ?_⟩
    · cases g : h₀.get? b with
      | none => rfl
      | some o => have := H.keep b o g; rw [e1] at this; cases this
    · obtain ⟨_, o, g⟩ := F.own b q
      rw [e1] at g; cases g
  refine codeAny_forLoop_any (fun k s' => ∃ i ρ₁ σ₁ φ₁ h₁ tk₁, s' = { s with heap := h₁, toks := tk₁ } ∧ ExtS env n0 φ φ₁ s.heap h₁ ∧ HR h₀ φ₁ σ₁ h₁ ∧ FOK env tab ρ₁ φ₁ h₁ ∧ SrcAt φ₁ src I W i h₁ ∧ (∀ b ∈ W, b ∉ φ₁) ∧ forGo (step src) f n0 k i ρ₁ σ₁ = some (fl, ρ', σ')) ?_ 1000
    ⟨0, ρ, σ₀, φ₀, h₁, tk₁, rfl, k₁.toS, H₁, F₁, S₁, fun b hb => (hW b hb).2, e⟩
  rintro k s' ⟨i, ρ₂, σ₂, φ₂, h₂, tk₂, rfl, k₂, H₂, F₂, S₂, hφ₂, e₂⟩
  cases k with
  | zero => cases e₂
  | succ k =>
    unfold forGo at e₂
    have hWW : ∀ b ∈ W, h₀.get? b = none ∧ b ∉ φ₂ ∧ b ∉ own env := fun b hb => ⟨(hW₀ b hb).1, hφ₂ b hb, (hW₀ b hb).2⟩
    have kW : ∀ {h₃}, (∀ b o, b ∉ W → b ≠ env.locals → h₂.get? b = some o → h₃.get? b = some o) → ExtS env n0 φ φ₂ s.heap h₃ := fun {h₃} k₃ => by
      refine ⟨k₂.pre, fun b o hb ho e => k₃ b o (fun q => ?_) (fun q => ho (q ▸ .head _)) (k₂.keep b o hb ho e)⟩
      rw [(hW b q).1] at e; cases e
    split at e₂
    · rename_i ρ₃ e₃
      refine hT env he src A hA i _ _ φ₂ _ I W H₂ F₂ S₂ hWW _ e₃ _ _ _ _ _ (fun q => by cases q) fun ρ₃' q h₃ tk₃ k₃ S₃ H₃ F₃ => ?_
      cases q
      have e23 := kW k₃
      split at e₂
      · rename_i ρ₄ σ₄ e₄
        refine hf.1 env he ap A hA n0 _ _ φ₂ _ H₃ F₃ _ _ _ e₄ _ _ fun φ₄ y h₄ tk₄ k₄ H₄ F₄ hy => ?_
        cases hy
        obtain ⟨o3, hal⟩ := Classical.skolem.mp (fun (b : {b // b ∈ W}) => S₃.alloc b.1 b.2)
        have hW4 : ∀ b ∈ W, b ∉ φ₄ := fun b hb q => by
          obtain ⟨⟨ψ, rfl, f4⟩, _⟩ := k₄
          rcases List.mem_append.mp q with q | q
          · exact hφ₂ b hb q
          · have := f4 b q
            rw [hal ⟨b, hb⟩] at this; cases this
        refine ⟨k, Nat.lt_succ_self k, i + 1, ρ₄, σ₄, φ₄, h₄, tk₄, rfl, e23.trans H₃ F₃ k₄, H₄, F₄, ?_, hW4, e₂⟩
        have S4 := S₃.frame (h' := h₄) fun b hb o e => k₄.keep b o (fun q => hφ₂ b hb (List.mem_of_mem_drop q)) (hW₀ b hb).2 e
        obtain ⟨⟨ψ, rfl, _⟩, _⟩ := k₄
        exact S4.mono
      · rename_i q
        refine hf.1 env he ap A hA n0 _ _ φ₂ _ H₃ F₃ _ _ _ e₂ _ _ fun φ₄ y h₄ tk₄ k₄ H₄ F₄ hy => ?_
        cases hy
        · exact absurd e₂ (q _ _ ·)
        · rename_i v x hv
          exact hQ _ _ _ _ (e23.trans H₃ F₃ k₄) H₄ F₄ (.ret hv)
    · rename_i e₃
      cases e₂
      refine hT env he src A hA i _ _ φ₂ _ I W H₂ F₂ S₂ hWW _ e₃ _ _ _ _ _ (fun _ h₃ tk₃ k₃ => ?_) fun ρ₃' q => by cases q
      exact wpAny_execs_nil (hQ _ _ _ _ (kW fun b o hb _ e => k₃ b o hb e) (H₂.offW hWW k₃) (F₂.offW hWW k₃) .next)
    · cases e₂
end
end Mine
namespace Mine

section
variable {prog : Program} {w : World} {A : Around} {R : Result → Shared → Prop} {s : Shared}
theorem compLoop_gen {elt target iter : Expr} {ifs : List Expr} {scope : Scope} {pos : Pos} {it acc : Value} {env : Env} (I : Nat → Shared → Prop)
    (turn : ∀ n s, I n s → wpAny (model prog w) A (pyNext it) (fun r s₁ => match r with
      | none => R (.ok .next) s₁
      | some v => wpAny (model prog w) A (letOwnedTupleGo target it v) (fun _ s₁' => wpAny (model prog w) A (assign target env v) (fun _ s₂ =>
          wpAny (model prog w) A (forIn ifs true fun c r => if r = true then do let ok ← PySem.isTrue c env (eval c env); pure (ForInStep.yield ok) else pure (ForInStep.yield r)) (fun ok s₃ =>
            if ok = true then wpAny (model prog w) A (eval elt env) (fun x s₄ =>
              wpAny (model prog w) A (call (.builtin "list.append") [acc, x]) (fun _ s₅ => ∃ m, m < n ∧ I m s₅) (notedBy (model prog w) A env fun e s' => R (.error e) s') s₄) (notedBy (model prog w) A env fun e s' => R (.error e) s') s₃
            else ∃ m, m < n ∧ I m s₃) (notedBy (model prog w) A env fun e s' => R (.error e) s') s₂) (notedBy (model prog w) A env fun e s' => R (.error e) s') s₁') (notedBy (model prog w) A env fun e s' => R (.error e) s') s₁) (notedBy (model prog w) A env fun e s' => R (.error e) s') s)
    (n : Nat) (h : I n s) :
    codeAny (model prog w) A (.compLoop (.ListComp elt [⟨target, iter, ifs, 0⟩] scope pos) 0 it acc env) R s := by
  refine codeAny_loop rfl I (fun n s hI => ?_) n h
  show wpAny _ A ((compTurn (.ListComp elt [⟨target, iter, ifs, 0⟩] scope pos) 0 it acc env).onRaise (fun x => do noteFrame x env; theTreesLotGoes x)) _ _ s
  refine wpAny_noted ?_
  rw [compTurn_list]
  refine wpAny_bind (wpAny_standAt (wpAny_bind (wpAny_mono (turn n s hI) (fun r s₁ h₁ => ?_) fun _ _ h' => h')))
  cases r with
  | none => exact wpAny_pure h₁
  | some v =>
    refine wpAny_bind (wpAny_mono h₁ (fun _ s₁' h₁' => ?_) fun _ _ h' => h')
    refine wpAny_bind (wpAny_mono h₁' (fun _ s₂ h₂ => wpAny_bind (wpAny_mono h₂ (fun ok s₃ h₃ => ?_) fun _ _ h' => h')) fun _ _ h' => h')
    cases ok with
    | false => exact wpAny_pure ⟨rfl, h₃⟩
    | true =>
      exact wpAny_bind (wpAny_bind (wpAny_mono h₃ (fun x s₄ h₄ => wpAny_bind (wpAny_mono h₄ (fun _ s₅ h₅ => wpAny_pure (wpAny_pure ⟨rfl, h₅⟩)) fun _ _ h' => h')) fun _ _ h' => h'))
end

noncomputable def freeOf (c : Str → Addr) : List (Str × NameKind) → List (Str × Addr) → List (Str × Addr)
  | [], acc => acc
  | (x, k) :: r, acc => if k == .free then freeOf c r ((x, c x) :: acc) else freeOf c r acc
theorem closure_eq {scope : Scope} {env : Env} (c : Str → Addr) (h : ∀ x ∈ scope.names, x.2 = .free → env.cells.lookup x.1 = some (c x.1)) : closureFor scope env = pure (freeOf c scope.names []) := by
  unfold closureFor
  have go : ∀ (l : List (Str × NameKind)) (acc : List (Str × Addr)), (∀ x ∈ l, x.2 = .free → env.cells.lookup x.1 = some (c x.1)) →
      (forIn l acc fun x r => (match x with
        | (name, kind) => if (kind == NameKind.free) = true then do
            let a ← cellOf env name
            pure (ForInStep.yield ((name, a) :: r))
          else pure (ForInStep.yield r) : Sem (ForInStep (List (Str × Addr))))) = pure (freeOf c l acc) := by
    intro l
    induction l with
    | nil => intro acc _; rfl
    | cons x r ih =>
      intro acc hx
      obtain ⟨nm, k⟩ := x
      rw [List.forIn_cons]
      unfold freeOf
      by_cases hk : (k == NameKind.free) = true
      · have e := hx (nm, k) (.head _) (by simpa using hk)
        rw [if_pos hk]
        simp only [hk, if_true, cellOf]
        rw [e]
        simp only [pure_bind]
        exact ih _ fun y hy => hx y (.tail _ hy)
      · rw [if_neg hk]
        simp only [hk]
        exact ih _ fun y hy => hx y (.tail _ hy)
  have := go scope.names [] h
  first
    | exact this
    | (rw [bind_pure] ; exact this)
    | (simp only [bind_pure]; exact this)
    | (rw [this]; rfl)

noncomputable def relab (ns names : List (Str × NameKind)) : List (Str × NameKind) := names.map fun (n, k) => if (k == .free && ns.lookup n == some .cell) then (n, .cell) else (n, k)

theorem freeOf_mem {c : Str → Addr} : ∀ {l : List (Str × NameKind)} {acc : List (Str × Addr)} {p : Str × Addr}, p ∈ freeOf c l acc → p ∈ acc ∨ (p.2 = c p.1 ∧ (p.1, NameKind.free) ∈ l)
  | [], acc, p, h => .inl h
  | (x, k) :: r, acc, p, h => by
    unfold freeOf at h
    split at h
    · rename_i hk
      have hk : k = .free := by simpa using hk
      subst hk
      rcases freeOf_mem h with h | ⟨h1, h2⟩
      · rcases List.mem_cons.mp h with rfl | h
        · exact .inr ⟨rfl, .head _⟩
        · exact .inl h
      · exact .inr ⟨h1, .tail _ h2⟩
    · rcases freeOf_mem h with h | ⟨h1, h2⟩
      · exact .inl h
      · exact .inr ⟨h1, .tail _ h2⟩
theorem freeOf_acc {c : Str → Addr} : ∀ {l : List (Str × NameKind)} {acc : List (Str × Addr)} {p : Str × Addr}, p ∈ acc → p ∈ freeOf c l acc
  | [], acc, p, h => h
  | (x, k) :: r, acc, p, h => by
    unfold freeOf
    split
    · exact freeOf_acc (.tail _ h)
    · exact freeOf_acc h
theorem freeOf_in {c : Str → Addr} : ∀ {l : List (Str × NameKind)} {acc : List (Str × Addr)} {x : Str}, (x, NameKind.free) ∈ l → (x, c x) ∈ freeOf c l acc
  | (y, k) :: r, acc, x, h => by
    unfold freeOf
    rcases List.mem_cons.mp h with e | h
    · cases e
      rw [if_pos (by decide)]
      exact freeOf_acc (.head _)
    · split
      · exact freeOf_in h
      · exact freeOf_in h
theorem lookup_fun {c : Str → Addr} : ∀ {l : List (Str × Addr)} {x : Str}, (∀ p ∈ l, p.2 = c p.1) → (x, c x) ∈ l → l.lookup x = some (c x)
  | (y, d) :: r, x, hl, h => by
    rw [List.lookup_cons]
    by_cases e : x = y
    · subst e
      have := hl _ (.head _)
      simp at this
      simp [this]
    · have : (x == y) = false := by simpa using e
      rw [this]
      rcases List.mem_cons.mp h with q | h
      · cases q; exact absurd rfl e
      · exact lookup_fun (fun p hp => hl p (.tail _ hp)) h

theorem HR.add2 {h₀ : Heap} {φ : List Addr} {σ : Hp} {h : Heap} {a : Addr} {o : O} (H : HR h₀ φ σ h) (hn : a ∉ φ) (h0 : h₀.get? a = none) (ho : ObjIs φ o h a) : HR h₀ (φ ++ [a]) (σ ++ [o]) h := by
  refine ⟨H.keep, by simp [H.len], ?_, ?_, ?_⟩
  · rw [List.nodup_append]
    refine ⟨H.nodup, by simp, fun b hb c hc => ?_⟩
    simp only [List.mem_singleton] at hc
    subst hc; intro e; subst e; exact hn hb
  · intro b hb
    rcases List.mem_append.mp hb with hb | hb
    · exact H.new b hb
    · simp only [List.mem_singleton] at hb
      subst hb; exact h0
  · intro i b ob e1 e2
    by_cases hi : i < φ.length
    · rw [List.getElem?_append_left hi] at e1
      rw [List.getElem?_append_left (H.len ▸ hi)] at e2
      exact (H.obj i b ob e1 e2).mono
    · have hi' : i = φ.length := by
        have := (List.getElem?_eq_some_iff.mp e1).1
        simp at this; omega
      subst hi'
      rw [List.getElem?_append_right (Nat.le_refl _)] at e1
      rw [H.len, List.getElem?_append_right (Nat.le_refl _)] at e2
      simp at e1 e2
      subst e1 e2
      exact ho.mono

section
variable {prog : Program} {w : World} {h₀ : Heap} {n : Nat} {ns : List (Str × NameKind)} {tab : List Str} {mg mb : Str → Option Value}

structure HTL (prog : Program) (w : World) (h₀ : Heap) (n : Nat) (ns : List (Str × NameKind)) (tab : List Str) (ifs : List Expr) (t : Loc → Hp → Option Bool) : Prop where
  run : ∀ env, EnvOK h₀ ns env → ∀ A, Room n A → ∀ ρ σ φ s, HR h₀ φ σ s.heap → FOK env tab ρ φ s.heap → ∀ b, t ρ σ = some b → ∀ (Q : Bool → Shared → Prop) (E : Value → Shared → Prop),
    (∀ h' tk, Keep s.heap h' → Q b { s with heap := h', toks := tk }) →
    wpAny (model prog w) A (forIn ifs true fun c r => if r = true then do let ok ← PySem.isTrue c env (eval c env); pure (ForInStep.yield ok) else pure (ForInStep.yield r)) Q E s
noncomputable def noTest (_ : Loc) (_ : Hp) : Option Bool := some true
theorem HTL.nil : HTL prog w h₀ n ns tab [] noTest := by
  constructor
  intro env he A hA ρ σ φ s H F b e Q E hQ
  cases e
  exact wpAny_tests_nil (hQ s.heap s.toks (Keep.refl _))
theorem HTL.one {c : Expr} {t} (h : HT prog w h₀ n ns tab c t) : HTL prog w h₀ n ns tab [c] t := by
  constructor
  intro env he A hA ρ σ φ s H F b e Q E hQ
  exact wpAny_tests_one (h.1 env he A hA ρ σ φ s H F b e _ _ hQ)

noncomputable def compGo (step : Nat → Loc → Hp → Option (Option Loc)) (t : Loc → Hp → Option Bool) (f : Loc → Hp → Option V) (σ : Hp) : Nat → Nat → Loc → Option (List V)
  | 0, _, _ => .none
  | k + 1, i, ρ => match step i ρ σ with
    | some (some ρ') => match t ρ' σ with
      | some true => match f ρ' σ with
        | some v => match compGo step t f σ k (i + 1) ρ' with
          | some l => some (v :: l)
          | .none => .none
        | .none => .none
      | some false => compGo step t f σ k (i + 1) ρ'
      | .none => .none
    | some .none => some []
    | .none => .none
noncomputable def compLoc (ntg : Nat) (fi : List Nat) (ρ : Loc) : Loc := List.replicate ntg .none ++ fi.map (look ρ)
noncomputable def compE (mk : Nat → Loc → Hp → Option (Src × Hp)) (step : Src → Nat → Loc → Hp → Option (Option Loc)) (t : Loc → Hp → Option Bool) (f : Loc → Hp → Option V) (ntg : Nat) (fi : List Nat) (n0 : Nat) (ρ : Loc) (σ : Hp) : Option (V × Hp) :=
  match mk n0 ρ σ with
  | some (src, σ') => match compGo (step src) t f σ' 1000 0 (compLoc ntg fi ρ) with
    | some l => some (.ref σ'.length, σ' ++ [⟨false, l⟩])
    | .none => .none
  | .none => .none

inductive Caught (tab : List Str) (ns ns' : List (Str × NameKind)) : List Nat → List Str → Prop
  | nil : Caught tab ns ns' [] []
  | cons {i x is xs} : nth tab i = some x → ns.lookup x = some .cell → ns'.lookup x = some .cell → Caught tab ns ns' is xs → Caught tab ns ns' (i :: is) (x :: xs)
theorem Caught.get {tab : List Str} {ns ns' : List (Str × NameKind)} : ∀ {is : List Nat} {xs : List Str}, Caught tab ns ns' is xs → ∀ {j : Nat} {x : Str}, xs[j]? = some x → ∃ i, is[j]? = some i ∧ tab[i]? = some x ∧ ns.lookup x = some .cell ∧ ns'.lookup x = some .cell
  | _, _, .cons h1 h2 h3 r, 0, x, e => by simp at e; subst e; exact ⟨_, rfl, nth_eq _ _ ▸ h1, h2, h3⟩
  | _, _, .cons h1 h2 h3 r, j + 1, x, e => by simp at e; obtain ⟨i, e1, r⟩ := r.get e; exact ⟨i, by simpa using e1, r⟩
theorem Caught.len {tab : List Str} {ns ns' : List (Str × NameKind)} : ∀ {is : List Nat} {xs : List Str}, Caught tab ns ns' is xs → is.length = xs.length
  | _, _, .nil => rfl
  | _, _, .cons _ _ _ r => by simp [r.len]

theorem comp_core {elt target iter : Expr} {ifs : List Expr} {scope : Scope} {pos : Pos} {step : Src → Nat → Loc → Hp → Option (Option Loc)} {t : Loc → Hp → Option Bool} {f : Loc → Hp → Option V} (tg fr : List Str) (fi : List Nat)
    (hkind : scope.kind = .function) (hcell : ∀ x ∈ scope.names, x.2 ≠ .cell) (hnames : ∀ x ∈ scope.names, x.2 = .local → scope.names.lookup x.1 = some .local)
    (hfr : scope.names.filterMap (fun p => if p.2 == .free then some p.1 else .none) = fr) (hca : Caught tab ns (relab ns scope.names) fi fr) (htg : ∀ x ∈ tg, (relab ns scope.names).lookup x = some .local)
    (hT : ∀ cenv, EnvOK h₀ (relab ns scope.names) cenv → ∀ src, Turn prog w h₀ n (tg ++ fr) cenv target src (step src))
    (ht : HTL prog w h₀ n (relab ns scope.names) (tg ++ fr) ifs t) (hf : HP prog w h₀ n (relab ns scope.names) (tg ++ fr) elt f)
    (hfold : ∀ env x, foldedSetIterable iter env x = pure x) :
    ∀ env, EnvOK h₀ ns env → ∀ A, Room n A → ∀ n0 ρ σ φ s, HR h₀ φ σ s.heap → FOK env tab ρ φ s.heap → ∀ src σ₁ fin,
    (∀ (Q E : Value → Shared → Prop), (∀ φ' I W h' tk, Ext n0 φ φ' s.heap h' → HR h₀ φ' σ₁ h' → SrcAt φ' src I W 0 h' → (∀ b ∈ W, s.heap.get? b = none ∧ b ∉ φ') → Q (.ref I) { s with heap := h', toks := tk }) →
      wpAny (model prog w) A (eval iter env) (fun x s₁ => wpAny (model prog w) A (pyIter x) Q E s₁) E s) →
    compGo (step src) t f σ₁ 1000 0 (compLoc tg.length fi ρ) = some fin → ∀ (use : Option (Value → Sem Unit)) (Q E : Value → Shared → Prop),
    (∀ φ' D C h' tk, Ext n0 φ φ' s.heap h' → HR h₀ φ' (σ₁ ++ [⟨false, fin⟩]) h' → VR φ' (.ref σ₁.length) (.ref D) → (∃ m, h'.Ns C m) → C ∉ φ' → h₀.get? C = none → s.heap.get? C = none → compPost (model prog w) A E use Q (.ref D) C (.ok .next) { s with heap := h', toks := tk }) →
    wpAny (model prog w) A (comprehension (.ListComp elt [⟨target, iter, ifs, 0⟩] scope pos) scope env (firstIterPos [⟨target, iter, ifs, 0⟩] pos) (newList []) false (eval iter env) use) Q E s := by
  intro env he A hA n0 ρ σ φ s H F src σ₁ fin hI eL use Q E hQ
  have hfr : ∀ x, (x, NameKind.free) ∈ scope.names ↔ x ∈ fr := fun x => by
    rw [← hfr, List.mem_filterMap]
    constructor
    · exact fun h => ⟨_, h, by simp⟩
    · rintro ⟨⟨y, k⟩, h, e⟩
      simp only at e
      split at e
      · rename_i hk
        have hk : k = .free := by simpa using hk
        subst hk; cases e; exact h
      · cases e
  -- the cells that the block sees
  obtain ⟨m, hm, hvar⟩ := F.ns
  have cells : ∀ x ∈ fr, ∃ i c, tab[i]? = some x ∧ env.cells.lookup x = some c := fun x hx => by
    obtain ⟨j, hj⟩ := List.mem_iff_getElem?.mp hx
    obtain ⟨i, e1, e2, e3, e4⟩ := hca.get hj
    have := hvar i x e2
    unfold VarIs at this
    rw [he.kindOf, e3] at this
    obtain ⟨c, _, h1, _⟩ := this
    exact ⟨i, c, e2, h1⟩
  let c : Str → Addr := fun x => (env.cells.lookup x).getD 0
  have hc : ∀ x ∈ fr, env.cells.lookup x = some (c x) := fun x hx => by
    obtain ⟨_, d, _, e⟩ := cells x hx
    show _ = some ((env.cells.lookup x).getD 0)
    rw [e]; rfl
  have hclos : closureFor scope env = pure (freeOf c scope.names []) := closure_eq c fun x hx hk => hc x.1 ((hfr x.1).mp (by
    obtain ⟨y, k⟩ := x
    simp only at hk
    subst hk; exact hx))
  have hclfun : ∀ p ∈ freeOf c scope.names [], p.2 = c p.1 ∧ p.1 ∈ fr := fun p hp => by
    rcases freeOf_mem hp with q | ⟨q1, q2⟩
    · cases q
    · exact ⟨q1, (hfr p.1).mp q2⟩
  have hcllook : ∀ x ∈ fr, (freeOf c scope.names []).lookup x = some (c x) := fun x hx => lookup_fun (fun p hp => (hclfun p hp).1) (freeOf_in ((hfr x).mpr hx))
  refine wpAny_comprehension_free rfl (fun x => hfold env x) hclos hkind hnames ?_
  refine hI _ _ fun φ₁ I W h₁ tk₁ k₁ H₁ S₁ hW => ?_
  have F₁ := F.ext k₁
  refine wpAny_newObj_type ?_ (by size_fits)
  refine wpAny_newFunctionEnv hcell (by intro y hy; cases hy) (fun h₂ hns₂ hsb₂ => ?_) hkind
  dsimp only at hns₂ hsb₂ ⊢
  -- the accumulator and the block's own names
  have hD : (h₁.push { cls := .type "list", data := .seq ([] : List Value).toArray }).get? h₁.objs.size = some { cls := .type "list", data := .seq ([] : List Value).toArray } := Heap.get?_push_size _ rfl
  have hsz : (h₁.push { cls := Value.type "list", data := Data.seq ([] : List Value).toArray }).objs.size = h₁.objs.size + 1 := Heap.size_push ..
  generalize hH2 : h₁.push { cls := Value.type "list", data := Data.seq ([] : List Value).toArray } = H2 at hns₂ hsb₂ hD hsz ⊢
  have kH2 : Keep h₁ H2 := hH2 ▸ Keep.push _ _
  have hDC : h₁.objs.size ≠ H2.objs.size := by rw [hsz]; exact Nat.ne_of_lt (Nat.lt_succ_self _)
  have lt1 : ∀ {b : Addr} {o : Obj}, h₁.get? b = some o → b < h₁.objs.size := fun e => Heap.lt_size e
  have notC : ∀ {b : Addr} {o : Obj}, h₁.get? b = some o → b ≠ H2.objs.size := fun e q => by have := lt1 e; rw [q, hsz] at this; exact absurd this (Nat.not_lt.mpr (Nat.le_succ _))
  have notD : ∀ {b : Addr} {o : Obj}, h₁.get? b = some o → b ≠ h₁.objs.size := fun e q => Nat.lt_irrefl _ (q ▸ lt1 e)
  have k2 : ∀ b o, h₁.get? b = some o → h₂.get? b = some o := fun b o e => hsb₂.extBut b o (notC e) (Heap.get?_push_of_some _ (kH2 b o e))
  have hD2 : h₂.PlainList h₁.objs.size #[] := ⟨_, hsb₂.extBut _ _ hDC (Heap.get?_push_of_some _ hD)⟩
  have hsW : ∀ b ∈ W, h₀.get? b = none ∧ b ∉ own env := fun b hb => by
    obtain ⟨e1, _⟩ := hW b hb
    refine ⟨?_, fun q => ?_⟩
    · cases g : h₀.get? b with
      | none => rfl
      | some o => have := H.keep b o g; rw [e1] at this; cases this
    · obtain ⟨_, o, g⟩ := F.own b q
      rw [e1] at g; cases g
  have h0none : ∀ {b : Addr}, h₁.objs.size ≤ b → h₀.get? b = none := fun {b} hb => by
    cases g : h₀.get? b with
    | none => rfl
    | some o => exact absurd (lt1 (H₁.keep _ _ g)) (Nat.not_lt.mpr hb)
  have notφ : ∀ {b : Addr}, h₁.objs.size ≤ b → b ∉ φ₁ := fun {b} hb q => by
    obtain ⟨o, g⟩ := H₁.alloc q
    exact absurd (lt1 g) (Nat.not_lt.mpr hb)
  have hCge : h₁.objs.size ≤ H2.objs.size := by rw [hsz]; exact Nat.le_succ _
  -- the block's frame
  have hcenv : EnvOK h₀ (relab ns scope.names) (compEnvC scope (freeOf c scope.names []) H2.objs.size env) := by
    refine ⟨hkind, ?_, he.glob, he.blt, fun b hb => ?_⟩
    · show (relabel scope env).names = _
      unfold relabel relab
      simp only
      refine List.map_congr_left fun x _ => ?_
      obtain ⟨y, k⟩ := x
      simp only [he.kindOf, he.kind]
      simp
    · rcases List.mem_cons.mp hb with rfl | hb
      · exact h0none hCge
      · obtain ⟨p, hp, rfl⟩ := List.mem_map.mp hb
        obtain ⟨e1, e2⟩ := hclfun p hp
        rw [e1]
        exact he.new _ (.tail _ (List.mem_map.mpr ⟨_, mem_of_lookup' (hc _ e2), rfl⟩))
  have ownc : ∀ b ∈ own (compEnvC scope (freeOf c scope.names []) H2.objs.size env), b = H2.objs.size ∨ b ∈ own env := fun b hb => by
    rcases List.mem_cons.mp hb with rfl | hb
    · exact .inl rfl
    · obtain ⟨p, hp, rfl⟩ := List.mem_map.mp hb
      obtain ⟨e1, e2⟩ := hclfun p hp
      rw [e1]
      exact .inr (.tail _ (List.mem_map.mpr ⟨_, mem_of_lookup' (hc _ e2), rfl⟩))
  obtain ⟨m1, hm1, hvar1⟩ := F₁.ns
  have hF2 : FOK (compEnvC scope (freeOf c scope.names []) H2.objs.size env) (tg ++ fr) (compLoc tg.length fi ρ) φ₁ h₂ := by
    refine ⟨fun b hb => ?_, ?_, _, hns₂, fun i x hx => ?_⟩
    · rcases ownc b hb with rfl | hb
      · obtain ⟨o, _, _, g, _⟩ := hns₂
        exact ⟨notφ hCge, o, g⟩
      · obtain ⟨g1, o, g2⟩ := F₁.own b hb
        exact ⟨g1, o, k2 _ _ g2⟩
    · simp [compLoc, hca.len]
    · unfold VarIs
      rw [hcenv.kindOf]
      by_cases hi : i < tg.length
      · rw [List.getElem?_append_left hi] at hx
        rw [htg x (List.mem_of_getElem? hx)]
        have : look (compLoc tg.length fi ρ) i = none := by
          unfold look compLoc
          rw [nth_eq, List.getElem?_append_left (by simpa using hi)]
          simp [hi]
        rw [this]
        trivial
      · rw [List.getElem?_append_right (Nat.not_lt.mp hi)] at hx
        obtain ⟨j, e1, e2, e3, e4⟩ := hca.get hx
        rw [e4]
        have hxf := List.mem_of_getElem? hx
        have hlook : look (compLoc tg.length fi ρ) i = look ρ j := by
          unfold look compLoc
          rw [nth_eq, List.getElem?_append_right (by simpa using Nat.not_lt.mp hi)]
          simp only [List.length_replicate, List.getElem?_map, e1, Option.map_some]
          cases hq : look ρ j with
          | none => simp [look] at hq ⊢; rw [hq]
          | some u => simp [look] at hq ⊢; rw [hq]
        rw [hlook]
        have hV := hvar1 j x e2
        unfold VarIs at hV
        rw [he.kindOf, e3] at hV
        obtain ⟨d, cv, g1, g2, ⟨o, g3, g4⟩, g5⟩ := hV
        have hd : d = c x := by rw [hc x hxf] at g1; exact (Option.some.inj g1).symm
        subst hd
        exact ⟨_, cv, hcllook x hxf, g2, ⟨o, k2 _ _ g3, g4⟩, g5⟩
  have hWc : ∀ b ∈ W, b ∉ own (compEnvC scope (freeOf c scope.names []) H2.objs.size env) := fun b hb q => by
    rcases ownc b q with rfl | q
    · obtain ⟨o, g⟩ := S₁.alloc _ hb
      exact notC g rfl
    · exact (hsW b hb).2 q
  have hWD : ∀ b ∈ W, b ≠ h₁.objs.size := fun b hb => by obtain ⟨o, g⟩ := S₁.alloc _ hb; exact notD g
  -- the loop
  have loop : ∀ tk, codeAny (model prog w) A (.compLoop (.ListComp elt [⟨target, iter, ifs, 0⟩] scope pos) 0 (.ref I) (.ref h₁.objs.size) (compEnvC scope (freeOf c scope.names []) H2.objs.size env))
      (compPost (model prog w) A E use Q (.ref h₁.objs.size) H2.objs.size) { s with heap := h₂, toks := tk } := by
    intro tk
    refine compLoop_gen (fun k s' => ∃ i ρ₃ done xs h₃ tk₃ l, s' = { s with heap := h₃, toks := tk₃ } ∧ i + k = 1000 ∧ done.length ≤ i ∧ VsR φ₁ done xs ∧ h₃.PlainList h₁.objs.size xs.toArray ∧ compGo (step src) t f σ₁ k i ρ₃ = some l ∧ done ++ l = fin ∧
      (∀ b o, b ∉ W → b ≠ H2.objs.size → b ≠ h₁.objs.size → h₁.get? b = some o → h₃.get? b = some o) ∧ SrcAt φ₁ src I W i h₃ ∧ HR h₀ φ₁ σ₁ h₃ ∧ FOK (compEnvC scope (freeOf c scope.names []) H2.objs.size env) (tg ++ fr) ρ₃ φ₁ h₃) ?_ 1000
      ⟨0, _, [], [], h₂, tk, fin, rfl, rfl, Nat.le_refl _, .nil, by simpa using hD2, eL, rfl, fun b o _ _ _ e => k2 b o e, S₁.frame fun b _ o e => k2 b o e, H₁.keeps k2, hF2⟩
    rintro k s' ⟨i, ρ₃, done, xs, h₃, tk₃, l, rfl, hik, hdl, hxs, hpl, ego, efin, k₃, S₃, H₃, F₃⟩
    cases k with
    | zero => cases ego
    | succ k =>
      unfold compGo at ego
      have hWW : ∀ b ∈ W, h₀.get? b = none ∧ b ∉ φ₁ ∧ b ∉ own (compEnvC scope (freeOf c scope.names []) H2.objs.size env) := fun b hb => ⟨(hsW b hb).1, (hW b hb).2, hWc b hb⟩
      have hDown : h₁.objs.size ∉ own (compEnvC scope (freeOf c scope.names []) H2.objs.size env) := fun q => by
        rcases ownc _ q with q | q
        · exact hDC q
        · obtain ⟨_, o, g⟩ := F₁.own _ q
          exact notD g rfl
      have hDW : h₁.objs.size ∉ W := fun q => hWD _ q rfl
      have keepC : ∀ {b : Addr} {o : Obj}, h₁.get? b = some o → b ∈ own (compEnvC scope (freeOf c scope.names []) H2.objs.size env) → b ≠ H2.objs.size := fun e _ => notC e
      split at ego
      · rename_i ρ₄ e4
        refine hT _ hcenv src A hA i _ _ φ₁ _ I W H₃ F₃ S₃ hWW _ e4 _ _ _ _ _ (fun q => by cases q) fun ρ₄' q h₄ tk₄ k₄ S₄ H₄ F₄ => ?_
        cases q
        have k34 : ∀ b o, b ∉ W → b ≠ H2.objs.size → b ≠ h₁.objs.size → h₁.get? b = some o → h₄.get? b = some o := fun b o hb hC hD' e => k₄ b o hb hC (k₃ b o hb hC hD' e)
        have hpl4 : h₄.PlainList h₁.objs.size xs.toArray := let ⟨nn, e⟩ := hpl; ⟨nn, k₄ _ _ hDW hDC e⟩
        split at ego
        · rename_i e5
          split at ego
          case h_2 => cases ego
          rename_i v e6
          split at ego
          case h_2 => cases ego
          rename_i l' e7
          cases ego
          refine ht.1 _ hcenv A hA _ _ φ₁ _ H₄ F₄ _ e5 _ _ fun h₅ tk₅ k₅ => ?_
          rw [if_pos rfl]
          refine hf.1 _ hcenv A hA _ _ φ₁ _ (H₄.keeps k₅) (F₄.keeps k₅) _ e6 _ _ fun x h₆ tk₆ k₆ hx => ?_
          have k46 : Keep h₄ h₆ := k₅.trans k₆
          have hpl6 : h₆.PlainList h₁.objs.size xs.toArray := let ⟨nn, e⟩ := hpl4; ⟨nn, k46 _ _ e⟩
          have hxl := hxs.length
          refine wpAny_list_append_plain hpl6 (fun h₇ hpl7 hs7 => ?_) (by simp [sizeLine_eq]; omega)
          have k47 : ∀ b o, b ≠ h₁.objs.size → h₄.get? b = some o → h₇.get? b = some o := fun b o hb e => hs7.extBut b o hb (k46 b o e)
          refine ⟨k, Nat.lt_succ_self k, i + 1, ρ₄, done ++ [v], xs ++ [x], h₇, tk₆, l', rfl, by omega, by simp; omega, hxs.snoc hx, by simpa using hpl7, e7, by simpa using efin, ?_, ?_, ?_, ?_⟩
          · exact fun b o hb hC hD' e => k47 b o hD' (k34 b o hb hC hD' e)
          · exact S₄.frame fun b hb o e => k47 b o (hWD b hb) e
          · exact H₄.keepsOn (fun b o e => k47 b o (fun q => by rw [q, h0none (Nat.le_refl _)] at e; cases e) (H₄.keep b o e)) fun a ha o e => k47 a o (fun q => notφ (Nat.le_refl _) (q ▸ ha)) e
          · exact F₄.keepsOn fun b hb o e => k47 b o (fun q => hDown (q ▸ hb)) e
        · rename_i e5
          refine ht.1 _ hcenv A hA _ _ φ₁ _ H₄ F₄ _ e5 _ _ fun h₅ tk₅ k₅ => ?_
          rw [if_neg (by decide)]
          exact ⟨k, Nat.lt_succ_self k, i + 1, ρ₄, done, xs, h₅, tk₅, l, rfl, by omega, by omega, hxs, let ⟨nn, e⟩ := hpl4; ⟨nn, k₅ _ _ e⟩, ego, efin, fun b o hb hC hD' e => k₅ b o (k34 b o hb hC hD' e), S₄.frame fun b _ o e => k₅ b o e, H₄.keeps k₅, F₄.keeps k₅⟩
        · cases ego
      · rename_i e4
        cases ego
        refine hT _ hcenv src A hA i _ _ φ₁ _ I W H₃ F₃ S₃ hWW _ e4 _ _ _ _ _ (fun _ h₄ tk₄ k₄ => ?_) fun ρ₄' q => by cases q
        have hfin : done = fin := by simpa using efin
        subst hfin
        obtain ⟨m3, ⟨o3, es3, ep3, g3, r3⟩, _⟩ := F₃.ns
        have hCW : H2.objs.size ∉ W := fun q => hWc _ q (.head _)
        have kf : ∀ b o, b ∉ W → h₃.get? b = some o → h₄.get? b = some o := fun b o hb e => k₄ b o hb e
        have H' : HR h₀ φ₁ σ₁ h₄ := H₃.offW hWW k₄
        obtain ⟨nn, hpl⟩ := hpl
        have fr1 := (k₁.back H₁ (Heap.none_size h₁)).1
        have fr2 : s.heap.get? H2.objs.size = none := by
          cases e : s.heap.get? H2.objs.size with
          | none => rfl
          | some o =>
            have hnC : H2.objs.size ∉ φ.drop n0 := fun q => by
              obtain ⟨⟨ψ, e1, _⟩, _⟩ := k₁
              exact notφ hCge (e1 ▸ List.mem_append_left _ (List.mem_of_mem_drop q))
            exact absurd rfl (notC (k₁.keep _ _ hnC e))
        refine hQ (φ₁ ++ [h₁.objs.size]) _ H2.objs.size h₄ tk₄ ?_ (H'.add2 (notφ (Nat.le_refl _)) (h0none (Nat.le_refl _)) ⟨xs, hxs, _, nn, kf _ _ hDW hpl, rfl, rfl⟩) (VR.top H₁ _) ⟨m3, o3, es3, ep3, k₄ _ _ hCW g3, r3⟩ ?_ (h0none hCge) fr2
        · obtain ⟨⟨ψ, rfl, f1⟩, kk⟩ := k₁
          refine ⟨⟨ψ ++ [h₁.objs.size], by simp, fun b hb => ?_⟩, fun b o hb e => ?_⟩
          · rcases List.mem_append.mp hb with hb | hb
            · exact f1 b hb
            · rw [List.mem_singleton.mp hb]; exact fr1
          · have e1 := kk b o hb e
            have hbW : b ∉ W := fun q => by rw [(hW b q).1] at e; cases e
            exact kf b o hbW (k₃ b o hbW (notC e1) (notD e1) e1)
        · intro q
          rcases List.mem_append.mp q with q | q
          · exact notφ hCge q
          · exact hDC (List.mem_singleton.mp q).symm
      · cases ego
  exact codeAny_compStart_list (loop _) ((S₁.frame fun b _ o e => k2 b o e).self (loop _))
theorem HE.comp {elt target iter : Expr} {ifs : List Expr} {scope : Scope} {pos : Pos} {mk step t f} (tg fr : List Str) (fi : List Nat)
    (hkind : scope.kind = .function) (hcell : ∀ x ∈ scope.names, x.2 ≠ .cell) (hnames : ∀ x ∈ scope.names, x.2 = .local → scope.names.lookup x.1 = some .local)
    (hfr : scope.names.filterMap (fun p => if p.2 == .free then some p.1 else .none) = fr) (hca : Caught tab ns (relab ns scope.names) fi fr) (htg : ∀ x ∈ tg, (relab ns scope.names).lookup x = some .local)
    (hI : HI prog w h₀ n ns tab iter mk) (hT : ∀ cenv, EnvOK h₀ (relab ns scope.names) cenv → ∀ src, Turn prog w h₀ n (tg ++ fr) cenv target src (step src))
    (ht : HTL prog w h₀ n (relab ns scope.names) (tg ++ fr) ifs t) (hf : HP prog w h₀ n (relab ns scope.names) (tg ++ fr) elt f)
    (hfold : ∀ env x, foldedSetIterable iter env x = pure x) :
    HE prog w h₀ n ns tab (.ListComp elt [⟨target, iter, ifs, 0⟩] scope pos) (compE mk step t f tg.length fi) := by
  constructor
  intro env he A hA n0 ρ σ φ s H F v σ₂ hv Q E hQ
  unfold compE at hv
  split at hv
  case h_2 => cases hv
  rename_i src σ₁ e0
  split at hv
  case h_2 => cases hv
  rename_i fin eL
  cases hv
  refine comp_core tg fr fi hkind hcell hnames hfr hca htg hT ht hf hfold env he A hA n0 ρ σ φ s H F src σ₁ fin (fun Q E => hI.1 env he A hA n0 ρ σ φ s H F _ _ e0 Q E) eL none Q E fun φ' D C h' tk k H' hv' hC hCφ hC0 hCs => ?_
  obtain ⟨m, hm⟩ := hC
  refine ⟨m, hm, fun h'' hs => ?_⟩
  refine hQ φ' _ h'' tk ⟨k.pre, fun b o hb e => hs.extBut b o (fun q => by rw [q, hCs] at e; cases e) (k.keep b o hb e)⟩ ?_ hv'
  exact H'.keepsOn (fun b o e => hs.extBut b o (fun q => by rw [q, hC0] at e; cases e) (H'.keep b o e)) fun a ha o e => hs.extBut a o (fun q => hCφ (q ▸ ha)) e

/-- y = [..], the name no cell: the stores are exchanged -/
theorem HS.asgComp {y : Str} {py spos : Pos} (j : Nat) (hj : nth tab j = some y) (hky : ns.lookup y = some .local) (nd : tab.Nodup) {elt target iter : Expr} {ifs : List Expr} {scope : Scope} {pos : Pos} {mk step t f} (tg fr : List Str) (fi : List Nat)
    (hkind : scope.kind = .function) (hcell : ∀ x ∈ scope.names, x.2 ≠ .cell) (hnames : ∀ x ∈ scope.names, x.2 = .local → scope.names.lookup x.1 = some .local)
    (hfr : scope.names.filterMap (fun p => if p.2 == .free then some p.1 else .none) = fr) (hca : Caught tab ns (relab ns scope.names) fi fr) (htg : ∀ x ∈ tg, (relab ns scope.names).lookup x = some .local)
    (hI : HI prog w h₀ n ns tab iter mk) (hT : ∀ cenv, EnvOK h₀ (relab ns scope.names) cenv → ∀ src, Turn prog w h₀ n (tg ++ fr) cenv target src (step src))
    (ht : HTL prog w h₀ n (relab ns scope.names) (tg ++ fr) ifs t) (hf : HP prog w h₀ n (relab ns scope.names) (tg ++ fr) elt f)
    (hfold : ∀ env x, foldedSetIterable iter env x = pure x) :
    (∀ env, EnvOK h₀ ns env → swapsWith (.ListComp elt [⟨target, iter, ifs, 0⟩] scope pos) (some (.Name y py)) spos.line env = pure true) →
    HS prog w h₀ n ns tab (.Assign [.Name y py] (.ListComp elt [⟨target, iter, ifs, 0⟩] scope pos) spos) (sAsg j (compE mk step t f tg.length fi)) := by
  intro hs
  constructor
  intro env he ap A hA n0 ρ σ φ s H F fl ρ' σ' hf' Q E hQ
  unfold sAsg at hf'
  split at hf'
  case h_2 => cases hf'
  rename_i v σ₂ e
  cases hf'
  unfold compE at e
  split at e
  case h_2 => cases e
  rename_i src σ₁ e0
  split at e
  case h_2 => cases e
  rename_i fin eL
  cases e
  rw [exec_Assign_Name_used _ _ _ _ (hs env he)]
  refine wpAny_bind (wpAny_standAt (wpAny_bind ?_))
  show wpAny _ A (do let _ ← comprehension (.ListComp elt [⟨target, iter, ifs, 0⟩] scope pos) scope env (firstIterPos [⟨target, iter, ifs, 0⟩] pos) (newList []) false (eval iter env) (some (assign (.Name y py) env))) _ _ s
  refine wpAny_bind (wpAny_mono (comp_core tg fr fi hkind hcell hnames hfr hca htg hT ht hf hfold env he A hA n0 ρ σ φ s H F src σ₁ fin (fun Q E => hI.1 env he A hA n0 ρ σ φ s H F _ _ e0 Q E) eL (some (assign (.Name y py) env)) (fun _ s' => Q .next s') E fun φ' D C h' tk k H' hv' hC hCφ hC0 hCs => ?_) (fun _ _ x => wpAny_pure (wpAny_pure x)) fun _ _ x => x)
  have F' := F.ext k
  have hCown : C ∉ own env := fun q => by obtain ⟨_, o, g⟩ := F.own C q; rw [hCs] at g; cases g
  show wpAny (model prog w) A (assign (.Name y py) env (.ref D)) _ _ _
  refine wpAny_assign_Name (store_var (s := { s with heap := h', toks := tk }) he (fun _ => ap) F' hj (by rw [hky]; rfl) nd hv' fun h'' tk' k' F'' => ?_)
  obtain ⟨m, o, es, ep, g, r⟩ := hC
  refine ⟨m, ⟨o, es, ep, k' _ _ (.inl hCown) g, r⟩, fun h₃ hs₃ => ?_⟩
  have k3 : ∀ b o, b ≠ C → h''.get? b = some o → h₃.get? b = some o := fun b o hb e => hs₃.extBut b o hb e
  have H'' := HR.keepsOwn he H' F' fun b o hb e => k' b o (.inl hb) e
  have F3 : FOK env tab (put ρ j (.ref σ₁.length)) φ' h₃ := F''.keepsOn fun b hb o e => k3 b o (fun q => hCown (q ▸ hb)) e
  refine hQ φ' .next h₃ tk' ⟨k.pre, fun b o hb ho e => k3 b o (fun q => by rw [q, hCs] at e; cases e) (k' b o (.inl ho) (k.keep b o hb e))⟩ ?_ F3 .next
  exact H''.keepsOn (fun b o e => k3 b o (fun q => by rw [q, hC0] at e; cases e) (H''.keep b o e)) fun a ha o e => k3 a o (fun q => hCφ (q ▸ ha)) e
end
end Mine
namespace Mine

noncomputable def stAt (i : Nat) : Option Stmt := nth PySem.Challenge.pw_xm0124_01.main.body i
noncomputable def bodyAt (i : Nat) : List Stmt := match stAt i with
  | some (.FunctionDef _ _ b _ _ _ _ _ _ _) => b
  | _ => []
noncomputable def argsAt (i : Nat) : Arguments := match stAt i with
  | some (.FunctionDef _ a _ _ _ _ _ _ _ _) => a
  | _ => default
noncomputable def scopeAt (i : Nat) : Scope := match stAt i with
  | some (.FunctionDef _ _ _ _ _ _ sc _ _ _) => sc
  | _ => default
noncomputable def nameAt (i : Nat) : Str := match stAt i with
  | some (.FunctionDef n _ _ _ _ _ _ _ _ _) => n
  | _ => default
noncomputable def posAt (i : Nat) : Pos := match stAt i with
  | some (.FunctionDef _ _ _ _ _ _ _ _ _ p) => p
  | _ => default

/-- the defs ahead of the law's own -/
noncomputable def isDef (i : Nat) : Bool := decide (i ≤ 29) && (match stAt i with | some (.FunctionDef _ _ _ _ _ _ _ _ _ _) => true | _ => false)
theorem len1 {α : Type} : ∀ {xs : List α}, xs.length = 1 → ∃ a, xs = [a]
  | [a], _ => ⟨a, rfl⟩
theorem len2 {α : Type} : ∀ {xs : List α}, xs.length = 2 → ∃ a b, xs = [a, b]
  | [a, b], _ => ⟨a, b, rfl⟩
theorem len3 {α : Type} {xs : List α} (h : xs.length = 3) : ∃ a b c, xs = [a, b, c] := by
  cases xs with
  | nil => cases h
  | cons a r => obtain ⟨b, c, rfl⟩ := len2 (Nat.succ.inj h); exact ⟨a, b, c, rfl⟩
theorem len4 {α : Type} {xs : List α} (h : xs.length = 4) : ∃ a b c d, xs = [a, b, c, d] := by
  cases xs with
  | nil => cases h
  | cons a r => obtain ⟨b, c, d, rfl⟩ := len3 (Nat.succ.inj h); exact ⟨a, b, c, d, rfl⟩
structure X (mg mb : Str → Option Value) (h₀ : Heap) : Prop where
  g : GC mg mb h₀
  len : mg (Str.ofString "len") = none ∧ mb (Str.ofString "len") = some (.builtin "len")
  abs : mg (Str.ofString "abs") = none ∧ mb (Str.ofString "abs") = some (.builtin "abs")
  max : mg (Str.ofString "max") = none ∧ mb (Str.ofString "max") = some (.builtin "max")
  range : mg (Str.ofString "range") = none ∧ mb (Str.ofString "range") = some (.type "range")
  list : mg (Str.ofString "list") = none ∧ mb (Str.ofString "list") = some (.type "list")
  enumerate : mg (Str.ofString "enumerate") = none ∧ mb (Str.ofString "enumerate") = some (.type "enumerate")
  reversed : mg (Str.ofString "reversed") = none ∧ mb (Str.ofString "reversed") = some (.type "reversed")
  int : mg (Str.ofString "int") = none ∧ mb (Str.ofString "int") = some (.type "int")
  fn : ∀ (i : Nat) (nm : Str), (nm == nameAt i && isDef i) = true → FnAt mg h₀ nm (argsAt i) (bodyAt i) (scopeAt i)

section
variable {prog : Program} {w : World} {h₀ : Heap} {n : Nat} {ns : List (Str × NameKind)} {tab : List Str} {mg mb : Str → Option Value}
theorem HP.call1T (G : GC mg mb h₀) {x : Str} {np pos : Pos} {e : Expr} {T : String} {F f} (hk : ns.lookup x = some .globalImplicit) (hm : mg x = Option.none) (hv : mb x = some (.type T)) (hd : (x == ("__debug__" : Str)) = false) (hst : isStar e = false)
    (hB : HB prog w h₀ n (.type T) F) (h : HP prog w h₀ n ns tab e f) : HP prog w h₀ n ns tab (.Call (.Name x np) [e] [] pos) (callP1 F f) := by
  constructor
  intro env he A hA ρ σ φ s H Fk v hf Q E hQ
  unfold callP1 at hf
  split at hf
  case h_2 => cases hf
  rename_i a ea
  refine wpAny_Call_NameR (name_builtin G he H hk hm hv hd ?_)
  refine callWith_type1 (args_cons (h.1 env he A hA ρ σ φ s H Fk _ ea _ _ fun y h' tk k hy => args_nil ?_) (star_each hst)) (star_each hst) rfl
  exact hB A hA σ φ _ (H.keeps k) a y v hy hf _ _ fun z h'' tk' k' hz => hQ _ _ _ (k.trans k') hz
noncomputable def intVal (v : V) (_ : Hp) : Option V := match v with
  | .int i => some (.int i)
  | _ => .none
theorem HB.int : HB prog w h₀ n (.type "int") intVal := by
  intro A hA σ φ s H v x r hx hf Q E hQ
  cases hx <;> simp only [intVal] at hf <;> cases hf
  exact call_int_int (hQ _ s.heap s.toks (Keep.refl _) (.int _ _))
end
end Mine
namespace Mine
section
variable {prog : Program} {w : World} {h₀ : Heap} {mg mb : Str → Option Value}
noncomputable def B_ztrim : Nat → Loc → Hp → Option (Fl × Loc × Hp) :=
  (sCons (sAsg 1 (liftP (callP1 lenF (varF 0))))
  (sCons (sWhile (liftT (andT (cmpT .Gt (varF 1) (intF 0)) (cmpT .Eq (subP (varF 0) (binF .Sub (varF 1) (intF 1))) (intF 0)))) (sCons (sAug 1 .Sub (intF 1))
  sNil))
  (sCons (sRet (callE1 listF (takeE (varF 0) (varF 1))))
  sNil)))
noncomputable def F_ztrim : Nat → List V → Hp → Option (V × Hp) := mkF 1 2 B_ztrim
set_option maxRecDepth 10000 in
set_option maxHeartbeats 2000000 in
theorem H_ztrim (x : X mg mb h₀) : HC prog w h₀ mg 1 (Str.ofString "ztrim") F_ztrim := by
  have nd : ([(Str.ofString "row"), (Str.ofString "size")] : List Str).Nodup := by decide +kernel
  have k_row : isVar (List.lookup (Str.ofString "row") (scopeAt 6).names) = true := by decide +kernel
  have s_row : isStore (List.lookup (Str.ofString "row") (scopeAt 6).names) = true := by decide +kernel
  have k_size : isVar (List.lookup (Str.ofString "size") (scopeAt 6).names) = true := by decide +kernel
  have s_size : isStore (List.lookup (Str.ofString "size") (scopeAt 6).names) = true := by decide +kernel
  have dc_row : ((Str.ofString "row") == ("__classdict__" : Str)) = false := by decide +kernel
  have dd_row : ((Str.ofString "row") == ("__debug__" : Str)) = false := by decide +kernel
  have dc_size : ((Str.ofString "size") == ("__classdict__" : Str)) = false := by decide +kernel
  have dd_size : ((Str.ofString "size") == ("__debug__" : Str)) = false := by decide +kernel
  refine HC.ofBody (n := 0) (ns := (scopeAt 6).names) (tab := [(Str.ofString "row"), (Str.ofString "size")]) (ps := [(Str.ofString "row")]) (rest := [(Str.ofString "size")]) (f := B_ztrim) x.g (x.fn 6 (Str.ofString "ztrim") (by decide +kernel)) rfl rfl rfl rfl rfl nd (by decide +kernel) (by decide +kernel) (fun pm code doc xs hx => ?_) ?_
  · obtain ⟨y0, rfl⟩ := len1 hx; rfl
  · exact (HSs.cons (HS.asg 1 rfl s_size nd (by exact env_elim fun _ _ _ _ _ _ _ _ _ _ _ => rfl) (HP.toE (HP.call1 x.g (by decide +kernel) x.len.1 x.len.2 rfl rfl HB.len (HP.var 0 rfl k_row dc_row dd_row))))
    (HSs.cons (HS.while (HT.toE (HT.and (HT.cmp (HP.var 1 rfl k_size dc_size dd_size) HP.int rfl) (HT.cmp (HP.sub (HP.var 0 rfl k_row dc_row dd_row) (HP.bin (HP.var 1 rfl k_size dc_size dd_size) HP.int) (by exact fun _ _ => rfl)) HP.int rfl))) (HSs.cons (HS.aug 1 rfl s_size nd dc_size HP.int)
    HSs.nil))
    (HSs.cons (HS.ret (HE.callT x.g (by decide +kernel) x.list.1 x.list.2 rfl rfl HBE.list (HE.take (HP.var 0 rfl k_row dc_row dd_row) (HP.var 1 rfl k_size dc_size dd_size) (by exact fun _ _ => rfl))))
    HSs.nil)))
noncomputable def B_zadd : Nat → Loc → Hp → Option (Fl × Loc × Hp) :=
  (sCons (sAsg 2 (liftP (max2P (callP1 lenF (varF 0)) (callP1 lenF (varF 1)))))
  (sCons (sRet (callC F_ztrim (asCons (compE (gRange1 (varF 2)) (fun src => step1 src 0) noTest (binF .Add (ifP (cmpT .Lt (varF 0) (callP1 lenF (varF 1))) (subP (varF 1) (varF 0)) (intF 0)) (ifP (cmpT .Lt (varF 0) (callP1 lenF (varF 2))) (subP (varF 2) (varF 0)) (intF 0))) 1 [0, 1]) asNil)))
  sNil))
noncomputable def F_zadd : Nat → List V → Hp → Option (V × Hp) := mkF 2 3 B_zadd
set_option maxRecDepth 10000 in
set_option maxHeartbeats 2000000 in
theorem H_zadd (x : X mg mb h₀) : HC prog w h₀ mg 2 (Str.ofString "zadd") F_zadd := by
  have nd : ([(Str.ofString "a"), (Str.ofString "b"), (Str.ofString "size")] : List Str).Nodup := by decide +kernel
  have k_a : isVar (List.lookup (Str.ofString "a") (scopeAt 9).names) = true := by decide +kernel
  have s_a : isStore (List.lookup (Str.ofString "a") (scopeAt 9).names) = true := by decide +kernel
  have k_b : isVar (List.lookup (Str.ofString "b") (scopeAt 9).names) = true := by decide +kernel
  have s_b : isStore (List.lookup (Str.ofString "b") (scopeAt 9).names) = true := by decide +kernel
  have k_size : isVar (List.lookup (Str.ofString "size") (scopeAt 9).names) = true := by decide +kernel
  have s_size : isStore (List.lookup (Str.ofString "size") (scopeAt 9).names) = true := by decide +kernel
  have dc_a : ((Str.ofString "a") == ("__classdict__" : Str)) = false := by decide +kernel
  have dd_a : ((Str.ofString "a") == ("__debug__" : Str)) = false := by decide +kernel
  have dc_at : ((Str.ofString "at") == ("__classdict__" : Str)) = false := by decide +kernel
  have dd_at : ((Str.ofString "at") == ("__debug__" : Str)) = false := by decide +kernel
  have dc_b : ((Str.ofString "b") == ("__classdict__" : Str)) = false := by decide +kernel
  have dd_b : ((Str.ofString "b") == ("__debug__" : Str)) = false := by decide +kernel
  have dc_size : ((Str.ofString "size") == ("__classdict__" : Str)) = false := by decide +kernel
  have dd_size : ((Str.ofString "size") == ("__debug__" : Str)) = false := by decide +kernel
  refine HC.ofBody (n := 1) (ns := (scopeAt 9).names) (tab := [(Str.ofString "a"), (Str.ofString "b"), (Str.ofString "size")]) (ps := [(Str.ofString "a"), (Str.ofString "b")]) (rest := [(Str.ofString "size")]) (f := B_zadd) x.g (x.fn 9 (Str.ofString "zadd") (by decide +kernel)) rfl rfl rfl rfl rfl nd (by decide +kernel) (by decide +kernel) (fun pm code doc xs hx => ?_) ?_
  · obtain ⟨y0, y1, rfl⟩ := len2 hx; rfl
  · exact (HSs.cons (HS.asg 2 rfl s_size nd (by exact env_elim fun _ _ _ _ _ _ _ _ _ _ _ => rfl) (HP.toE (HP.max2 x.g (by decide +kernel) x.max.1 x.max.2 rfl rfl rfl (HP.call1 x.g (by decide +kernel) x.len.1 x.len.2 rfl rfl HB.len (HP.var 0 rfl k_a dc_a dd_a)) (HP.call1 x.g (by decide +kernel) x.len.1 x.len.2 rfl rfl HB.len (HP.var 1 rfl k_b dc_b dd_b)))))
    (HSs.cons (HS.ret (HE.callC x.g (H_ztrim x) (by decide) (by decide +kernel) rfl (HAs.cons (HE.comp [(Str.ofString "at")] [(Str.ofString "a"), (Str.ofString "b")] [0, 1] rfl (by decide +kernel) (by decide +kernel) rfl (.cons rfl (by decide +kernel) (by decide +kernel) (.cons rfl (by decide +kernel) (by decide +kernel) .nil)) (by decide +kernel) (HI.range1 x.g (by decide +kernel) x.range.1 x.range.2 rfl rfl (HP.var 2 rfl k_size dc_size dd_size)) (fun _ he _ => turn1 he 0 rfl (by decide +kernel) (by decide +kernel)) HTL.nil (HP.bin (HP.ife (HT.cmp (HP.var 0 rfl (by decide +kernel) dc_at dd_at) (HP.call1 x.g (by decide +kernel) x.len.1 x.len.2 rfl rfl HB.len (HP.var 1 rfl (by decide +kernel) dc_a dd_a)) rfl) (HP.sub (HP.var 1 rfl (by decide +kernel) dc_a dd_a) (HP.var 0 rfl (by decide +kernel) dc_at dd_at) (by exact fun _ _ => rfl)) HP.int) (HP.ife (HT.cmp (HP.var 0 rfl (by decide +kernel) dc_at dd_at) (HP.call1 x.g (by decide +kernel) x.len.1 x.len.2 rfl rfl HB.len (HP.var 2 rfl (by decide +kernel) dc_b dd_b)) rfl) (HP.sub (HP.var 2 rfl (by decide +kernel) dc_b dd_b) (HP.var 0 rfl (by decide +kernel) dc_at dd_at) (by exact fun _ _ => rfl)) HP.int)) (by exact fun _ _ => rfl)) HAs.nil rfl)))
    HSs.nil))
noncomputable def B_zneg : Nat → Loc → Hp → Option (Fl × Loc × Hp) :=
  (sCons (sRet (compE (gList (liftP (varF 0))) (fun src => step1 src 0) noTest (negF (varF 0)) 1 []))
  sNil)
noncomputable def F_zneg : Nat → List V → Hp → Option (V × Hp) := mkF 1 1 B_zneg
set_option maxRecDepth 10000 in
set_option maxHeartbeats 2000000 in
theorem H_zneg (x : X mg mb h₀) : HC prog w h₀ mg 1 (Str.ofString "zneg") F_zneg := by
  have nd : ([(Str.ofString "p")] : List Str).Nodup := by decide +kernel
  have k_p : isVar (List.lookup (Str.ofString "p") (scopeAt 10).names) = true := by decide +kernel
  have s_p : isStore (List.lookup (Str.ofString "p") (scopeAt 10).names) = true := by decide +kernel
  have dc_number : ((Str.ofString "number") == ("__classdict__" : Str)) = false := by decide +kernel
  have dd_number : ((Str.ofString "number") == ("__debug__" : Str)) = false := by decide +kernel
  have dc_p : ((Str.ofString "p") == ("__classdict__" : Str)) = false := by decide +kernel
  have dd_p : ((Str.ofString "p") == ("__debug__" : Str)) = false := by decide +kernel
  refine HC.ofBody (n := 0) (ns := (scopeAt 10).names) (tab := [(Str.ofString "p")]) (ps := [(Str.ofString "p")]) (rest := []) (f := B_zneg) x.g (x.fn 10 (Str.ofString "zneg") (by decide +kernel)) rfl rfl rfl rfl rfl nd (by decide +kernel) (by decide +kernel) (fun pm code doc xs hx => ?_) ?_
  · obtain ⟨y0, rfl⟩ := len1 hx; rfl
  · exact (HSs.cons (HS.ret (HE.comp [(Str.ofString "number")] [] [] rfl (by decide +kernel) (by decide +kernel) rfl .nil (by decide +kernel) (HI.list (HP.toE (HP.var 0 rfl k_p dc_p dd_p))) (fun _ he _ => turn1 he 0 rfl (by decide +kernel) (by decide +kernel)) HTL.nil (HP.neg (HP.var 0 rfl (by decide +kernel) dc_number dd_number)) (by exact fun _ _ => rfl)))
    HSs.nil)
noncomputable def B_zscale : Nat → Loc → Hp → Option (Fl × Loc × Hp) :=
  (sCons (sRet (ifE (liftT (cmpT .NotEq (varF 1) (intF 0))) (compE (gList (liftP (varF 0))) (fun src => step1 src 0) noTest (binF .Mult (varF 0) (varF 1)) 1 [1]) (dispE false asNil)))
  sNil)
noncomputable def F_zscale : Nat → List V → Hp → Option (V × Hp) := mkF 2 2 B_zscale
set_option maxRecDepth 10000 in
set_option maxHeartbeats 2000000 in
theorem H_zscale (x : X mg mb h₀) : HC prog w h₀ mg 1 (Str.ofString "zscale") F_zscale := by
  have nd : ([(Str.ofString "p"), (Str.ofString "k")] : List Str).Nodup := by decide +kernel
  have k_p : isVar (List.lookup (Str.ofString "p") (scopeAt 12).names) = true := by decide +kernel
  have s_p : isStore (List.lookup (Str.ofString "p") (scopeAt 12).names) = true := by decide +kernel
  have k_k : isVar (List.lookup (Str.ofString "k") (scopeAt 12).names) = true := by decide +kernel
  have s_k : isStore (List.lookup (Str.ofString "k") (scopeAt 12).names) = true := by decide +kernel
  have dc_k : ((Str.ofString "k") == ("__classdict__" : Str)) = false := by decide +kernel
  have dd_k : ((Str.ofString "k") == ("__debug__" : Str)) = false := by decide +kernel
  have dc_number : ((Str.ofString "number") == ("__classdict__" : Str)) = false := by decide +kernel
  have dd_number : ((Str.ofString "number") == ("__debug__" : Str)) = false := by decide +kernel
  have dc_p : ((Str.ofString "p") == ("__classdict__" : Str)) = false := by decide +kernel
  have dd_p : ((Str.ofString "p") == ("__debug__" : Str)) = false := by decide +kernel
  refine HC.ofBody (n := 0) (ns := (scopeAt 12).names) (tab := [(Str.ofString "p"), (Str.ofString "k")]) (ps := [(Str.ofString "p"), (Str.ofString "k")]) (rest := []) (f := B_zscale) x.g (x.fn 12 (Str.ofString "zscale") (by decide +kernel)) rfl rfl rfl rfl rfl nd (by decide +kernel) (by decide +kernel) (fun pm code doc xs hx => ?_) ?_
  · obtain ⟨y0, y1, rfl⟩ := len2 hx; rfl
  · exact (HSs.cons (HS.ret (HE.ife (HT.toE (HT.cmp (HP.var 1 rfl k_k dc_k dd_k) HP.int rfl)) (HE.comp [(Str.ofString "number")] [(Str.ofString "k")] [1] rfl (by decide +kernel) (by decide +kernel) rfl (.cons rfl (by decide +kernel) (by decide +kernel) .nil) (by decide +kernel) (HI.list (HP.toE (HP.var 0 rfl k_p dc_p dd_p))) (fun _ he _ => turn1 he 0 rfl (by decide +kernel) (by decide +kernel)) HTL.nil (HP.bin (HP.var 0 rfl (by decide +kernel) dc_number dd_number) (HP.var 1 rfl (by decide +kernel) dc_k dd_k)) (by exact fun _ _ => rfl)) (HE.list HAs.nil)))
    HSs.nil)
noncomputable def B_zraise : Nat → Loc → Hp → Option (Fl × Loc × Hp) :=
  (sCons (sRet (ifE (liftT (cmpT .Gt (callP1 lenF (varF 0)) (intF 0))) (addLE (mulLE (dispE false (asCons (liftP (intF 0)) asNil)) (liftP (varF 1))) (callE1 listF (liftP (varF 0)))) (dispE false asNil)))
  sNil)
noncomputable def F_zraise : Nat → List V → Hp → Option (V × Hp) := mkF 2 2 B_zraise
set_option maxRecDepth 10000 in
set_option maxHeartbeats 2000000 in
theorem H_zraise (x : X mg mb h₀) : HC prog w h₀ mg 1 (Str.ofString "zraise") F_zraise := by
  have nd : ([(Str.ofString "p"), (Str.ofString "many")] : List Str).Nodup := by decide +kernel
  have k_p : isVar (List.lookup (Str.ofString "p") (scopeAt 13).names) = true := by decide +kernel
  have s_p : isStore (List.lookup (Str.ofString "p") (scopeAt 13).names) = true := by decide +kernel
  have k_many : isVar (List.lookup (Str.ofString "many") (scopeAt 13).names) = true := by decide +kernel
  have s_many : isStore (List.lookup (Str.ofString "many") (scopeAt 13).names) = true := by decide +kernel
  have dc_many : ((Str.ofString "many") == ("__classdict__" : Str)) = false := by decide +kernel
  have dd_many : ((Str.ofString "many") == ("__debug__" : Str)) = false := by decide +kernel
  have dc_p : ((Str.ofString "p") == ("__classdict__" : Str)) = false := by decide +kernel
  have dd_p : ((Str.ofString "p") == ("__debug__" : Str)) = false := by decide +kernel
  refine HC.ofBody (n := 0) (ns := (scopeAt 13).names) (tab := [(Str.ofString "p"), (Str.ofString "many")]) (ps := [(Str.ofString "p"), (Str.ofString "many")]) (rest := []) (f := B_zraise) x.g (x.fn 13 (Str.ofString "zraise") (by decide +kernel)) rfl rfl rfl rfl rfl nd (by decide +kernel) (by decide +kernel) (fun pm code doc xs hx => ?_) ?_
  · obtain ⟨y0, y1, rfl⟩ := len2 hx; rfl
  · exact (HSs.cons (HS.ret (HE.ife (HT.toE (HT.cmp (HP.call1 x.g (by decide +kernel) x.len.1 x.len.2 rfl rfl HB.len (HP.var 0 rfl k_p dc_p dd_p)) HP.int rfl)) (HE.addL (HE.mulL (HE.list (HAs.cons (HP.toE HP.int) HAs.nil rfl)) (HP.toE (HP.var 1 rfl k_many dc_many dd_many))) (HE.callT x.g (by decide +kernel) x.list.1 x.list.2 rfl rfl HBE.list (HP.toE (HP.var 0 rfl k_p dc_p dd_p)))) (HE.list HAs.nil)))
    HSs.nil)
noncomputable def B_zmul : Nat → Loc → Hp → Option (Fl × Loc × Hp) :=
  (sCons (sIf (orTE [(liftT (cmpT .Eq (callP1 lenF (varF 0)) (intF 0))), (liftT (cmpT .Eq (callP1 lenF (varF 1)) (intF 0)))]) (sCons (sRet (dispE false asNil))
  sNil) sNil)
  (sCons (sAsg 2 (mulLE (dispE false (asCons (liftP (intF 0)) asNil)) (liftP (binF .Sub (binF .Add (callP1 lenF (varF 0)) (callP1 lenF (varF 1))) (intF 1)))))
  (sCons (sFor (gEnum (varF 0)) (fun src => step2 src 3 4) (sCons (sIf (liftT (cmpT .NotEq (varF 4) (intF 0))) (sCons (sFor (gEnum (varF 1)) (fun src => step2 src 5 6) (sCons (sAugSet (varF 2) (binF .Add (varF 3) (varF 5)) .Add (binF .Mult (varF 4) (varF 6)))
  sNil))
  sNil) sNil)
  sNil))
  (sCons (sRet (liftP (varF 2)))
  sNil))))
noncomputable def F_zmul : Nat → List V → Hp → Option (V × Hp) := mkF 2 7 B_zmul
set_option maxRecDepth 10000 in
set_option maxHeartbeats 2000000 in
theorem H_zmul (x : X mg mb h₀) : HC prog w h₀ mg 1 (Str.ofString "zmul") F_zmul := by
  have nd : ([(Str.ofString "a"), (Str.ofString "b"), (Str.ofString "found"), (Str.ofString "one"), (Str.ofString "left"), (Str.ofString "other"), (Str.ofString "right")] : List Str).Nodup := by decide +kernel
  have k_a : isVar (List.lookup (Str.ofString "a") (scopeAt 14).names) = true := by decide +kernel
  have s_a : isStore (List.lookup (Str.ofString "a") (scopeAt 14).names) = true := by decide +kernel
  have k_b : isVar (List.lookup (Str.ofString "b") (scopeAt 14).names) = true := by decide +kernel
  have s_b : isStore (List.lookup (Str.ofString "b") (scopeAt 14).names) = true := by decide +kernel
  have k_found : isVar (List.lookup (Str.ofString "found") (scopeAt 14).names) = true := by decide +kernel
  have s_found : isStore (List.lookup (Str.ofString "found") (scopeAt 14).names) = true := by decide +kernel
  have k_one : isVar (List.lookup (Str.ofString "one") (scopeAt 14).names) = true := by decide +kernel
  have s_one : isStore (List.lookup (Str.ofString "one") (scopeAt 14).names) = true := by decide +kernel
  have k_left : isVar (List.lookup (Str.ofString "left") (scopeAt 14).names) = true := by decide +kernel
  have s_left : isStore (List.lookup (Str.ofString "left") (scopeAt 14).names) = true := by decide +kernel
  have k_other : isVar (List.lookup (Str.ofString "other") (scopeAt 14).names) = true := by decide +kernel
  have s_other : isStore (List.lookup (Str.ofString "other") (scopeAt 14).names) = true := by decide +kernel
  have k_right : isVar (List.lookup (Str.ofString "right") (scopeAt 14).names) = true := by decide +kernel
  have s_right : isStore (List.lookup (Str.ofString "right") (scopeAt 14).names) = true := by decide +kernel
  have dc_a : ((Str.ofString "a") == ("__classdict__" : Str)) = false := by decide +kernel
  have dd_a : ((Str.ofString "a") == ("__debug__" : Str)) = false := by decide +kernel
  have dc_b : ((Str.ofString "b") == ("__classdict__" : Str)) = false := by decide +kernel
  have dd_b : ((Str.ofString "b") == ("__debug__" : Str)) = false := by decide +kernel
  have dc_found : ((Str.ofString "found") == ("__classdict__" : Str)) = false := by decide +kernel
  have dd_found : ((Str.ofString "found") == ("__debug__" : Str)) = false := by decide +kernel
  have dc_left : ((Str.ofString "left") == ("__classdict__" : Str)) = false := by decide +kernel
  have dd_left : ((Str.ofString "left") == ("__debug__" : Str)) = false := by decide +kernel
  have dc_one : ((Str.ofString "one") == ("__classdict__" : Str)) = false := by decide +kernel
  have dd_one : ((Str.ofString "one") == ("__debug__" : Str)) = false := by decide +kernel
  have dc_other : ((Str.ofString "other") == ("__classdict__" : Str)) = false := by decide +kernel
  have dd_other : ((Str.ofString "other") == ("__debug__" : Str)) = false := by decide +kernel
  have dc_right : ((Str.ofString "right") == ("__classdict__" : Str)) = false := by decide +kernel
  have dd_right : ((Str.ofString "right") == ("__debug__" : Str)) = false := by decide +kernel
  refine HC.ofBody (n := 0) (ns := (scopeAt 14).names) (tab := [(Str.ofString "a"), (Str.ofString "b"), (Str.ofString "found"), (Str.ofString "one"), (Str.ofString "left"), (Str.ofString "other"), (Str.ofString "right")]) (ps := [(Str.ofString "a"), (Str.ofString "b")]) (rest := [(Str.ofString "found"), (Str.ofString "one"), (Str.ofString "left"), (Str.ofString "other"), (Str.ofString "right")]) (f := B_zmul) x.g (x.fn 14 (Str.ofString "zmul") (by decide +kernel)) rfl rfl rfl rfl rfl nd (by decide +kernel) (by decide +kernel) (fun pm code doc xs hx => ?_) ?_
  · obtain ⟨y0, y1, rfl⟩ := len2 hx; rfl
  · exact (HSs.cons (HS.ite (HTE.or (.cons (HT.toE (HT.cmp (HP.call1 x.g (by decide +kernel) x.len.1 x.len.2 rfl rfl HB.len (HP.var 0 rfl k_a dc_a dd_a)) HP.int rfl)) (.cons (HT.toE (HT.cmp (HP.call1 x.g (by decide +kernel) x.len.1 x.len.2 rfl rfl HB.len (HP.var 1 rfl k_b dc_b dd_b)) HP.int rfl)) .nil))) (HSs.cons (HS.ret (HE.list HAs.nil))
    HSs.nil) HSs.nil)
    (HSs.cons (HS.asg 2 rfl s_found nd (by exact env_elim fun _ _ _ _ _ _ _ _ _ _ _ => rfl) (HE.mulL (HE.list (HAs.cons (HP.toE HP.int) HAs.nil rfl)) (HP.toE (HP.bin (HP.bin (HP.call1 x.g (by decide +kernel) x.len.1 x.len.2 rfl rfl HB.len (HP.var 0 rfl k_a dc_a dd_a)) (HP.call1 x.g (by decide +kernel) x.len.1 x.len.2 rfl rfl HB.len (HP.var 1 rfl k_b dc_b dd_b))) HP.int))))
    (HSs.cons (HS.for (HI.enum x.g (by decide +kernel) x.enumerate.1 x.enumerate.2 rfl rfl (HP.var 0 rfl k_a dc_a dd_a)) (fun _ he _ => turn2 he (by decide +kernel) 3 4 (.cons rfl s_one (.cons rfl s_left .nil)) nd) (HSs.cons (HS.ite (HT.toE (HT.cmp (HP.var 4 rfl k_left dc_left dd_left) HP.int rfl)) (HSs.cons (HS.for (HI.enum x.g (by decide +kernel) x.enumerate.1 x.enumerate.2 rfl rfl (HP.var 1 rfl k_b dc_b dd_b)) (fun _ he _ => turn2 he (by decide +kernel) 5 6 (.cons rfl s_other (.cons rfl s_right .nil)) nd) (HSs.cons (HS.augSet (HP.var 2 rfl k_found dc_found dd_found) (HP.bin (HP.var 3 rfl k_one dc_one dd_one) (HP.var 5 rfl k_other dc_other dd_other)) (HP.bin (HP.var 4 rfl k_left dc_left dd_left) (HP.var 6 rfl k_right dc_right dd_right)) (by exact fun _ _ _ => rfl))
    HSs.nil) (by exact fun _ _ => rfl))
    HSs.nil) HSs.nil)
    HSs.nil) (by exact fun _ _ => rfl))
    (HSs.cons (HS.ret (HP.toE (HP.var 2 rfl k_found dc_found dd_found)))
    HSs.nil))))
end
end Mine
namespace Mine

noncomputable def getI (σ : Hp) (v : V) : Option (List Int) := match getList σ v with
  | some its => allInts its
  | .none => .none
noncomputable def newL (σ : Hp) (l : List Int) : Option (V × Hp) := some (.ref σ.length, σ ++ [⟨false, l.map .int⟩])

theorem allInts_eq : ∀ {its : List V} {l : List Int}, allInts its = some l → its = l.map .int
  | [], l, e => by cases e; rfl
  | v :: r, l, e => by
    cases v <;> simp only [allInts] at e <;> try (cases e)
    split at e
    · rename_i l' e'; cases e; rw [allInts_eq e']; rfl
    · cases e
theorem allInts_map (l : List Int) : allInts (l.map .int) = some l := by
  induction l with
  | nil => rfl
  | cons a r ih => simp [allInts, ih]
theorem flat_map (l : List Int) : flat (l.map .int) = true := by
  induction l with
  | nil => rfl
  | cons a r ih => simpa [flat] using ih
theorem nth_app {α : Type} {σ τ : List α} {k : Nat} {o : α} (h : nth σ k = some o) : nth (σ ++ τ) k = some o := by
  rw [nth_eq] at h ⊢
  rw [List.getElem?_append_left (List.getElem?_eq_some_iff.mp h).1]; exact h
theorem nth_top {α : Type} {σ τ : List α} {o : α} : nth (σ ++ o :: τ) σ.length = some o := by
  rw [nth_eq, List.getElem?_append_right (Nat.le_refl _)]; simp
theorem getI_ref {σ : Hp} {v : V} {l : List Int} (h : getI σ v = some l) : ∃ k, v = .ref k ∧ nth σ k = some ⟨false, l.map .int⟩ ∧ k < σ.length := by
  unfold getI at h
  split at h
  · rename_i its e
    cases v <;> simp only [getList] at e <;> try (cases e)
    rename_i k
    split at e
    · rename_i its' eo
      cases e
      refine ⟨k, rfl, by rw [allInts_eq h] at eo; exact eo, ?_⟩
      rw [nth_eq] at eo
      exact (List.getElem?_eq_some_iff.mp eo).1
    · cases e
  · cases h
theorem collapse_new {σ σ' : Hp} {k : Nat} {l : List Int} (hk : σ.length ≤ k) (h : nth σ' k = some ⟨false, l.map .int⟩) : collapse σ (some (.ref k, σ')) = newL σ l := by
  have h1 : ¬ k < σ.length := Nat.not_lt.mpr hk
  simp [collapse, newL, h, h1, flat_map]

theorem compGo_lst {σ : Hp} {id : Nat} {its : List V} (h : nth σ id = some ⟨false, its⟩) {f : Loc → Hp → Option V} {g : V → V} {rest : Loc} (hf : ∀ v ∈ its, f (some v :: rest) σ = some (g v)) :
    ∀ (m k i : Nat) (o : Option V), its.length - i = m → m < k → i ≤ its.length → compGo (step1 (.lst id) 0) noTest f σ k i (o :: rest) = some ((its.drop i).map g)
  | m, 0, i, o, _, hk, _ => absurd hk (Nat.not_lt_zero _)
  | 0, k + 1, i, o, hm, hk, hi => by
    have : i = its.length := by omega
    subst this
    have e : nth its its.length = none := by rw [nth_eq]; simp
    simp [compGo, step1, h, e]
  | m + 1, k + 1, i, o, hm, hk, hi => by
    have hlt : i < its.length := by omega
    have e : nth its i = some its[i] := by rw [nth_eq]; exact List.getElem?_eq_getElem hlt
    have ih := compGo_lst h hf m k (i + 1) (some its[i]) (by omega) (by omega) (by omega)
    rw [List.drop_eq_getElem_cons hlt]
    simp only [compGo, step1, h, e, put, setN, noTest, hf _ (List.getElem_mem hlt), ih, List.map_cons]

theorem gList_var {n0 : Nat} {ρ : Loc} {σ : Hp} {j k : Nat} {its : List V} (h1 : look ρ j = some (.ref k)) (h2 : nth σ k = some ⟨false, its⟩) : gList (liftP (varF j)) n0 ρ σ = some (.lst k, σ) := by
  simp [gList, liftP, varF, h1, h2]
theorem lenF_var {ρ : Loc} {σ : Hp} {j k : Nat} {its : List V} (h1 : look ρ j = some (.ref k)) (h2 : nth σ k = some ⟨false, its⟩) (h3 : its.length ≤ 2000) : callP1 lenF (varF j) ρ σ = some (.int its.length) := by
  have : its.length < 2 ^ 62 := by omega
  simp [callP1, lenF, varF, h1, getList, h2, this]
noncomputable def negL : List Int → List Int
  | [] => []
  | a :: r => (-a) :: negL r
theorem negL_eq (l : List Int) : (negL l).map V.int = (l.map V.int).map fun v => match v with | .int a => .int (-a) | v => v := by
  induction l with
  | nil => rfl
  | cons a r ih => simp [negL, ih]
noncomputable def P_zneg (_ : Nat) (vs : List V) (σ : Hp) : Option (V × Hp) := match vs with
  | [a] => match getI σ a with
    | some A => if Nat.ble A.length 900 then newL σ (negL A) else .none
    | .none => .none
  | _ => .none
theorem P_zneg_ok {n0 : Nat} {vs : List V} {σ : Hp} {r : V × Hp} (e : P_zneg n0 vs σ = some r) : collapse σ (F_zneg σ.length vs σ) = some r := by
  unfold P_zneg at e
  split at e
  case h_2 => cases e
  rename_i a
  split at e
  case h_2 => cases e
  rename_i A eA
  split at e
  case isFalse => cases e
  rename_i hlen
  have hlen := Nat.le_of_ble_eq_true hlen
  obtain ⟨k, rfl, hk, hkl⟩ := getI_ref eA
  have hc := compGo_lst (f := negF (varF 0)) (g := fun v => match v with | .int a => .int (-a) | v => v) (rest := []) hk (fun v hv => by
    obtain ⟨i, _, rfl⟩ := List.mem_map.mp hv
    rfl) A.length 1000 0 none (by simp) (by omega) (Nat.zero_le _)
  have hF : F_zneg σ.length [.ref k] σ = some (.ref σ.length, σ ++ [⟨false, (negL A).map .int⟩]) := by
    have : compE (gList (liftP (varF 0))) (fun src => step1 src 0) noTest (negF (varF 0)) 1 [] σ.length (initLoc [.ref k] 1) σ = some (.ref σ.length, σ ++ [⟨false, (negL A).map .int⟩]) := by
      unfold compE
      have e1 : gList (liftP (varF 0)) σ.length (initLoc [.ref k] 1) σ = some (.lst k, σ) := gList_var rfl hk
      rw [e1]
      have e2 : compGo (step1 (.lst k) 0) noTest (negF (varF 0)) σ 1000 0 (compLoc 1 [] (initLoc [.ref k] 1)) = some ((negL A).map .int) := by
        rw [negL_eq]; exact hc
      simp only [e2]
    unfold F_zneg mkF runDef B_zneg sCons sRet
    simp [this]
  rw [hF, collapse_new (Nat.le_refl _) nth_top]
  exact e

-- zscale
noncomputable def scaleL (k : Int) : List Int → List Int
  | [] => []
  | a :: r => (a * k) :: scaleL k r
noncomputable def smallAll : List Int → Bool
  | [] => true
  | a :: r => if Nat.ble a.natAbs 4611686018427387903 then smallAll r else false
theorem smallAll_mem : ∀ {l : List Int}, smallAll l = true → ∀ a ∈ l, a.natAbs < 2 ^ 62
  | [], _, a, h => by cases h
  | b :: r, e, a, h => by
    unfold smallAll at e
    split at e
    · rename_i hb
      rcases List.mem_cons.mp h with rfl | h
      · have := Nat.le_of_ble_eq_true hb; omega
      · exact smallAll_mem e a h
    · cases e
theorem scaleL_eq (k : Int) (l : List Int) : (scaleL k l).map V.int = (l.map V.int).map fun v => match v with | .int a => .int (a * k) | v => v := by
  induction l with
  | nil => rfl
  | cons a r ih => simp [scaleL, ih]
noncomputable def P_zscale (_ : Nat) (vs : List V) (σ : Hp) : Option (V × Hp) := match vs with
  | [a, .int k] => match getI σ a with
    | some A => if Nat.ble A.length 900 then if k == 0 then newL σ [] else if smallAll A then newL σ (scaleL k A) else .none else .none
    | .none => .none
  | _ => .none
theorem P_zscale_ok {n0 : Nat} {vs : List V} {σ : Hp} {r : V × Hp} (e : P_zscale n0 vs σ = some r) : collapse σ (F_zscale σ.length vs σ) = some r := by
  unfold P_zscale at e
  split at e
  case h_2 => cases e
  rename_i a m
  split at e
  case h_2 => cases e
  rename_i A eA
  split at e
  case isFalse => cases e
  rename_i hlen
  have hlen := Nat.le_of_ble_eq_true hlen
  obtain ⟨k, rfl, hk, hkl⟩ := getI_ref eA
  split at e
  · rename_i hz
    have hz : m = 0 := by simpa using hz
    subst hz
    have hF : F_zscale σ.length [.ref k, .int 0] σ = some (.ref σ.length, σ ++ [⟨false, ([] : List Int).map .int⟩]) := by
      simp [F_zscale, mkF, runDef, B_zscale, sCons, sRet, ifE, liftT, cmpT, varF, intF, cmpF, dispE, asNil, look, nth, initLoc]
    rw [hF, collapse_new (Nat.le_refl _) nth_top]
    exact e
  · rename_i hz
    have hz : m ≠ 0 := by simpa using hz
    split at e
    case isFalse => cases e
    rename_i hs
    have hs := smallAll_mem hs
    have hc := compGo_lst (f := binF .Mult (varF 0) (varF 1)) (g := fun v => match v with | .int a => .int (a * m) | v => v) (rest := [some (.int m)]) hk (fun v hv => by
      obtain ⟨i, hi, rfl⟩ := List.mem_map.mp hv
      have := hs i hi
      simp [binF, varF, look, nth, arF, this]) A.length 1000 0 none (by simp) (by omega) (Nat.zero_le _)
    have e1 : gList (liftP (varF 0)) σ.length (initLoc [.ref k, .int m] 2) σ = some (.lst k, σ) := gList_var rfl hk
    have e2 : compGo (step1 (.lst k) 0) noTest (binF .Mult (varF 0) (varF 1)) σ 1000 0 (compLoc 1 [1] (initLoc [.ref k, .int m] 2)) = some ((scaleL m A).map .int) := by
      rw [scaleL_eq]; exact hc
    have e3 : compE (gList (liftP (varF 0))) (fun src => step1 src 0) noTest (binF .Mult (varF 0) (varF 1)) 1 [1] σ.length (initLoc [.ref k, .int m] 2) σ = some (.ref σ.length, σ ++ [⟨false, (scaleL m A).map .int⟩]) := by
      unfold compE; rw [e1]; simp only [e2]
    have e4 : liftT (cmpT .NotEq (varF 1) (intF 0)) σ.length (initLoc [.ref k, .int m] 2) σ = some (true, σ) := by
      simp [liftT, cmpT, varF, intF, cmpF, look, nth, initLoc, hz]
    have hF : F_zscale σ.length [.ref k, .int m] σ = some (.ref σ.length, σ ++ [⟨false, (scaleL m A).map .int⟩]) := by
      unfold F_zscale mkF runDef B_zscale sCons sRet ifE
      simp [e3, e4]
    rw [hF, collapse_new (Nat.le_refl _) nth_top]
    exact e

-- zraise
noncomputable def zerosL (A : List Int) : Nat → List Int
  | 0 => A
  | k + 1 => 0 :: zerosL A k
theorem repL_one (v : V) : ∀ k, repL [v] k = List.replicate k v
  | 0 => rfl
  | k + 1 => by simp [repL, repL_one v k, List.replicate_succ]
theorem zerosL_eq (A : List Int) : ∀ k, (zerosL A k).map V.int = List.replicate k (V.int 0) ++ A.map V.int
  | 0 => by simp [zerosL]
  | k + 1 => by simp [zerosL, zerosL_eq A k, List.replicate_succ]
noncomputable def P_zraise (_ : Nat) (vs : List V) (σ : Hp) : Option (V × Hp) := match vs with
  | [a, .int (.ofNat k)] => match getI σ a with
    | some [] => newL σ []
    | some A => if Nat.ble A.length 900 then if Nat.ble k 900 then newL σ (zerosL A k) else .none else .none
    | .none => .none
  | _ => .none
theorem P_zraise_ok {n0 : Nat} {vs : List V} {σ : Hp} {r : V × Hp} (e : P_zraise n0 vs σ = some r) : collapse σ (F_zraise σ.length vs σ) = some r := by
  unfold P_zraise at e
  split at e
  case h_2 => cases e
  rename_i a m
  show collapse σ (F_zraise σ.length [a, .int (m : Int)] σ) = some r
  split at e
  · rename_i eA
    obtain ⟨k, rfl, hk, hkl⟩ := getI_ref eA
    have e4 : liftT (cmpT .Gt (callP1 lenF (varF 0)) (intF 0)) σ.length (initLoc [.ref k, .int (m : Int)] 2) σ = some (false, σ) := by
      have := lenF_var (ρ := initLoc [.ref k, .int (m : Int)] 2) (j := 0) rfl hk (by simp)
      simp [liftT, cmpT, this, intF, cmpF]
    have hF : F_zraise σ.length [.ref k, .int (m : Int)] σ = some (.ref σ.length, σ ++ [⟨false, ([] : List Int).map .int⟩]) := by
      unfold F_zraise mkF runDef B_zraise sCons sRet ifE
      simp [e4, dispE, asNil]
    rw [hF, collapse_new (Nat.le_refl _) nth_top]
    exact e
  · rename_i A hne eA
    split at e
    case isFalse => cases e
    rename_i hlen
    have hlen := Nat.le_of_ble_eq_true hlen
    split at e
    case isFalse => cases e
    rename_i hm
    have hm := Nat.le_of_ble_eq_true hm
    obtain ⟨k, rfl, hk, hkl⟩ := getI_ref eA
    have hpos : 0 < A.length := by
      cases A with
      | nil => exact absurd rfl (hne)
      | cons _ _ => simp
    have e4 : liftT (cmpT .Gt (callP1 lenF (varF 0)) (intF 0)) σ.length (initLoc [.ref k, .int (m : Int)] 2) σ = some (true, σ) := by
      have := lenF_var (ρ := initLoc [.ref k, .int (m : Int)] 2) (j := 0) rfl hk (by simp; omega)
      simp [liftT, cmpT, this, intF, cmpF]
      omega
    have e5 : dispE false (asCons (liftP (intF 0)) asNil) σ.length (initLoc [.ref k, .int (m : Int)] 2) σ = some (.ref σ.length, σ ++ [⟨false, [.int 0]⟩]) := by
      simp [dispE, asCons, liftP, intF, asNil]
    have e6 : mulLE (dispE false (asCons (liftP (intF 0)) asNil)) (liftP (varF 1)) σ.length (initLoc [.ref k, .int (m : Int)] 2) σ = some (.ref (σ.length + 1), σ ++ [⟨false, [.int 0]⟩, ⟨false, List.replicate m (.int 0)⟩]) := by
      unfold mulLE
      rw [e5]
      have h1 : nth (σ ++ [⟨false, [V.int 0]⟩]) σ.length = some ⟨false, [V.int 0]⟩ := nth_top
      have h2 : (m : Int) ≤ 1000 := by omega
      have h3 : (-1000 : Int) ≤ (m : Int) := by omega
      simp [liftP, varF, look, nth, initLoc, getList, h1, h2, h3, repL_one]
    have hk2 : nth (σ ++ [⟨false, [.int 0]⟩, ⟨false, List.replicate m (.int 0)⟩]) k = some ⟨false, A.map .int⟩ := nth_app hk
    have e7 : callE1 listF (liftP (varF 0)) σ.length (initLoc [.ref k, .int (m : Int)] 2) (σ ++ [⟨false, [.int 0]⟩, ⟨false, List.replicate m (.int 0)⟩]) = some (.ref (σ.length + 2), σ ++ [⟨false, [.int 0]⟩, ⟨false, List.replicate m (.int 0)⟩, ⟨false, A.map .int⟩]) := by
      have h2 : A.length ≤ 1000 := by omega
      simp [callE1, liftP, varF, look, nth, initLoc, listF, getList, hk2, h2]
    have e8 : addLE (mulLE (dispE false (asCons (liftP (intF 0)) asNil)) (liftP (varF 1))) (callE1 listF (liftP (varF 0))) σ.length (initLoc [.ref k, .int (m : Int)] 2) σ = some (.ref (σ.length + 3), σ ++ [⟨false, [.int 0]⟩, ⟨false, List.replicate m (.int 0)⟩, ⟨false, A.map .int⟩, ⟨false, (zerosL A m).map .int⟩]) := by
      unfold addLE
      rw [e6]
      simp only [e7]
      have h1 : nth (σ ++ [⟨false, [V.int 0]⟩, ⟨false, List.replicate m (.int 0)⟩, ⟨false, A.map .int⟩]) (σ.length + 1) = some ⟨false, List.replicate m (.int 0)⟩ := by
        have := nth_top (σ := σ ++ [⟨false, [V.int 0]⟩]) (τ := [⟨false, A.map V.int⟩]) (o := (⟨false, List.replicate m (V.int 0)⟩ : O))
        simpa using this
      have h2 : nth (σ ++ [⟨false, [V.int 0]⟩, ⟨false, List.replicate m (.int 0)⟩, ⟨false, A.map .int⟩]) (σ.length + 2) = some ⟨false, A.map .int⟩ := by
        have := nth_top (σ := σ ++ [⟨false, [V.int 0]⟩, ⟨false, List.replicate m (V.int 0)⟩]) (τ := []) (o := (⟨false, A.map V.int⟩ : O))
        simpa using this
      have h3 : m ≤ 1000 := by omega
      have h4 : A.length ≤ 1000 := by omega
      simp [getList, h1, h2, h3, h4, zerosL_eq]
    have hF : F_zraise σ.length [.ref k, .int (m : Int)] σ = some (.ref (σ.length + 3), σ ++ [⟨false, [.int 0]⟩, ⟨false, List.replicate m (.int 0)⟩, ⟨false, A.map .int⟩, ⟨false, (zerosL A m).map .int⟩]) := by
      unfold F_zraise mkF runDef B_zraise sCons sRet ifE
      simp [e4, e8]
    rw [hF, collapse_new (by omega) (l := zerosL A m) (by
      have := nth_top (σ := σ ++ [⟨false, [V.int 0]⟩, ⟨false, List.replicate m (V.int 0)⟩, ⟨false, A.map V.int⟩]) (τ := []) (o := (⟨false, (zerosL A m).map V.int⟩ : O))
      simpa using this)]
    exact e
  · cases e

-- ztrim
noncomputable def trimL : List Int → List Int
  | [] => []
  | a :: r => match trimL r with
    | [] => if a == 0 then [] else [a]
    | t => a :: t
theorem trimL_len : ∀ l : List Int, (trimL l).length ≤ l.length
  | [] => Nat.le_refl _
  | a :: r => by
    have := trimL_len r
    unfold trimL
    split
    · split <;> simp
    · rename_i h; simp; omega
theorem trimL_take : ∀ l : List Int, trimL l = l.take (trimL l).length
  | [] => rfl
  | a :: r => by
    have ih := trimL_take r
    unfold trimL
    split
    · split <;> simp
    · simp; exact ih
theorem trimL_zero : ∀ (l : List Int) (i : Nat), (trimL l).length ≤ i → i < l.length → l[i]? = some 0
  | [], i, _, h => by simp at h
  | a :: r, i, h1, h2 => by
    unfold trimL at h1
    split at h1
    · rename_i e
      split at h1
      · rename_i ha
        have ha : a = 0 := by simpa using ha
        subst ha
        cases i with
        | zero => rfl
        | succ i => simpa using trimL_zero r i (by rw [e]; simp) (by simpa using h2)
      · cases i with
        | zero => simp at h1
        | succ i => simpa using trimL_zero r i (by rw [e]; simp) (by simpa using h2)
    · cases i with
      | zero => simp at h1
      | succ i => simpa using trimL_zero r i (by simpa using h1) (by simpa using h2)
theorem trimL_last : ∀ (l : List Int) (n : Nat), (trimL l).length = n + 1 → ∃ x, l[n]? = some x ∧ x ≠ 0
  | [], n, h => by simp [trimL] at h
  | a :: r, n, h => by
    unfold trimL at h
    split at h
    · split at h
      · simp at h
      · rename_i ha
        simp at h
        subst h
        exact ⟨a, rfl, by simpa using ha⟩
    · rename_i hne
      simp at h
      cases n with
      | zero =>
        exact absurd (List.length_eq_zero_iff.mp h) hne
      | succ n =>
        obtain ⟨x, e, hx⟩ := trimL_last r n h
        exact ⟨x, by simpa using e, hx⟩
theorem trim_while {σ : Hp} {k : Nat} {A : List Int} {n0 : Nat} (hk : nth σ k = some ⟨false, A.map .int⟩) (hlen : A.length ≤ 900) : ∀ (d i fuel : Nat), i = (trimL A).length + d → i ≤ A.length → d < fuel →
    whileGo (liftT (andT (cmpT .Gt (varF 1) (intF 0)) (cmpT .Eq (subP (varF 0) (binF .Sub (varF 1) (intF 1))) (intF 0)))) (sCons (sAug 1 .Sub (intF 1)) sNil) n0 fuel [some (.ref k), some (.int i)] σ =
      some (.next, [some (.ref k), some (.int (trimL A).length)], σ)
  | _, _, 0, _, _, h => absurd h (Nat.not_lt_zero _)
  | 0, i, fuel + 1, hi, hle, _ => by
    have hi : i = (trimL A).length := by omega
    subst hi
    have ht : liftT (andT (cmpT .Gt (varF 1) (intF 0)) (cmpT .Eq (subP (varF 0) (binF .Sub (varF 1) (intF 1))) (intF 0))) n0 [some (.ref k), some (.int (trimL A).length)] σ = some (false, σ) := by
      cases hn : (trimL A).length with
      | zero => simp [liftT, andT, cmpT, varF, intF, cmpF, look, nth]
      | succ m =>
        obtain ⟨x, ex, hx⟩ := trimL_last A m hn
        have e1 : nth (A.map V.int) m = some (.int x) := by rw [nth_eq, List.getElem?_map, ex]; rfl
        have h2 : ((m : Int) < 4611686018427387904) := by omega
        have h3 : (0 : Int) < (m : Int) + 1 := by omega
        have h4 : ¬ ((m : Int) < 0) := by omega
        simp [liftT, andT, cmpT, varF, intF, cmpF, look, nth, subP, binF, arF, subVal, hk, itemF, h2, h3, h4, e1, hx]
    simp only [whileGo, ht]
  | d + 1, i, fuel + 1, hi, hle, hf => by
    have hpos : 0 < i := by omega
    have hz := trimL_zero A (i - 1) (by omega) (by omega)
    have e1 : nth (A.map V.int) (i - 1) = some (.int 0) := by rw [nth_eq, List.getElem?_map, hz]; rfl
    have ht : liftT (andT (cmpT .Gt (varF 1) (intF 0)) (cmpT .Eq (subP (varF 0) (binF .Sub (varF 1) (intF 1))) (intF 0))) n0 [some (.ref k), some (.int i)] σ = some (true, σ) := by
      have h1 : ¬ ((i : Int) - 1 < 0) := by omega
      have h2 : ((i : Int) - 1 < 4611686018427387904) := by omega
      have h3 : ((i : Int) - 1).toNat = i - 1 := by omega
      simp [liftT, andT, cmpT, varF, intF, cmpF, look, nth, subP, binF, arF, subVal, hk, itemF, h1, h2, h3, hpos, e1]
    have hb : sCons (sAug 1 .Sub (intF 1)) sNil n0 [some (.ref k), some (.int i)] σ = some (.next, [some (.ref k), some (.int (i - 1 : Nat))], σ) := by
      have h5 : (i : Int) - 1 = ((i - 1 : Nat) : Int) := by omega
      simp [sCons, sAug, sNil, look, nth, intF, iopF, put, setN, h5]
    have ih := trim_while hk hlen d (i - 1) fuel (by omega) (by omega) (by omega) (n0 := n0)
    simp only [whileGo, ht, hb, ih]
noncomputable def P_ztrim (_ : Nat) (vs : List V) (σ : Hp) : Option (V × Hp) := match vs with
  | [a] => match getI σ a with
    | some A => if Nat.ble A.length 900 then newL σ (trimL A) else .none
    | .none => .none
  | _ => .none
theorem P_ztrim_ok {n0 : Nat} {vs : List V} {σ : Hp} {r : V × Hp} (e : P_ztrim n0 vs σ = some r) : collapse σ (F_ztrim σ.length vs σ) = some r := by
  unfold P_ztrim at e
  split at e
  case h_2 => cases e
  rename_i a
  split at e
  case h_2 => cases e
  rename_i A eA
  split at e
  case isFalse => cases e
  rename_i hlen
  have hlen := Nat.le_of_ble_eq_true hlen
  obtain ⟨k, rfl, hk, hkl⟩ := getI_ref eA
  have hle := trimL_len A
  have e1 : sAsg 1 (liftP (callP1 lenF (varF 0))) σ.length (initLoc [.ref k] 2) σ = some (.next, [some (.ref k), some (.int A.length)], σ) := by
    have := lenF_var (ρ := [some (.ref k), none]) (j := 0) rfl hk (by simp; omega)
    show sAsg 1 (liftP (callP1 lenF (varF 0))) σ.length [some (.ref k), none] σ = _
    simp [sAsg, liftP, this, put, setN]
  have e2 : sWhile (liftT (andT (cmpT .Gt (varF 1) (intF 0)) (cmpT .Eq (subP (varF 0) (binF .Sub (varF 1) (intF 1))) (intF 0)))) (sCons (sAug 1 .Sub (intF 1)) sNil) σ.length [some (.ref k), some (.int A.length)] σ = some (.next, [some (.ref k), some (.int (trimL A).length)], σ) :=
    trim_while hk hlen (A.length - (trimL A).length) A.length 1000 (by omega) (Nat.le_refl _) (by omega)
  have e3 : sRet (callE1 listF (takeE (varF 0) (varF 1))) σ.length [some (.ref k), some (.int (trimL A).length)] σ = some (.ret (.ref (σ.length + 1)), [some (.ref k), some (.int (trimL A).length)], σ ++ [⟨false, (trimL A).map .int⟩, ⟨false, (trimL A).map .int⟩]) := by
    have h1 : A.length ≤ 1000 := by omega
    have h2 : (trimL A).length ≤ 1000 := by omega
    have h3 : (A.map V.int).take (trimL A).length = (trimL A).map V.int := by rw [← List.map_take, ← trimL_take]
    have h4 : nth (σ ++ [⟨false, (trimL A).map V.int⟩]) σ.length = some ⟨false, (trimL A).map V.int⟩ := nth_top
    simp [sRet, callE1, listF, takeE, varF, look, nth, getList, hk, h1, h2, h3, h4]
  have hF : F_ztrim σ.length [.ref k] σ = some (.ref (σ.length + 1), σ ++ [⟨false, (trimL A).map .int⟩, ⟨false, (trimL A).map .int⟩]) := by
    unfold F_ztrim mkF runDef B_ztrim
    simp [sCons, e1, e2, e3]
  rw [hF, collapse_new (by omega) (l := trimL A) (by
    have := nth_top (σ := σ ++ [⟨false, (trimL A).map V.int⟩]) (τ := []) (o := (⟨false, (trimL A).map V.int⟩ : O))
    simpa using this)]
  exact e
end Mine
namespace Mine
theorem mkF_of {np m : Nat} {f : Nat → Loc → Hp → Option (Fl × Loc × Hp)} {n0 : Nat} {vs : List V} {σ : Hp} (h : vs.length = np) : mkF np m f n0 vs σ = runDef m f n0 vs σ := by
  simp [mkF, h]
-- zadd
noncomputable def addL : List Int → List Int → List Int
  | [], B => B
  | a :: A, [] => a :: A
  | a :: A, b :: B => (a + b) :: addL A B
theorem addL_len : ∀ A B : List Int, (addL A B).length = max A.length B.length
  | [], B => by simp [addL]
  | a :: A, [] => by simp [addL]
  | a :: A, b :: B => by simp [addL, addL_len A B]
theorem addL_get : ∀ (A B : List Int) (i : Nat) (v : Int), (addL A B)[i]? = some v → v = A[i]?.getD 0 + B[i]?.getD 0
  | [], B, i, v, h => by simp [addL] at h; simp [h]
  | a :: A, [], i, v, h => by simp [addL] at h; simp [h]
  | a :: A, b :: B, 0, v, h => by simp [addL] at h; simp [h]
  | a :: A, b :: B, i + 1, v, h => by simp [addL] at h; simpa using addL_get A B i v h
theorem compGo_rng {σ : Hp} {len : Nat} {L : List V} {f : Loc → Hp → Option V} {rest : Loc} (hL : L.length = len) (hf : ∀ (i : Nat) v, L[i]? = some v → f (some (.int (i : Int)) :: rest) σ = some v) :
    ∀ (m k i : Nat) (o : Option V), len - i = m → m < k → i ≤ len → compGo (step1 (.rng 0 len) 0) noTest f σ k i (o :: rest) = some (L.drop i)
  | m, 0, i, o, _, hk, _ => absurd hk (Nat.not_lt_zero _)
  | 0, k + 1, i, o, hm, hk, hi => by
    have : i = len := by omega
    subst this
    subst hL
    simp [compGo, step1]
  | m + 1, k + 1, i, o, hm, hk, hi => by
    have hlt : i < L.length := by omega
    have hlt' : i < len := by omega
    have e := hf i L[i] (List.getElem?_eq_getElem hlt)
    have ih := compGo_rng hL hf m k (i + 1) (some (.int (i : Int))) (by omega) (by omega) (by omega)
    rw [List.drop_eq_getElem_cons hlt]
    simp [compGo, step1, hlt', put, setN, noTest, e, ih]
noncomputable def P_zadd (_ : Nat) (vs : List V) (σ : Hp) : Option (V × Hp) := match vs with
  | [a, b] => match getI σ a with
    | some A => match getI σ b with
      | some B => if Nat.ble A.length 900 then if Nat.ble B.length 900 then newL σ (trimL (addL A B)) else .none else .none
      | .none => .none
    | .none => .none
  | _ => .none
theorem pick_ok {ρ : Loc} {σ : Hp} {k i j l : Nat} {A : List Int} (hlen : A.length ≤ 900) (hk : nth σ k = some ⟨false, A.map .int⟩) (h1 : look ρ j = some (.int (i : Int))) (h2 : look ρ l = some (.ref k)) (hi : i < 2000) :
    ifP (cmpT .Lt (varF j) (callP1 lenF (varF l))) (subP (varF l) (varF j)) (intF 0) ρ σ = some (.int (A[i]?.getD 0)) := by
  have e := lenF_var h2 hk (by simp; omega)
  by_cases h : i < A.length
  · have e1 : nth (A.map V.int) i = some (.int A[i]) := by rw [nth_eq, List.getElem?_map, List.getElem?_eq_getElem h]; rfl
    have h3 : ¬ ((i : Int) < 0) := by omega
    have h4 : (i : Int) < 4611686018427387904 := by omega
    have h5 : (i : Int) < (A.length : Int) := by omega
    simp [ifP, cmpT, e, h1, h2, varF, cmpF, subP, subVal, hk, itemF, h3, h4, h5, e1, h]
  · have h5 : ¬ (i : Int) < (A.length : Int) := by omega
    have h6 : A.length ≤ i := by omega
    simp [ifP, cmpT, e, h1, varF, cmpF, h5, intF, List.getElem?_eq_none h6]
theorem P_zadd_ok {n0 : Nat} {vs : List V} {σ : Hp} {r : V × Hp} (e : P_zadd n0 vs σ = some r) : collapse σ (F_zadd σ.length vs σ) = some r := by
  unfold P_zadd at e
  split at e
  case h_2 => cases e
  rename_i a b
  split at e
  case h_2 => cases e
  rename_i A eA
  split at e
  case h_2 => cases e
  rename_i B eB
  split at e
  case isFalse => cases e
  rename_i hA
  have hA := Nat.le_of_ble_eq_true hA
  split at e
  case isFalse => cases e
  rename_i hB
  have hB := Nat.le_of_ble_eq_true hB
  obtain ⟨ka, rfl, hka, hkal⟩ := getI_ref eA
  obtain ⟨kb, rfl, hkb, hkbl⟩ := getI_ref eB
  have hmax : max A.length B.length ≤ 900 := by omega
  have la := lenF_var (ρ := [some (.ref ka), some (.ref kb), none]) (j := 0) rfl hka (by simp; omega)
  have lb := lenF_var (ρ := [some (.ref ka), some (.ref kb), none]) (j := 1) rfl hkb (by simp; omega)
  have e1 : sAsg 2 (liftP (max2P (callP1 lenF (varF 0)) (callP1 lenF (varF 1)))) σ.length [some (.ref ka), some (.ref kb), none] σ = some (.next, [some (.ref ka), some (.ref kb), some (.int (max A.length B.length : Nat))], σ) := by
    have : (if A.length < B.length then (B.length : Int) else A.length) = ((max A.length B.length : Nat) : Int) := by
      split <;> omega
    simp [sAsg, liftP, max2P, la, lb, put, setN, this]
  have hc := compGo_rng (σ := σ) (len := max A.length B.length) (L := (addL A B).map V.int) (f := binF .Add (ifP (cmpT .Lt (varF 0) (callP1 lenF (varF 1))) (subP (varF 1) (varF 0)) (intF 0)) (ifP (cmpT .Lt (varF 0) (callP1 lenF (varF 2))) (subP (varF 2) (varF 0)) (intF 0)))
    (rest := [some (.ref ka), some (.ref kb)]) (by simp [addL_len]) (fun i v hv => by
      rw [List.getElem?_map] at hv
      cases hg : (addL A B)[i]? with
      | none => rw [hg] at hv; cases hv
      | some z =>
        rw [hg] at hv
        cases hv
        have hz := addL_get A B i z hg
        have hi : i < (addL A B).length := (List.getElem?_eq_some_iff.mp hg).1
        rw [addL_len] at hi
        have p1 := pick_ok (ρ := [some (.int (i : Int)), some (.ref ka), some (.ref kb)]) (i := i) (j := 0) (l := 1) hA hka rfl rfl (by omega)
        have p2 := pick_ok (ρ := [some (.int (i : Int)), some (.ref ka), some (.ref kb)]) (i := i) (j := 0) (l := 2) hB hkb rfl rfl (by omega)
        simp [binF, p1, p2, arF, hz]) (max A.length B.length) 1000 0 none rfl (by omega) (Nat.zero_le _)
  have e2 : asCons (compE (gRange1 (varF 2)) (fun src => step1 src 0) noTest (binF .Add (ifP (cmpT .Lt (varF 0) (callP1 lenF (varF 1))) (subP (varF 1) (varF 0)) (intF 0)) (ifP (cmpT .Lt (varF 0) (callP1 lenF (varF 2))) (subP (varF 2) (varF 0)) (intF 0))) 1 [0, 1]) asNil σ.length [some (.ref ka), some (.ref kb), some (.int (max A.length B.length : Nat))] σ
      = some ([.ref σ.length], σ ++ [⟨false, (addL A B).map .int⟩]) := by
    have g : gRange1 (varF 2) σ.length [some (.ref ka), some (.ref kb), some (.int (max A.length B.length : Nat))] σ = some (.rng 0 (max A.length B.length), σ) := by
      have hs : small ((max A.length B.length : Nat) : Int) = true := by unfold small; simp only [Bool.and_eq_true, decide_eq_true_eq]; omega
      have : ((max A.length B.length : Nat) : Int) - 0 = ((max A.length B.length : Nat) : Int) := by omega
      simp only [gRange1, varF, look, nth, hs, this, Int.toNat_natCast, if_true]
    have hc' : compGo (step1 (.rng 0 (max A.length B.length)) 0) noTest (binF .Add (ifP (cmpT .Lt (varF 0) (callP1 lenF (varF 1))) (subP (varF 1) (varF 0)) (intF 0)) (ifP (cmpT .Lt (varF 0) (callP1 lenF (varF 2))) (subP (varF 2) (varF 0)) (intF 0))) σ 1000 0 (compLoc 1 [0, 1] [some (.ref ka), some (.ref kb), some (.int (max A.length B.length : Nat))]) = some ((addL A B).map .int) := hc
    unfold asCons compE
    rw [g]
    simp only [hc']
    simp [asNil]
  have hlen2 : (addL A B).length ≤ 900 := by rw [addL_len]; omega
  have h4 : nth (σ ++ [⟨false, (addL A B).map V.int⟩]) σ.length = some ⟨false, (addL A B).map V.int⟩ := nth_top
  have eT : P_ztrim 0 [.ref σ.length] (σ ++ [⟨false, (addL A B).map .int⟩]) = newL (σ ++ [⟨false, (addL A B).map .int⟩]) (trimL (addL A B)) := by
    simp [P_ztrim, getI, getList, h4, allInts_map, Nat.ble_eq.mpr hlen2]
  have e3 : callC F_ztrim (asCons (compE (gRange1 (varF 2)) (fun src => step1 src 0) noTest (binF .Add (ifP (cmpT .Lt (varF 0) (callP1 lenF (varF 1))) (subP (varF 1) (varF 0)) (intF 0)) (ifP (cmpT .Lt (varF 0) (callP1 lenF (varF 2))) (subP (varF 2) (varF 0)) (intF 0))) 1 [0, 1]) asNil) σ.length [some (.ref ka), some (.ref kb), some (.int (max A.length B.length : Nat))] σ
      = newL (σ ++ [⟨false, (addL A B).map .int⟩]) (trimL (addL A B)) := by
    unfold callC
    rw [e2]
    exact P_ztrim_ok (eT.trans rfl)
  have hF : F_zadd σ.length [.ref ka, .ref kb] σ = some (.ref (σ.length + 1), σ ++ [⟨false, (addL A B).map .int⟩, ⟨false, (trimL (addL A B)).map .int⟩]) := by
    rw [show F_zadd σ.length [.ref ka, .ref kb] σ = runDef 3 B_zadd σ.length [.ref ka, .ref kb] σ from mkF_of rfl]
    unfold runDef B_zadd
    simp only [sCons, show initLoc [V.ref ka, .ref kb] 3 = [some (.ref ka), some (.ref kb), none] from rfl, e1, sRet, e3, newL]
    simp
  rw [hF, collapse_new (by omega) (l := trimL (addL A B)) (by
    have := nth_top (σ := σ ++ [⟨false, (addL A B).map V.int⟩]) (τ := []) (o := (⟨false, (trimL (addL A B)).map V.int⟩ : O))
    simpa using this)]
  exact e
-- zmul
noncomputable def maddL (a : Int) : List Int → List Int → List Int
  | acc, [] => acc
  | [], _ :: _ => []
  | x :: acc, b :: B => (x + a * b) :: maddL a acc B
noncomputable def mulP : List Int → List Int → List Int → List Int
  | acc, [], _ => acc
  | acc, a :: A, B => match (if a == 0 then acc else maddL a acc B) with
    | [] => []
    | x :: r => x :: mulP r A B
theorem maddL_len (a : Int) : ∀ acc B : List Int, (maddL a acc B).length = acc.length
  | acc, [] => by cases acc <;> rfl
  | [], _ :: _ => rfl
  | x :: acc, b :: B => by simp [maddL, maddL_len a acc B]
noncomputable def two (σ : Hp) (Z : O) (l : List Int) : Hp := σ ++ [Z, ⟨false, l.map .int⟩]
theorem two_top {σ : Hp} {Z : O} {l : List Int} : nth (two σ Z l) (σ.length + 1) = some ⟨false, l.map .int⟩ := by
  have := nth_top (σ := σ ++ [Z]) (τ := []) (o := (⟨false, l.map V.int⟩ : O))
  simpa [two] using this
theorem two_set {σ : Hp} {Z : O} {l l' : List Int} : setN (two σ Z l) (σ.length + 1) ⟨false, l'.map .int⟩ = two σ Z l' := by
  rw [setN_eq]
  simp [two, List.set_append_right]
theorem aug_ok {σ : Hp} {Z : O} {pre rest : List Int} {x a b : Int} {i j : Nat} {ra rb : Option V} (h : pre.length = i + j) (hn : (pre ++ x :: rest).length ≤ 2000) (ha : a.natAbs < 2 ^ 62) :
    sAugSet (varF 2) (binF .Add (varF 3) (varF 5)) .Add (binF .Mult (varF 4) (varF 6)) σ.length [ra, rb, some (.ref (σ.length + 1)), some (.int i), some (.int a), some (.int j), some (.int b)] (two σ Z (pre ++ x :: rest))
      = some (.next, [ra, rb, some (.ref (σ.length + 1)), some (.int i), some (.int a), some (.int j), some (.int b)], two σ Z (pre ++ (x + a * b) :: rest)) := by
  have e1 : nth ((pre ++ x :: rest).map V.int) (i + j) = some (.int x) := by
    rw [← h, nth_eq, List.getElem?_map]; simp
  have h1 : ¬ ((i : Int) + j < 0) := by omega
  have hl : pre.length + (rest.length + 1) ≤ 2000 := by simpa using hn
  have h2 : (i : Int) + j < 4611686018427387904 := by omega
  have h3 : ((i : Int) + j).toNat = i + j := by omega
  have h4 : (0 : Int) ≤ (i : Int) + j := by omega
  have h5 : (i : Int) + j < (pre.length : Int) + ((rest.length : Int) + 1) := by omega
  have h6 : pre.length + (rest.length + 1) < 4611686018427387904 := by omega
  have h7 : setN ((pre ++ x :: rest).map V.int) (i + j) (.int (x + a * b)) = (pre ++ (x + a * b) :: rest).map V.int := by
    rw [setN_eq, ← h]; simp [List.set_append_right]
  have s1 : subVal (two σ Z (pre ++ x :: rest)) (.ref (σ.length + 1)) (.int ((i : Int) + j)) = some (.int x) := by
    simp only [subVal, two_top, itemF, if_neg h1, h3, e1]
    rw [if_pos (by simpa using h2)]
  have s2 : setVal σ.length (two σ Z (pre ++ x :: rest)) (.ref (σ.length + 1)) (.int ((i : Int) + j)) (.int (x + a * b)) = some (two σ Z (pre ++ (x + a * b) :: rest)) := by
    simp only [setVal, two_top, h3]
    rw [if_pos (by simp), if_pos (by simp; omega), h7, two_set]
  have ha' : a.natAbs < 4611686018427387904 := ha
  simp [sAugSet, varF, look, nth, binF, arF, ha', iopF, s1, s2]
theorem sCons_next {f g : Nat → Loc → Hp → Option (Fl × Loc × Hp)} {n0 : Nat} {ρ ρ' : Loc} {σ σ' : Hp} (h : f n0 ρ σ = some (.next, ρ', σ')) : sCons f g n0 ρ σ = g n0 ρ' σ' := by
  unfold sCons; rw [h]
theorem sCons_ret {f g : Nat → Loc → Hp → Option (Fl × Loc × Hp)} {n0 : Nat} {ρ ρ' : Loc} {σ σ' : Hp} {v : V} (h : f n0 ρ σ = some (.ret v, ρ', σ')) : sCons f g n0 ρ σ = some (.ret v, ρ', σ') := by
  unfold sCons; rw [h]
theorem sIf_true {t : Nat → Loc → Hp → Option (Bool × Hp)} {f g : Nat → Loc → Hp → Option (Fl × Loc × Hp)} {n0 : Nat} {ρ : Loc} {σ σ' : Hp} {r : Option (Fl × Loc × Hp)} (h : t n0 ρ σ = some (true, σ')) (h' : f n0 ρ σ' = r) : sIf t f g n0 ρ σ = r := by
  unfold sIf; rw [h]; exact h'
theorem sIf_false {t : Nat → Loc → Hp → Option (Bool × Hp)} {f g : Nat → Loc → Hp → Option (Fl × Loc × Hp)} {n0 : Nat} {ρ : Loc} {σ σ' : Hp} {r : Option (Fl × Loc × Hp)} (h : t n0 ρ σ = some (false, σ')) (h' : g n0 ρ σ' = r) : sIf t f g n0 ρ σ = r := by
  unfold sIf; rw [h]; exact h'
theorem inner_ok {σ : Hp} {Z : O} {kb : Nat} {B : List Int} {a : Int} {i : Nat} {ra rb : Option V} (hkb : nth σ kb = some ⟨false, B.map .int⟩) (ha : a.natAbs < 2 ^ 62) :
    ∀ (Bs Bp pre rest : List Int) (fuel : Nat) (o5 o6 : Option V), B = Bp ++ Bs → pre.length = i + Bp.length → Bs.length ≤ rest.length → (pre ++ rest).length ≤ 2000 → Bs.length < fuel →
      ∃ o5' o6', forGo (step2 (.enm kb) 5 6) (sCons (sAugSet (varF 2) (binF .Add (varF 3) (varF 5)) .Add (binF .Mult (varF 4) (varF 6))) sNil) σ.length fuel Bp.length [ra, rb, some (.ref (σ.length + 1)), some (.int i), some (.int a), o5, o6] (two σ Z (pre ++ rest))
        = some (.next, [ra, rb, some (.ref (σ.length + 1)), some (.int i), some (.int a), o5', o6'], two σ Z (pre ++ maddL a rest Bs))
  | _, _, _, _, 0, _, _, _, _, _, _, hf => absurd hf (Nat.not_lt_zero _)
  | [], Bp, pre, rest, fuel + 1, o5, o6, hB, hp, hr, hn, hf => by
    have hk : nth (two σ Z (pre ++ rest)) kb = some ⟨false, B.map .int⟩ := nth_app hkb
    have e : nth (B.map V.int) Bp.length = none := by rw [nth_eq, hB]; simp
    refine ⟨o5, o6, ?_⟩
    simp [forGo, step2, hk, e, maddL]
  | b :: Bs, Bp, pre, [], fuel + 1, o5, o6, hB, hp, hr, hn, hf => by simp at hr
  | b :: Bs, Bp, pre, x :: rest, fuel + 1, o5, o6, hB, hp, hr, hn, hf => by
    have hk : nth (two σ Z (pre ++ x :: rest)) kb = some ⟨false, B.map .int⟩ := nth_app hkb
    have e : nth (B.map V.int) Bp.length = some (.int b) := by rw [nth_eq, hB, List.getElem?_map]; simp
    obtain ⟨o5', o6', ih⟩ := inner_ok (i := i) hkb ha Bs (Bp ++ [b]) (pre ++ [x + a * b]) rest fuel (some (.int Bp.length)) (some (.int b)) (by simpa using hB) (by simp; omega) (by simpa using hr) (by simpa using hn) (by simpa using hf) (Z := Z) (ra := ra) (rb := rb)
    refine ⟨o5', o6', ?_⟩
    have eb := aug_ok (σ := σ) (Z := Z) (b := b) (ra := ra) (rb := rb) hp hn ha
    have ih' := ih
    simp only [List.append_assoc, List.singleton_append, List.length_append, List.length_cons, List.length_nil, Nat.zero_add] at ih'
    simp only [forGo, step2, hk, e, put, setN, sCons, eb, sNil, maddL]
    exact ih'
theorem outer_ok {σ : Hp} {Z : O} {ka kb : Nat} {A B : List Int} (hka : nth σ ka = some ⟨false, A.map .int⟩) (hkb : nth σ kb = some ⟨false, B.map .int⟩) (hs : ∀ a ∈ A, a.natAbs < 2 ^ 62) (hB0 : 0 < B.length) (hB1 : B.length ≤ 900) :
    ∀ (As Ap pre acc : List Int) (fuel : Nat) (o3 o4 o5 o6 : Option V), A = Ap ++ As → pre.length = Ap.length → As.length + B.length ≤ acc.length + 1 → (pre ++ acc).length ≤ 2000 → As.length < fuel →
      ∃ o3' o4' o5' o6', forGo (step2 (.enm ka) 3 4) (sCons (sIf (liftT (cmpT .NotEq (varF 4) (intF 0))) (sCons (sFor (gEnum (varF 1)) (fun src => step2 src 5 6) (sCons (sAugSet (varF 2) (binF .Add (varF 3) (varF 5)) .Add (binF .Mult (varF 4) (varF 6))) sNil)) sNil) sNil) sNil) σ.length fuel Ap.length
          [some (.ref ka), some (.ref kb), some (.ref (σ.length + 1)), o3, o4, o5, o6] (two σ Z (pre ++ acc))
        = some (.next, [some (.ref ka), some (.ref kb), some (.ref (σ.length + 1)), o3', o4', o5', o6'], two σ Z (pre ++ mulP acc As B))
  | _, _, _, _, 0, _, _, _, _, _, _, _, _, hf => absurd hf (Nat.not_lt_zero _)
  | [], Ap, pre, acc, fuel + 1, o3, o4, o5, o6, hA, hp, hr, hn, hf => by
    have hk : nth (two σ Z (pre ++ acc)) ka = some ⟨false, A.map .int⟩ := nth_app hka
    have e : nth (A.map V.int) Ap.length = none := by rw [nth_eq, hA]; simp
    refine ⟨o3, o4, o5, o6, ?_⟩
    simp [forGo, step2, hk, e, mulP]
  | a :: As, Ap, pre, acc, fuel + 1, o3, o4, o5, o6, hA, hp, hr, hn, hf => by
    have hk : nth (two σ Z (pre ++ acc)) ka = some ⟨false, A.map .int⟩ := nth_app hka
    have hkb' : nth (two σ Z (pre ++ acc)) kb = some ⟨false, B.map .int⟩ := nth_app hkb
    have e : nth (A.map V.int) Ap.length = some (.int a) := by rw [nth_eq, hA, List.getElem?_map]; simp
    have ha : a.natAbs < 2 ^ 62 := hs a (by rw [hA]; simp)
    have hr' : As.length + 1 + B.length ≤ acc.length + 1 := by simpa using hr
    -- what the body leaves
    have hb : ∃ o5' o6', sCons (sIf (liftT (cmpT .NotEq (varF 4) (intF 0))) (sCons (sFor (gEnum (varF 1)) (fun src => step2 src 5 6) (sCons (sAugSet (varF 2) (binF .Add (varF 3) (varF 5)) .Add (binF .Mult (varF 4) (varF 6))) sNil)) sNil) sNil) sNil σ.length
          [some (.ref ka), some (.ref kb), some (.ref (σ.length + 1)), some (.int Ap.length), some (.int a), o5, o6] (two σ Z (pre ++ acc))
        = some (.next, [some (.ref ka), some (.ref kb), some (.ref (σ.length + 1)), some (.int Ap.length), some (.int a), o5', o6'], two σ Z (pre ++ (if a == 0 then acc else maddL a acc B))) := by
      by_cases hz : a = 0
      · subst hz
        refine ⟨o5, o6, ?_⟩
        simp [sCons, sIf, liftT, cmpT, varF, look, nth, intF, cmpF, sNil]
      · obtain ⟨o5', o6', ih⟩ := inner_ok (Z := Z) (ra := some (.ref ka)) (rb := some (.ref kb)) hkb ha B [] pre acc 1000 o5 o6 rfl (by simpa using hp) (by omega) hn (by omega)
        refine ⟨o5', o6', ?_⟩
        have e1 : liftT (cmpT .NotEq (varF 4) (intF 0)) σ.length [some (.ref ka), some (.ref kb), some (.ref (σ.length + 1)), some (.int Ap.length), some (.int a), o5, o6] (two σ Z (pre ++ acc)) = some (true, two σ Z (pre ++ acc)) := by
          simp [liftT, cmpT, varF, look, nth, intF, cmpF, hz]
        have e2 : gEnum (varF 1) σ.length [some (.ref ka), some (.ref kb), some (.ref (σ.length + 1)), some (.int Ap.length), some (.int a), o5, o6] (two σ Z (pre ++ acc)) = some (.enm kb, two σ Z (pre ++ acc)) := by
          simp [gEnum, varF, look, nth, hkb']
        have hz' : (a == 0) = false := by simpa using hz
        have hfor : sFor (gEnum (varF 1)) (fun src => step2 src 5 6) (sCons (sAugSet (varF 2) (binF .Add (varF 3) (varF 5)) .Add (binF .Mult (varF 4) (varF 6))) sNil) σ.length [some (.ref ka), some (.ref kb), some (.ref (σ.length + 1)), some (.int Ap.length), some (.int a), o5, o6] (two σ Z (pre ++ acc))
            = some (.next, [some (.ref ka), some (.ref kb), some (.ref (σ.length + 1)), some (.int Ap.length), some (.int a), o5', o6'], two σ Z (pre ++ maddL a acc B)) := by
          unfold sFor; rw [e2]; exact ih
        rw [hz', if_neg (by decide)]
        refine (sCons_next (sIf_true e1 ((sCons_next hfor).trans rfl))).trans rfl
    obtain ⟨o5', o6', hb⟩ := hb
    have hlen : (if a == 0 then acc else maddL a acc B).length = acc.length := by
      split
      · rfl
      · exact maddL_len a acc B
    cases hm : (if a == 0 then acc else maddL a acc B) with
    | nil => rw [hm] at hlen; simp at hlen; rw [← hlen] at hr'; simp at hr'; omega
    | cons x r =>
      rw [hm] at hb hlen
      simp only [List.length_cons] at hlen
      have hn' : pre.length + acc.length ≤ 2000 := by simpa using hn
      obtain ⟨o3'', o4'', o5'', o6'', ih⟩ := outer_ok (Z := Z) hka hkb hs hB0 hB1 As (Ap ++ [a]) (pre ++ [x]) r fuel (some (.int Ap.length)) (some (.int a)) o5' o6' (by simpa using hA) (by simp; omega) (by omega) (by simp; omega) (by simpa using hf)
      refine ⟨o3'', o4'', o5'', o6'', ?_⟩
      have ih' := ih
      simp only [List.append_assoc, List.singleton_append, List.length_append, List.length_cons, List.length_nil, Nat.zero_add] at ih'
      have em : mulP acc (a :: As) B = x :: mulP r As B := by
        show (match (if a == 0 then acc else maddL a acc B) with | [] => [] | x :: r => x :: mulP r As B) = _
        rw [hm]
      rw [em]
      simp only [forGo, step2, hk, e, put, setN]
      rw [hb]
      exact ih'
noncomputable def P_zmul (_ : Nat) (vs : List V) (σ : Hp) : Option (V × Hp) := match vs with
  | [a, b] => match getI σ a with
    | some A => match getI σ b with
      | some B => if Nat.ble A.length 450 then if Nat.ble B.length 450 then (match A with
        | [] => newL σ []
        | _ :: _ => match B with
          | [] => newL σ []
          | _ :: _ => if smallAll A then newL σ (mulP (zerosL [] (A.length + B.length - 1)) A B) else .none) else .none else .none
      | .none => .none
    | .none => .none
  | _ => .none
theorem zerosL_nil (k : Nat) : (zerosL [] k).length = k ∧ (zerosL [] k).map V.int = List.replicate k (V.int 0) := by
  constructor
  · induction k with
    | zero => rfl
    | succ k ih => simp [zerosL, ih]
  · rw [zerosL_eq]; simp
theorem zmul_empty {σ : Hp} {ka kb : Nat} {A B : List Int} (hka : nth σ ka = some ⟨false, A.map .int⟩) (hkb : nth σ kb = some ⟨false, B.map .int⟩) (hA : A.length ≤ 2000) (hB : B.length ≤ 2000) {ρ : Loc} (h0 : look ρ 0 = some (.ref ka)) (h1 : look ρ 1 = some (.ref kb)) :
    orTE [(liftT (cmpT .Eq (callP1 lenF (varF 0)) (intF 0))), (liftT (cmpT .Eq (callP1 lenF (varF 1)) (intF 0)))] σ.length ρ σ = some (decide (A = []) || decide (B = []), σ) := by
  have la := lenF_var h0 hka (by simpa using hA)
  have lb := lenF_var h1 hkb (by simpa using hB)
  have q : ∀ l : List Int, (((l.map V.int).length : Int) == 0) = decide (l = []) := by
    intro l; cases l with
    | nil => rfl
    | cons x r => simp; omega
  have ea : liftT (cmpT .Eq (callP1 lenF (varF 0)) (intF 0)) σ.length ρ σ = some (decide (A = []), σ) := by
    simp only [liftT, cmpT, la, intF, cmpF, q]
  have eb : liftT (cmpT .Eq (callP1 lenF (varF 1)) (intF 0)) σ.length ρ σ = some (decide (B = []), σ) := by
    simp only [liftT, cmpT, lb, intF, cmpF, q]
  unfold orTE
  rw [ea]
  cases decide (A = []) with
  | true => rfl
  | false =>
    unfold orTE
    simp only [eb, Bool.false_or]
    cases decide (B = []) <;> rfl
theorem P_zmul_ok {n0 : Nat} {vs : List V} {σ : Hp} {r : V × Hp} (e : P_zmul n0 vs σ = some r) : collapse σ (F_zmul σ.length vs σ) = some r := by
  unfold P_zmul at e
  split at e
  case h_2 => cases e
  rename_i a b
  split at e
  case h_2 => cases e
  rename_i A eA
  split at e
  case h_2 => cases e
  rename_i B eB
  split at e
  case isFalse => cases e
  rename_i hA
  have hA := Nat.le_of_ble_eq_true hA
  split at e
  case isFalse => cases e
  rename_i hB
  have hB := Nat.le_of_ble_eq_true hB
  obtain ⟨ka, rfl, hka, hkal⟩ := getI_ref eA
  obtain ⟨kb, rfl, hkb, hkbl⟩ := getI_ref eB
  have nilCase : (A = [] ∨ B = []) → collapse σ (F_zmul σ.length [.ref ka, .ref kb] σ) = newL σ [] := by
    intro hor
    have hE := zmul_empty hka hkb (by omega) (by omega) (ρ := [some (.ref ka), some (.ref kb), none, none, none, none, none]) rfl rfl
    have : (decide (A = []) || decide (B = [])) = true := by
      rcases hor with h | h <;> simp [h]
    rw [this] at hE
    have hF : F_zmul σ.length [.ref ka, .ref kb] σ = some (.ref σ.length, σ ++ [⟨false, ([] : List Int).map .int⟩]) := by
      rw [show F_zmul σ.length [.ref ka, .ref kb] σ = runDef 7 B_zmul σ.length [.ref ka, .ref kb] σ from mkF_of rfl]
      unfold runDef B_zmul
      have e1 : sIf (orTE [(liftT (cmpT .Eq (callP1 lenF (varF 0)) (intF 0))), (liftT (cmpT .Eq (callP1 lenF (varF 1)) (intF 0)))]) (sCons (sRet (dispE false asNil)) sNil) sNil σ.length [some (.ref ka), some (.ref kb), none, none, none, none, none] σ
          = some (.ret (.ref σ.length), [some (.ref ka), some (.ref kb), none, none, none, none, none], σ ++ [⟨false, []⟩]) := sIf_true hE rfl
      rw [show initLoc [V.ref ka, .ref kb] 7 = [some (.ref ka), some (.ref kb), none, none, none, none, none] from rfl]
      rw [sCons_ret e1]
      rfl
    rw [hF, collapse_new (Nat.le_refl _) nth_top]
  by_cases hA0 : A = []
  · subst hA0
    rw [nilCase (.inl rfl)]; exact e
  · by_cases hB0 : B = []
    · subst hB0
      rw [nilCase (.inr rfl)]
      cases A with
      | nil => exact absurd rfl hA0
      | cons _ _ => exact e
    · have e : (if smallAll A then newL σ (mulP (zerosL [] (A.length + B.length - 1)) A B) else .none) = some r := by
        cases A with
        | nil => exact absurd rfl hA0
        | cons _ _ => cases B with
          | nil => exact absurd rfl hB0
          | cons _ _ => exact e
      split at e
      case isFalse => cases e
      rename_i hs
      have hs := smallAll_mem hs
      have hAn := hA0
      have hBn := hB0
      have hA0 : 0 < A.length := List.length_pos_iff.mpr hAn
      have hB0 : 0 < B.length := List.length_pos_iff.mpr hBn
      have la := lenF_var (ρ := [some (.ref ka), some (.ref kb), none, none, none, none, none]) (j := 0) rfl hka (by simp; omega)
      have lb := lenF_var (ρ := [some (.ref ka), some (.ref kb), none, none, none, none, none]) (j := 1) rfl hkb (by simp; omega)
      have hE := zmul_empty hka hkb (by omega) (by omega) (ρ := [some (.ref ka), some (.ref kb), none, none, none, none, none]) rfl rfl
      have hne : (decide (A = []) || decide (B = [])) = false := by
        simp [hAn, hBn]
      rw [hne] at hE
      have e1 : sIf (orTE [(liftT (cmpT .Eq (callP1 lenF (varF 0)) (intF 0))), (liftT (cmpT .Eq (callP1 lenF (varF 1)) (intF 0)))]) (sCons (sRet (dispE false asNil)) sNil) sNil σ.length [some (.ref ka), some (.ref kb), none, none, none, none, none] σ
          = some (.next, [some (.ref ka), some (.ref kb), none, none, none, none, none], σ) := sIf_false hE rfl
      have e2 : sAsg 2 (mulLE (dispE false (asCons (liftP (intF 0)) asNil)) (liftP (binF .Sub (binF .Add (callP1 lenF (varF 0)) (callP1 lenF (varF 1))) (intF 1)))) σ.length [some (.ref ka), some (.ref kb), none, none, none, none, none] σ
          = some (.next, [some (.ref ka), some (.ref kb), some (.ref (σ.length + 1)), none, none, none, none], two σ ⟨false, [.int 0]⟩ (zerosL [] (A.length + B.length - 1))) := by
        have d : dispE false (asCons (liftP (intF 0)) asNil) σ.length [some (.ref ka), some (.ref kb), none, none, none, none, none] σ = some (.ref σ.length, σ ++ [⟨false, [.int 0]⟩]) := by
          simp [dispE, asCons, liftP, intF, asNil]
        have h1 : nth (σ ++ [⟨false, [V.int 0]⟩]) σ.length = some ⟨false, [V.int 0]⟩ := nth_top
        have la' := lenF_var (ρ := [some (.ref ka), some (.ref kb), none, none, none, none, none]) (σ := σ ++ [⟨false, [V.int 0]⟩]) (j := 0) rfl (nth_app hka) (by simp; omega)
        have lb' := lenF_var (ρ := [some (.ref ka), some (.ref kb), none, none, none, none, none]) (σ := σ ++ [⟨false, [V.int 0]⟩]) (j := 1) rfl (nth_app hkb) (by simp; omega)
        have h2 : (A.length : Int) + B.length - 1 ≤ 1000 := by omega
        have h3 : (-1000 : Int) ≤ (A.length : Int) + B.length - 1 := by omega
        have h4 : ((A.length : Int) + B.length - 1).toNat = A.length + B.length - 1 := by omega
        have m : mulLE (dispE false (asCons (liftP (intF 0)) asNil)) (liftP (binF .Sub (binF .Add (callP1 lenF (varF 0)) (callP1 lenF (varF 1))) (intF 1))) σ.length [some (.ref ka), some (.ref kb), none, none, none, none, none] σ
            = some (.ref (σ.length + 1), two σ ⟨false, [.int 0]⟩ (zerosL [] (A.length + B.length - 1))) := by
          unfold mulLE
          rw [d]
          simp [liftP, binF, la', lb', intF, arF, getList, h1, h2, h3, h4, repL_one, two, (zerosL_nil (A.length + B.length - 1)).2]
        unfold sAsg
        rw [m]
        rfl
      have hz := (zerosL_nil (A.length + B.length - 1)).1
      obtain ⟨o3, o4, o5, o6, e3⟩ := outer_ok (Z := ⟨false, [.int 0]⟩) hka hkb hs hB0 (by omega) A [] [] (zerosL [] (A.length + B.length - 1)) 1000 none none none none rfl rfl (by omega) (by simp; omega) (by omega)
      have e4 : sFor (gEnum (varF 0)) (fun src => step2 src 3 4) (sCons (sIf (liftT (cmpT .NotEq (varF 4) (intF 0))) (sCons (sFor (gEnum (varF 1)) (fun src => step2 src 5 6) (sCons (sAugSet (varF 2) (binF .Add (varF 3) (varF 5)) .Add (binF .Mult (varF 4) (varF 6))) sNil)) sNil) sNil) sNil) σ.length
          [some (.ref ka), some (.ref kb), some (.ref (σ.length + 1)), none, none, none, none] (two σ ⟨false, [.int 0]⟩ (zerosL [] (A.length + B.length - 1)))
          = some (.next, [some (.ref ka), some (.ref kb), some (.ref (σ.length + 1)), o3, o4, o5, o6], two σ ⟨false, [.int 0]⟩ (mulP (zerosL [] (A.length + B.length - 1)) A B)) := by
        have hk : nth (two σ ⟨false, [.int 0]⟩ (zerosL [] (A.length + B.length - 1))) ka = some ⟨false, A.map .int⟩ := nth_app hka
        have g : gEnum (varF 0) σ.length [some (.ref ka), some (.ref kb), some (.ref (σ.length + 1)), none, none, none, none] (two σ ⟨false, [.int 0]⟩ (zerosL [] (A.length + B.length - 1))) = some (.enm ka, two σ ⟨false, [.int 0]⟩ (zerosL [] (A.length + B.length - 1))) := by
          simp [gEnum, varF, look, nth, hk]
        unfold sFor; rw [g]; exact e3
      have hF : F_zmul σ.length [.ref ka, .ref kb] σ = some (.ref (σ.length + 1), two σ ⟨false, [.int 0]⟩ (mulP (zerosL [] (A.length + B.length - 1)) A B)) := by
        rw [show F_zmul σ.length [.ref ka, .ref kb] σ = runDef 7 B_zmul σ.length [.ref ka, .ref kb] σ from mkF_of rfl]
        unfold runDef B_zmul
        rw [show initLoc [V.ref ka, .ref kb] 7 = [some (.ref ka), some (.ref kb), none, none, none, none, none] from rfl]
        rw [sCons_next e1, sCons_next e2, sCons_next e4]
        rfl
      rw [hF, collapse_new (by omega) two_top]
      exact e
end Mine
namespace Mine
section
variable {prog : Program} {w : World} {h₀ : Heap} {mg mb : Str → Option Value}
theorem HC.pure' {n : Nat} {x : Str} {F P : Nat → List V → Hp → Option (V × Hp)} (hC : HC prog w h₀ mg n x F) (hP : ∀ {n0 vs σ r}, P n0 vs σ = some r → collapse σ (F σ.length vs σ) = some r) : HC prog w h₀ mg n x P := by
  refine ⟨hC.at', ?_⟩
  intro a hv A hA n0 vs σ φ s xs v σ₁ H hx hf R hQ
  have hf := hP hf
  have kk : ∀ {φ'' h''}, Ext σ.length φ φ'' s.heap h'' → Keep s.heap h'' := fun k2 b o e => k2.keep b o (by rw [← H.len]; simp) e
  unfold collapse at hf
  split at hf
  · rename_i kr σ'' eF
    split at hf
    · rename_i hlt
      cases hf
      simp only [decide_eq_true_eq] at hlt
      refine hC.code a hv A hA _ vs _ φ s xs _ _ H hx eF _ fun φ'' x h'' tk' k'' H'' hx' => ?_
      refine hQ φ x h'' tk' (.of_keep (kk k'')) (H.keeps (kk k'')) ?_
      obtain ⟨ψ, rfl, _⟩ := k''.pre
      cases hx' with
      | ref e => rw [List.getElem?_append_left (by rw [H.len]; exact hlt)] at e; exact .ref e
    · rename_i hlt
      split at hf
      case h_2 => cases hf
      rename_i ob eo
      split at hf
      · rename_i hfl
        cases hf
        simp only [decide_eq_true_eq] at hlt
        refine hC.code a hv A hA _ vs _ φ s xs _ _ H hx eF _ fun φ'' x h'' tk' k'' H'' hx' => ?_
        cases hx' with
        | @ref _ b e =>
        have hob := H''.lookup e eo
        obtain ⟨ψ, rfl, hψ⟩ := k''.pre
        have hb : b ∈ ψ := by
          rw [List.getElem?_append_right (by rw [H.len]; omega)] at e
          exact List.mem_of_getElem? e
        have fresh : s.heap.get? b = none := hψ b hb
        refine hQ (φ ++ [b]) _ h'' tk' (.of_add (kk k'') fresh) (H.add (kk k'') fresh ?_) (VR.top H b)
        obtain ⟨ys, hys, r⟩ := hob
        exact ⟨ys, flat_any hys hfl, r⟩
      · cases hf
        refine hC.code a hv A hA _ vs _ φ s xs _ _ H hx eF _ fun φ'' x h'' tk' k'' H'' hx' => ?_
        exact hQ φ'' x h'' tk' ⟨k''.pre, fun b o _ e => kk k'' b o e⟩ H'' hx'
  · rename_i u σ'' hne eF
    cases hf
    refine hC.code a hv A hA _ vs _ φ s xs _ _ H hx eF _ fun φ'' x h'' tk' k'' H'' hx' => ?_
    refine hQ φ x h'' tk' (.of_keep (kk k'')) (H.keeps (kk k'')) ?_
    cases hx' with
    | none => exact .none
    | bool b => exact .bool b
    | int i t => exact .int i t
    | ref e => exact (hne _ rfl).elim
  · cases hf
theorem K_ztrim (x : X mg mb h₀) : HC prog w h₀ mg 1 (Str.ofString "ztrim") P_ztrim := (H_ztrim x).pure' (P_ztrim_ok (n0 := _))
theorem K_zadd (x : X mg mb h₀) : HC prog w h₀ mg 2 (Str.ofString "zadd") P_zadd := (H_zadd x).pure' (P_zadd_ok (n0 := _))
theorem K_zneg (x : X mg mb h₀) : HC prog w h₀ mg 1 (Str.ofString "zneg") P_zneg := (H_zneg x).pure' (P_zneg_ok (n0 := _))
theorem K_zscale (x : X mg mb h₀) : HC prog w h₀ mg 1 (Str.ofString "zscale") P_zscale := (H_zscale x).pure' (P_zscale_ok (n0 := _))
theorem K_zraise (x : X mg mb h₀) : HC prog w h₀ mg 1 (Str.ofString "zraise") P_zraise := (H_zraise x).pure' (P_zraise_ok (n0 := _))
theorem K_zmul (x : X mg mb h₀) : HC prog w h₀ mg 1 (Str.ofString "zmul") P_zmul := (H_zmul x).pure' (P_zmul_ok (n0 := _))
end
end Mine
namespace Mine
section
variable {prog : Program} {w : World} {h₀ : Heap} {mg mb : Str → Option Value}
noncomputable def B_gcd : Nat → Loc → Hp → Option (Fl × Loc × Hp) :=
  (sCons (sUnpS [1, 0] (asCons (liftP (callP1 absF (varF 0))) (asCons (liftP (callP1 absF (varF 1))) asNil)))
  (sCons (sWhile (liftT (cmpT .NotEq (varF 1) (intF 0))) (sCons (sUnpS [1, 0] (asCons (liftP (varF 1)) (asCons (liftP (binF .Mod (varF 0) (varF 1))) asNil)))
  sNil))
  (sCons (sRet (liftP (varF 0)))
  sNil)))
noncomputable def F_gcd : Nat → List V → Hp → Option (V × Hp) := mkF 2 2 B_gcd
set_option maxRecDepth 10000 in
set_option maxHeartbeats 2000000 in
theorem H_gcd (x : X mg mb h₀) : HC prog w h₀ mg 1 (Str.ofString "gcd") F_gcd := by
  have nd : ([(Str.ofString "a"), (Str.ofString "b")] : List Str).Nodup := by decide +kernel
  have k_a : isVar (List.lookup (Str.ofString "a") (scopeAt 3).names) = true := by decide +kernel
  have s_a : isStore (List.lookup (Str.ofString "a") (scopeAt 3).names) = true := by decide +kernel
  have k_b : isVar (List.lookup (Str.ofString "b") (scopeAt 3).names) = true := by decide +kernel
  have s_b : isStore (List.lookup (Str.ofString "b") (scopeAt 3).names) = true := by decide +kernel
  have dc_a : ((Str.ofString "a") == ("__classdict__" : Str)) = false := by decide +kernel
  have dd_a : ((Str.ofString "a") == ("__debug__" : Str)) = false := by decide +kernel
  have dc_b : ((Str.ofString "b") == ("__classdict__" : Str)) = false := by decide +kernel
  have dd_b : ((Str.ofString "b") == ("__debug__" : Str)) = false := by decide +kernel
  refine HC.ofBody (n := 0) (ns := (scopeAt 3).names) (tab := [(Str.ofString "a"), (Str.ofString "b")]) (ps := [(Str.ofString "a"), (Str.ofString "b")]) (rest := []) (f := B_gcd) x.g (x.fn 3 (Str.ofString "gcd") (by decide +kernel)) rfl rfl rfl rfl rfl nd (by decide +kernel) (by decide +kernel) (fun pm code doc xs hx => ?_) ?_
  · obtain ⟨y0, y1, rfl⟩ := len2 hx; rfl
  · exact (HSs.cons (HS.unpS (xs := [(Str.ofString "a"), (Str.ofString "b")]) [1, 0] (.cons rfl s_b (.cons rfl s_a .nil)) nd (HAs.cons (HP.toE (HP.call1 x.g (by decide +kernel) x.abs.1 x.abs.2 rfl rfl HB.abs (HP.var 0 rfl k_a dc_a dd_a))) (HAs.cons (HP.toE (HP.call1 x.g (by decide +kernel) x.abs.1 x.abs.2 rfl rfl HB.abs (HP.var 1 rfl k_b dc_b dd_b))) HAs.nil rfl) rfl) (by exact env_elim fun _ _ _ _ _ _ _ _ _ _ _ => rfl) (by exact env_elim fun _ _ _ _ _ _ _ _ _ _ _ => rfl))
    (HSs.cons (HS.while (HT.toE (HT.cmp (HP.var 1 rfl k_b dc_b dd_b) HP.int rfl)) (HSs.cons (HS.unpS (xs := [(Str.ofString "a"), (Str.ofString "b")]) [1, 0] (.cons rfl s_b (.cons rfl s_a .nil)) nd (HAs.cons (HP.toE (HP.var 1 rfl k_b dc_b dd_b)) (HAs.cons (HP.toE (HP.bin (HP.var 0 rfl k_a dc_a dd_a) (HP.var 1 rfl k_b dc_b dd_b))) HAs.nil rfl) rfl) (by exact env_elim fun _ _ _ _ _ _ _ _ _ _ _ => rfl) (by exact env_elim fun _ _ _ _ _ _ _ _ _ _ _ => rfl))
    HSs.nil))
    (HSs.cons (HS.ret (HP.toE (HP.var 0 rfl k_a dc_a dd_a)))
    HSs.nil)))
noncomputable def B_gcd_all : Nat → Loc → Hp → Option (Fl × Loc × Hp) :=
  (sCons (sAsg 1 (liftP (intF 0)))
  (sCons (sFor (gList (liftP (varF 0))) (fun src => step1 src 2) (sCons (sAsg 1 (callC F_gcd (asCons (liftP (varF 1)) (asCons (liftP (varF 2)) asNil))))
  sNil))
  (sCons (sRet (liftP (varF 1)))
  sNil)))
noncomputable def F_gcd_all : Nat → List V → Hp → Option (V × Hp) := mkF 1 3 B_gcd_all
set_option maxRecDepth 10000 in
set_option maxHeartbeats 2000000 in
theorem H_gcd_all (x : X mg mb h₀) : HC prog w h₀ mg 2 (Str.ofString "gcd_all") F_gcd_all := by
  have nd : ([(Str.ofString "numbers"), (Str.ofString "found"), (Str.ofString "number")] : List Str).Nodup := by decide +kernel
  have k_numbers : isVar (List.lookup (Str.ofString "numbers") (scopeAt 4).names) = true := by decide +kernel
  have s_numbers : isStore (List.lookup (Str.ofString "numbers") (scopeAt 4).names) = true := by decide +kernel
  have k_found : isVar (List.lookup (Str.ofString "found") (scopeAt 4).names) = true := by decide +kernel
  have s_found : isStore (List.lookup (Str.ofString "found") (scopeAt 4).names) = true := by decide +kernel
  have k_number : isVar (List.lookup (Str.ofString "number") (scopeAt 4).names) = true := by decide +kernel
  have s_number : isStore (List.lookup (Str.ofString "number") (scopeAt 4).names) = true := by decide +kernel
  have dc_found : ((Str.ofString "found") == ("__classdict__" : Str)) = false := by decide +kernel
  have dd_found : ((Str.ofString "found") == ("__debug__" : Str)) = false := by decide +kernel
  have dc_number : ((Str.ofString "number") == ("__classdict__" : Str)) = false := by decide +kernel
  have dd_number : ((Str.ofString "number") == ("__debug__" : Str)) = false := by decide +kernel
  have dc_numbers : ((Str.ofString "numbers") == ("__classdict__" : Str)) = false := by decide +kernel
  have dd_numbers : ((Str.ofString "numbers") == ("__debug__" : Str)) = false := by decide +kernel
  refine HC.ofBody (n := 1) (ns := (scopeAt 4).names) (tab := [(Str.ofString "numbers"), (Str.ofString "found"), (Str.ofString "number")]) (ps := [(Str.ofString "numbers")]) (rest := [(Str.ofString "found"), (Str.ofString "number")]) (f := B_gcd_all) x.g (x.fn 4 (Str.ofString "gcd_all") (by decide +kernel)) rfl rfl rfl rfl rfl nd (by decide +kernel) (by decide +kernel) (fun pm code doc xs hx => ?_) ?_
  · obtain ⟨y0, rfl⟩ := len1 hx; rfl
  · exact (HSs.cons (HS.asg 1 rfl s_found nd (by exact env_elim fun _ _ _ _ _ _ _ _ _ _ _ => rfl) (HP.toE HP.int))
    (HSs.cons (HS.for (HI.list (HP.toE (HP.var 0 rfl k_numbers dc_numbers dd_numbers))) (fun _ he _ => turn1 he 2 rfl (by decide +kernel) nd) (HSs.cons (HS.asg 1 rfl s_found nd (by exact env_elim fun _ _ _ _ _ _ _ _ _ _ _ => rfl) (HE.callC x.g (H_gcd x) (by decide) (by decide +kernel) rfl (HAs.cons (HP.toE (HP.var 1 rfl k_found dc_found dd_found)) (HAs.cons (HP.toE (HP.var 2 rfl k_number dc_number dd_number)) HAs.nil rfl) rfl)))
    HSs.nil) (by exact fun _ _ => rfl))
    (HSs.cons (HS.ret (HP.toE (HP.var 1 rfl k_found dc_found dd_found)))
    HSs.nil)))
noncomputable def B_zdegree : Nat → Loc → Hp → Option (Fl × Loc × Hp) :=
  (sCons (sRet (liftP (binF .Sub (callP1 lenF (varF 0)) (intF 1))))
  sNil)
noncomputable def F_zdegree : Nat → List V → Hp → Option (V × Hp) := mkF 1 1 B_zdegree
set_option maxRecDepth 10000 in
set_option maxHeartbeats 2000000 in
theorem H_zdegree (x : X mg mb h₀) : HC prog w h₀ mg 1 (Str.ofString "zdegree") F_zdegree := by
  have nd : ([(Str.ofString "p")] : List Str).Nodup := by decide +kernel
  have k_p : isVar (List.lookup (Str.ofString "p") (scopeAt 7).names) = true := by decide +kernel
  have s_p : isStore (List.lookup (Str.ofString "p") (scopeAt 7).names) = true := by decide +kernel
  have dc_p : ((Str.ofString "p") == ("__classdict__" : Str)) = false := by decide +kernel
  have dd_p : ((Str.ofString "p") == ("__debug__" : Str)) = false := by decide +kernel
  refine HC.ofBody (n := 0) (ns := (scopeAt 7).names) (tab := [(Str.ofString "p")]) (ps := [(Str.ofString "p")]) (rest := []) (f := B_zdegree) x.g (x.fn 7 (Str.ofString "zdegree") (by decide +kernel)) rfl rfl rfl rfl rfl nd (by decide +kernel) (by decide +kernel) (fun pm code doc xs hx => ?_) ?_
  · obtain ⟨y0, rfl⟩ := len1 hx; rfl
  · exact (HSs.cons (HS.ret (HP.toE (HP.bin (HP.call1 x.g (by decide +kernel) x.len.1 x.len.2 rfl rfl HB.len (HP.var 0 rfl k_p dc_p dd_p)) HP.int)))
    HSs.nil)
noncomputable def B_zlead : Nat → Loc → Hp → Option (Fl × Loc × Hp) :=
  (sCons (sRet (liftP (ifP (cmpT .Gt (callP1 lenF (varF 0)) (intF 0)) (subP (varF 0) (negF (intF 1))) (intF 0))))
  sNil)
noncomputable def F_zlead : Nat → List V → Hp → Option (V × Hp) := mkF 1 1 B_zlead
set_option maxRecDepth 10000 in
set_option maxHeartbeats 2000000 in
theorem H_zlead (x : X mg mb h₀) : HC prog w h₀ mg 1 (Str.ofString "zlead") F_zlead := by
  have nd : ([(Str.ofString "p")] : List Str).Nodup := by decide +kernel
  have k_p : isVar (List.lookup (Str.ofString "p") (scopeAt 8).names) = true := by decide +kernel
  have s_p : isStore (List.lookup (Str.ofString "p") (scopeAt 8).names) = true := by decide +kernel
  have dc_p : ((Str.ofString "p") == ("__classdict__" : Str)) = false := by decide +kernel
  have dd_p : ((Str.ofString "p") == ("__debug__" : Str)) = false := by decide +kernel
  refine HC.ofBody (n := 0) (ns := (scopeAt 8).names) (tab := [(Str.ofString "p")]) (ps := [(Str.ofString "p")]) (rest := []) (f := B_zlead) x.g (x.fn 8 (Str.ofString "zlead") (by decide +kernel)) rfl rfl rfl rfl rfl nd (by decide +kernel) (by decide +kernel) (fun pm code doc xs hx => ?_) ?_
  · obtain ⟨y0, rfl⟩ := len1 hx; rfl
  · exact (HSs.cons (HS.ret (HP.toE (HP.ife (HT.cmp (HP.call1 x.g (by decide +kernel) x.len.1 x.len.2 rfl rfl HB.len (HP.var 0 rfl k_p dc_p dd_p)) HP.int rfl) (HP.sub (HP.var 0 rfl k_p dc_p dd_p) (HP.neg HP.int) (by exact fun _ _ => rfl)) HP.int)))
    HSs.nil)
noncomputable def B_zsub : Nat → Loc → Hp → Option (Fl × Loc × Hp) :=
  (sCons (sRet (callI P_zadd (asCons (liftP (varF 0)) (asCons (callI P_zneg (asCons (liftP (varF 1)) asNil)) asNil))))
  sNil)
noncomputable def F_zsub : Nat → List V → Hp → Option (V × Hp) := mkF 2 2 B_zsub
set_option maxRecDepth 10000 in
set_option maxHeartbeats 2000000 in
theorem H_zsub (x : X mg mb h₀) : HC prog w h₀ mg 3 (Str.ofString "zsub") F_zsub := by
  have nd : ([(Str.ofString "a"), (Str.ofString "b")] : List Str).Nodup := by decide +kernel
  have k_a : isVar (List.lookup (Str.ofString "a") (scopeAt 11).names) = true := by decide +kernel
  have s_a : isStore (List.lookup (Str.ofString "a") (scopeAt 11).names) = true := by decide +kernel
  have k_b : isVar (List.lookup (Str.ofString "b") (scopeAt 11).names) = true := by decide +kernel
  have s_b : isStore (List.lookup (Str.ofString "b") (scopeAt 11).names) = true := by decide +kernel
  have dc_a : ((Str.ofString "a") == ("__classdict__" : Str)) = false := by decide +kernel
  have dd_a : ((Str.ofString "a") == ("__debug__" : Str)) = false := by decide +kernel
  have dc_b : ((Str.ofString "b") == ("__classdict__" : Str)) = false := by decide +kernel
  have dd_b : ((Str.ofString "b") == ("__debug__" : Str)) = false := by decide +kernel
  refine HC.ofBody (n := 2) (ns := (scopeAt 11).names) (tab := [(Str.ofString "a"), (Str.ofString "b")]) (ps := [(Str.ofString "a"), (Str.ofString "b")]) (rest := []) (f := B_zsub) x.g (x.fn 11 (Str.ofString "zsub") (by decide +kernel)) rfl rfl rfl rfl rfl nd (by decide +kernel) (by decide +kernel) (fun pm code doc xs hx => ?_) ?_
  · obtain ⟨y0, y1, rfl⟩ := len2 hx; rfl
  · exact (HSs.cons (HS.ret (HE.callI x.g (K_zadd x) (by decide) (by decide +kernel) rfl (HAs.cons (HP.toE (HP.var 0 rfl k_a dc_a dd_a)) (HAs.cons (HE.callI x.g (K_zneg x) (by decide) (by decide +kernel) rfl (HAs.cons (HP.toE (HP.var 1 rfl k_b dc_b dd_b)) HAs.nil rfl)) HAs.nil rfl) rfl)))
    HSs.nil)
noncomputable def B_zcontent : Nat → Loc → Hp → Option (Fl × Loc × Hp) :=
  (sCons (sRet (callC F_gcd_all (asCons (liftP (varF 0)) asNil)))
  sNil)
noncomputable def F_zcontent : Nat → List V → Hp → Option (V × Hp) := mkF 1 1 B_zcontent
set_option maxRecDepth 10000 in
set_option maxHeartbeats 2000000 in
theorem H_zcontent (x : X mg mb h₀) : HC prog w h₀ mg 3 (Str.ofString "zcontent") F_zcontent := by
  have nd : ([(Str.ofString "p")] : List Str).Nodup := by decide +kernel
  have k_p : isVar (List.lookup (Str.ofString "p") (scopeAt 15).names) = true := by decide +kernel
  have s_p : isStore (List.lookup (Str.ofString "p") (scopeAt 15).names) = true := by decide +kernel
  have dc_p : ((Str.ofString "p") == ("__classdict__" : Str)) = false := by decide +kernel
  have dd_p : ((Str.ofString "p") == ("__debug__" : Str)) = false := by decide +kernel
  refine HC.ofBody (n := 2) (ns := (scopeAt 15).names) (tab := [(Str.ofString "p")]) (ps := [(Str.ofString "p")]) (rest := []) (f := B_zcontent) x.g (x.fn 15 (Str.ofString "zcontent") (by decide +kernel)) rfl rfl rfl rfl rfl nd (by decide +kernel) (by decide +kernel) (fun pm code doc xs hx => ?_) ?_
  · obtain ⟨y0, rfl⟩ := len1 hx; rfl
  · exact (HSs.cons (HS.ret (HE.callC x.g (H_gcd_all x) (by decide) (by decide +kernel) rfl (HAs.cons (HP.toE (HP.var 0 rfl k_p dc_p dd_p)) HAs.nil rfl)))
    HSs.nil)
noncomputable def B_zcompose : Nat → Loc → Hp → Option (Fl × Loc × Hp) :=
  (sCons (sAsg 2 (dispE false asNil))
  (sCons (sFor (gRev (varF 0)) (fun src => step1 src 3) (sCons (sAsg 2 (callI P_zadd (asCons (callI P_zmul (asCons (liftP (varF 2)) (asCons (liftP (varF 1)) asNil))) (asCons (callI P_ztrim (asCons (dispE false (asCons (liftP (varF 3)) asNil)) asNil)) asNil))))
  sNil))
  (sCons (sRet (liftP (varF 2)))
  sNil)))
noncomputable def F_zcompose : Nat → List V → Hp → Option (V × Hp) := mkF 2 4 B_zcompose
set_option maxRecDepth 10000 in
set_option maxHeartbeats 2000000 in
theorem H_zcompose (x : X mg mb h₀) : HC prog w h₀ mg 3 (Str.ofString "zcompose") F_zcompose := by
  have nd : ([(Str.ofString "a"), (Str.ofString "b"), (Str.ofString "found"), (Str.ofString "number")] : List Str).Nodup := by decide +kernel
  have k_a : isVar (List.lookup (Str.ofString "a") (scopeAt 16).names) = true := by decide +kernel
  have s_a : isStore (List.lookup (Str.ofString "a") (scopeAt 16).names) = true := by decide +kernel
  have k_b : isVar (List.lookup (Str.ofString "b") (scopeAt 16).names) = true := by decide +kernel
  have s_b : isStore (List.lookup (Str.ofString "b") (scopeAt 16).names) = true := by decide +kernel
  have k_found : isVar (List.lookup (Str.ofString "found") (scopeAt 16).names) = true := by decide +kernel
  have s_found : isStore (List.lookup (Str.ofString "found") (scopeAt 16).names) = true := by decide +kernel
  have k_number : isVar (List.lookup (Str.ofString "number") (scopeAt 16).names) = true := by decide +kernel
  have s_number : isStore (List.lookup (Str.ofString "number") (scopeAt 16).names) = true := by decide +kernel
  have dc_a : ((Str.ofString "a") == ("__classdict__" : Str)) = false := by decide +kernel
  have dd_a : ((Str.ofString "a") == ("__debug__" : Str)) = false := by decide +kernel
  have dc_b : ((Str.ofString "b") == ("__classdict__" : Str)) = false := by decide +kernel
  have dd_b : ((Str.ofString "b") == ("__debug__" : Str)) = false := by decide +kernel
  have dc_found : ((Str.ofString "found") == ("__classdict__" : Str)) = false := by decide +kernel
  have dd_found : ((Str.ofString "found") == ("__debug__" : Str)) = false := by decide +kernel
  have dc_number : ((Str.ofString "number") == ("__classdict__" : Str)) = false := by decide +kernel
  have dd_number : ((Str.ofString "number") == ("__debug__" : Str)) = false := by decide +kernel
  refine HC.ofBody (n := 2) (ns := (scopeAt 16).names) (tab := [(Str.ofString "a"), (Str.ofString "b"), (Str.ofString "found"), (Str.ofString "number")]) (ps := [(Str.ofString "a"), (Str.ofString "b")]) (rest := [(Str.ofString "found"), (Str.ofString "number")]) (f := B_zcompose) x.g (x.fn 16 (Str.ofString "zcompose") (by decide +kernel)) rfl rfl rfl rfl rfl nd (by decide +kernel) (by decide +kernel) (fun pm code doc xs hx => ?_) ?_
  · obtain ⟨y0, y1, rfl⟩ := len2 hx; rfl
  · exact (HSs.cons (HS.asg 2 rfl s_found nd (by exact env_elim fun _ _ _ _ _ _ _ _ _ _ _ => rfl) (HE.list HAs.nil))
    (HSs.cons (HS.for (HI.rev x.g (by decide +kernel) x.reversed.1 x.reversed.2 rfl rfl (HP.var 0 rfl k_a dc_a dd_a)) (fun _ he _ => turn1 he 3 rfl (by decide +kernel) nd) (HSs.cons (HS.asg 2 rfl s_found nd (by exact env_elim fun _ _ _ _ _ _ _ _ _ _ _ => rfl) (HE.callI x.g (K_zadd x) (by decide) (by decide +kernel) rfl (HAs.cons (HE.callI x.g (K_zmul x) (by decide) (by decide +kernel) rfl (HAs.cons (HP.toE (HP.var 2 rfl k_found dc_found dd_found)) (HAs.cons (HP.toE (HP.var 1 rfl k_b dc_b dd_b)) HAs.nil rfl) rfl)) (HAs.cons (HE.callI x.g (K_ztrim x) (by decide) (by decide +kernel) rfl (HAs.cons (HE.list (HAs.cons (HP.toE (HP.var 3 rfl k_number dc_number dd_number)) HAs.nil rfl)) HAs.nil rfl)) HAs.nil rfl) rfl)))
    HSs.nil) (by exact fun _ _ => rfl))
    (HSs.cons (HS.ret (HP.toE (HP.var 2 rfl k_found dc_found dd_found)))
    HSs.nil)))
noncomputable def B_check_bottom : Nat → Loc → Hp → Option (Fl × Loc × Hp) :=
  (sCons (sIf (liftT (cmpT .Eq (callP1 lenF (varF 0)) (intF 0))) sDead sNil)
  sNil)
noncomputable def F_check_bottom : Nat → List V → Hp → Option (V × Hp) := mkF 1 1 B_check_bottom
set_option maxRecDepth 10000 in
set_option maxHeartbeats 2000000 in
theorem H_check_bottom (x : X mg mb h₀) : HC prog w h₀ mg 1 (Str.ofString "check_bottom") F_check_bottom := by
  have nd : ([(Str.ofString "p")] : List Str).Nodup := by decide +kernel
  have k_p : isVar (List.lookup (Str.ofString "p") (scopeAt 18).names) = true := by decide +kernel
  have s_p : isStore (List.lookup (Str.ofString "p") (scopeAt 18).names) = true := by decide +kernel
  have dc_p : ((Str.ofString "p") == ("__classdict__" : Str)) = false := by decide +kernel
  have dd_p : ((Str.ofString "p") == ("__debug__" : Str)) = false := by decide +kernel
  refine HC.ofBody (n := 0) (ns := (scopeAt 18).names) (tab := [(Str.ofString "p")]) (ps := [(Str.ofString "p")]) (rest := []) (f := B_check_bottom) x.g (x.fn 18 (Str.ofString "check_bottom") (by decide +kernel)) rfl rfl rfl rfl rfl nd (by decide +kernel) (by decide +kernel) (fun pm code doc xs hx => ?_) ?_
  · obtain ⟨y0, rfl⟩ := len1 hx; rfl
  · exact (HSs.cons (HS.ite (HT.toE (HT.cmp (HP.call1 x.g (by decide +kernel) x.len.1 x.len.2 rfl rfl HB.len (HP.var 0 rfl k_p dc_p dd_p)) HP.int rfl)) HSs.dead HSs.nil)
    HSs.nil)
noncomputable def B_zexact : Nat → Loc → Hp → Option (Fl × Loc × Hp) :=
  (sCons (sExpr (callC F_check_bottom (asCons (liftP (varF 1)) asNil)))
  (sCons (sUnpS [3, 2] (asCons (callE1 listF (liftP (varF 0))) (asCons (mulLE (dispE false (asCons (liftP (intF 0)) asNil)) (liftP (max2P (intF 0) (binF .Add (binF .Sub (callP1 lenF (varF 0)) (callP1 lenF (varF 1))) (intF 1))))) asNil)))
  (sCons (sWhile (liftT (cmpT .GtE (callP1 lenF (varF 2)) (callP1 lenF (varF 1)))) (sCons (sIf (liftT (cmpT .NotEq (binF .Mod (subP (varF 2) (negF (intF 1))) (subP (varF 1) (negF (intF 1)))) (intF 0))) (sCons (sRet (liftP noneF))
  sNil) sNil)
  (sCons (sUnpS [5, 4] (asCons (liftP (binF .FloorDiv (subP (varF 2) (negF (intF 1))) (subP (varF 1) (negF (intF 1))))) (asCons (liftP (binF .Sub (callP1 lenF (varF 2)) (callP1 lenF (varF 1)))) asNil)))
  (sCons (sSet (varF 3) (varF 5) (liftP (varF 4)))
  (sCons (sAsg 2 (callC F_zsub (asCons (liftP (varF 2)) (asCons (callI P_zraise (asCons (callI P_zscale (asCons (liftP (varF 1)) (asCons (liftP (varF 4)) asNil))) (asCons (liftP (varF 5)) asNil))) asNil))))
  sNil)))))
  (sCons (sRet (ifE (liftT (cmpT .Eq (callP1 lenF (varF 2)) (intF 0))) (callI P_ztrim (asCons (liftP (varF 3)) asNil)) (liftP noneF)))
  sNil))))
noncomputable def F_zexact : Nat → List V → Hp → Option (V × Hp) := mkF 2 6 B_zexact
set_option maxRecDepth 10000 in
set_option maxHeartbeats 2000000 in
theorem H_zexact (x : X mg mb h₀) : HC prog w h₀ mg 4 (Str.ofString "zexact") F_zexact := by
  have nd : ([(Str.ofString "a"), (Str.ofString "b"), (Str.ofString "rest"), (Str.ofString "found"), (Str.ofString "number"), (Str.ofString "power")] : List Str).Nodup := by decide +kernel
  have k_a : isVar (List.lookup (Str.ofString "a") (scopeAt 19).names) = true := by decide +kernel
  have s_a : isStore (List.lookup (Str.ofString "a") (scopeAt 19).names) = true := by decide +kernel
  have k_b : isVar (List.lookup (Str.ofString "b") (scopeAt 19).names) = true := by decide +kernel
  have s_b : isStore (List.lookup (Str.ofString "b") (scopeAt 19).names) = true := by decide +kernel
  have k_rest : isVar (List.lookup (Str.ofString "rest") (scopeAt 19).names) = true := by decide +kernel
  have s_rest : isStore (List.lookup (Str.ofString "rest") (scopeAt 19).names) = true := by decide +kernel
  have k_found : isVar (List.lookup (Str.ofString "found") (scopeAt 19).names) = true := by decide +kernel
  have s_found : isStore (List.lookup (Str.ofString "found") (scopeAt 19).names) = true := by decide +kernel
  have k_number : isVar (List.lookup (Str.ofString "number") (scopeAt 19).names) = true := by decide +kernel
  have s_number : isStore (List.lookup (Str.ofString "number") (scopeAt 19).names) = true := by decide +kernel
  have k_power : isVar (List.lookup (Str.ofString "power") (scopeAt 19).names) = true := by decide +kernel
  have s_power : isStore (List.lookup (Str.ofString "power") (scopeAt 19).names) = true := by decide +kernel
  have dc_a : ((Str.ofString "a") == ("__classdict__" : Str)) = false := by decide +kernel
  have dd_a : ((Str.ofString "a") == ("__debug__" : Str)) = false := by decide +kernel
  have dc_b : ((Str.ofString "b") == ("__classdict__" : Str)) = false := by decide +kernel
  have dd_b : ((Str.ofString "b") == ("__debug__" : Str)) = false := by decide +kernel
  have dc_found : ((Str.ofString "found") == ("__classdict__" : Str)) = false := by decide +kernel
  have dd_found : ((Str.ofString "found") == ("__debug__" : Str)) = false := by decide +kernel
  have dc_number : ((Str.ofString "number") == ("__classdict__" : Str)) = false := by decide +kernel
  have dd_number : ((Str.ofString "number") == ("__debug__" : Str)) = false := by decide +kernel
  have dc_power : ((Str.ofString "power") == ("__classdict__" : Str)) = false := by decide +kernel
  have dd_power : ((Str.ofString "power") == ("__debug__" : Str)) = false := by decide +kernel
  have dc_rest : ((Str.ofString "rest") == ("__classdict__" : Str)) = false := by decide +kernel
  have dd_rest : ((Str.ofString "rest") == ("__debug__" : Str)) = false := by decide +kernel
  refine HC.ofBody (n := 3) (ns := (scopeAt 19).names) (tab := [(Str.ofString "a"), (Str.ofString "b"), (Str.ofString "rest"), (Str.ofString "found"), (Str.ofString "number"), (Str.ofString "power")]) (ps := [(Str.ofString "a"), (Str.ofString "b")]) (rest := [(Str.ofString "rest"), (Str.ofString "found"), (Str.ofString "number"), (Str.ofString "power")]) (f := B_zexact) x.g (x.fn 19 (Str.ofString "zexact") (by decide +kernel)) rfl rfl rfl rfl rfl nd (by decide +kernel) (by decide +kernel) (fun pm code doc xs hx => ?_) ?_
  · obtain ⟨y0, y1, rfl⟩ := len2 hx; rfl
  · exact (HSs.cons (HS.expr (by exact env_elim fun _ _ _ _ _ _ _ _ _ _ _ => rfl) (by exact fun _ => rfl) (HE.callC x.g (H_check_bottom x) (by decide) (by decide +kernel) rfl (HAs.cons (HP.toE (HP.var 1 rfl k_b dc_b dd_b)) HAs.nil rfl)))
    (HSs.cons (HS.unpS (xs := [(Str.ofString "rest"), (Str.ofString "found")]) [3, 2] (.cons rfl s_found (.cons rfl s_rest .nil)) nd (HAs.cons (HE.callT x.g (by decide +kernel) x.list.1 x.list.2 rfl rfl HBE.list (HP.toE (HP.var 0 rfl k_a dc_a dd_a))) (HAs.cons (HE.mulL (HE.list (HAs.cons (HP.toE HP.int) HAs.nil rfl)) (HP.toE (HP.max2 x.g (by decide +kernel) x.max.1 x.max.2 rfl rfl rfl HP.int (HP.bin (HP.bin (HP.call1 x.g (by decide +kernel) x.len.1 x.len.2 rfl rfl HB.len (HP.var 0 rfl k_a dc_a dd_a)) (HP.call1 x.g (by decide +kernel) x.len.1 x.len.2 rfl rfl HB.len (HP.var 1 rfl k_b dc_b dd_b))) HP.int)))) HAs.nil rfl) rfl) (by exact env_elim fun _ _ _ _ _ _ _ _ _ _ _ => rfl) (by exact env_elim fun _ _ _ _ _ _ _ _ _ _ _ => rfl))
    (HSs.cons (HS.while (HT.toE (HT.cmp (HP.call1 x.g (by decide +kernel) x.len.1 x.len.2 rfl rfl HB.len (HP.var 2 rfl k_rest dc_rest dd_rest)) (HP.call1 x.g (by decide +kernel) x.len.1 x.len.2 rfl rfl HB.len (HP.var 1 rfl k_b dc_b dd_b)) rfl)) (HSs.cons (HS.ite (HT.toE (HT.cmp (HP.bin (HP.sub (HP.var 2 rfl k_rest dc_rest dd_rest) (HP.neg HP.int) (by exact fun _ _ => rfl)) (HP.sub (HP.var 1 rfl k_b dc_b dd_b) (HP.neg HP.int) (by exact fun _ _ => rfl))) HP.int rfl)) (HSs.cons (HS.ret (HP.toE HP.none))
    HSs.nil) HSs.nil)
    (HSs.cons (HS.unpS (xs := [(Str.ofString "number"), (Str.ofString "power")]) [5, 4] (.cons rfl s_power (.cons rfl s_number .nil)) nd (HAs.cons (HP.toE (HP.bin (HP.sub (HP.var 2 rfl k_rest dc_rest dd_rest) (HP.neg HP.int) (by exact fun _ _ => rfl)) (HP.sub (HP.var 1 rfl k_b dc_b dd_b) (HP.neg HP.int) (by exact fun _ _ => rfl)))) (HAs.cons (HP.toE (HP.bin (HP.call1 x.g (by decide +kernel) x.len.1 x.len.2 rfl rfl HB.len (HP.var 2 rfl k_rest dc_rest dd_rest)) (HP.call1 x.g (by decide +kernel) x.len.1 x.len.2 rfl rfl HB.len (HP.var 1 rfl k_b dc_b dd_b)))) HAs.nil rfl) rfl) (by exact env_elim fun _ _ _ _ _ _ _ _ _ _ _ => rfl) (by exact env_elim fun _ _ _ _ _ _ _ _ _ _ _ => rfl))
    (HSs.cons (HS.set (HP.var 3 rfl k_found dc_found dd_found) (HP.var 5 rfl k_power dc_power dd_power) (HP.toE (HP.var 4 rfl k_number dc_number dd_number)) (by exact fun _ => rfl))
    (HSs.cons (HS.asg 2 rfl s_rest nd (by exact env_elim fun _ _ _ _ _ _ _ _ _ _ _ => rfl) (HE.callC x.g (H_zsub x) (by decide) (by decide +kernel) rfl (HAs.cons (HP.toE (HP.var 2 rfl k_rest dc_rest dd_rest)) (HAs.cons (HE.callI x.g (K_zraise x) (by decide) (by decide +kernel) rfl (HAs.cons (HE.callI x.g (K_zscale x) (by decide) (by decide +kernel) rfl (HAs.cons (HP.toE (HP.var 1 rfl k_b dc_b dd_b)) (HAs.cons (HP.toE (HP.var 4 rfl k_number dc_number dd_number)) HAs.nil rfl) rfl)) (HAs.cons (HP.toE (HP.var 5 rfl k_power dc_power dd_power)) HAs.nil rfl) rfl)) HAs.nil rfl) rfl)))
    HSs.nil)))))
    (HSs.cons (HS.ret (HE.ife (HT.toE (HT.cmp (HP.call1 x.g (by decide +kernel) x.len.1 x.len.2 rfl rfl HB.len (HP.var 2 rfl k_rest dc_rest dd_rest)) HP.int rfl)) (HE.callI x.g (K_ztrim x) (by decide) (by decide +kernel) rfl (HAs.cons (HP.toE (HP.var 3 rfl k_found dc_found dd_found)) HAs.nil rfl)) (HP.toE HP.none)))
    HSs.nil))))
noncomputable def B_pseudo : Nat → Loc → Hp → Option (Fl × Loc × Hp) :=
  (sCons (sExpr (callC F_check_bottom (asCons (liftP (varF 1)) asNil)))
  (sCons (sAsg 2 (liftP (max2P (intF 0) (binF .Add (binF .Sub (callP1 lenF (varF 0)) (callP1 lenF (varF 1))) (intF 1)))))
  (sCons (sUnpT [3, 4, 5, 6] (asCons (callE1 listF (liftP (varF 0))) (asCons (dispE false asNil) (asCons (liftP (varF 2)) (asCons (liftP (callPP F_zlead (varF 1))) asNil)))))
  (sCons (sWhile (liftT (cmpT .GtE (callP1 lenF (varF 3)) (callP1 lenF (varF 1)))) (sCons (sUnpS [8, 7] (asCons (liftP (subP (varF 3) (negF (intF 1)))) (asCons (liftP (binF .Sub (callP1 lenF (varF 3)) (callP1 lenF (varF 1)))) asNil)))
  (sCons (sAsg 4 (callC F_zsub (asCons (callI P_zscale (asCons (liftP (varF 4)) (asCons (liftP (varF 6)) asNil))) (asCons (callI P_zraise (asCons (dispE false (asCons (liftP (negF (varF 7))) asNil)) (asCons (liftP (varF 8)) asNil))) asNil))))
  (sCons (sAsg 3 (callC F_zsub (asCons (callI P_zscale (asCons (liftP (varF 3)) (asCons (liftP (varF 6)) asNil))) (asCons (callI P_zraise (asCons (callI P_zscale (asCons (liftP (varF 1)) (asCons (liftP (varF 7)) asNil))) (asCons (liftP (varF 8)) asNil))) asNil))))
  (sCons (sAug 5 .Sub (intF 1))
  sNil)))))
  (sCons (sAsg 9 (liftP (binF .Pow (varF 6) (varF 5))))
  (sCons (sRet (dispE true (asCons (callI P_zscale (asCons (liftP (varF 4)) (asCons (liftP (varF 9)) asNil))) (asCons (callI P_zscale (asCons (liftP (varF 3)) (asCons (liftP (varF 9)) asNil))) (asCons (liftP (varF 2)) asNil)))))
  sNil))))))
noncomputable def F_pseudo : Nat → List V → Hp → Option (V × Hp) := mkF 2 10 B_pseudo
set_option maxRecDepth 10000 in
set_option maxHeartbeats 2000000 in
theorem H_pseudo (x : X mg mb h₀) : HC prog w h₀ mg 4 (Str.ofString "pseudo") F_pseudo := by
  have nd : ([(Str.ofString "a"), (Str.ofString "b"), (Str.ofString "many"), (Str.ofString "rest"), (Str.ofString "found"), (Str.ofString "left"), (Str.ofString "first"), (Str.ofString "number"), (Str.ofString "power"), (Str.ofString "more")] : List Str).Nodup := by decide +kernel
  have k_a : isVar (List.lookup (Str.ofString "a") (scopeAt 20).names) = true := by decide +kernel
  have s_a : isStore (List.lookup (Str.ofString "a") (scopeAt 20).names) = true := by decide +kernel
  have k_b : isVar (List.lookup (Str.ofString "b") (scopeAt 20).names) = true := by decide +kernel
  have s_b : isStore (List.lookup (Str.ofString "b") (scopeAt 20).names) = true := by decide +kernel
  have k_many : isVar (List.lookup (Str.ofString "many") (scopeAt 20).names) = true := by decide +kernel
  have s_many : isStore (List.lookup (Str.ofString "many") (scopeAt 20).names) = true := by decide +kernel
  have k_rest : isVar (List.lookup (Str.ofString "rest") (scopeAt 20).names) = true := by decide +kernel
  have s_rest : isStore (List.lookup (Str.ofString "rest") (scopeAt 20).names) = true := by decide +kernel
  have k_found : isVar (List.lookup (Str.ofString "found") (scopeAt 20).names) = true := by decide +kernel
  have s_found : isStore (List.lookup (Str.ofString "found") (scopeAt 20).names) = true := by decide +kernel
  have k_left : isVar (List.lookup (Str.ofString "left") (scopeAt 20).names) = true := by decide +kernel
  have s_left : isStore (List.lookup (Str.ofString "left") (scopeAt 20).names) = true := by decide +kernel
  have k_first : isVar (List.lookup (Str.ofString "first") (scopeAt 20).names) = true := by decide +kernel
  have s_first : isStore (List.lookup (Str.ofString "first") (scopeAt 20).names) = true := by decide +kernel
  have k_number : isVar (List.lookup (Str.ofString "number") (scopeAt 20).names) = true := by decide +kernel
  have s_number : isStore (List.lookup (Str.ofString "number") (scopeAt 20).names) = true := by decide +kernel
  have k_power : isVar (List.lookup (Str.ofString "power") (scopeAt 20).names) = true := by decide +kernel
  have s_power : isStore (List.lookup (Str.ofString "power") (scopeAt 20).names) = true := by decide +kernel
  have k_more : isVar (List.lookup (Str.ofString "more") (scopeAt 20).names) = true := by decide +kernel
  have s_more : isStore (List.lookup (Str.ofString "more") (scopeAt 20).names) = true := by decide +kernel
  have dc_a : ((Str.ofString "a") == ("__classdict__" : Str)) = false := by decide +kernel
  have dd_a : ((Str.ofString "a") == ("__debug__" : Str)) = false := by decide +kernel
  have dc_b : ((Str.ofString "b") == ("__classdict__" : Str)) = false := by decide +kernel
  have dd_b : ((Str.ofString "b") == ("__debug__" : Str)) = false := by decide +kernel
  have dc_first : ((Str.ofString "first") == ("__classdict__" : Str)) = false := by decide +kernel
  have dd_first : ((Str.ofString "first") == ("__debug__" : Str)) = false := by decide +kernel
  have dc_found : ((Str.ofString "found") == ("__classdict__" : Str)) = false := by decide +kernel
  have dd_found : ((Str.ofString "found") == ("__debug__" : Str)) = false := by decide +kernel
  have dc_left : ((Str.ofString "left") == ("__classdict__" : Str)) = false := by decide +kernel
  have dd_left : ((Str.ofString "left") == ("__debug__" : Str)) = false := by decide +kernel
  have dc_many : ((Str.ofString "many") == ("__classdict__" : Str)) = false := by decide +kernel
  have dd_many : ((Str.ofString "many") == ("__debug__" : Str)) = false := by decide +kernel
  have dc_more : ((Str.ofString "more") == ("__classdict__" : Str)) = false := by decide +kernel
  have dd_more : ((Str.ofString "more") == ("__debug__" : Str)) = false := by decide +kernel
  have dc_number : ((Str.ofString "number") == ("__classdict__" : Str)) = false := by decide +kernel
  have dd_number : ((Str.ofString "number") == ("__debug__" : Str)) = false := by decide +kernel
  have dc_power : ((Str.ofString "power") == ("__classdict__" : Str)) = false := by decide +kernel
  have dd_power : ((Str.ofString "power") == ("__debug__" : Str)) = false := by decide +kernel
  have dc_rest : ((Str.ofString "rest") == ("__classdict__" : Str)) = false := by decide +kernel
  have dd_rest : ((Str.ofString "rest") == ("__debug__" : Str)) = false := by decide +kernel
  refine HC.ofBody (n := 3) (ns := (scopeAt 20).names) (tab := [(Str.ofString "a"), (Str.ofString "b"), (Str.ofString "many"), (Str.ofString "rest"), (Str.ofString "found"), (Str.ofString "left"), (Str.ofString "first"), (Str.ofString "number"), (Str.ofString "power"), (Str.ofString "more")]) (ps := [(Str.ofString "a"), (Str.ofString "b")]) (rest := [(Str.ofString "many"), (Str.ofString "rest"), (Str.ofString "found"), (Str.ofString "left"), (Str.ofString "first"), (Str.ofString "number"), (Str.ofString "power"), (Str.ofString "more")]) (f := B_pseudo) x.g (x.fn 20 (Str.ofString "pseudo") (by decide +kernel)) rfl rfl rfl rfl rfl nd (by decide +kernel) (by decide +kernel) (fun pm code doc xs hx => ?_) ?_
  · obtain ⟨y0, y1, rfl⟩ := len2 hx; rfl
  · exact (HSs.cons (HS.expr (by exact env_elim fun _ _ _ _ _ _ _ _ _ _ _ => rfl) (by exact fun _ => rfl) (HE.callC x.g (H_check_bottom x) (by decide) (by decide +kernel) rfl (HAs.cons (HP.toE (HP.var 1 rfl k_b dc_b dd_b)) HAs.nil rfl)))
    (HSs.cons (HS.asg 2 rfl s_many nd (by exact env_elim fun _ _ _ _ _ _ _ _ _ _ _ => rfl) (HP.toE (HP.max2 x.g (by decide +kernel) x.max.1 x.max.2 rfl rfl rfl HP.int (HP.bin (HP.bin (HP.call1 x.g (by decide +kernel) x.len.1 x.len.2 rfl rfl HB.len (HP.var 0 rfl k_a dc_a dd_a)) (HP.call1 x.g (by decide +kernel) x.len.1 x.len.2 rfl rfl HB.len (HP.var 1 rfl k_b dc_b dd_b))) HP.int))))
    (HSs.cons (HS.unpT (xs := [(_, _), (_, _), (_, _), (_, _)]) [3, 4, 5, 6] (.cons rfl s_rest (.cons rfl s_found (.cons rfl s_left (.cons rfl s_first .nil)))) nd (HAs.cons (HE.callT x.g (by decide +kernel) x.list.1 x.list.2 rfl rfl HBE.list (HP.toE (HP.var 0 rfl k_a dc_a dd_a))) (HAs.cons (HE.list HAs.nil) (HAs.cons (HP.toE (HP.var 2 rfl k_many dc_many dd_many)) (HAs.cons (HP.toE (HP.callPP x.g (H_zlead x) (by decide) (by decide +kernel) rfl rfl (HP.var 1 rfl k_b dc_b dd_b))) HAs.nil rfl) rfl) rfl) rfl) (by exact env_elim fun _ _ _ _ _ _ _ _ _ _ _ => rfl) (by exact env_elim fun _ _ _ _ _ _ _ _ _ _ _ => rfl))
    (HSs.cons (HS.while (HT.toE (HT.cmp (HP.call1 x.g (by decide +kernel) x.len.1 x.len.2 rfl rfl HB.len (HP.var 3 rfl k_rest dc_rest dd_rest)) (HP.call1 x.g (by decide +kernel) x.len.1 x.len.2 rfl rfl HB.len (HP.var 1 rfl k_b dc_b dd_b)) rfl)) (HSs.cons (HS.unpS (xs := [(Str.ofString "number"), (Str.ofString "power")]) [8, 7] (.cons rfl s_power (.cons rfl s_number .nil)) nd (HAs.cons (HP.toE (HP.sub (HP.var 3 rfl k_rest dc_rest dd_rest) (HP.neg HP.int) (by exact fun _ _ => rfl))) (HAs.cons (HP.toE (HP.bin (HP.call1 x.g (by decide +kernel) x.len.1 x.len.2 rfl rfl HB.len (HP.var 3 rfl k_rest dc_rest dd_rest)) (HP.call1 x.g (by decide +kernel) x.len.1 x.len.2 rfl rfl HB.len (HP.var 1 rfl k_b dc_b dd_b)))) HAs.nil rfl) rfl) (by exact env_elim fun _ _ _ _ _ _ _ _ _ _ _ => rfl) (by exact env_elim fun _ _ _ _ _ _ _ _ _ _ _ => rfl))
    (HSs.cons (HS.asg 4 rfl s_found nd (by exact env_elim fun _ _ _ _ _ _ _ _ _ _ _ => rfl) (HE.callC x.g (H_zsub x) (by decide) (by decide +kernel) rfl (HAs.cons (HE.callI x.g (K_zscale x) (by decide) (by decide +kernel) rfl (HAs.cons (HP.toE (HP.var 4 rfl k_found dc_found dd_found)) (HAs.cons (HP.toE (HP.var 6 rfl k_first dc_first dd_first)) HAs.nil rfl) rfl)) (HAs.cons (HE.callI x.g (K_zraise x) (by decide) (by decide +kernel) rfl (HAs.cons (HE.list (HAs.cons (HP.toE (HP.neg (HP.var 7 rfl k_number dc_number dd_number))) HAs.nil rfl)) (HAs.cons (HP.toE (HP.var 8 rfl k_power dc_power dd_power)) HAs.nil rfl) rfl)) HAs.nil rfl) rfl)))
    (HSs.cons (HS.asg 3 rfl s_rest nd (by exact env_elim fun _ _ _ _ _ _ _ _ _ _ _ => rfl) (HE.callC x.g (H_zsub x) (by decide) (by decide +kernel) rfl (HAs.cons (HE.callI x.g (K_zscale x) (by decide) (by decide +kernel) rfl (HAs.cons (HP.toE (HP.var 3 rfl k_rest dc_rest dd_rest)) (HAs.cons (HP.toE (HP.var 6 rfl k_first dc_first dd_first)) HAs.nil rfl) rfl)) (HAs.cons (HE.callI x.g (K_zraise x) (by decide) (by decide +kernel) rfl (HAs.cons (HE.callI x.g (K_zscale x) (by decide) (by decide +kernel) rfl (HAs.cons (HP.toE (HP.var 1 rfl k_b dc_b dd_b)) (HAs.cons (HP.toE (HP.var 7 rfl k_number dc_number dd_number)) HAs.nil rfl) rfl)) (HAs.cons (HP.toE (HP.var 8 rfl k_power dc_power dd_power)) HAs.nil rfl) rfl)) HAs.nil rfl) rfl)))
    (HSs.cons (HS.aug 5 rfl s_left nd dc_left HP.int)
    HSs.nil)))))
    (HSs.cons (HS.asg 9 rfl s_more nd (by exact env_elim fun _ _ _ _ _ _ _ _ _ _ _ => rfl) (HP.toE (HP.bin (HP.var 6 rfl k_first dc_first dd_first) (HP.var 5 rfl k_left dc_left dd_left))))
    (HSs.cons (HS.ret (HE.tuple (HAs.cons (HE.callI x.g (K_zscale x) (by decide) (by decide +kernel) rfl (HAs.cons (HP.toE (HP.var 4 rfl k_found dc_found dd_found)) (HAs.cons (HP.toE (HP.var 9 rfl k_more dc_more dd_more)) HAs.nil rfl) rfl)) (HAs.cons (HE.callI x.g (K_zscale x) (by decide) (by decide +kernel) rfl (HAs.cons (HP.toE (HP.var 3 rfl k_rest dc_rest dd_rest)) (HAs.cons (HP.toE (HP.var 9 rfl k_more dc_more dd_more)) HAs.nil rfl) rfl)) (HAs.cons (HP.toE (HP.var 2 rfl k_many dc_many dd_many)) HAs.nil rfl) rfl) rfl)))
    HSs.nil))))))
noncomputable def B_divided : Nat → Loc → Hp → Option (Fl × Loc × Hp) :=
  (sCons (sRet (compE (gList (liftP (varF 0))) (fun src => step1 src 0) noTest (binF .FloorDiv (varF 0) (varF 1)) 1 [1]))
  sNil)
noncomputable def F_divided : Nat → List V → Hp → Option (V × Hp) := mkF 2 2 B_divided
set_option maxRecDepth 10000 in
set_option maxHeartbeats 2000000 in
theorem H_divided (x : X mg mb h₀) : HC prog w h₀ mg 1 (Str.ofString "divided") F_divided := by
  have nd : ([(Str.ofString "p"), (Str.ofString "number")] : List Str).Nodup := by decide +kernel
  have k_p : isVar (List.lookup (Str.ofString "p") (scopeAt 22).names) = true := by decide +kernel
  have s_p : isStore (List.lookup (Str.ofString "p") (scopeAt 22).names) = true := by decide +kernel
  have k_number : isVar (List.lookup (Str.ofString "number") (scopeAt 22).names) = true := by decide +kernel
  have s_number : isStore (List.lookup (Str.ofString "number") (scopeAt 22).names) = true := by decide +kernel
  have dc_coefficient : ((Str.ofString "coefficient") == ("__classdict__" : Str)) = false := by decide +kernel
  have dd_coefficient : ((Str.ofString "coefficient") == ("__debug__" : Str)) = false := by decide +kernel
  have dc_number : ((Str.ofString "number") == ("__classdict__" : Str)) = false := by decide +kernel
  have dd_number : ((Str.ofString "number") == ("__debug__" : Str)) = false := by decide +kernel
  have dc_p : ((Str.ofString "p") == ("__classdict__" : Str)) = false := by decide +kernel
  have dd_p : ((Str.ofString "p") == ("__debug__" : Str)) = false := by decide +kernel
  refine HC.ofBody (n := 0) (ns := (scopeAt 22).names) (tab := [(Str.ofString "p"), (Str.ofString "number")]) (ps := [(Str.ofString "p"), (Str.ofString "number")]) (rest := []) (f := B_divided) x.g (x.fn 22 (Str.ofString "divided") (by decide +kernel)) rfl rfl rfl rfl rfl nd (by decide +kernel) (by decide +kernel) (fun pm code doc xs hx => ?_) ?_
  · obtain ⟨y0, y1, rfl⟩ := len2 hx; rfl
  · exact (HSs.cons (HS.ret (HE.comp [(Str.ofString "coefficient")] [(Str.ofString "number")] [1] rfl (by decide +kernel) (by decide +kernel) rfl (.cons rfl (by decide +kernel) (by decide +kernel) .nil) (by decide +kernel) (HI.list (HP.toE (HP.var 0 rfl k_p dc_p dd_p))) (fun _ he _ => turn1 he 0 rfl (by decide +kernel) (by decide +kernel)) HTL.nil (HP.bin (HP.var 0 rfl (by decide +kernel) dc_coefficient dd_coefficient) (HP.var 1 rfl (by decide +kernel) dc_number dd_number)) (by exact fun _ _ => rfl)))
    HSs.nil)
noncomputable def B_full_rest : Nat → Loc → Hp → Option (Fl × Loc × Hp) :=
  (sCons (sUnp [2, 3, 4] (callC F_pseudo (asCons (liftP (varF 0)) (asCons (liftP (varF 1)) asNil))))
  (sCons (sAsg 5 (liftP (binF .Sub (binF .Add (binF .Sub (callPP F_zdegree (varF 0)) (callPP F_zdegree (varF 1))) (intF 1)) (varF 4))))
  (sCons (sRet (compE (gList (liftP (varF 3))) (fun src => step1 src 0) noTest (binF .Mult (varF 0) (binF .Pow (callPP F_zlead (varF 1)) (varF 2))) 1 [1, 5]))
  sNil)))
noncomputable def F_full_rest : Nat → List V → Hp → Option (V × Hp) := mkF 2 6 B_full_rest
set_option maxRecDepth 10000 in
set_option maxHeartbeats 2000000 in
theorem H_full_rest (x : X mg mb h₀) : HC prog w h₀ mg 5 (Str.ofString "full_rest") F_full_rest := by
  have nd : ([(Str.ofString "a"), (Str.ofString "b"), (Str.ofString "quotient"), (Str.ofString "rest"), (Str.ofString "power"), (Str.ofString "lacking")] : List Str).Nodup := by decide +kernel
  have k_a : isVar (List.lookup (Str.ofString "a") (scopeAt 23).names) = true := by decide +kernel
  have s_a : isStore (List.lookup (Str.ofString "a") (scopeAt 23).names) = true := by decide +kernel
  have k_b : isVar (List.lookup (Str.ofString "b") (scopeAt 23).names) = true := by decide +kernel
  have s_b : isStore (List.lookup (Str.ofString "b") (scopeAt 23).names) = true := by decide +kernel
  have k_quotient : isVar (List.lookup (Str.ofString "quotient") (scopeAt 23).names) = true := by decide +kernel
  have s_quotient : isStore (List.lookup (Str.ofString "quotient") (scopeAt 23).names) = true := by decide +kernel
  have k_rest : isVar (List.lookup (Str.ofString "rest") (scopeAt 23).names) = true := by decide +kernel
  have s_rest : isStore (List.lookup (Str.ofString "rest") (scopeAt 23).names) = true := by decide +kernel
  have k_power : isVar (List.lookup (Str.ofString "power") (scopeAt 23).names) = true := by decide +kernel
  have s_power : isStore (List.lookup (Str.ofString "power") (scopeAt 23).names) = true := by decide +kernel
  have k_lacking : isVar (List.lookup (Str.ofString "lacking") (scopeAt 23).names) = true := by decide +kernel
  have s_lacking : isStore (List.lookup (Str.ofString "lacking") (scopeAt 23).names) = true := by decide +kernel
  have dc_a : ((Str.ofString "a") == ("__classdict__" : Str)) = false := by decide +kernel
  have dd_a : ((Str.ofString "a") == ("__debug__" : Str)) = false := by decide +kernel
  have dc_b : ((Str.ofString "b") == ("__classdict__" : Str)) = false := by decide +kernel
  have dd_b : ((Str.ofString "b") == ("__debug__" : Str)) = false := by decide +kernel
  have dc_coefficient : ((Str.ofString "coefficient") == ("__classdict__" : Str)) = false := by decide +kernel
  have dd_coefficient : ((Str.ofString "coefficient") == ("__debug__" : Str)) = false := by decide +kernel
  have dc_lacking : ((Str.ofString "lacking") == ("__classdict__" : Str)) = false := by decide +kernel
  have dd_lacking : ((Str.ofString "lacking") == ("__debug__" : Str)) = false := by decide +kernel
  have dc_power : ((Str.ofString "power") == ("__classdict__" : Str)) = false := by decide +kernel
  have dd_power : ((Str.ofString "power") == ("__debug__" : Str)) = false := by decide +kernel
  have dc_quotient : ((Str.ofString "quotient") == ("__classdict__" : Str)) = false := by decide +kernel
  have dd_quotient : ((Str.ofString "quotient") == ("__debug__" : Str)) = false := by decide +kernel
  have dc_rest : ((Str.ofString "rest") == ("__classdict__" : Str)) = false := by decide +kernel
  have dd_rest : ((Str.ofString "rest") == ("__debug__" : Str)) = false := by decide +kernel
  refine HC.ofBody (n := 4) (ns := (scopeAt 23).names) (tab := [(Str.ofString "a"), (Str.ofString "b"), (Str.ofString "quotient"), (Str.ofString "rest"), (Str.ofString "power"), (Str.ofString "lacking")]) (ps := [(Str.ofString "a"), (Str.ofString "b")]) (rest := [(Str.ofString "quotient"), (Str.ofString "rest"), (Str.ofString "power"), (Str.ofString "lacking")]) (f := B_full_rest) x.g (x.fn 23 (Str.ofString "full_rest") (by decide +kernel)) rfl rfl rfl rfl rfl nd (by decide +kernel) (by decide +kernel) (fun pm code doc xs hx => ?_) ?_
  · obtain ⟨y0, y1, rfl⟩ := len2 hx; rfl
  · exact (HSs.cons (HS.unp (xs := [(_, _), (_, _), (_, _)]) [2, 3, 4] (.cons rfl s_quotient (.cons rfl s_rest (.cons rfl s_power .nil))) nd (HE.callC x.g (H_pseudo x) (by decide) (by decide +kernel) rfl (HAs.cons (HP.toE (HP.var 0 rfl k_a dc_a dd_a)) (HAs.cons (HP.toE (HP.var 1 rfl k_b dc_b dd_b)) HAs.nil rfl) rfl)) (by exact env_elim fun _ _ _ _ _ _ _ _ _ _ _ => rfl) (by exact env_elim fun _ _ _ _ _ _ _ _ _ _ _ => rfl))
    (HSs.cons (HS.asg 5 rfl s_lacking nd (by exact env_elim fun _ _ _ _ _ _ _ _ _ _ _ => rfl) (HP.toE (HP.bin (HP.bin (HP.bin (HP.callPP x.g (H_zdegree x) (by decide) (by decide +kernel) rfl rfl (HP.var 0 rfl k_a dc_a dd_a)) (HP.callPP x.g (H_zdegree x) (by decide) (by decide +kernel) rfl rfl (HP.var 1 rfl k_b dc_b dd_b))) HP.int) (HP.var 4 rfl k_power dc_power dd_power))))
    (HSs.cons (HS.ret (HE.comp [(Str.ofString "coefficient")] [(Str.ofString "b"), (Str.ofString "lacking")] [1, 5] rfl (by decide +kernel) (by decide +kernel) rfl (.cons rfl (by decide +kernel) (by decide +kernel) (.cons rfl (by decide +kernel) (by decide +kernel) .nil)) (by decide +kernel) (HI.list (HP.toE (HP.var 3 rfl k_rest dc_rest dd_rest))) (fun _ he _ => turn1 he 0 rfl (by decide +kernel) (by decide +kernel)) HTL.nil (HP.bin (HP.var 0 rfl (by decide +kernel) dc_coefficient dd_coefficient) (HP.bin (HP.callPP x.g (H_zlead x) (by decide) (by decide +kernel) rfl rfl (HP.var 1 rfl (by decide +kernel) dc_b dd_b)) (HP.var 2 rfl (by decide +kernel) dc_lacking dd_lacking))) (by exact fun _ _ => rfl)))
    HSs.nil)))
noncomputable def B_row_resultant : Nat → Loc → Hp → Option (Fl × Loc × Hp) :=
  (sCons (sUnpT [3, 4] (asCons (liftP (intF 1)) (asCons (liftP (intF 1)) asNil)))
  (sCons (sWhile (liftT (cmpT .Gt (callPP F_zdegree (varF 1)) (intF 0))) (sCons (sAsg 5 (liftP (binF .Sub (callPP F_zdegree (varF 0)) (callPP F_zdegree (varF 1)))))
  (sCons (sIf (liftT (andT (cmpT .Eq (binF .Mod (callPP F_zdegree (varF 0)) (intF 2)) (intF 1)) (cmpT .Eq (binF .Mod (callPP F_zdegree (varF 1)) (intF 2)) (intF 1)))) (sCons (sAsg 2 (liftP (negF (varF 2))))
  sNil) sNil)
  (sCons (sAsg 6 (callC F_full_rest (asCons (liftP (varF 0)) (asCons (liftP (varF 1)) asNil))))
  (sCons (sUnpS [1, 0] (asCons (liftP (varF 1)) (asCons (callC F_divided (asCons (liftP (varF 6)) (asCons (liftP (binF .Mult (varF 3) (binF .Pow (varF 4) (varF 5)))) asNil))) asNil)))
  (sCons (sAsg 3 (liftP (callPP F_zlead (varF 0))))
  (sCons (sIf (liftT (cmpT .Gt (varF 5) (intF 0))) (sCons (sAsg 4 (liftP (binF .FloorDiv (binF .Pow (varF 3) (varF 5)) (binF .Pow (varF 4) (binF .Sub (varF 5) (intF 1))))))
  sNil) sNil)
  sNil)))))))
  (sCons (sIf (eqTE false (liftP (varF 1)) (dispE false asNil)) (sCons (sRet (liftP (intF 0)))
  sNil) sNil)
  (sCons (sAsg 7 (liftP (callPP F_zdegree (varF 0))))
  (sCons (sRet (liftP (binF .Mult (varF 2) (ifP (cmpT .Gt (varF 7) (intF 0)) (binF .FloorDiv (binF .Pow (subP (varF 1) (intF 0)) (varF 7)) (binF .Pow (varF 4) (binF .Sub (varF 7) (intF 1)))) (intF 1)))))
  sNil)))))
noncomputable def F_row_resultant : Nat → List V → Hp → Option (V × Hp) := mkF 3 8 B_row_resultant
set_option maxRecDepth 10000 in
set_option maxHeartbeats 2000000 in
theorem H_row_resultant (x : X mg mb h₀) : HC prog w h₀ mg 6 (Str.ofString "row_resultant") F_row_resultant := by
  have nd : ([(Str.ofString "a"), (Str.ofString "b"), (Str.ofString "sign"), (Str.ofString "g"), (Str.ofString "h"), (Str.ofString "gap"), (Str.ofString "rest"), (Str.ofString "many")] : List Str).Nodup := by decide +kernel
  have k_a : isVar (List.lookup (Str.ofString "a") (scopeAt 24).names) = true := by decide +kernel
  have s_a : isStore (List.lookup (Str.ofString "a") (scopeAt 24).names) = true := by decide +kernel
  have k_b : isVar (List.lookup (Str.ofString "b") (scopeAt 24).names) = true := by decide +kernel
  have s_b : isStore (List.lookup (Str.ofString "b") (scopeAt 24).names) = true := by decide +kernel
  have k_sign : isVar (List.lookup (Str.ofString "sign") (scopeAt 24).names) = true := by decide +kernel
  have s_sign : isStore (List.lookup (Str.ofString "sign") (scopeAt 24).names) = true := by decide +kernel
  have k_g : isVar (List.lookup (Str.ofString "g") (scopeAt 24).names) = true := by decide +kernel
  have s_g : isStore (List.lookup (Str.ofString "g") (scopeAt 24).names) = true := by decide +kernel
  have k_h : isVar (List.lookup (Str.ofString "h") (scopeAt 24).names) = true := by decide +kernel
  have s_h : isStore (List.lookup (Str.ofString "h") (scopeAt 24).names) = true := by decide +kernel
  have k_gap : isVar (List.lookup (Str.ofString "gap") (scopeAt 24).names) = true := by decide +kernel
  have s_gap : isStore (List.lookup (Str.ofString "gap") (scopeAt 24).names) = true := by decide +kernel
  have k_rest : isVar (List.lookup (Str.ofString "rest") (scopeAt 24).names) = true := by decide +kernel
  have s_rest : isStore (List.lookup (Str.ofString "rest") (scopeAt 24).names) = true := by decide +kernel
  have k_many : isVar (List.lookup (Str.ofString "many") (scopeAt 24).names) = true := by decide +kernel
  have s_many : isStore (List.lookup (Str.ofString "many") (scopeAt 24).names) = true := by decide +kernel
  have dc_a : ((Str.ofString "a") == ("__classdict__" : Str)) = false := by decide +kernel
  have dd_a : ((Str.ofString "a") == ("__debug__" : Str)) = false := by decide +kernel
  have dc_b : ((Str.ofString "b") == ("__classdict__" : Str)) = false := by decide +kernel
  have dd_b : ((Str.ofString "b") == ("__debug__" : Str)) = false := by decide +kernel
  have dc_g : ((Str.ofString "g") == ("__classdict__" : Str)) = false := by decide +kernel
  have dd_g : ((Str.ofString "g") == ("__debug__" : Str)) = false := by decide +kernel
  have dc_gap : ((Str.ofString "gap") == ("__classdict__" : Str)) = false := by decide +kernel
  have dd_gap : ((Str.ofString "gap") == ("__debug__" : Str)) = false := by decide +kernel
  have dc_h : ((Str.ofString "h") == ("__classdict__" : Str)) = false := by decide +kernel
  have dd_h : ((Str.ofString "h") == ("__debug__" : Str)) = false := by decide +kernel
  have dc_many : ((Str.ofString "many") == ("__classdict__" : Str)) = false := by decide +kernel
  have dd_many : ((Str.ofString "many") == ("__debug__" : Str)) = false := by decide +kernel
  have dc_rest : ((Str.ofString "rest") == ("__classdict__" : Str)) = false := by decide +kernel
  have dd_rest : ((Str.ofString "rest") == ("__debug__" : Str)) = false := by decide +kernel
  have dc_sign : ((Str.ofString "sign") == ("__classdict__" : Str)) = false := by decide +kernel
  have dd_sign : ((Str.ofString "sign") == ("__debug__" : Str)) = false := by decide +kernel
  refine HC.ofBody (n := 5) (ns := (scopeAt 24).names) (tab := [(Str.ofString "a"), (Str.ofString "b"), (Str.ofString "sign"), (Str.ofString "g"), (Str.ofString "h"), (Str.ofString "gap"), (Str.ofString "rest"), (Str.ofString "many")]) (ps := [(Str.ofString "a"), (Str.ofString "b"), (Str.ofString "sign")]) (rest := [(Str.ofString "g"), (Str.ofString "h"), (Str.ofString "gap"), (Str.ofString "rest"), (Str.ofString "many")]) (f := B_row_resultant) x.g (x.fn 24 (Str.ofString "row_resultant") (by decide +kernel)) rfl rfl rfl rfl rfl nd (by decide +kernel) (by decide +kernel) (fun pm code doc xs hx => ?_) ?_
  · obtain ⟨y0, y1, y2, rfl⟩ := len3 hx; rfl
  · exact (HSs.cons (HS.unpT (xs := [(_, _), (_, _)]) [3, 4] (.cons rfl s_g (.cons rfl s_h .nil)) nd (HAs.cons (HP.toE HP.int) (HAs.cons (HP.toE HP.int) HAs.nil rfl) rfl) (by exact env_elim fun _ _ _ _ _ _ _ _ _ _ _ => rfl) (by exact env_elim fun _ _ _ _ _ _ _ _ _ _ _ => rfl))
    (HSs.cons (HS.while (HT.toE (HT.cmp (HP.callPP x.g (H_zdegree x) (by decide) (by decide +kernel) rfl rfl (HP.var 1 rfl k_b dc_b dd_b)) HP.int rfl)) (HSs.cons (HS.asg 5 rfl s_gap nd (by exact env_elim fun _ _ _ _ _ _ _ _ _ _ _ => rfl) (HP.toE (HP.bin (HP.callPP x.g (H_zdegree x) (by decide) (by decide +kernel) rfl rfl (HP.var 0 rfl k_a dc_a dd_a)) (HP.callPP x.g (H_zdegree x) (by decide) (by decide +kernel) rfl rfl (HP.var 1 rfl k_b dc_b dd_b)))))
    (HSs.cons (HS.ite (HT.toE (HT.and (HT.cmp (HP.bin (HP.callPP x.g (H_zdegree x) (by decide) (by decide +kernel) rfl rfl (HP.var 0 rfl k_a dc_a dd_a)) HP.int) HP.int rfl) (HT.cmp (HP.bin (HP.callPP x.g (H_zdegree x) (by decide) (by decide +kernel) rfl rfl (HP.var 1 rfl k_b dc_b dd_b)) HP.int) HP.int rfl))) (HSs.cons (HS.asg 2 rfl s_sign nd (by exact env_elim fun _ _ _ _ _ _ _ _ _ _ _ => rfl) (HP.toE (HP.neg (HP.var 2 rfl k_sign dc_sign dd_sign))))
    HSs.nil) HSs.nil)
    (HSs.cons (HS.asg 6 rfl s_rest nd (by exact env_elim fun _ _ _ _ _ _ _ _ _ _ _ => rfl) (HE.callC x.g (H_full_rest x) (by decide) (by decide +kernel) rfl (HAs.cons (HP.toE (HP.var 0 rfl k_a dc_a dd_a)) (HAs.cons (HP.toE (HP.var 1 rfl k_b dc_b dd_b)) HAs.nil rfl) rfl)))
    (HSs.cons (HS.unpS (xs := [(Str.ofString "a"), (Str.ofString "b")]) [1, 0] (.cons rfl s_b (.cons rfl s_a .nil)) nd (HAs.cons (HP.toE (HP.var 1 rfl k_b dc_b dd_b)) (HAs.cons (HE.callC x.g (H_divided x) (by decide) (by decide +kernel) rfl (HAs.cons (HP.toE (HP.var 6 rfl k_rest dc_rest dd_rest)) (HAs.cons (HP.toE (HP.bin (HP.var 3 rfl k_g dc_g dd_g) (HP.bin (HP.var 4 rfl k_h dc_h dd_h) (HP.var 5 rfl k_gap dc_gap dd_gap)))) HAs.nil rfl) rfl)) HAs.nil rfl) rfl) (by exact env_elim fun _ _ _ _ _ _ _ _ _ _ _ => rfl) (by exact env_elim fun _ _ _ _ _ _ _ _ _ _ _ => rfl))
    (HSs.cons (HS.asg 3 rfl s_g nd (by exact env_elim fun _ _ _ _ _ _ _ _ _ _ _ => rfl) (HP.toE (HP.callPP x.g (H_zlead x) (by decide) (by decide +kernel) rfl rfl (HP.var 0 rfl k_a dc_a dd_a))))
    (HSs.cons (HS.ite (HT.toE (HT.cmp (HP.var 5 rfl k_gap dc_gap dd_gap) HP.int rfl)) (HSs.cons (HS.asg 4 rfl s_h nd (by exact env_elim fun _ _ _ _ _ _ _ _ _ _ _ => rfl) (HP.toE (HP.bin (HP.bin (HP.var 3 rfl k_g dc_g dd_g) (HP.var 5 rfl k_gap dc_gap dd_gap)) (HP.bin (HP.var 4 rfl k_h dc_h dd_h) (HP.bin (HP.var 5 rfl k_gap dc_gap dd_gap) HP.int)))))
    HSs.nil) HSs.nil)
    HSs.nil)))))))
    (HSs.cons (HS.ite (HTE.eqL false rfl (HP.toE (HP.var 1 rfl k_b dc_b dd_b)) (HE.list HAs.nil) rfl) (HSs.cons (HS.ret (HP.toE HP.int))
    HSs.nil) HSs.nil)
    (HSs.cons (HS.asg 7 rfl s_many nd (by exact env_elim fun _ _ _ _ _ _ _ _ _ _ _ => rfl) (HP.toE (HP.callPP x.g (H_zdegree x) (by decide) (by decide +kernel) rfl rfl (HP.var 0 rfl k_a dc_a dd_a))))
    (HSs.cons (HS.ret (HP.toE (HP.bin (HP.var 2 rfl k_sign dc_sign dd_sign) (HP.ife (HT.cmp (HP.var 7 rfl k_many dc_many dd_many) HP.int rfl) (HP.bin (HP.bin (HP.sub (HP.var 1 rfl k_b dc_b dd_b) HP.int (by exact fun _ _ => rfl)) (HP.var 7 rfl k_many dc_many dd_many)) (HP.bin (HP.var 4 rfl k_h dc_h dd_h) (HP.bin (HP.var 7 rfl k_many dc_many dd_many) HP.int))) HP.int))))
    HSs.nil)))))
noncomputable def B_resultant : Nat → Loc → Hp → Option (Fl × Loc × Hp) :=
  (sCons (sIf (orTE [(eqTE false (liftP (varF 0)) (dispE false asNil)), (eqTE false (liftP (varF 1)) (dispE false asNil))]) (sCons (sRet (liftP (intF 0)))
  sNil) sNil)
  (sCons (sAsg 2 (liftP (intF 1)))
  (sCons (sIf (liftT (cmpT .Lt (callPP F_zdegree (varF 0)) (callPP F_zdegree (varF 1)))) (sCons (sUnpS [1, 0] (asCons (liftP (varF 1)) (asCons (liftP (varF 0)) asNil)))
  (sCons (sAsg 2 (liftP (ifP (andT (cmpT .Eq (binF .Mod (callPP F_zdegree (varF 0)) (intF 2)) (intF 1)) (cmpT .Eq (binF .Mod (callPP F_zdegree (varF 1)) (intF 2)) (intF 1))) (negF (intF 1)) (intF 1))))
  sNil)) sNil)
  (sCons (sUnpS [4, 3] (asCons (callC F_zcontent (asCons (liftP (varF 0)) asNil)) (asCons (callC F_zcontent (asCons (liftP (varF 1)) asNil)) asNil)))
  (sCons (sAsg 5 (liftP (binF .Mult (binF .Pow (varF 3) (callPP F_zdegree (varF 1))) (binF .Pow (varF 4) (callPP F_zdegree (varF 0))))))
  (sCons (sRet (binE .Mult (liftP (varF 5)) (callC F_row_resultant (asCons (callC F_divided (asCons (liftP (varF 0)) (asCons (liftP (varF 3)) asNil))) (asCons (callC F_divided (asCons (liftP (varF 1)) (asCons (liftP (varF 4)) asNil))) (asCons (liftP (varF 2)) asNil))))))
  sNil))))))
noncomputable def F_resultant : Nat → List V → Hp → Option (V × Hp) := mkF 2 6 B_resultant
set_option maxRecDepth 10000 in
set_option maxHeartbeats 2000000 in
theorem H_resultant (x : X mg mb h₀) : HC prog w h₀ mg 7 (Str.ofString "resultant") F_resultant := by
  have nd : ([(Str.ofString "a"), (Str.ofString "b"), (Str.ofString "sign"), (Str.ofString "one"), (Str.ofString "other"), (Str.ofString "shared")] : List Str).Nodup := by decide +kernel
  have k_a : isVar (List.lookup (Str.ofString "a") (scopeAt 25).names) = true := by decide +kernel
  have s_a : isStore (List.lookup (Str.ofString "a") (scopeAt 25).names) = true := by decide +kernel
  have k_b : isVar (List.lookup (Str.ofString "b") (scopeAt 25).names) = true := by decide +kernel
  have s_b : isStore (List.lookup (Str.ofString "b") (scopeAt 25).names) = true := by decide +kernel
  have k_sign : isVar (List.lookup (Str.ofString "sign") (scopeAt 25).names) = true := by decide +kernel
  have s_sign : isStore (List.lookup (Str.ofString "sign") (scopeAt 25).names) = true := by decide +kernel
  have k_one : isVar (List.lookup (Str.ofString "one") (scopeAt 25).names) = true := by decide +kernel
  have s_one : isStore (List.lookup (Str.ofString "one") (scopeAt 25).names) = true := by decide +kernel
  have k_other : isVar (List.lookup (Str.ofString "other") (scopeAt 25).names) = true := by decide +kernel
  have s_other : isStore (List.lookup (Str.ofString "other") (scopeAt 25).names) = true := by decide +kernel
  have k_shared : isVar (List.lookup (Str.ofString "shared") (scopeAt 25).names) = true := by decide +kernel
  have s_shared : isStore (List.lookup (Str.ofString "shared") (scopeAt 25).names) = true := by decide +kernel
  have dc_a : ((Str.ofString "a") == ("__classdict__" : Str)) = false := by decide +kernel
  have dd_a : ((Str.ofString "a") == ("__debug__" : Str)) = false := by decide +kernel
  have dc_b : ((Str.ofString "b") == ("__classdict__" : Str)) = false := by decide +kernel
  have dd_b : ((Str.ofString "b") == ("__debug__" : Str)) = false := by decide +kernel
  have dc_one : ((Str.ofString "one") == ("__classdict__" : Str)) = false := by decide +kernel
  have dd_one : ((Str.ofString "one") == ("__debug__" : Str)) = false := by decide +kernel
  have dc_other : ((Str.ofString "other") == ("__classdict__" : Str)) = false := by decide +kernel
  have dd_other : ((Str.ofString "other") == ("__debug__" : Str)) = false := by decide +kernel
  have dc_shared : ((Str.ofString "shared") == ("__classdict__" : Str)) = false := by decide +kernel
  have dd_shared : ((Str.ofString "shared") == ("__debug__" : Str)) = false := by decide +kernel
  have dc_sign : ((Str.ofString "sign") == ("__classdict__" : Str)) = false := by decide +kernel
  have dd_sign : ((Str.ofString "sign") == ("__debug__" : Str)) = false := by decide +kernel
  refine HC.ofBody (n := 6) (ns := (scopeAt 25).names) (tab := [(Str.ofString "a"), (Str.ofString "b"), (Str.ofString "sign"), (Str.ofString "one"), (Str.ofString "other"), (Str.ofString "shared")]) (ps := [(Str.ofString "a"), (Str.ofString "b")]) (rest := [(Str.ofString "sign"), (Str.ofString "one"), (Str.ofString "other"), (Str.ofString "shared")]) (f := B_resultant) x.g (x.fn 25 (Str.ofString "resultant") (by decide +kernel)) rfl rfl rfl rfl rfl nd (by decide +kernel) (by decide +kernel) (fun pm code doc xs hx => ?_) ?_
  · obtain ⟨y0, y1, rfl⟩ := len2 hx; rfl
  · exact (HSs.cons (HS.ite (HTE.or (.cons (HTE.eqL false rfl (HP.toE (HP.var 0 rfl k_a dc_a dd_a)) (HE.list HAs.nil) rfl) (.cons (HTE.eqL false rfl (HP.toE (HP.var 1 rfl k_b dc_b dd_b)) (HE.list HAs.nil) rfl) .nil))) (HSs.cons (HS.ret (HP.toE HP.int))
    HSs.nil) HSs.nil)
    (HSs.cons (HS.asg 2 rfl s_sign nd (by exact env_elim fun _ _ _ _ _ _ _ _ _ _ _ => rfl) (HP.toE HP.int))
    (HSs.cons (HS.ite (HT.toE (HT.cmp (HP.callPP x.g (H_zdegree x) (by decide) (by decide +kernel) rfl rfl (HP.var 0 rfl k_a dc_a dd_a)) (HP.callPP x.g (H_zdegree x) (by decide) (by decide +kernel) rfl rfl (HP.var 1 rfl k_b dc_b dd_b)) rfl)) (HSs.cons (HS.unpS (xs := [(Str.ofString "a"), (Str.ofString "b")]) [1, 0] (.cons rfl s_b (.cons rfl s_a .nil)) nd (HAs.cons (HP.toE (HP.var 1 rfl k_b dc_b dd_b)) (HAs.cons (HP.toE (HP.var 0 rfl k_a dc_a dd_a)) HAs.nil rfl) rfl) (by exact env_elim fun _ _ _ _ _ _ _ _ _ _ _ => rfl) (by exact env_elim fun _ _ _ _ _ _ _ _ _ _ _ => rfl))
    (HSs.cons (HS.asg 2 rfl s_sign nd (by exact env_elim fun _ _ _ _ _ _ _ _ _ _ _ => rfl) (HP.toE (HP.ife (HT.and (HT.cmp (HP.bin (HP.callPP x.g (H_zdegree x) (by decide) (by decide +kernel) rfl rfl (HP.var 0 rfl k_a dc_a dd_a)) HP.int) HP.int rfl) (HT.cmp (HP.bin (HP.callPP x.g (H_zdegree x) (by decide) (by decide +kernel) rfl rfl (HP.var 1 rfl k_b dc_b dd_b)) HP.int) HP.int rfl)) (HP.neg HP.int) HP.int)))
    HSs.nil)) HSs.nil)
    (HSs.cons (HS.unpS (xs := [(Str.ofString "one"), (Str.ofString "other")]) [4, 3] (.cons rfl s_other (.cons rfl s_one .nil)) nd (HAs.cons (HE.callC x.g (H_zcontent x) (by decide) (by decide +kernel) rfl (HAs.cons (HP.toE (HP.var 0 rfl k_a dc_a dd_a)) HAs.nil rfl)) (HAs.cons (HE.callC x.g (H_zcontent x) (by decide) (by decide +kernel) rfl (HAs.cons (HP.toE (HP.var 1 rfl k_b dc_b dd_b)) HAs.nil rfl)) HAs.nil rfl) rfl) (by exact env_elim fun _ _ _ _ _ _ _ _ _ _ _ => rfl) (by exact env_elim fun _ _ _ _ _ _ _ _ _ _ _ => rfl))
    (HSs.cons (HS.asg 5 rfl s_shared nd (by exact env_elim fun _ _ _ _ _ _ _ _ _ _ _ => rfl) (HP.toE (HP.bin (HP.bin (HP.var 3 rfl k_one dc_one dd_one) (HP.callPP x.g (H_zdegree x) (by decide) (by decide +kernel) rfl rfl (HP.var 1 rfl k_b dc_b dd_b))) (HP.bin (HP.var 4 rfl k_other dc_other dd_other) (HP.callPP x.g (H_zdegree x) (by decide) (by decide +kernel) rfl rfl (HP.var 0 rfl k_a dc_a dd_a))))))
    (HSs.cons (HS.ret (HE.bin (HP.toE (HP.var 5 rfl k_shared dc_shared dd_shared)) (HE.callC x.g (H_row_resultant x) (by decide) (by decide +kernel) rfl (HAs.cons (HE.callC x.g (H_divided x) (by decide) (by decide +kernel) rfl (HAs.cons (HP.toE (HP.var 0 rfl k_a dc_a dd_a)) (HAs.cons (HP.toE (HP.var 3 rfl k_one dc_one dd_one)) HAs.nil rfl) rfl)) (HAs.cons (HE.callC x.g (H_divided x) (by decide) (by decide +kernel) rfl (HAs.cons (HP.toE (HP.var 1 rfl k_b dc_b dd_b)) (HAs.cons (HP.toE (HP.var 4 rfl k_other dc_other dd_other)) HAs.nil rfl) rfl)) (HAs.cons (HP.toE (HP.var 2 rfl k_sign dc_sign dd_sign)) HAs.nil rfl) rfl) rfl))))
    HSs.nil))))))
noncomputable def B_law_draw : Nat → Loc → Hp → Option (Fl × Loc × Hp) :=
  (sCons (sAsg 2 (liftP (subP (varF 0) (intF 1))))
  (sCons (sSet (varF 0) (intF 1) (liftP (binF .Add (varF 2) (intF 1))))
  (sCons (sIf (liftT (cmpT .Lt (varF 2) (callP1 lenF (subP (varF 0) (intF 0))))) (sCons (sRet (liftP (binF .Mod (callP1 absF (subP (subP (varF 0) (intF 0)) (varF 2))) (varF 1))))
  sNil) sNil)
  (sCons (sRet (binE .Mod (subE (dispE true (asCons (liftP (intF 2)) (asCons (liftP (intF 1)) asNil))) (liftP (binF .Mod (varF 2) (intF 2)))) (liftP (varF 1))))
  sNil))))
noncomputable def F_law_draw : Nat → List V → Hp → Option (V × Hp) := mkF 2 3 B_law_draw
set_option maxRecDepth 10000 in
set_option maxHeartbeats 2000000 in
theorem H_law_draw (x : X mg mb h₀) : HC prog w h₀ mg 1 (Str.ofString "_law_draw") F_law_draw := by
  have nd : ([(Str.ofString "pool"), (Str.ofString "many"), (Str.ofString "spot")] : List Str).Nodup := by decide +kernel
  have k_pool : isVar (List.lookup (Str.ofString "pool") (scopeAt 27).names) = true := by decide +kernel
  have s_pool : isStore (List.lookup (Str.ofString "pool") (scopeAt 27).names) = true := by decide +kernel
  have k_many : isVar (List.lookup (Str.ofString "many") (scopeAt 27).names) = true := by decide +kernel
  have s_many : isStore (List.lookup (Str.ofString "many") (scopeAt 27).names) = true := by decide +kernel
  have k_spot : isVar (List.lookup (Str.ofString "spot") (scopeAt 27).names) = true := by decide +kernel
  have s_spot : isStore (List.lookup (Str.ofString "spot") (scopeAt 27).names) = true := by decide +kernel
  have dc_many : ((Str.ofString "many") == ("__classdict__" : Str)) = false := by decide +kernel
  have dd_many : ((Str.ofString "many") == ("__debug__" : Str)) = false := by decide +kernel
  have dc_pool : ((Str.ofString "pool") == ("__classdict__" : Str)) = false := by decide +kernel
  have dd_pool : ((Str.ofString "pool") == ("__debug__" : Str)) = false := by decide +kernel
  have dc_spot : ((Str.ofString "spot") == ("__classdict__" : Str)) = false := by decide +kernel
  have dd_spot : ((Str.ofString "spot") == ("__debug__" : Str)) = false := by decide +kernel
  refine HC.ofBody (n := 0) (ns := (scopeAt 27).names) (tab := [(Str.ofString "pool"), (Str.ofString "many"), (Str.ofString "spot")]) (ps := [(Str.ofString "pool"), (Str.ofString "many")]) (rest := [(Str.ofString "spot")]) (f := B_law_draw) x.g (x.fn 27 (Str.ofString "_law_draw") (by decide +kernel)) rfl rfl rfl rfl rfl nd (by decide +kernel) (by decide +kernel) (fun pm code doc xs hx => ?_) ?_
  · obtain ⟨y0, y1, rfl⟩ := len2 hx; rfl
  · exact (HSs.cons (HS.asg 2 rfl s_spot nd (by exact env_elim fun _ _ _ _ _ _ _ _ _ _ _ => rfl) (HP.toE (HP.sub (HP.var 0 rfl k_pool dc_pool dd_pool) HP.int (by exact fun _ _ => rfl))))
    (HSs.cons (HS.set (HP.var 0 rfl k_pool dc_pool dd_pool) HP.int (HP.toE (HP.bin (HP.var 2 rfl k_spot dc_spot dd_spot) HP.int)) (by exact fun _ => rfl))
    (HSs.cons (HS.ite (HT.toE (HT.cmp (HP.var 2 rfl k_spot dc_spot dd_spot) (HP.call1 x.g (by decide +kernel) x.len.1 x.len.2 rfl rfl HB.len (HP.sub (HP.var 0 rfl k_pool dc_pool dd_pool) HP.int (by exact fun _ _ => rfl))) rfl)) (HSs.cons (HS.ret (HP.toE (HP.bin (HP.call1 x.g (by decide +kernel) x.abs.1 x.abs.2 rfl rfl HB.abs (HP.sub (HP.sub (HP.var 0 rfl k_pool dc_pool dd_pool) HP.int (by exact fun _ _ => rfl)) (HP.var 2 rfl k_spot dc_spot dd_spot) (by exact fun _ _ => rfl))) (HP.var 1 rfl k_many dc_many dd_many))))
    HSs.nil) HSs.nil)
    (HSs.cons (HS.ret (HE.bin (HE.sub (HE.tuple (HAs.cons (HP.toE HP.int) (HAs.cons (HP.toE HP.int) HAs.nil rfl) rfl)) (HP.toE (HP.bin (HP.var 2 rfl k_spot dc_spot dd_spot) HP.int)) (by exact fun _ _ => rfl)) (HP.toE (HP.var 1 rfl k_many dc_many dd_many))))
    HSs.nil))))
noncomputable def B_law_less : Nat → Loc → Hp → Option (Fl × Loc × Hp) :=
  (sCons (sRet (addLE (addLE (dispE false (asCons (liftP (negF (intF 1))) asNil)) (mulLE (dispE false (asCons (liftP (intF 0)) asNil)) (liftP (binF .Sub (varF 0) (intF 1))))) (dispE false (asCons (liftP (intF 1)) asNil))))
  sNil)
noncomputable def F_law_less : Nat → List V → Hp → Option (V × Hp) := mkF 1 1 B_law_less
set_option maxRecDepth 10000 in
set_option maxHeartbeats 2000000 in
theorem H_law_less (x : X mg mb h₀) : HC prog w h₀ mg 1 (Str.ofString "_law_less") F_law_less := by
  have nd : ([(Str.ofString "power")] : List Str).Nodup := by decide +kernel
  have k_power : isVar (List.lookup (Str.ofString "power") (scopeAt 28).names) = true := by decide +kernel
  have s_power : isStore (List.lookup (Str.ofString "power") (scopeAt 28).names) = true := by decide +kernel
  have dc_power : ((Str.ofString "power") == ("__classdict__" : Str)) = false := by decide +kernel
  have dd_power : ((Str.ofString "power") == ("__debug__" : Str)) = false := by decide +kernel
  refine HC.ofBody (n := 0) (ns := (scopeAt 28).names) (tab := [(Str.ofString "power")]) (ps := [(Str.ofString "power")]) (rest := []) (f := B_law_less) x.g (x.fn 28 (Str.ofString "_law_less") (by decide +kernel)) rfl rfl rfl rfl rfl nd (by decide +kernel) (by decide +kernel) (fun pm code doc xs hx => ?_) ?_
  · obtain ⟨y0, rfl⟩ := len1 hx; rfl
  · exact (HSs.cons (HS.ret (HE.addL (HE.addL (HE.list (HAs.cons (HP.toE (HP.neg HP.int)) HAs.nil rfl)) (HE.mulL (HE.list (HAs.cons (HP.toE HP.int) HAs.nil rfl)) (HP.toE (HP.bin (HP.var 0 rfl k_power dc_power dd_power) HP.int)))) (HE.list (HAs.cons (HP.toE HP.int) HAs.nil rfl))))
    HSs.nil)
noncomputable def B_law_told : Nat → Loc → Hp → Option (Fl × Loc × Hp) :=
  (sCons (sAsg 4 (mulLE (dispE false (asCons (liftP (intF 0)) asNil)) (liftP (binF .Add (binF .Mult (binF .Sub (varF 0) (intF 1)) (binF .Sub (varF 1) (intF 1))) (intF 1)))))
  (sCons (sFor (gRange1 (binF .Add (varF 2) (intF 1))) (fun src => step1 src 5) (sCons (sFor (gRange1 (binF .Add (varF 3) (intF 1))) (fun src => step1 src 6) (sCons (sAugSet (varF 4) (binF .Add (binF .Mult (varF 5) (varF 0)) (binF .Mult (varF 6) (varF 1))) .Add (intF 1))
  sNil))
  sNil))
  (sCons (sFor (gRange2 (binF .Add (varF 2) (intF 1)) (varF 1)) (fun src => step1 src 5) (sCons (sFor (gRange2 (binF .Add (varF 3) (intF 1)) (varF 0)) (fun src => step1 src 6) (sCons (sAugSet (varF 4) (binF .Sub (binF .Add (binF .Mult (varF 5) (varF 0)) (binF .Mult (varF 6) (varF 1))) (binF .Mult (varF 0) (varF 1))) .Sub (intF 1))
  sNil))
  sNil))
  (sCons (sRet (liftP (varF 4)))
  sNil))))
noncomputable def F_law_told : Nat → List V → Hp → Option (V × Hp) := mkF 4 7 B_law_told
set_option maxRecDepth 10000 in
set_option maxHeartbeats 2000000 in
theorem H_law_told (x : X mg mb h₀) : HC prog w h₀ mg 1 (Str.ofString "_law_told") F_law_told := by
  have nd : ([(Str.ofString "p"), (Str.ofString "q"), (Str.ofString "r"), (Str.ofString "s"), (Str.ofString "found"), (Str.ofString "i"), (Str.ofString "j")] : List Str).Nodup := by decide +kernel
  have k_p : isVar (List.lookup (Str.ofString "p") (scopeAt 29).names) = true := by decide +kernel
  have s_p : isStore (List.lookup (Str.ofString "p") (scopeAt 29).names) = true := by decide +kernel
  have k_q : isVar (List.lookup (Str.ofString "q") (scopeAt 29).names) = true := by decide +kernel
  have s_q : isStore (List.lookup (Str.ofString "q") (scopeAt 29).names) = true := by decide +kernel
  have k_r : isVar (List.lookup (Str.ofString "r") (scopeAt 29).names) = true := by decide +kernel
  have s_r : isStore (List.lookup (Str.ofString "r") (scopeAt 29).names) = true := by decide +kernel
  have k_s : isVar (List.lookup (Str.ofString "s") (scopeAt 29).names) = true := by decide +kernel
  have s_s : isStore (List.lookup (Str.ofString "s") (scopeAt 29).names) = true := by decide +kernel
  have k_found : isVar (List.lookup (Str.ofString "found") (scopeAt 29).names) = true := by decide +kernel
  have s_found : isStore (List.lookup (Str.ofString "found") (scopeAt 29).names) = true := by decide +kernel
  have k_i : isVar (List.lookup (Str.ofString "i") (scopeAt 29).names) = true := by decide +kernel
  have s_i : isStore (List.lookup (Str.ofString "i") (scopeAt 29).names) = true := by decide +kernel
  have k_j : isVar (List.lookup (Str.ofString "j") (scopeAt 29).names) = true := by decide +kernel
  have s_j : isStore (List.lookup (Str.ofString "j") (scopeAt 29).names) = true := by decide +kernel
  have dc_found : ((Str.ofString "found") == ("__classdict__" : Str)) = false := by decide +kernel
  have dd_found : ((Str.ofString "found") == ("__debug__" : Str)) = false := by decide +kernel
  have dc_i : ((Str.ofString "i") == ("__classdict__" : Str)) = false := by decide +kernel
  have dd_i : ((Str.ofString "i") == ("__debug__" : Str)) = false := by decide +kernel
  have dc_j : ((Str.ofString "j") == ("__classdict__" : Str)) = false := by decide +kernel
  have dd_j : ((Str.ofString "j") == ("__debug__" : Str)) = false := by decide +kernel
  have dc_p : ((Str.ofString "p") == ("__classdict__" : Str)) = false := by decide +kernel
  have dd_p : ((Str.ofString "p") == ("__debug__" : Str)) = false := by decide +kernel
  have dc_q : ((Str.ofString "q") == ("__classdict__" : Str)) = false := by decide +kernel
  have dd_q : ((Str.ofString "q") == ("__debug__" : Str)) = false := by decide +kernel
  have dc_r : ((Str.ofString "r") == ("__classdict__" : Str)) = false := by decide +kernel
  have dd_r : ((Str.ofString "r") == ("__debug__" : Str)) = false := by decide +kernel
  have dc_s : ((Str.ofString "s") == ("__classdict__" : Str)) = false := by decide +kernel
  have dd_s : ((Str.ofString "s") == ("__debug__" : Str)) = false := by decide +kernel
  refine HC.ofBody (n := 0) (ns := (scopeAt 29).names) (tab := [(Str.ofString "p"), (Str.ofString "q"), (Str.ofString "r"), (Str.ofString "s"), (Str.ofString "found"), (Str.ofString "i"), (Str.ofString "j")]) (ps := [(Str.ofString "p"), (Str.ofString "q"), (Str.ofString "r"), (Str.ofString "s")]) (rest := [(Str.ofString "found"), (Str.ofString "i"), (Str.ofString "j")]) (f := B_law_told) x.g (x.fn 29 (Str.ofString "_law_told") (by decide +kernel)) rfl rfl rfl rfl rfl nd (by decide +kernel) (by decide +kernel) (fun pm code doc xs hx => ?_) ?_
  · obtain ⟨y0, y1, y2, y3, rfl⟩ := len4 hx; rfl
  · exact (HSs.cons (HS.asg 4 rfl s_found nd (by exact env_elim fun _ _ _ _ _ _ _ _ _ _ _ => rfl) (HE.mulL (HE.list (HAs.cons (HP.toE HP.int) HAs.nil rfl)) (HP.toE (HP.bin (HP.bin (HP.bin (HP.var 0 rfl k_p dc_p dd_p) HP.int) (HP.bin (HP.var 1 rfl k_q dc_q dd_q) HP.int)) HP.int))))
    (HSs.cons (HS.for (HI.range1 x.g (by decide +kernel) x.range.1 x.range.2 rfl rfl (HP.bin (HP.var 2 rfl k_r dc_r dd_r) HP.int)) (fun _ he _ => turn1 he 5 rfl (by decide +kernel) nd) (HSs.cons (HS.for (HI.range1 x.g (by decide +kernel) x.range.1 x.range.2 rfl rfl (HP.bin (HP.var 3 rfl k_s dc_s dd_s) HP.int)) (fun _ he _ => turn1 he 6 rfl (by decide +kernel) nd) (HSs.cons (HS.augSet (HP.var 4 rfl k_found dc_found dd_found) (HP.bin (HP.bin (HP.var 5 rfl k_i dc_i dd_i) (HP.var 0 rfl k_p dc_p dd_p)) (HP.bin (HP.var 6 rfl k_j dc_j dd_j) (HP.var 1 rfl k_q dc_q dd_q))) HP.int (by exact fun _ _ _ => rfl))
    HSs.nil) (by exact fun _ _ => rfl))
    HSs.nil) (by exact fun _ _ => rfl))
    (HSs.cons (HS.for (HI.range2 x.g (by decide +kernel) x.range.1 x.range.2 rfl rfl rfl (HP.bin (HP.var 2 rfl k_r dc_r dd_r) HP.int) (HP.var 1 rfl k_q dc_q dd_q)) (fun _ he _ => turn1 he 5 rfl (by decide +kernel) nd) (HSs.cons (HS.for (HI.range2 x.g (by decide +kernel) x.range.1 x.range.2 rfl rfl rfl (HP.bin (HP.var 3 rfl k_s dc_s dd_s) HP.int) (HP.var 0 rfl k_p dc_p dd_p)) (fun _ he _ => turn1 he 6 rfl (by decide +kernel) nd) (HSs.cons (HS.augSet (HP.var 4 rfl k_found dc_found dd_found) (HP.bin (HP.bin (HP.bin (HP.var 5 rfl k_i dc_i dd_i) (HP.var 0 rfl k_p dc_p dd_p)) (HP.bin (HP.var 6 rfl k_j dc_j dd_j) (HP.var 1 rfl k_q dc_q dd_q))) (HP.bin (HP.var 0 rfl k_p dc_p dd_p) (HP.var 1 rfl k_q dc_q dd_q))) HP.int (by exact fun _ _ _ => rfl))
    HSs.nil) (by exact fun _ _ => rfl))
    HSs.nil) (by exact fun _ _ => rfl))
    (HSs.cons (HS.ret (HP.toE (HP.var 4 rfl k_found dc_found dd_found)))
    HSs.nil))))
end
end Mine
namespace Mine
inductive Ren (L : List Nat) : V → V → Prop
  | none : Ren L .none .none
  | bool (b : Bool) : Ren L (.bool b) (.bool b)
  | int (i : Int) : Ren L (.int i) (.int i)
  | ref {j k : Nat} : L[j]? = some k → Ren L (.ref k) (.ref j)
inductive Rens (L : List Nat) : List V → List V → Prop
  | nil : Rens L [] []
  | cons {v w vs ws} : Ren L v w → Rens L vs ws → Rens L (v :: vs) (w :: ws)
theorem Rens.ints (L : List Nat) : ∀ l : List Int, Rens L (l.map .int) (l.map .int)
  | [] => .nil
  | a :: r => .cons (.int a) (Rens.ints L r)
noncomputable def viewA (L : List Nat) (φ : List Addr) : List Addr := L.map fun k => φ.getD k 0
theorem viewA_get {L : List Nat} {φ : List Addr} {j k : Nat} (e : L[j]? = some k) : (viewA L φ)[j]? = some (φ.getD k 0) := by
  simp [viewA, e]
theorem getD_of {φ : List Addr} {k : Nat} {a : Addr} (e : φ[k]? = some a) : φ.getD k 0 = a := by
  simp [List.getD, e]
theorem VR.view {L : List Nat} {φ : List Addr} {v v2 : V} {x : Value} (h : VR φ v x) (r : Ren L v v2) : VR (viewA L φ) v2 x := by
  cases r with
  | none => cases h; exact .none
  | bool b => cases h; exact .bool b
  | int i => cases h; exact .int _ _
  | ref e => cases h with
    | ref e' => exact .ref (by rw [viewA_get e, getD_of e'])
theorem VsR.view {L : List Nat} {φ : List Addr} : ∀ {vs ws : List V} {xs : List Value}, VsR φ vs xs → Rens L vs ws → VsR (viewA L φ) ws xs
  | _, _, _, .nil, .nil => .nil
  | _, _, _, .cons h r, .cons q t => .cons (h.view q) (r.view t)
theorem viewA_mem {L : List Nat} {φ : List Addr} (hlt : ∀ k ∈ L, k < φ.length) {a : Addr} (h : a ∈ viewA L φ) : a ∈ φ := by
  obtain ⟨k, hk, rfl⟩ := List.mem_map.mp h
  have := hlt k hk
  rw [getD_of (List.getElem?_eq_getElem this)]
  exact List.getElem_mem this
theorem viewA_nodup {φ : List Addr} (hn : φ.Nodup) : ∀ {L : List Nat}, L.Nodup → (∀ k ∈ L, k < φ.length) → (viewA L φ).Nodup
  | [], _, _ => .nil
  | k :: L, hL, hlt => by
    have hk := hlt k (.head _)
    show (φ.getD k 0 :: viewA L φ).Nodup
    rw [List.nodup_cons] at hL ⊢
    refine ⟨fun hm => ?_, viewA_nodup hn hL.2 fun j hj => hlt j (.tail _ hj)⟩
    obtain ⟨j, hj, e⟩ := List.mem_map.mp hm
    have hj' := hlt j (.tail _ hj)
    rw [getD_of (List.getElem?_eq_getElem hk), getD_of (List.getElem?_eq_getElem hj')] at e
    have := (List.getElem_inj hn).mp e
    exact hL.1 (this ▸ hj)
theorem HR.view {h₀ h : Heap} {L : List Nat} {φ : List Addr} {σ σ2 : Hp} (H : HR h₀ φ σ h) (hn : L.Nodup) (hlen : L.length = σ2.length) (hlt : ∀ k ∈ L, k < σ.length)
    (ho : ∀ (j k : Nat) (o2 : O), L[j]? = some k → σ2[j]? = some o2 → ∃ its, σ[k]? = some ⟨o2.tup, its⟩ ∧ Rens L its o2.items) : HR h₀ (viewA L φ) σ2 h := by
  have hlt' : ∀ k ∈ L, k < φ.length := fun k hk => by rw [H.len]; exact hlt k hk
  refine ⟨H.keep, by simpa [viewA] using hlen, viewA_nodup H.nodup hn hlt', fun a ha => H.new a (viewA_mem hlt' ha), fun j a o2 e eo => ?_⟩
  have hj : j < L.length := by
    have := (List.getElem?_eq_some_iff.mp e).1
    simpa [viewA] using this
  have eL := List.getElem?_eq_getElem hj
  have hk := hlt' L[j] (List.getElem_mem hj)
  obtain ⟨its, e1, hr⟩ := ho j L[j] o2 eL eo
  rw [viewA_get eL] at e
  cases e
  have ea : φ[L[j]]? = some (φ.getD L[j] 0) := by rw [getD_of (List.getElem?_eq_getElem hk)]; exact List.getElem?_eq_getElem hk
  obtain ⟨xs, hv, r⟩ := H.obj L[j] _ _ ea e1
  exact ⟨xs, hv.view hr, r⟩
theorem ovr_view {L : List Nat} {φ : List Addr} {ov ov2 : Option V} {ox : Option Value} (h : OVR φ ov ox) (hr : ∀ v2 : V, ov2 = some v2 → ∃ v : V, ov = some v ∧ Ren L v v2) : OVR (viewA L φ) ov2 ox := by
  cases ov2 with
  | none => trivial
  | some v2 =>
    obtain ⟨v, rfl, r⟩ := hr v2 rfl
    obtain ⟨x, rfl, hx⟩ := h.some
    exact hx.view r
theorem FOK.view {env : Env} {tab : List Str} {ρ ρ2 : Loc} {L : List Nat} {φ : List Addr} {h : Heap} (F : FOK env tab ρ φ h) (hlt : ∀ k ∈ L, k < φ.length) (hl : ρ2.length = ρ.length)
    (hρ : ∀ (i : Nat) (v2 : V), look ρ2 i = some v2 → ∃ v, look ρ i = some v ∧ Ren L v v2) : FOK env tab ρ2 (viewA L φ) h := by
  obtain ⟨ho, hn, m, hm, hv⟩ := F
  refine ⟨fun b hb => ⟨fun q => (ho b hb).1 (viewA_mem hlt q), (ho b hb).2⟩, hl.trans hn, m, hm, fun i x e => ?_⟩
  have hvx := hv i x e
  unfold VarIs at hvx ⊢
  split at hvx
  · exact ovr_view hvx (hρ i)
  · obtain ⟨c, cv, h1, h2, h3, h4⟩ := hvx
    exact ⟨c, cv, h1, fun q => h2 (viewA_mem hlt q), h3, ovr_view h4 (hρ i)⟩
  · obtain ⟨c, cv, h1, h2, h3, h4⟩ := hvx
    exact ⟨c, cv, h1, fun q => h2 (viewA_mem hlt q), h3, ovr_view h4 (hρ i)⟩
  · cases e2 : look ρ2 i with
    | none => rfl
    | some v2 =>
      obtain ⟨v, e3, _⟩ := hρ i v2 e2
      rw [hvx] at e3; cases e3

section
variable (prog : Program) (w : World) (h₀ : Heap) (n : Nat) (ns : List (Str × NameKind)) (tab : List Str)
/-- from here on the statements end with the answer True -/
structure Ends (st : List Stmt) (ρ : Loc) (σ : Hp) : Prop where
  run : ∀ env, EnvOK h₀ ns env → Apart env → ∀ A, Room n A → ∀ φ s, HR h₀ φ σ s.heap → FOK env tab ρ φ s.heap → ∀ (Q : Flow → Shared → Prop) (E : Value → Shared → Prop),
    (∀ h' tk, Keep h₀ h' → Q (.ret (.bool true)) { s with heap := h', toks := tk }) → wpAny (model prog w) A (execs st env) Q E s
end
section
variable {prog : Program} {w : World} {h₀ : Heap} {n : Nat} {ns : List (Str × NameKind)} {tab : List Str}
noncomputable def isTrueRes : Option (Fl × Loc × Hp) → Bool
  | some (.ret (.bool true), _, _) => true
  | _ => false
theorem isTrueRes_eq {r : Option (Fl × Loc × Hp)} (h : isTrueRes r = true) : ∃ ρ σ, r = some (.ret (.bool true), ρ, σ) := by
  unfold isTrueRes at h
  split at h
  · exact ⟨_, _, rfl⟩
  · cases h
theorem Ends.of {st : List Stmt} {f} {ρ : Loc} {σ : Hp} (h : HSs prog w h₀ n ns tab st f) (e : isTrueRes (f 0 ρ σ) = true) : Ends prog w h₀ n ns tab st ρ σ := by
  obtain ⟨ρ', σ', e⟩ := isTrueRes_eq e
  refine ⟨fun env he ap A hA φ s H F Q E hQ => h.run env he ap A hA 0 ρ σ φ s H F _ _ _ e Q E fun φ' y h' tk k H' F' hy => ?_⟩
  cases hy with
  | ret hv => cases hv; exact hQ h' tk H'.keep
theorem Ends.step {st : Stmt} {rest : List Stmt} {f} {ρ ρ' : Loc} {σ σ' : Hp} (h : HS prog w h₀ n ns tab st f) (e : f 0 ρ σ = some (.next, ρ', σ')) (r : Ends prog w h₀ n ns tab rest ρ' σ') : Ends prog w h₀ n ns tab (st :: rest) ρ σ := by
  refine ⟨fun env he ap A hA φ s H F Q E hQ => ?_⟩
  refine wpAny_execs_cons (h.run env he ap A hA 0 ρ σ φ s H F _ _ _ e _ _ fun φ' y h' tk k H' F' hy => ?_)
  cases hy
  exact r.run env he ap A hA φ' _ H' F' Q E hQ
noncomputable def sAll : List (Nat → Loc → Hp → Option (Fl × Loc × Hp)) → Nat → Loc → Hp → Option (Fl × Loc × Hp)
  | [] => sNil
  | f :: fs => sCons f (sAll fs)
inductive Each (prog : Program) (w : World) (h₀ : Heap) (n : Nat) (ns : List (Str × NameKind)) (tab : List Str) : List Stmt → List (Nat → Loc → Hp → Option (Fl × Loc × Hp)) → Prop
  | nil : Each prog w h₀ n ns tab [] []
  | cons {st sts f fs} : HS prog w h₀ n ns tab st f → Each prog w h₀ n ns tab sts fs → Each prog w h₀ n ns tab (st :: sts) (f :: fs)
theorem Ends.steps {rest : List Stmt} : ∀ {sts : List Stmt} {fs} {ρ ρ' : Loc} {σ σ' : Hp}, Each prog w h₀ n ns tab sts fs → sAll fs 0 ρ σ = some (.next, ρ', σ') → Ends prog w h₀ n ns tab rest ρ' σ' → Ends prog w h₀ n ns tab (sts ++ rest) ρ σ
  | _, _, ρ, ρ', σ, σ', .nil, e, r => by
    cases e; exact r
  | _, _, ρ, ρ', σ, σ', .cons h hs, e, r => by
    unfold sAll sCons at e
    split at e
    · rename_i ρ₁ σ₁ e1
      exact Ends.step h e1 (Ends.steps hs e r)
    · rename_i q
      exact absurd e (q _ _ ·)
theorem Each.toHSs : ∀ {sts : List Stmt} {fs}, Each prog w h₀ n ns tab sts fs → HSs prog w h₀ n ns tab sts (sAll fs)
  | _, _, .nil => HSs.nil
  | _, _, .cons h r => HSs.cons h r.toHSs
theorem Ends.view {st : List Stmt} {ρ ρ2 : Loc} {σ σ2 : Hp} (L : List Nat) (hn : L.Nodup) (hlen : L.length = σ2.length) (hlt : ∀ k ∈ L, k < σ.length)
    (ho : ∀ (j k : Nat) (o2 : O), L[j]? = some k → σ2[j]? = some o2 → ∃ its, σ[k]? = some ⟨o2.tup, its⟩ ∧ Rens L its o2.items) (hl : ρ2.length = ρ.length)
    (hρ : ∀ (i : Nat) (v2 : V), look ρ2 i = some v2 → ∃ v, look ρ i = some v ∧ Ren L v v2) (r : Ends prog w h₀ n ns tab st ρ2 σ2) : Ends prog w h₀ n ns tab st ρ σ :=
  ⟨fun env he ap A hA φ s H F Q E hQ => r.run env he ap A hA _ s (H.view hn hlen hlt ho) (F.view (fun k hk => by rw [H.len]; exact hlt k hk) hl hρ) Q E hQ⟩
end
end Mine
namespace Mine
section
variable {prog : Program} {w : World} {h₀ : Heap} {mg mb : Str → Option Value}
noncomputable def B_law_0 : Nat → Loc → Hp → Option (Fl × Loc × Hp) :=
  (sUnp [1, 2] (subE (dispE true (asCons (dispE true (asCons (liftP (intF 2)) (asCons (liftP (intF 3)) asNil))) (asCons (dispE true (asCons (liftP (intF 2)) (asCons (liftP (intF 5)) asNil))) (asCons (dispE true (asCons (liftP (intF 3)) (asCons (liftP (intF 5)) asNil))) (asCons (dispE true (asCons (liftP (intF 3)) (asCons (liftP (intF 7)) asNil))) (asCons (dispE true (asCons (liftP (intF 2)) (asCons (liftP (intF 7)) asNil))) (asCons (dispE true (asCons (liftP (intF 5)) (asCons (liftP (intF 7)) asNil))) (asCons (dispE true (asCons (liftP (intF 2)) (asCons (liftP (intF 11)) asNil))) (asCons (dispE true (asCons (liftP (intF 3)) (asCons (liftP (intF 11)) asNil))) asNil))))))))) (callI F_law_draw (asCons (liftP (varF 0)) (asCons (liftP (intF 8)) asNil)))))
noncomputable def B_law_1 : Nat → Loc → Hp → Option (Fl × Loc × Hp) :=
  (sAsg 3 (callC F_zexact (asCons (callI P_zmul (asCons (callC F_law_less (asCons (liftP (binF .Mult (varF 1) (varF 2))) asNil)) (asCons (callC F_law_less (asCons (liftP (intF 1)) asNil)) asNil))) (asCons (callI P_zmul (asCons (callC F_law_less (asCons (liftP (varF 1)) asNil)) (asCons (callC F_law_less (asCons (liftP (varF 2)) asNil)) asNil))) asNil))))
noncomputable def B_law_2 : Nat → Loc → Hp → Option (Fl × Loc × Hp) :=
  (sAsg 5 (compE (gRange1 (varF 2)) (fun src => step1 src 0) (andT (cmpT .GtE (binF .Mult (binF .Sub (varF 1) (intF 1)) (binF .Sub (varF 2) (intF 1))) (binF .Mult (varF 0) (varF 1))) (cmpT .Eq (binF .Mod (binF .Sub (binF .Mult (binF .Sub (varF 1) (intF 1)) (binF .Sub (varF 2) (intF 1))) (binF .Mult (varF 0) (varF 1))) (varF 2)) (intF 0))) (varF 0) 1 [1, 2]))
noncomputable def B_law_3 : Nat → Loc → Hp → Option (Fl × Loc × Hp) :=
  (sUnpS [6, 4] (asCons (liftP (subP (varF 5) (intF 0))) (asCons (liftP (binF .FloorDiv (binF .Sub (binF .Mult (binF .Sub (varF 1) (intF 1)) (binF .Sub (varF 2) (intF 1))) (binF .Mult (subP (varF 5) (intF 0)) (varF 1))) (varF 2))) asNil)))
noncomputable def B_law_4 : Nat → Loc → Hp → Option (Fl × Loc × Hp) :=
  (sIf (orTE [(liftT (isNoneT (varF 3))), (liftT (cmpT .NotEq (callP1 lenF (varF 3)) (binF .Add (binF .Mult (binF .Sub (varF 1) (intF 1)) (binF .Sub (varF 2) (intF 1))) (intF 1)))), (liftT (cmpT .NotEq (subP (varF 3) (binF .FloorDiv (binF .Mult (binF .Sub (varF 1) (intF 1)) (binF .Sub (varF 2) (intF 1))) (intF 2))) (binF .Pow (negF (intF 1)) (varF 4))))]) (sCons (sRet (liftP (boolF false)))
  sNil) sNil)
noncomputable def B_law_5 : Nat → Loc → Hp → Option (Fl × Loc × Hp) :=
  (sAsg 7 (compE (gEnum (varF 3)) (fun src => step2 src 0 1) (cmpT .NotEq (varF 1) (intF 0)) (varF 0) 2 []))
noncomputable def B_law_6 : Nat → Loc → Hp → Option (Fl × Loc × Hp) :=
  (sIf (eqTE true (compE (gList (liftP (varF 7))) (fun src => step1 src 0) noTest (subP (varF 1) (varF 0)) 1 [3]) (compE (gRange1 (callP1 lenF (varF 7))) (fun src => step1 src 0) noTest (binF .Pow (negF (intF 1)) (varF 0)) 1 [])) (sCons (sRet (liftP (boolF false)))
  sNil) sNil)
noncomputable def B_law_7 : Nat → Loc → Hp → Option (Fl × Loc × Hp) :=
  (sIf (cmpTE .NotEq (callE1 maxLF (addLE (dispE false (asCons (liftP (intF 0)) asNil)) (compE (gRange1 (binF .Sub (callP1 lenF (varF 7)) (intF 1))) (fun src => step1 src 0) noTest (binF .Sub (subP (varF 1) (binF .Add (varF 0) (intF 1))) (subP (varF 1) (varF 0))) 1 [7]))) (liftP (binF .Sub (varF 1) (intF 1)))) (sCons (sRet (liftP (boolF false)))
  sNil) sNil)
noncomputable def B_law_8 : Nat → Loc → Hp → Option (Fl × Loc × Hp) :=
  (sIf (eqTE true (callC F_zexact (asCons (callC F_law_less (asCons (liftP (binF .Mult (varF 1) (varF 2))) asNil)) (asCons (liftP (varF 3)) asNil))) (addLE (addLE (mulLE (dispE false (asCons (liftP (negF (intF 1))) asNil)) (liftP (varF 1))) (mulLE (dispE false (asCons (liftP (intF 0)) asNil)) (liftP (binF .Sub (varF 2) (varF 1))))) (mulLE (dispE false (asCons (liftP (intF 1)) asNil)) (liftP (varF 1))))) (sCons (sRet (liftP (boolF false)))
  sNil) sNil)
noncomputable def B_law_9 : Nat → Loc → Hp → Option (Fl × Loc × Hp) :=
  (sFor (gList (dispE true (asCons (dispE true (asCons (liftP (varF 1)) (asCons (liftP (varF 2)) asNil))) (asCons (dispE true (asCons (liftP (varF 2)) (asCons (liftP (varF 1)) asNil))) asNil)))) (fun src => step2 src 8 9) (sCons (sAsg 10 (mulLE (dispE false (asCons (liftP (intF 1)) asNil)) (liftP (varF 8))))
  (sCons (sIf (eqTE true (callC F_zcompose (asCons (liftP (varF 10)) (asCons (addLE (mulLE (dispE false (asCons (liftP (intF 0)) asNil)) (liftP (varF 9))) (dispE false (asCons (liftP (intF 1)) asNil))) asNil))) (callI P_zmul (asCons (liftP (varF 3)) (asCons (liftP (varF 10)) asNil)))) (sCons (sRet (liftP (boolF false)))
  sNil) sNil)
  sNil)))
noncomputable def B_law_10 : Nat → Loc → Hp → Option (Fl × Loc × Hp) :=
  (sAsg 11 (subE (dispE true (asCons (liftP (intF 1)) (asCons (liftP (varF 1)) (asCons (liftP (varF 2)) asNil)))) (callI F_law_draw (asCons (liftP (varF 0)) (asCons (liftP (intF 3)) asNil)))))
noncomputable def B_law_11 : Nat → Loc → Hp → Option (Fl × Loc × Hp) :=
  (sAsg 11 (liftP (ifP (cmpT .LtE (binF .Mult (binF .Mult (varF 1) (varF 2)) (varF 11)) (intF 63)) (varF 11) (intF 1))))
noncomputable def B_law_12 : Nat → Loc → Hp → Option (Fl × Loc × Hp) :=
  (sAsg 12 (callC F_zexact (asCons (callI P_zmul (asCons (callC F_law_less (asCons (liftP (binF .Mult (binF .Mult (varF 1) (varF 2)) (varF 11))) asNil)) (asCons (callC F_law_less (asCons (liftP (varF 11)) asNil)) asNil))) (asCons (callI P_zmul (asCons (callC F_law_less (asCons (liftP (binF .Mult (varF 1) (varF 11))) asNil)) (asCons (callC F_law_less (asCons (liftP (binF .Mult (varF 2) (varF 11))) asNil)) asNil))) asNil))))
noncomputable def B_law_13 : Nat → Loc → Hp → Option (Fl × Loc × Hp) :=
  (sIf (orTE [(cmpTE .NotEq (callC F_resultant (asCons (liftP (varF 3)) (asCons (callC F_law_less (asCons (liftP (varF 1)) asNil)) asNil))) (liftP (binF .Pow (varF 2) (binF .Sub (varF 1) (intF 1))))), (eqTE true (callC F_zcompose (asCons (liftP (varF 3)) (asCons (addLE (mulLE (dispE false (asCons (liftP (intF 0)) asNil)) (liftP (varF 11))) (dispE false (asCons (liftP (intF 1)) asNil))) asNil))) (liftP (varF 12)))]) (sCons (sRet (liftP (boolF false)))
  sNil) sNil)
noncomputable def B_law_14 : Nat → Loc → Hp → Option (Fl × Loc × Hp) :=
  (sRet (eqVE false (liftP (varF 3)) (callC F_law_told (asCons (liftP (varF 1)) (asCons (liftP (varF 2)) (asCons (liftP (varF 4)) (asCons (liftP (varF 6)) asNil)))))))
set_option maxRecDepth 10000 in
set_option maxHeartbeats 4000000 in
theorem H_law (x : X mg mb h₀) : Each prog w h₀ 8 (scopeAt 30).names [(Str.ofString "pool"), (Str.ofString "p"), (Str.ofString "q"), (Str.ofString "f"), (Str.ofString "r"), (Str.ofString "some"), (Str.ofString "s"), (Str.ofString "spots"), (Str.ofString "one"), (Str.ofString "other"), (Str.ofString "alone"), (Str.ofString "u"), (Str.ofString "whole")] ((bodyAt 30).drop 1) [B_law_0, B_law_1, B_law_2, B_law_3, B_law_4, B_law_5, B_law_6, B_law_7, B_law_8, B_law_9, B_law_10, B_law_11, B_law_12, B_law_13, B_law_14] := by
  have nd : ([(Str.ofString "pool"), (Str.ofString "p"), (Str.ofString "q"), (Str.ofString "f"), (Str.ofString "r"), (Str.ofString "some"), (Str.ofString "s"), (Str.ofString "spots"), (Str.ofString "one"), (Str.ofString "other"), (Str.ofString "alone"), (Str.ofString "u"), (Str.ofString "whole")] : List Str).Nodup := by decide +kernel
  have k_pool : isVar (List.lookup (Str.ofString "pool") (scopeAt 30).names) = true := by decide +kernel
  have s_pool : isStore (List.lookup (Str.ofString "pool") (scopeAt 30).names) = true := by decide +kernel
  have k_p : isVar (List.lookup (Str.ofString "p") (scopeAt 30).names) = true := by decide +kernel
  have s_p : isStore (List.lookup (Str.ofString "p") (scopeAt 30).names) = true := by decide +kernel
  have k_q : isVar (List.lookup (Str.ofString "q") (scopeAt 30).names) = true := by decide +kernel
  have s_q : isStore (List.lookup (Str.ofString "q") (scopeAt 30).names) = true := by decide +kernel
  have k_f : isVar (List.lookup (Str.ofString "f") (scopeAt 30).names) = true := by decide +kernel
  have s_f : isStore (List.lookup (Str.ofString "f") (scopeAt 30).names) = true := by decide +kernel
  have k_r : isVar (List.lookup (Str.ofString "r") (scopeAt 30).names) = true := by decide +kernel
  have s_r : isStore (List.lookup (Str.ofString "r") (scopeAt 30).names) = true := by decide +kernel
  have k_some : isVar (List.lookup (Str.ofString "some") (scopeAt 30).names) = true := by decide +kernel
  have s_some : isStore (List.lookup (Str.ofString "some") (scopeAt 30).names) = true := by decide +kernel
  have k_s : isVar (List.lookup (Str.ofString "s") (scopeAt 30).names) = true := by decide +kernel
  have s_s : isStore (List.lookup (Str.ofString "s") (scopeAt 30).names) = true := by decide +kernel
  have k_spots : isVar (List.lookup (Str.ofString "spots") (scopeAt 30).names) = true := by decide +kernel
  have s_spots : isStore (List.lookup (Str.ofString "spots") (scopeAt 30).names) = true := by decide +kernel
  have k_one : isVar (List.lookup (Str.ofString "one") (scopeAt 30).names) = true := by decide +kernel
  have s_one : isStore (List.lookup (Str.ofString "one") (scopeAt 30).names) = true := by decide +kernel
  have k_other : isVar (List.lookup (Str.ofString "other") (scopeAt 30).names) = true := by decide +kernel
  have s_other : isStore (List.lookup (Str.ofString "other") (scopeAt 30).names) = true := by decide +kernel
  have k_alone : isVar (List.lookup (Str.ofString "alone") (scopeAt 30).names) = true := by decide +kernel
  have s_alone : isStore (List.lookup (Str.ofString "alone") (scopeAt 30).names) = true := by decide +kernel
  have k_u : isVar (List.lookup (Str.ofString "u") (scopeAt 30).names) = true := by decide +kernel
  have s_u : isStore (List.lookup (Str.ofString "u") (scopeAt 30).names) = true := by decide +kernel
  have k_whole : isVar (List.lookup (Str.ofString "whole") (scopeAt 30).names) = true := by decide +kernel
  have s_whole : isStore (List.lookup (Str.ofString "whole") (scopeAt 30).names) = true := by decide +kernel
  have dc_alone : ((Str.ofString "alone") == ("__classdict__" : Str)) = false := by decide +kernel
  have dd_alone : ((Str.ofString "alone") == ("__debug__" : Str)) = false := by decide +kernel
  have dc_at : ((Str.ofString "at") == ("__classdict__" : Str)) = false := by decide +kernel
  have dd_at : ((Str.ofString "at") == ("__debug__" : Str)) = false := by decide +kernel
  have dc_f : ((Str.ofString "f") == ("__classdict__" : Str)) = false := by decide +kernel
  have dd_f : ((Str.ofString "f") == ("__debug__" : Str)) = false := by decide +kernel
  have dc_number : ((Str.ofString "number") == ("__classdict__" : Str)) = false := by decide +kernel
  have dd_number : ((Str.ofString "number") == ("__debug__" : Str)) = false := by decide +kernel
  have dc_one : ((Str.ofString "one") == ("__classdict__" : Str)) = false := by decide +kernel
  have dd_one : ((Str.ofString "one") == ("__debug__" : Str)) = false := by decide +kernel
  have dc_other : ((Str.ofString "other") == ("__classdict__" : Str)) = false := by decide +kernel
  have dd_other : ((Str.ofString "other") == ("__debug__" : Str)) = false := by decide +kernel
  have dc_p : ((Str.ofString "p") == ("__classdict__" : Str)) = false := by decide +kernel
  have dd_p : ((Str.ofString "p") == ("__debug__" : Str)) = false := by decide +kernel
  have dc_pool : ((Str.ofString "pool") == ("__classdict__" : Str)) = false := by decide +kernel
  have dd_pool : ((Str.ofString "pool") == ("__debug__" : Str)) = false := by decide +kernel
  have dc_q : ((Str.ofString "q") == ("__classdict__" : Str)) = false := by decide +kernel
  have dd_q : ((Str.ofString "q") == ("__debug__" : Str)) = false := by decide +kernel
  have dc_r : ((Str.ofString "r") == ("__classdict__" : Str)) = false := by decide +kernel
  have dd_r : ((Str.ofString "r") == ("__debug__" : Str)) = false := by decide +kernel
  have dc_s : ((Str.ofString "s") == ("__classdict__" : Str)) = false := by decide +kernel
  have dd_s : ((Str.ofString "s") == ("__debug__" : Str)) = false := by decide +kernel
  have dc_some : ((Str.ofString "some") == ("__classdict__" : Str)) = false := by decide +kernel
  have dd_some : ((Str.ofString "some") == ("__debug__" : Str)) = false := by decide +kernel
  have dc_spots : ((Str.ofString "spots") == ("__classdict__" : Str)) = false := by decide +kernel
  have dd_spots : ((Str.ofString "spots") == ("__debug__" : Str)) = false := by decide +kernel
  have dc_turn : ((Str.ofString "turn") == ("__classdict__" : Str)) = false := by decide +kernel
  have dd_turn : ((Str.ofString "turn") == ("__debug__" : Str)) = false := by decide +kernel
  have dc_u : ((Str.ofString "u") == ("__classdict__" : Str)) = false := by decide +kernel
  have dd_u : ((Str.ofString "u") == ("__debug__" : Str)) = false := by decide +kernel
  have dc_whole : ((Str.ofString "whole") == ("__classdict__" : Str)) = false := by decide +kernel
  have dd_whole : ((Str.ofString "whole") == ("__debug__" : Str)) = false := by decide +kernel
  refine Each.cons ?_ ?_
  · refine HS.unp (xs := [(_, _), (_, _)]) [1, 2] (.cons rfl s_p (.cons rfl s_q .nil)) nd ?_ (by exact env_elim fun _ _ _ _ _ _ _ _ _ _ _ => rfl) (by exact env_elim fun _ _ _ _ _ _ _ _ _ _ _ => rfl)
    · refine HE.sub ?_ ?_ (by exact fun _ _ => rfl)
      · refine HE.tuple ?_
        · refine HAs.cons ?_ ?_ rfl
          · refine HE.tuple ?_
            · refine HAs.cons ?_ ?_ rfl
              · refine HP.toE ?_
                · exact HP.int
              · refine HAs.cons ?_ ?_ rfl
                · refine HP.toE ?_
                  · exact HP.int
                · exact HAs.nil
          · refine HAs.cons ?_ ?_ rfl
            · refine HE.tuple ?_
              · refine HAs.cons ?_ ?_ rfl
                · refine HP.toE ?_
                  · exact HP.int
                · refine HAs.cons ?_ ?_ rfl
                  · refine HP.toE ?_
                    · exact HP.int
                  · exact HAs.nil
            · refine HAs.cons ?_ ?_ rfl
              · refine HE.tuple ?_
                · refine HAs.cons ?_ ?_ rfl
                  · refine HP.toE ?_
                    · exact HP.int
                  · refine HAs.cons ?_ ?_ rfl
                    · refine HP.toE ?_
                      · exact HP.int
                    · exact HAs.nil
              · refine HAs.cons ?_ ?_ rfl
                · refine HE.tuple ?_
                  · refine HAs.cons ?_ ?_ rfl
                    · refine HP.toE ?_
                      · exact HP.int
                    · refine HAs.cons ?_ ?_ rfl
                      · refine HP.toE ?_
                        · exact HP.int
                      · exact HAs.nil
                · refine HAs.cons ?_ ?_ rfl
                  · refine HE.tuple ?_
                    · refine HAs.cons ?_ ?_ rfl
                      · refine HP.toE ?_
                        · exact HP.int
                      · refine HAs.cons ?_ ?_ rfl
                        · refine HP.toE ?_
                          · exact HP.int
                        · exact HAs.nil
                  · refine HAs.cons ?_ ?_ rfl
                    · refine HE.tuple ?_
                      · refine HAs.cons ?_ ?_ rfl
                        · refine HP.toE ?_
                          · exact HP.int
                        · refine HAs.cons ?_ ?_ rfl
                          · refine HP.toE ?_
                            · exact HP.int
                          · exact HAs.nil
                    · refine HAs.cons ?_ ?_ rfl
                      · refine HE.tuple ?_
                        · refine HAs.cons ?_ ?_ rfl
                          · refine HP.toE ?_
                            · exact HP.int
                          · refine HAs.cons ?_ ?_ rfl
                            · refine HP.toE ?_
                              · exact HP.int
                            · exact HAs.nil
                      · refine HAs.cons ?_ ?_ rfl
                        · refine HE.tuple ?_
                          · refine HAs.cons ?_ ?_ rfl
                            · refine HP.toE ?_
                              · exact HP.int
                            · refine HAs.cons ?_ ?_ rfl
                              · refine HP.toE ?_
                                · exact HP.int
                              · exact HAs.nil
                        · exact HAs.nil
      · refine HE.callI x.g (H_law_draw x) (by decide) (by decide +kernel) rfl ?_
        · refine HAs.cons ?_ ?_ rfl
          · refine HP.toE ?_
            · exact HP.var 0 rfl k_pool dc_pool dd_pool
          · refine HAs.cons ?_ ?_ rfl
            · refine HP.toE ?_
              · exact HP.int
            · exact HAs.nil
  refine Each.cons ?_ ?_
  · refine HS.asg 3 rfl s_f nd (by exact env_elim fun _ _ _ _ _ _ _ _ _ _ _ => rfl) ?_
    · refine HE.callC x.g (H_zexact x) (by decide) (by decide +kernel) rfl ?_
      · refine HAs.cons ?_ ?_ rfl
        · refine HE.callI x.g (K_zmul x) (by decide) (by decide +kernel) rfl ?_
          · refine HAs.cons ?_ ?_ rfl
            · refine HE.callC x.g (H_law_less x) (by decide) (by decide +kernel) rfl ?_
              · refine HAs.cons ?_ ?_ rfl
                · refine HP.toE ?_
                  · refine HP.bin ?_ ?_
                    · exact HP.var 1 rfl k_p dc_p dd_p
                    · exact HP.var 2 rfl k_q dc_q dd_q
                · exact HAs.nil
            · refine HAs.cons ?_ ?_ rfl
              · refine HE.callC x.g (H_law_less x) (by decide) (by decide +kernel) rfl ?_
                · refine HAs.cons ?_ ?_ rfl
                  · refine HP.toE ?_
                    · exact HP.int
                  · exact HAs.nil
              · exact HAs.nil
        · refine HAs.cons ?_ ?_ rfl
          · refine HE.callI x.g (K_zmul x) (by decide) (by decide +kernel) rfl ?_
            · refine HAs.cons ?_ ?_ rfl
              · refine HE.callC x.g (H_law_less x) (by decide) (by decide +kernel) rfl ?_
                · refine HAs.cons ?_ ?_ rfl
                  · refine HP.toE ?_
                    · exact HP.var 1 rfl k_p dc_p dd_p
                  · exact HAs.nil
              · refine HAs.cons ?_ ?_ rfl
                · refine HE.callC x.g (H_law_less x) (by decide) (by decide +kernel) rfl ?_
                  · refine HAs.cons ?_ ?_ rfl
                    · refine HP.toE ?_
                      · exact HP.var 2 rfl k_q dc_q dd_q
                    · exact HAs.nil
                · exact HAs.nil
          · exact HAs.nil
  refine Each.cons ?_ ?_
  · refine HS.asgComp 5 rfl (by decide +kernel) nd [(Str.ofString "r")] [(Str.ofString "p"), (Str.ofString "q")] [1, 2] rfl (by decide +kernel) (by decide +kernel) rfl (.cons rfl (by decide +kernel) (by decide +kernel) (.cons rfl (by decide +kernel) (by decide +kernel) .nil)) (by decide +kernel) ?_ (fun _ he _ => turn1 he 0 rfl (by decide +kernel) (by decide +kernel)) ?_ ?_ (by exact fun _ _ => rfl) (by exact env_elim fun _ _ _ _ _ _ _ _ _ _ _ => rfl)
    · refine HI.range1 x.g (by decide +kernel) x.range.1 x.range.2 rfl rfl ?_
      · exact HP.var 2 rfl k_q dc_q dd_q
    · refine HTL.one ?_
      · refine HT.and ?_ ?_
        · refine HT.cmp ?_ ?_ rfl
          · refine HP.bin ?_ ?_
            · refine HP.bin ?_ ?_
              · exact HP.var 1 rfl (by decide +kernel) dc_p dd_p
              · exact HP.int
            · refine HP.bin ?_ ?_
              · exact HP.var 2 rfl (by decide +kernel) dc_q dd_q
              · exact HP.int
          · refine HP.bin ?_ ?_
            · exact HP.var 0 rfl (by decide +kernel) dc_r dd_r
            · exact HP.var 1 rfl (by decide +kernel) dc_p dd_p
        · refine HT.cmp ?_ ?_ rfl
          · refine HP.bin ?_ ?_
            · refine HP.bin ?_ ?_
              · refine HP.bin ?_ ?_
                · refine HP.bin ?_ ?_
                  · exact HP.var 1 rfl (by decide +kernel) dc_p dd_p
                  · exact HP.int
                · refine HP.bin ?_ ?_
                  · exact HP.var 2 rfl (by decide +kernel) dc_q dd_q
                  · exact HP.int
              · refine HP.bin ?_ ?_
                · exact HP.var 0 rfl (by decide +kernel) dc_r dd_r
                · exact HP.var 1 rfl (by decide +kernel) dc_p dd_p
            · exact HP.var 2 rfl (by decide +kernel) dc_q dd_q
          · exact HP.int
    · exact HP.var 0 rfl (by decide +kernel) dc_r dd_r
  refine Each.cons ?_ ?_
  · refine HS.unpS (xs := [(Str.ofString "r"), (Str.ofString "s")]) [6, 4] (.cons rfl s_s (.cons rfl s_r .nil)) nd ?_ (by exact env_elim fun _ _ _ _ _ _ _ _ _ _ _ => rfl) (by exact env_elim fun _ _ _ _ _ _ _ _ _ _ _ => rfl)
    · refine HAs.cons ?_ ?_ rfl
      · refine HP.toE ?_
        · refine HP.sub ?_ ?_ (by exact fun _ _ => rfl)
          · exact HP.var 5 rfl k_some dc_some dd_some
          · exact HP.int
      · refine HAs.cons ?_ ?_ rfl
        · refine HP.toE ?_
          · refine HP.bin ?_ ?_
            · refine HP.bin ?_ ?_
              · refine HP.bin ?_ ?_
                · refine HP.bin ?_ ?_
                  · exact HP.var 1 rfl k_p dc_p dd_p
                  · exact HP.int
                · refine HP.bin ?_ ?_
                  · exact HP.var 2 rfl k_q dc_q dd_q
                  · exact HP.int
              · refine HP.bin ?_ ?_
                · refine HP.sub ?_ ?_ (by exact fun _ _ => rfl)
                  · exact HP.var 5 rfl k_some dc_some dd_some
                  · exact HP.int
                · exact HP.var 1 rfl k_p dc_p dd_p
            · exact HP.var 2 rfl k_q dc_q dd_q
        · exact HAs.nil
  refine Each.cons ?_ ?_
  · refine HS.ite ?_ ?_ ?_
    · exact HTE.or (.cons (HT.toE (HT.isNone (HP.var 3 rfl k_f dc_f dd_f) rfl)) (.cons (HT.toE (HT.cmp (HP.call1 x.g (by decide +kernel) x.len.1 x.len.2 rfl rfl HB.len (HP.var 3 rfl k_f dc_f dd_f)) (HP.bin (HP.bin (HP.bin (HP.var 1 rfl k_p dc_p dd_p) HP.int) (HP.bin (HP.var 2 rfl k_q dc_q dd_q) HP.int)) HP.int) rfl)) (.cons (HT.toE (HT.cmp (HP.sub (HP.var 3 rfl k_f dc_f dd_f) (HP.bin (HP.bin (HP.bin (HP.var 1 rfl k_p dc_p dd_p) HP.int) (HP.bin (HP.var 2 rfl k_q dc_q dd_q) HP.int)) HP.int) (by exact fun _ _ => rfl)) (HP.bin (HP.neg HP.int) (HP.var 4 rfl k_r dc_r dd_r)) rfl)) .nil)))
    · refine HSs.cons ?_ ?_
      · refine HS.ret ?_
        · refine HP.toE ?_
          · exact HP.bool
      · exact HSs.nil
    · exact HSs.nil
  refine Each.cons ?_ ?_
  · refine HS.asg 7 rfl s_spots nd (by exact env_elim fun _ _ _ _ _ _ _ _ _ _ _ => rfl) ?_
    · refine HE.comp [(Str.ofString "at"), (Str.ofString "number")] [] [] rfl (by decide +kernel) (by decide +kernel) rfl .nil (by decide +kernel) ?_ (fun _ he _ => turn2 he (by decide +kernel) 0 1 (.cons rfl (by decide +kernel) (.cons rfl (by decide +kernel) .nil)) (by decide +kernel)) ?_ ?_ (by exact fun _ _ => rfl)
      · refine HI.enum x.g (by decide +kernel) x.enumerate.1 x.enumerate.2 rfl rfl ?_
        · exact HP.var 3 rfl k_f dc_f dd_f
      · refine HTL.one ?_
        · refine HT.cmp ?_ ?_ rfl
          · exact HP.var 1 rfl (by decide +kernel) dc_number dd_number
          · exact HP.int
      · exact HP.var 0 rfl (by decide +kernel) dc_at dd_at
  refine Each.cons ?_ ?_
  · refine HS.ite ?_ ?_ ?_
    · refine HTE.eqL true rfl ?_ ?_ rfl
      · refine HE.comp [(Str.ofString "at")] [(Str.ofString "f")] [3] rfl (by decide +kernel) (by decide +kernel) rfl (.cons rfl (by decide +kernel) (by decide +kernel) .nil) (by decide +kernel) ?_ (fun _ he _ => turn1 he 0 rfl (by decide +kernel) (by decide +kernel)) ?_ ?_ (by exact fun _ _ => rfl)
        · refine HI.list ?_
          · refine HP.toE ?_
            · exact HP.var 7 rfl k_spots dc_spots dd_spots
        · exact HTL.nil
        · refine HP.sub ?_ ?_ (by exact fun _ _ => rfl)
          · exact HP.var 1 rfl (by decide +kernel) dc_f dd_f
          · exact HP.var 0 rfl (by decide +kernel) dc_at dd_at
      · refine HE.comp [(Str.ofString "turn")] [] [] rfl (by decide +kernel) (by decide +kernel) rfl .nil (by decide +kernel) ?_ (fun _ he _ => turn1 he 0 rfl (by decide +kernel) (by decide +kernel)) ?_ ?_ (by exact fun _ _ => rfl)
        · refine HI.range1 x.g (by decide +kernel) x.range.1 x.range.2 rfl rfl ?_
          · refine HP.call1 x.g (by decide +kernel) x.len.1 x.len.2 rfl rfl HB.len ?_
            · exact HP.var 7 rfl k_spots dc_spots dd_spots
        · exact HTL.nil
        · refine HP.bin ?_ ?_
          · refine HP.neg ?_
            · exact HP.int
          · exact HP.var 0 rfl (by decide +kernel) dc_turn dd_turn
    · refine HSs.cons ?_ ?_
      · refine HS.ret ?_
        · refine HP.toE ?_
          · exact HP.bool
      · exact HSs.nil
    · exact HSs.nil
  refine Each.cons ?_ ?_
  · refine HS.ite ?_ ?_ ?_
    · refine HTE.cmp ?_ ?_ rfl
      · refine HE.callB x.g (by decide +kernel) x.max.1 x.max.2 rfl rfl HBE.maxL ?_
        · refine HE.addL ?_ ?_
          · refine HE.list ?_
            · refine HAs.cons ?_ ?_ rfl
              · refine HP.toE ?_
                · exact HP.int
              · exact HAs.nil
          · refine HE.comp [(Str.ofString "turn")] [(Str.ofString "spots")] [7] rfl (by decide +kernel) (by decide +kernel) rfl (.cons rfl (by decide +kernel) (by decide +kernel) .nil) (by decide +kernel) ?_ (fun _ he _ => turn1 he 0 rfl (by decide +kernel) (by decide +kernel)) ?_ ?_ (by exact fun _ _ => rfl)
            · refine HI.range1 x.g (by decide +kernel) x.range.1 x.range.2 rfl rfl ?_
              · refine HP.bin ?_ ?_
                · refine HP.call1 x.g (by decide +kernel) x.len.1 x.len.2 rfl rfl HB.len ?_
                  · exact HP.var 7 rfl k_spots dc_spots dd_spots
                · exact HP.int
            · exact HTL.nil
            · refine HP.bin ?_ ?_
              · refine HP.sub ?_ ?_ (by exact fun _ _ => rfl)
                · exact HP.var 1 rfl (by decide +kernel) dc_spots dd_spots
                · refine HP.bin ?_ ?_
                  · exact HP.var 0 rfl (by decide +kernel) dc_turn dd_turn
                  · exact HP.int
              · refine HP.sub ?_ ?_ (by exact fun _ _ => rfl)
                · exact HP.var 1 rfl (by decide +kernel) dc_spots dd_spots
                · exact HP.var 0 rfl (by decide +kernel) dc_turn dd_turn
      · refine HP.toE ?_
        · refine HP.bin ?_ ?_
          · exact HP.var 1 rfl k_p dc_p dd_p
          · exact HP.int
    · refine HSs.cons ?_ ?_
      · refine HS.ret ?_
        · refine HP.toE ?_
          · exact HP.bool
      · exact HSs.nil
    · exact HSs.nil
  refine Each.cons ?_ ?_
  · refine HS.ite ?_ ?_ ?_
    · refine HTE.eqL true rfl ?_ ?_ rfl
      · refine HE.callC x.g (H_zexact x) (by decide) (by decide +kernel) rfl ?_
        · refine HAs.cons ?_ ?_ rfl
          · refine HE.callC x.g (H_law_less x) (by decide) (by decide +kernel) rfl ?_
            · refine HAs.cons ?_ ?_ rfl
              · refine HP.toE ?_
                · refine HP.bin ?_ ?_
                  · exact HP.var 1 rfl k_p dc_p dd_p
                  · exact HP.var 2 rfl k_q dc_q dd_q
              · exact HAs.nil
          · refine HAs.cons ?_ ?_ rfl
            · refine HP.toE ?_
              · exact HP.var 3 rfl k_f dc_f dd_f
            · exact HAs.nil
      · refine HE.addL ?_ ?_
        · refine HE.addL ?_ ?_
          · refine HE.mulL ?_ ?_
            · refine HE.list ?_
              · refine HAs.cons ?_ ?_ rfl
                · refine HP.toE ?_
                  · refine HP.neg ?_
                    · exact HP.int
                · exact HAs.nil
            · refine HP.toE ?_
              · exact HP.var 1 rfl k_p dc_p dd_p
          · refine HE.mulL ?_ ?_
            · refine HE.list ?_
              · refine HAs.cons ?_ ?_ rfl
                · refine HP.toE ?_
                  · exact HP.int
                · exact HAs.nil
            · refine HP.toE ?_
              · refine HP.bin ?_ ?_
                · exact HP.var 2 rfl k_q dc_q dd_q
                · exact HP.var 1 rfl k_p dc_p dd_p
        · refine HE.mulL ?_ ?_
          · refine HE.list ?_
            · refine HAs.cons ?_ ?_ rfl
              · refine HP.toE ?_
                · exact HP.int
              · exact HAs.nil
          · refine HP.toE ?_
            · exact HP.var 1 rfl k_p dc_p dd_p
    · refine HSs.cons ?_ ?_
      · refine HS.ret ?_
        · refine HP.toE ?_
          · exact HP.bool
      · exact HSs.nil
    · exact HSs.nil
  refine Each.cons ?_ ?_
  · refine HS.for ?_ (fun _ he _ => turn2 he (by decide +kernel) 8 9 (.cons rfl s_one (.cons rfl s_other .nil)) nd) ?_ (by exact fun _ _ => rfl)
    · refine HI.list ?_
      · refine HE.tuple ?_
        · refine HAs.cons ?_ ?_ rfl
          · refine HE.tuple ?_
            · refine HAs.cons ?_ ?_ rfl
              · refine HP.toE ?_
                · exact HP.var 1 rfl k_p dc_p dd_p
              · refine HAs.cons ?_ ?_ rfl
                · refine HP.toE ?_
                  · exact HP.var 2 rfl k_q dc_q dd_q
                · exact HAs.nil
          · refine HAs.cons ?_ ?_ rfl
            · refine HE.tuple ?_
              · refine HAs.cons ?_ ?_ rfl
                · refine HP.toE ?_
                  · exact HP.var 2 rfl k_q dc_q dd_q
                · refine HAs.cons ?_ ?_ rfl
                  · refine HP.toE ?_
                    · exact HP.var 1 rfl k_p dc_p dd_p
                  · exact HAs.nil
            · exact HAs.nil
    · refine HSs.cons ?_ ?_
      · refine HS.asg 10 rfl s_alone nd (by exact env_elim fun _ _ _ _ _ _ _ _ _ _ _ => rfl) ?_
        · refine HE.mulL ?_ ?_
          · refine HE.list ?_
            · refine HAs.cons ?_ ?_ rfl
              · refine HP.toE ?_
                · exact HP.int
              · exact HAs.nil
          · refine HP.toE ?_
            · exact HP.var 8 rfl k_one dc_one dd_one
      · refine HSs.cons ?_ ?_
        · refine HS.ite ?_ ?_ ?_
          · refine HTE.eqL true rfl ?_ ?_ rfl
            · refine HE.callC x.g (H_zcompose x) (by decide) (by decide +kernel) rfl ?_
              · refine HAs.cons ?_ ?_ rfl
                · refine HP.toE ?_
                  · exact HP.var 10 rfl k_alone dc_alone dd_alone
                · refine HAs.cons ?_ ?_ rfl
                  · refine HE.addL ?_ ?_
                    · refine HE.mulL ?_ ?_
                      · refine HE.list ?_
                        · refine HAs.cons ?_ ?_ rfl
                          · refine HP.toE ?_
                            · exact HP.int
                          · exact HAs.nil
                      · refine HP.toE ?_
                        · exact HP.var 9 rfl k_other dc_other dd_other
                    · refine HE.list ?_
                      · refine HAs.cons ?_ ?_ rfl
                        · refine HP.toE ?_
                          · exact HP.int
                        · exact HAs.nil
                  · exact HAs.nil
            · refine HE.callI x.g (K_zmul x) (by decide) (by decide +kernel) rfl ?_
              · refine HAs.cons ?_ ?_ rfl
                · refine HP.toE ?_
                  · exact HP.var 3 rfl k_f dc_f dd_f
                · refine HAs.cons ?_ ?_ rfl
                  · refine HP.toE ?_
                    · exact HP.var 10 rfl k_alone dc_alone dd_alone
                  · exact HAs.nil
          · refine HSs.cons ?_ ?_
            · refine HS.ret ?_
              · refine HP.toE ?_
                · exact HP.bool
            · exact HSs.nil
          · exact HSs.nil
        · exact HSs.nil
  refine Each.cons ?_ ?_
  · refine HS.asg 11 rfl s_u nd (by exact env_elim fun _ _ _ _ _ _ _ _ _ _ _ => rfl) ?_
    · refine HE.sub ?_ ?_ (by exact fun _ _ => rfl)
      · refine HE.tuple ?_
        · refine HAs.cons ?_ ?_ rfl
          · refine HP.toE ?_
            · exact HP.int
          · refine HAs.cons ?_ ?_ rfl
            · refine HP.toE ?_
              · exact HP.var 1 rfl k_p dc_p dd_p
            · refine HAs.cons ?_ ?_ rfl
              · refine HP.toE ?_
                · exact HP.var 2 rfl k_q dc_q dd_q
              · exact HAs.nil
      · refine HE.callI x.g (H_law_draw x) (by decide) (by decide +kernel) rfl ?_
        · refine HAs.cons ?_ ?_ rfl
          · refine HP.toE ?_
            · exact HP.var 0 rfl k_pool dc_pool dd_pool
          · refine HAs.cons ?_ ?_ rfl
            · refine HP.toE ?_
              · exact HP.int
            · exact HAs.nil
  refine Each.cons ?_ ?_
  · refine HS.asg 11 rfl s_u nd (by exact env_elim fun _ _ _ _ _ _ _ _ _ _ _ => rfl) ?_
    · refine HP.toE ?_
      · refine HP.ife ?_ ?_ ?_
        · refine HT.cmp ?_ ?_ rfl
          · refine HP.bin ?_ ?_
            · refine HP.bin ?_ ?_
              · exact HP.var 1 rfl k_p dc_p dd_p
              · exact HP.var 2 rfl k_q dc_q dd_q
            · exact HP.var 11 rfl k_u dc_u dd_u
          · exact HP.int
        · exact HP.var 11 rfl k_u dc_u dd_u
        · exact HP.int
  refine Each.cons ?_ ?_
  · refine HS.asg 12 rfl s_whole nd (by exact env_elim fun _ _ _ _ _ _ _ _ _ _ _ => rfl) ?_
    · refine HE.callC x.g (H_zexact x) (by decide) (by decide +kernel) rfl ?_
      · refine HAs.cons ?_ ?_ rfl
        · refine HE.callI x.g (K_zmul x) (by decide) (by decide +kernel) rfl ?_
          · refine HAs.cons ?_ ?_ rfl
            · refine HE.callC x.g (H_law_less x) (by decide) (by decide +kernel) rfl ?_
              · refine HAs.cons ?_ ?_ rfl
                · refine HP.toE ?_
                  · refine HP.bin ?_ ?_
                    · refine HP.bin ?_ ?_
                      · exact HP.var 1 rfl k_p dc_p dd_p
                      · exact HP.var 2 rfl k_q dc_q dd_q
                    · exact HP.var 11 rfl k_u dc_u dd_u
                · exact HAs.nil
            · refine HAs.cons ?_ ?_ rfl
              · refine HE.callC x.g (H_law_less x) (by decide) (by decide +kernel) rfl ?_
                · refine HAs.cons ?_ ?_ rfl
                  · refine HP.toE ?_
                    · exact HP.var 11 rfl k_u dc_u dd_u
                  · exact HAs.nil
              · exact HAs.nil
        · refine HAs.cons ?_ ?_ rfl
          · refine HE.callI x.g (K_zmul x) (by decide) (by decide +kernel) rfl ?_
            · refine HAs.cons ?_ ?_ rfl
              · refine HE.callC x.g (H_law_less x) (by decide) (by decide +kernel) rfl ?_
                · refine HAs.cons ?_ ?_ rfl
                  · refine HP.toE ?_
                    · refine HP.bin ?_ ?_
                      · exact HP.var 1 rfl k_p dc_p dd_p
                      · exact HP.var 11 rfl k_u dc_u dd_u
                  · exact HAs.nil
              · refine HAs.cons ?_ ?_ rfl
                · refine HE.callC x.g (H_law_less x) (by decide) (by decide +kernel) rfl ?_
                  · refine HAs.cons ?_ ?_ rfl
                    · refine HP.toE ?_
                      · refine HP.bin ?_ ?_
                        · exact HP.var 2 rfl k_q dc_q dd_q
                        · exact HP.var 11 rfl k_u dc_u dd_u
                    · exact HAs.nil
                · exact HAs.nil
          · exact HAs.nil
  refine Each.cons ?_ ?_
  · refine HS.ite ?_ ?_ ?_
    · exact HTE.or (.cons (HTE.cmp (HE.callC x.g (H_resultant x) (by decide) (by decide +kernel) rfl (HAs.cons (HP.toE (HP.var 3 rfl k_f dc_f dd_f)) (HAs.cons (HE.callC x.g (H_law_less x) (by decide) (by decide +kernel) rfl (HAs.cons (HP.toE (HP.var 1 rfl k_p dc_p dd_p)) HAs.nil rfl)) HAs.nil rfl) rfl)) (HP.toE (HP.bin (HP.var 2 rfl k_q dc_q dd_q) (HP.bin (HP.var 1 rfl k_p dc_p dd_p) HP.int))) rfl) (.cons (HTE.eqL true rfl (HE.callC x.g (H_zcompose x) (by decide) (by decide +kernel) rfl (HAs.cons (HP.toE (HP.var 3 rfl k_f dc_f dd_f)) (HAs.cons (HE.addL (HE.mulL (HE.list (HAs.cons (HP.toE HP.int) HAs.nil rfl)) (HP.toE (HP.var 11 rfl k_u dc_u dd_u))) (HE.list (HAs.cons (HP.toE HP.int) HAs.nil rfl))) HAs.nil rfl) rfl)) (HP.toE (HP.var 12 rfl k_whole dc_whole dd_whole)) rfl) .nil))
    · refine HSs.cons ?_ ?_
      · refine HS.ret ?_
        · refine HP.toE ?_
          · exact HP.bool
      · exact HSs.nil
    · exact HSs.nil
  refine Each.cons ?_ ?_
  · refine HS.ret ?_
    · refine HE.eqL false rfl ?_ ?_ rfl
      · refine HP.toE ?_
        · exact HP.var 3 rfl k_f dc_f dd_f
      · refine HE.callC x.g (H_law_told x) (by decide) (by decide +kernel) rfl ?_
        · refine HAs.cons ?_ ?_ rfl
          · refine HP.toE ?_
            · exact HP.var 1 rfl k_p dc_p dd_p
          · refine HAs.cons ?_ ?_ rfl
            · refine HP.toE ?_
              · exact HP.var 2 rfl k_q dc_q dd_q
            · refine HAs.cons ?_ ?_ rfl
              · refine HP.toE ?_
                · exact HP.var 4 rfl k_r dc_r dd_r
              · refine HAs.cons ?_ ?_ rfl
                · refine HP.toE ?_
                  · exact HP.var 6 rfl k_s dc_s dd_s
                · exact HAs.nil
  exact Each.nil
end
end Mine
namespace Mine
noncomputable def midL : List (Nat → Loc → Hp → Option (Fl × Loc × Hp)) := [B_law_1, B_law_2, B_law_3, B_law_4, B_law_5, B_law_6, B_law_7]
noncomputable def tailL : List (Nat → Loc → Hp → Option (Fl × Loc × Hp)) := [B_law_12, B_law_13, B_law_14]
noncomputable def rho1 (p q : Int) : Loc := [some (.ref 1), some (.int p), some (.int q), .none, .none, .none, .none, .none, .none, .none, .none, .none, .none]
noncomputable def rhoM (p q r s : Int) : Loc := [some (.ref 1), some (.int p), some (.int q), some (.ref 2), some (.int r), .none, some (.int s), .none, .none, .none, .none, .none, .none]
noncomputable def rho2 (p q r s u : Int) : Loc := [.none, some (.int p), some (.int q), some (.ref 0), some (.int r), .none, some (.int s), .none, .none, .none, .none, some (.int u), .none]
noncomputable def eqI (a b : Int) : Bool := decide (a = b)
noncomputable def eqIL : List Int → List Int → Bool
  | [], [] => true
  | a :: r, b :: t => if eqI a b then eqIL r t else false
  | _, _ => false
theorem eqIL_eq : ∀ {a b : List Int}, eqIL a b = true → a = b
  | [], [], _ => rfl
  | [], _ :: _, h => by cases h
  | _ :: _, [], h => by cases h
  | a :: r, b :: t, h => by
    unfold eqIL at h
    split at h
    · rename_i e
      have := of_decide_eq_true e
      rw [this, eqIL_eq h]
    · cases h
noncomputable def isV (o : Option V) (v : V) : Bool := match o, v with
  | some (.ref a), .ref b => Nat.beq a b
  | some (.int a), .int b => eqI a b
  | _, _ => false
theorem isV_eq {o : Option V} {v : V} (h : isV o v = true) : o = some v := by
  cases o with
  | none => cases v <;> cases h
  | some u =>
    cases u <;> cases v <;> first | cases h | skip
    · rw [of_decide_eq_true h]
    · rw [Nat.eq_of_beq_eq_true h]
noncomputable def eqO (o : Option O) (z : Int) : Bool := match o with
  | some ⟨false, [a, b]⟩ => isV (some a) (.ref 0) && isV (some b) (.int z)
  | _ => false
noncomputable def refOf : Option V → Nat
  | some (.ref k) => k
  | _ => 0
noncomputable def midChk (p q r s : Int) (F : List Int) (ρ : Loc) (σ : Hp) : Bool :=
  isV (look ρ 0) (.ref 1) && (isV (look ρ 1) (.int p) && (isV (look ρ 2) (.int q) && (isV (look ρ 4) (.int r) && (isV (look ρ 6) (.int s) && (Nat.ble 2 (refOf (look ρ 3)) && (Nat.beq ρ.length 13 && (eqO (nth σ 1) 1 && (match getI σ (.ref (refOf (look ρ 3))) with
    | some F' => eqIL F' F
    | .none => false))))))))
noncomputable def pickMid (p q r s : Int) (F : List Int) : Option (Fl × Loc × Hp) → Option O
  | some (.next, ρ, σ) => if midChk p q r s F ρ σ then nth σ 0 else .none
  | _ => .none
noncomputable def pick3 (p q : Int) : Nat → Option Int
  | 0 => some 1
  | 1 => some p
  | 2 => some q
  | _ => .none
noncomputable def fL0 : List Int := [1, -1, 1]
theorem midA0 (o : O) : pickMid 2 3 1 0 fL0 (sAll midL 0 (rho1 2 3) [o, ⟨false, [.ref 0, .int 1]⟩]) = some o := by kernel_rfl
theorem midB0 (o : O) : pickMid 2 3 1 0 fL0 (sAll [B_law_8] 0 (rhoM 2 3 1 0) [o, ⟨false, [.ref 0, .int 1]⟩, ⟨false, fL0.map .int⟩]) = some o := by kernel_rfl
theorem midC0 (o : O) : pickMid 2 3 1 0 fL0 (sAll [B_law_9] 0 (rhoM 2 3 1 0) [o, ⟨false, [.ref 0, .int 1]⟩, ⟨false, fL0.map .int⟩]) = some o := by kernel_rfl
theorem tail0x1 : isTrueRes (sAll tailL 0 (rho2 2 3 1 0 1) [⟨false, fL0.map .int⟩]) = true := by decide +kernel
theorem tail0x2 : isTrueRes (sAll tailL 0 (rho2 2 3 1 0 2) [⟨false, fL0.map .int⟩]) = true := by decide +kernel
theorem tail0x3 : isTrueRes (sAll tailL 0 (rho2 2 3 1 0 3) [⟨false, fL0.map .int⟩]) = true := by decide +kernel
theorem case0 (d : Nat) (hd : d < 3) : ∃ u0 u : Int, pick3 2 3 d = some u0 ∧ B_law_11 0 (rho2 2 3 1 0 u0) [⟨false, fL0.map .int⟩] = some (.next, rho2 2 3 1 0 u, [⟨false, fL0.map .int⟩]) ∧ isTrueRes (sAll tailL 0 (rho2 2 3 1 0 u) [⟨false, fL0.map .int⟩]) = true :=
  match d, hd with
  | 0, _ => ⟨1, 1, rfl, rfl, tail0x1⟩
  | 1, _ => ⟨2, 2, rfl, rfl, tail0x2⟩
  | 2, _ => ⟨3, 3, rfl, rfl, tail0x3⟩
  | k + 3, h => absurd h (by omega)
noncomputable def fL1 : List Int := [1, -1, 1, -1, 1]
theorem midA1 (o : O) : pickMid 2 5 2 0 fL1 (sAll midL 0 (rho1 2 5) [o, ⟨false, [.ref 0, .int 1]⟩]) = some o := by kernel_rfl
theorem midB1 (o : O) : pickMid 2 5 2 0 fL1 (sAll [B_law_8] 0 (rhoM 2 5 2 0) [o, ⟨false, [.ref 0, .int 1]⟩, ⟨false, fL1.map .int⟩]) = some o := by kernel_rfl
theorem midC1 (o : O) : pickMid 2 5 2 0 fL1 (sAll [B_law_9] 0 (rhoM 2 5 2 0) [o, ⟨false, [.ref 0, .int 1]⟩, ⟨false, fL1.map .int⟩]) = some o := by kernel_rfl
theorem tail1x1 : isTrueRes (sAll tailL 0 (rho2 2 5 2 0 1) [⟨false, fL1.map .int⟩]) = true := by decide +kernel
theorem tail1x2 : isTrueRes (sAll tailL 0 (rho2 2 5 2 0 2) [⟨false, fL1.map .int⟩]) = true := by decide +kernel
theorem tail1x5 : isTrueRes (sAll tailL 0 (rho2 2 5 2 0 5) [⟨false, fL1.map .int⟩]) = true := by decide +kernel
theorem case1 (d : Nat) (hd : d < 3) : ∃ u0 u : Int, pick3 2 5 d = some u0 ∧ B_law_11 0 (rho2 2 5 2 0 u0) [⟨false, fL1.map .int⟩] = some (.next, rho2 2 5 2 0 u, [⟨false, fL1.map .int⟩]) ∧ isTrueRes (sAll tailL 0 (rho2 2 5 2 0 u) [⟨false, fL1.map .int⟩]) = true :=
  match d, hd with
  | 0, _ => ⟨1, 1, rfl, rfl, tail1x1⟩
  | 1, _ => ⟨2, 2, rfl, rfl, tail1x2⟩
  | 2, _ => ⟨5, 5, rfl, rfl, tail1x5⟩
  | k + 3, h => absurd h (by omega)
noncomputable def fL2 : List Int := [1, -1, 0, 1, -1, 1, 0, -1, 1]
theorem midA2 (o : O) : pickMid 3 5 1 1 fL2 (sAll midL 0 (rho1 3 5) [o, ⟨false, [.ref 0, .int 1]⟩]) = some o := by kernel_rfl
theorem midB2 (o : O) : pickMid 3 5 1 1 fL2 (sAll [B_law_8] 0 (rhoM 3 5 1 1) [o, ⟨false, [.ref 0, .int 1]⟩, ⟨false, fL2.map .int⟩]) = some o := by kernel_rfl
theorem midC2 (o : O) : pickMid 3 5 1 1 fL2 (sAll [B_law_9] 0 (rhoM 3 5 1 1) [o, ⟨false, [.ref 0, .int 1]⟩, ⟨false, fL2.map .int⟩]) = some o := by kernel_rfl
theorem tail2x1 : isTrueRes (sAll tailL 0 (rho2 3 5 1 1 1) [⟨false, fL2.map .int⟩]) = true := by decide +kernel
theorem tail2x3 : isTrueRes (sAll tailL 0 (rho2 3 5 1 1 3) [⟨false, fL2.map .int⟩]) = true := by decide +kernel
theorem case2 (d : Nat) (hd : d < 3) : ∃ u0 u : Int, pick3 3 5 d = some u0 ∧ B_law_11 0 (rho2 3 5 1 1 u0) [⟨false, fL2.map .int⟩] = some (.next, rho2 3 5 1 1 u, [⟨false, fL2.map .int⟩]) ∧ isTrueRes (sAll tailL 0 (rho2 3 5 1 1 u) [⟨false, fL2.map .int⟩]) = true :=
  match d, hd with
  | 0, _ => ⟨1, 1, rfl, rfl, tail2x1⟩
  | 1, _ => ⟨3, 3, rfl, rfl, tail2x3⟩
  | 2, _ => ⟨5, 1, rfl, rfl, tail2x1⟩
  | k + 3, h => absurd h (by omega)
noncomputable def fL3 : List Int := [1, -1, 0, 1, -1, 0, 1, 0, -1, 1, 0, -1, 1]
theorem midA3 (o : O) : pickMid 3 7 4 0 fL3 (sAll midL 0 (rho1 3 7) [o, ⟨false, [.ref 0, .int 1]⟩]) = some o := by kernel_rfl
theorem midB3 (o : O) : pickMid 3 7 4 0 fL3 (sAll [B_law_8] 0 (rhoM 3 7 4 0) [o, ⟨false, [.ref 0, .int 1]⟩, ⟨false, fL3.map .int⟩]) = some o := by kernel_rfl
theorem midC3 (o : O) : pickMid 3 7 4 0 fL3 (sAll [B_law_9] 0 (rhoM 3 7 4 0) [o, ⟨false, [.ref 0, .int 1]⟩, ⟨false, fL3.map .int⟩]) = some o := by kernel_rfl
theorem tail3x1 : isTrueRes (sAll tailL 0 (rho2 3 7 4 0 1) [⟨false, fL3.map .int⟩]) = true := by decide +kernel
theorem tail3x3 : isTrueRes (sAll tailL 0 (rho2 3 7 4 0 3) [⟨false, fL3.map .int⟩]) = true := by decide +kernel
theorem case3 (d : Nat) (hd : d < 3) : ∃ u0 u : Int, pick3 3 7 d = some u0 ∧ B_law_11 0 (rho2 3 7 4 0 u0) [⟨false, fL3.map .int⟩] = some (.next, rho2 3 7 4 0 u, [⟨false, fL3.map .int⟩]) ∧ isTrueRes (sAll tailL 0 (rho2 3 7 4 0 u) [⟨false, fL3.map .int⟩]) = true :=
  match d, hd with
  | 0, _ => ⟨1, 1, rfl, rfl, tail3x1⟩
  | 1, _ => ⟨3, 3, rfl, rfl, tail3x3⟩
  | 2, _ => ⟨7, 1, rfl, rfl, tail3x1⟩
  | k + 3, h => absurd h (by omega)
noncomputable def fL4 : List Int := [1, -1, 1, -1, 1, -1, 1]
theorem midA4 (o : O) : pickMid 2 7 3 0 fL4 (sAll midL 0 (rho1 2 7) [o, ⟨false, [.ref 0, .int 1]⟩]) = some o := by kernel_rfl
theorem midB4 (o : O) : pickMid 2 7 3 0 fL4 (sAll [B_law_8] 0 (rhoM 2 7 3 0) [o, ⟨false, [.ref 0, .int 1]⟩, ⟨false, fL4.map .int⟩]) = some o := by kernel_rfl
theorem midC4 (o : O) : pickMid 2 7 3 0 fL4 (sAll [B_law_9] 0 (rhoM 2 7 3 0) [o, ⟨false, [.ref 0, .int 1]⟩, ⟨false, fL4.map .int⟩]) = some o := by kernel_rfl
theorem tail4x1 : isTrueRes (sAll tailL 0 (rho2 2 7 3 0 1) [⟨false, fL4.map .int⟩]) = true := by decide +kernel
theorem tail4x2 : isTrueRes (sAll tailL 0 (rho2 2 7 3 0 2) [⟨false, fL4.map .int⟩]) = true := by decide +kernel
theorem case4 (d : Nat) (hd : d < 3) : ∃ u0 u : Int, pick3 2 7 d = some u0 ∧ B_law_11 0 (rho2 2 7 3 0 u0) [⟨false, fL4.map .int⟩] = some (.next, rho2 2 7 3 0 u, [⟨false, fL4.map .int⟩]) ∧ isTrueRes (sAll tailL 0 (rho2 2 7 3 0 u) [⟨false, fL4.map .int⟩]) = true :=
  match d, hd with
  | 0, _ => ⟨1, 1, rfl, rfl, tail4x1⟩
  | 1, _ => ⟨2, 2, rfl, rfl, tail4x2⟩
  | 2, _ => ⟨7, 1, rfl, rfl, tail4x1⟩
  | k + 3, h => absurd h (by omega)
noncomputable def fL5 : List Int := [1, -1, 0, 0, 0, 1, -1, 1, -1, 0, 1, -1, 1, -1, 1, 0, -1, 1, -1, 1, 0, 0, 0, -1, 1]
theorem midA5 (o : O) : pickMid 5 7 2 2 fL5 (sAll midL 0 (rho1 5 7) [o, ⟨false, [.ref 0, .int 1]⟩]) = some o := by kernel_rfl
theorem midB5 (o : O) : pickMid 5 7 2 2 fL5 (sAll [B_law_8] 0 (rhoM 5 7 2 2) [o, ⟨false, [.ref 0, .int 1]⟩, ⟨false, fL5.map .int⟩]) = some o := by kernel_rfl
theorem midC5 (o : O) : pickMid 5 7 2 2 fL5 (sAll [B_law_9] 0 (rhoM 5 7 2 2) [o, ⟨false, [.ref 0, .int 1]⟩, ⟨false, fL5.map .int⟩]) = some o := by kernel_rfl
theorem tail5x1 : isTrueRes (sAll tailL 0 (rho2 5 7 2 2 1) [⟨false, fL5.map .int⟩]) = true := by decide +kernel
theorem case5 (d : Nat) (hd : d < 3) : ∃ u0 u : Int, pick3 5 7 d = some u0 ∧ B_law_11 0 (rho2 5 7 2 2 u0) [⟨false, fL5.map .int⟩] = some (.next, rho2 5 7 2 2 u, [⟨false, fL5.map .int⟩]) ∧ isTrueRes (sAll tailL 0 (rho2 5 7 2 2 u) [⟨false, fL5.map .int⟩]) = true :=
  match d, hd with
  | 0, _ => ⟨1, 1, rfl, rfl, tail5x1⟩
  | 1, _ => ⟨5, 1, rfl, rfl, tail5x1⟩
  | 2, _ => ⟨7, 1, rfl, rfl, tail5x1⟩
  | k + 3, h => absurd h (by omega)
noncomputable def fL6 : List Int := [1, -1, 1, -1, 1, -1, 1, -1, 1, -1, 1]
theorem midA6 (o : O) : pickMid 2 11 5 0 fL6 (sAll midL 0 (rho1 2 11) [o, ⟨false, [.ref 0, .int 1]⟩]) = some o := by kernel_rfl
theorem midB6 (o : O) : pickMid 2 11 5 0 fL6 (sAll [B_law_8] 0 (rhoM 2 11 5 0) [o, ⟨false, [.ref 0, .int 1]⟩, ⟨false, fL6.map .int⟩]) = some o := by kernel_rfl
theorem midC6 (o : O) : pickMid 2 11 5 0 fL6 (sAll [B_law_9] 0 (rhoM 2 11 5 0) [o, ⟨false, [.ref 0, .int 1]⟩, ⟨false, fL6.map .int⟩]) = some o := by kernel_rfl
theorem tail6x1 : isTrueRes (sAll tailL 0 (rho2 2 11 5 0 1) [⟨false, fL6.map .int⟩]) = true := by decide +kernel
theorem tail6x2 : isTrueRes (sAll tailL 0 (rho2 2 11 5 0 2) [⟨false, fL6.map .int⟩]) = true := by decide +kernel
theorem case6 (d : Nat) (hd : d < 3) : ∃ u0 u : Int, pick3 2 11 d = some u0 ∧ B_law_11 0 (rho2 2 11 5 0 u0) [⟨false, fL6.map .int⟩] = some (.next, rho2 2 11 5 0 u, [⟨false, fL6.map .int⟩]) ∧ isTrueRes (sAll tailL 0 (rho2 2 11 5 0 u) [⟨false, fL6.map .int⟩]) = true :=
  match d, hd with
  | 0, _ => ⟨1, 1, rfl, rfl, tail6x1⟩
  | 1, _ => ⟨2, 2, rfl, rfl, tail6x2⟩
  | 2, _ => ⟨11, 1, rfl, rfl, tail6x1⟩
  | k + 3, h => absurd h (by omega)
noncomputable def fL7 : List Int := [1, -1, 0, 1, -1, 0, 1, -1, 0, 1, -1, 1, 0, -1, 1, 0, -1, 1, 0, -1, 1]
theorem midA7 (o : O) : pickMid 3 11 3 1 fL7 (sAll midL 0 (rho1 3 11) [o, ⟨false, [.ref 0, .int 1]⟩]) = some o := by kernel_rfl
theorem midB7 (o : O) : pickMid 3 11 3 1 fL7 (sAll [B_law_8] 0 (rhoM 3 11 3 1) [o, ⟨false, [.ref 0, .int 1]⟩, ⟨false, fL7.map .int⟩]) = some o := by kernel_rfl
theorem midC7 (o : O) : pickMid 3 11 3 1 fL7 (sAll [B_law_9] 0 (rhoM 3 11 3 1) [o, ⟨false, [.ref 0, .int 1]⟩, ⟨false, fL7.map .int⟩]) = some o := by kernel_rfl
theorem tail7x1 : isTrueRes (sAll tailL 0 (rho2 3 11 3 1 1) [⟨false, fL7.map .int⟩]) = true := by decide +kernel
theorem case7 (d : Nat) (hd : d < 3) : ∃ u0 u : Int, pick3 3 11 d = some u0 ∧ B_law_11 0 (rho2 3 11 3 1 u0) [⟨false, fL7.map .int⟩] = some (.next, rho2 3 11 3 1 u, [⟨false, fL7.map .int⟩]) ∧ isTrueRes (sAll tailL 0 (rho2 3 11 3 1 u) [⟨false, fL7.map .int⟩]) = true :=
  match d, hd with
  | 0, _ => ⟨1, 1, rfl, rfl, tail7x1⟩
  | 1, _ => ⟨3, 1, rfl, rfl, tail7x1⟩
  | 2, _ => ⟨11, 1, rfl, rfl, tail7x1⟩
  | k + 3, h => absurd h (by omega)
end Mine
namespace Mine
noncomputable def scr (xs : List Int) : O := ⟨false, xs.map .int⟩
noncomputable def poolAt (z : Int) : O := ⟨false, [.ref 0, .int z]⟩
theorem abs_fmod (x : Int) (m : Nat) : (if x < 0 then -x else x).fmod (m : Int) = ((x.natAbs % m : Nat) : Int) := by
  have h : (if x < 0 then -x else x) = (x.natAbs : Int) := by split <;> omega
  rw [h, Int.fmod_eq_emod_of_nonneg _ (by omega)]
  exact (Int.natCast_emod _ _).symm
theorem draw0_1 (x : Int) (τ : Hp) : F_law_draw 0 [.ref 1, .int 8] (scr [x] :: poolAt 0 :: τ) = some (.int ((if x < 0 then -x else x).fmod (8 : Nat)), scr [x] :: poolAt 1 :: τ) := rfl
theorem draw0_2 (x y : Int) (τ : Hp) : F_law_draw 0 [.ref 1, .int 8] (scr [x, y] :: poolAt 0 :: τ) = some (.int ((if x < 0 then -x else x).fmod (8 : Nat)), scr [x, y] :: poolAt 1 :: τ) := rfl
theorem draw1_2 (x y : Int) (τ : Hp) : F_law_draw 0 [.ref 1, .int 3] (scr [x, y] :: poolAt 1 :: τ) = some (.int ((if y < 0 then -y else y).fmod (3 : Nat)), scr [x, y] :: poolAt 2 :: τ) := rfl
theorem unp_sub {is : List Nat} {f g : Nat → Loc → Hp → Option (V × Hp)} {n0 : Nat} {ρ : Loc} {σ σ' σ'' : Hp} {v k : V} {R : Option (Fl × Loc × Hp)} (ef : f n0 ρ σ = some (v, σ')) (eg : g n0 ρ σ' = some (k, σ''))
    (es : sUnp is (fun _ _ _ => match subVal σ'' v k with | some r => some (r, σ'') | .none => .none) n0 ρ σ = R) : sUnp is (subE f g) n0 ρ σ = R := by
  rw [← es]; unfold sUnp subE; rw [ef]; simp only [eg] <;> (cases subVal σ'' v k <;> rfl)
theorem asg_sub {i : Nat} {f g : Nat → Loc → Hp → Option (V × Hp)} {n0 : Nat} {ρ : Loc} {σ σ' σ'' : Hp} {v k : V} {R : Option (Fl × Loc × Hp)} (ef : f n0 ρ σ = some (v, σ')) (eg : g n0 ρ σ' = some (k, σ''))
    (es : sAsg i (fun _ _ _ => match subVal σ'' v k with | some r => some (r, σ'') | .none => .none) n0 ρ σ = R) : sAsg i (subE f g) n0 ρ σ = R := by
  rw [← es]; unfold sAsg subE; rw [ef]; simp only [eg] <;> (cases subVal σ'' v k <;> rfl)
noncomputable def rho0 : Loc := [some (.ref 1), .none, .none, .none, .none, .none, .none, .none, .none, .none, .none, .none, .none]
noncomputable def pairOf : Nat → Int × Int
  | 0 => (2, 3) | 1 => (2, 5) | 2 => (3, 5) | 3 => (3, 7) | 4 => (2, 7) | 5 => (5, 7) | 6 => (2, 11) | _ => (3, 11)
theorem s0_of (xs : List Int) (c : Nat) (hc : c < 8) (hd : ∀ τ, F_law_draw 0 [.ref 1, .int 8] (scr xs :: poolAt 0 :: τ) = some (.int (c : Int), scr xs :: poolAt 1 :: τ)) :
    ∃ τ, B_law_0 0 rho0 [scr xs, poolAt 0] = some (.next, rho1 (pairOf c).1 (pairOf c).2, scr xs :: poolAt 1 :: τ) :=
  match c, hc with
  | 0, _ => ⟨_, unp_sub rfl (hd _) rfl⟩
  | 1, _ => ⟨_, unp_sub rfl (hd _) rfl⟩
  | 2, _ => ⟨_, unp_sub rfl (hd _) rfl⟩
  | 3, _ => ⟨_, unp_sub rfl (hd _) rfl⟩
  | 4, _ => ⟨_, unp_sub rfl (hd _) rfl⟩
  | 5, _ => ⟨_, unp_sub rfl (hd _) rfl⟩
  | 6, _ => ⟨_, unp_sub rfl (hd _) rfl⟩
  | 7, _ => ⟨_, unp_sub rfl (hd _) rfl⟩
  | k + 8, h => absurd h (by omega)
theorem s0 (xs : List Int) (hx : xs.length ≤ 2) : ∃ c, c < 8 ∧ ∃ τ, B_law_0 0 rho0 [scr xs, poolAt 0] = some (.next, rho1 (pairOf c).1 (pairOf c).2, scr xs :: poolAt 1 :: τ) := by
  match xs, hx with
  | [], _ => exact ⟨2, by omega, _, rfl⟩
  | [x], _ => exact ⟨x.natAbs % 8, by omega, s0_of _ _ (by omega) fun τ => by rw [draw0_1, abs_fmod]⟩
  | [x, y], _ => exact ⟨x.natAbs % 8, by omega, s0_of _ _ (by omega) fun τ => by rw [draw0_2, abs_fmod]⟩
  | _ :: _ :: _ :: _, h => simp at h
theorem s10_of (p q r s : Int) (xs F : List Int) (d : Nat) (u : Int) (hu : pick3 p q d = some u) (hd : ∀ τ, F_law_draw 0 [.ref 1, .int 3] (scr xs :: poolAt 1 :: τ) = some (.int (d : Int), scr xs :: poolAt 2 :: τ)) :
    ∃ ρ σ, B_law_10 0 (rhoM p q r s) [scr xs, poolAt 1, scr F] = some (.next, ρ, σ) ∧ ρ = put (rhoM p q r s) 11 (.int u) ∧ nth σ 2 = some (scr F) ∧ 2 < σ.length :=
  match d, hu with
  | 0, hu => by cases hu; exact ⟨_, _, asg_sub rfl (hd _) rfl, rfl, rfl, Nat.le_of_ble_eq_true rfl⟩
  | 1, hu => by cases hu; exact ⟨_, _, asg_sub rfl (hd _) rfl, rfl, rfl, Nat.le_of_ble_eq_true rfl⟩
  | 2, hu => by cases hu; exact ⟨_, _, asg_sub rfl (hd _) rfl, rfl, rfl, Nat.le_of_ble_eq_true rfl⟩
  | k + 3, hu => by cases hu
theorem s10 (p q r s : Int) (xs F : List Int) (hx : xs.length ≤ 2) : ∃ d, d < 3 ∧ ∀ u, pick3 p q d = some u → ∃ ρ σ, B_law_10 0 (rhoM p q r s) [scr xs, poolAt 1, scr F] = some (.next, ρ, σ) ∧ ρ = put (rhoM p q r s) 11 (.int u) ∧ nth σ 2 = some (scr F) ∧ 2 < σ.length := by
  match xs, hx with
  | [], _ => exact ⟨1, by omega, fun u hu => by cases hu; exact ⟨_, _, rfl, rfl, rfl, Nat.le_of_ble_eq_true rfl⟩⟩
  | [x], _ => exact ⟨1, by omega, fun u hu => by cases hu; exact ⟨_, _, rfl, rfl, rfl, Nat.le_of_ble_eq_true rfl⟩⟩
  | [x, y], _ => exact ⟨y.natAbs % 3, by omega, fun u hu => s10_of _ _ _ _ _ _ _ u hu fun τ => by rw [draw1_2, abs_fmod]⟩
  | _ :: _ :: _ :: _, h => simp at h
end Mine
namespace Mine
theorem Each.split {prog : Program} {w : World} {h₀ : Heap} {n : Nat} {ns : List (Str × NameKind)} {tab : List Str} : ∀ {fs gs : List (Nat → Loc → Hp → Option (Fl × Loc × Hp))} {sts : List Stmt}, Each prog w h₀ n ns tab sts (fs ++ gs) → ∃ s1 s2, sts = s1 ++ s2 ∧ Each prog w h₀ n ns tab s1 fs ∧ Each prog w h₀ n ns tab s2 gs
  | [], gs, sts, h => ⟨[], sts, rfl, .nil, h⟩
  | f :: fs, gs, _, .cons h r => by
    obtain ⟨s1, s2, rfl, a, b⟩ := Each.split r
    exact ⟨_ :: s1, s2, rfl, .cons h a, b⟩
theorem eqO_eq {o : Option O} {z : Int} (h : eqO o z = true) : o = some (poolAt z) := by
  unfold eqO at h
  split at h
  · rename_i a b
    have h := Bool.and_eq_true_iff.mp h
    have e1 := isV_eq h.1
    have e2 := isV_eq h.2
    cases e1; cases e2; rfl
  · cases h
/-- the new names, place by place -/
inductive RenFrom (L : List Nat) (ρ : Loc) : Nat → Loc → Prop
  | nil {i} : RenFrom L ρ i []
  | skip {i r} : RenFrom L ρ (i + 1) r → RenFrom L ρ i (.none :: r)
  | keep {i r} {v v2 : V} : look ρ i = some v → Ren L v v2 → RenFrom L ρ (i + 1) r → RenFrom L ρ i (some v2 :: r)
theorem RenFrom.get {L : List Nat} {ρ : Loc} : ∀ {i : Nat} {ρ2 : Loc}, RenFrom L ρ i ρ2 → ∀ (j : Nat) (v2 : V), look ρ2 j = some v2 → ∃ v, look ρ (i + j) = some v ∧ Ren L v v2 := by
  intro i ρ2 h
  induction h with
  | nil => intro j v2 e; cases e
  | skip _ ih =>
    intro j v2 e
    cases j with
    | zero => cases e
    | succ j => have := ih j v2 e; rwa [Nat.add_right_comm] at this
  | keep h1 h2 _ ih =>
    intro j v2 e
    cases j with
    | zero => cases e; exact ⟨_, h1, h2⟩
    | succ j => have := ih j v2 e; rwa [Nat.add_right_comm] at this
theorem RenFrom.all {L : List Nat} {ρ ρ2 : Loc} (h : RenFrom L ρ 0 ρ2) : ∀ (i : Nat) (v2 : V), look ρ2 i = some v2 → ∃ v, look ρ i = some v ∧ Ren L v v2 := fun i v2 e => by
  have := h.get i v2 e
  rwa [Nat.zero_add] at this
theorem pickMid_use {p q r s : Int} {F : List Int} {res : Option (Fl × Loc × Hp)} {o : O} (h : pickMid p q r s F res = some o) :
    ∃ ρ σ kf, res = some (.next, ρ, σ) ∧ ρ.length = 13 ∧ look ρ 0 = some (.ref 1) ∧ look ρ 1 = some (.int p) ∧ look ρ 2 = some (.int q) ∧ look ρ 3 = some (.ref kf) ∧ look ρ 4 = some (.int r) ∧ look ρ 6 = some (.int s) ∧
      2 ≤ kf ∧ kf < σ.length ∧ nth σ 0 = some o ∧ nth σ 1 = some (poolAt 1) ∧ nth σ kf = some (scr F) := by
  unfold pickMid at h
  split at h
  case h_2 => cases h
  rename_i ρ σ
  split at h
  case isFalse => cases h
  rename_i hc
  unfold midChk at hc
  simp only [Bool.and_eq_true] at hc
  obtain ⟨c0, c1, c2, c4, c6, ck, cl, cp, cf⟩ := hc
  cases hF : getI σ (.ref (refOf (look ρ 3))) with
  | none => rw [hF] at cf; cases cf
  | some F' =>
    rw [hF] at cf
    have := eqIL_eq cf
    subst this
    obtain ⟨k, ek, hk, hkl⟩ := getI_ref hF
    have h2 := Nat.le_of_ble_eq_true ck
    have h3 : look ρ 3 = some (.ref k) := by
      cases e3 : look ρ 3 with
      | none => rw [e3] at h2; exact absurd h2 (Nat.not_succ_le_zero 1)
      | some v =>
        rw [e3] at h2 ek
        cases v with
        | ref j => cases ek; rfl
        | _ => exact absurd h2 (Nat.not_succ_le_zero 1)
    rw [h3] at h2
    exact ⟨_, σ, k, rfl, Nat.eq_of_beq_eq_true cl, isV_eq c0, isV_eq c1, isV_eq c2, h3, isV_eq c4, isV_eq c6, h2, hkl, h, eqO_eq cp, hk⟩
noncomputable def CaseOK (p q : Int) : Prop := ∃ (r s : Int) (F : List Int), ((∀ o : O, pickMid p q r s F (sAll midL 0 (rho1 p q) [o, ⟨false, [.ref 0, .int 1]⟩]) = some o) ∧ (∀ o : O, pickMid p q r s F (sAll [B_law_8] 0 (rhoM p q r s) [o, ⟨false, [.ref 0, .int 1]⟩, ⟨false, F.map .int⟩]) = some o) ∧ (∀ o : O, pickMid p q r s F (sAll [B_law_9] 0 (rhoM p q r s) [o, ⟨false, [.ref 0, .int 1]⟩, ⟨false, F.map .int⟩]) = some o)) ∧
  ∀ d : Nat, d < 3 → ∃ u0 u : Int, pick3 p q d = some u0 ∧ B_law_11 0 (rho2 p q r s u0) [⟨false, F.map .int⟩] = some (.next, rho2 p q r s u, [⟨false, F.map .int⟩]) ∧ isTrueRes (sAll tailL 0 (rho2 p q r s u) [⟨false, F.map .int⟩]) = true
theorem cases_ok (c : Nat) (hc : c < 8) : CaseOK (pairOf c).1 (pairOf c).2 :=
  match c, hc with
  | 0, _ => ⟨_, _, _, ⟨midA0, midB0, midC0⟩, case0⟩
  | 1, _ => ⟨_, _, _, ⟨midA1, midB1, midC1⟩, case1⟩
  | 2, _ => ⟨_, _, _, ⟨midA2, midB2, midC2⟩, case2⟩
  | 3, _ => ⟨_, _, _, ⟨midA3, midB3, midC3⟩, case3⟩
  | 4, _ => ⟨_, _, _, ⟨midA4, midB4, midC4⟩, case4⟩
  | 5, _ => ⟨_, _, _, ⟨midA5, midB5, midC5⟩, case5⟩
  | 6, _ => ⟨_, _, _, ⟨midA6, midB6, midC6⟩, case6⟩
  | 7, _ => ⟨_, _, _, ⟨midA7, midB7, midC7⟩, case7⟩
  | k + 8, h => absurd h (by omega)
theorem rho1_ren {p q : Int} : ∀ (i : Nat) (v2 : V), look (rho1 p q) i = some v2 → ∃ v, look (rho1 p q) i = some v ∧ Ren [0, 1] v v2 :=
  RenFrom.all (.keep rfl (.ref rfl) (.keep rfl (.int _) (.keep rfl (.int _) (.skip (.skip (.skip (.skip (.skip (.skip (.skip (.skip (.skip (.skip .nil)))))))))))))
theorem rhoM_ren {p q r s : Int} {ρ : Loc} {kf : Nat} (h0 : look ρ 0 = some (.ref 1)) (h1 : look ρ 1 = some (.int p)) (h2 : look ρ 2 = some (.int q)) (h3 : look ρ 3 = some (.ref kf)) (h4 : look ρ 4 = some (.int r)) (h6 : look ρ 6 = some (.int s)) :
    ∀ (i : Nat) (v2 : V), look (rhoM p q r s) i = some v2 → ∃ v, look ρ i = some v ∧ Ren [0, 1, kf] v v2 :=
  RenFrom.all (.keep h0 (.ref rfl) (.keep h1 (.int _) (.keep h2 (.int _) (.keep h3 (.ref rfl) (.keep h4 (.int _) (.skip (.keep h6 (.int _) (.skip (.skip (.skip (.skip (.skip (.skip .nil)))))))))))))
theorem rho2_ren {p q r s u : Int} : ∀ (i : Nat) (v2 : V), look (rho2 p q r s u) i = some v2 → ∃ v, look (put (rhoM p q r s) 11 (.int u)) i = some v ∧ Ren [2] v v2 :=
  RenFrom.all (.skip (.keep rfl (.int _) (.keep rfl (.int _) (.keep rfl (.ref rfl) (.keep rfl (.int _) (.skip (.keep rfl (.int _) (.skip (.skip (.skip (.skip (.keep rfl (.int _) (.skip .nil)))))))))))))
theorem scr_ren (L : List Nat) (xs : List Int) : Rens L (scr xs).items (scr xs).items := Rens.ints L xs
theorem pool_ren {L : List Nat} {z : Int} (h : L[0]? = some 0) : Rens L (poolAt z).items (poolAt z).items := .cons (.ref h) (.cons (.int _) .nil)
section
variable {prog : Program} {w : World} {h₀ : Heap} {mg mb : Str → Option Value}
noncomputable def lawTab : List Str := [(Str.ofString "pool"), (Str.ofString "p"), (Str.ofString "q"), (Str.ofString "f"), (Str.ofString "r"), (Str.ofString "some"), (Str.ofString "s"), (Str.ofString "spots"), (Str.ofString "one"), (Str.ofString "other"), (Str.ofString "alone"), (Str.ofString "u"), (Str.ofString "whole")]
theorem mid_step {n : Nat} {ns : List (Str × NameKind)} {tab : List Str} {p q r s : Int} {xs F : List Int} {sts rest : List Stmt} {fs : List (Nat → Loc → Hp → Option (Fl × Loc × Hp))} {ρ₀ : Loc} {σ₀ : Hp} (E1 : Each prog w h₀ n ns tab sts fs)
    (hm : pickMid p q r s F (sAll fs 0 ρ₀ σ₀) = some (scr xs)) (R : Ends prog w h₀ n ns tab rest (rhoM p q r s) [scr xs, poolAt 1, scr F]) : Ends prog w h₀ n ns tab (sts ++ rest) ρ₀ σ₀ := by
  obtain ⟨ρ, σ, kf, em, hl, h0, h1, h2, h3, h4, h6, hk2, hkl, g0, g1, gk⟩ := pickMid_use hm
  refine Ends.steps E1 em ?_
  rw [nth_eq] at g0 g1 gk
  refine Ends.view (ρ2 := rhoM p q r s) (σ2 := [scr xs, poolAt 1, scr F]) [0, 1, kf] (by simp; omega) rfl (by simp; omega) ?_ (by rw [hl]; rfl) (rhoM_ren h0 h1 h2 h3 h4 h6) R
  intro j k o2 h1 h2
  match j, h1, h2 with
  | 0, h1, h2 => cases h1; cases h2; exact ⟨_, g0, scr_ren _ _⟩
  | 1, h1, h2 => cases h1; cases h2; exact ⟨_, g1, pool_ren rfl⟩
  | 2, h1, h2 => cases h1; cases h2; exact ⟨_, gk, scr_ren _ _⟩
  | k + 3, h1, h2 => cases h1
theorem law_ends (x : X mg mb h₀) (xs : List Int) (hx : xs.length ≤ 2) : Ends prog w h₀ 8 (scopeAt 30).names lawTab ((bodyAt 30).drop 1) rho0 [scr xs, poolAt 0] := by
  have EE : Each prog w h₀ 8 (scopeAt 30).names lawTab ((bodyAt 30).drop 1) ([B_law_0] ++ (midL ++ ([B_law_8] ++ ([B_law_9] ++ ([B_law_10] ++ ([B_law_11] ++ tailL)))))) := H_law x
  obtain ⟨a0, r0, e0, E0, R0⟩ := EE.split
  obtain ⟨a1, r1, e1, E1, R1⟩ := R0.split
  obtain ⟨a1b, r1b, e1b, E1b, R1b⟩ := R1.split
  obtain ⟨a1c, r1c, e1c, E1c, R1c⟩ := R1b.split
  obtain ⟨a2, r2, e2, E2, R2⟩ := R1c.split
  obtain ⟨a3, r3, e3, E3, R3⟩ := R2.split
  rw [e0, e1, e1b, e1c, e2, e3]
  obtain ⟨c, hc, τ, hs0⟩ := s0 xs hx
  refine Ends.steps E0 ((sCons_next hs0).trans rfl) ?_
  obtain ⟨r, s, F, hm, ht⟩ := cases_ok c hc
  generalize (pairOf c).1 = p at *
  generalize (pairOf c).2 = q at *
  refine Ends.view (ρ2 := rho1 p q) (σ2 := [scr xs, poolAt 1]) [0, 1] (by decide) rfl (by simp) ?_ rfl rho1_ren ?_
  · intro j k o2 h1 h2
    match j, h1, h2 with
    | 0, h1, h2 => cases h1; cases h2; exact ⟨_, rfl, scr_ren _ _⟩
    | 1, h1, h2 => cases h1; cases h2; exact ⟨_, rfl, pool_ren rfl⟩
    | k + 2, h1, h2 => cases h1
  refine mid_step E1 (hm.1 (scr xs)) (mid_step E1b (hm.2.1 (scr xs)) (mid_step E1c (hm.2.2 (scr xs)) ?_))
  obtain ⟨d, hd, hu⟩ := s10 p q r s xs F hx
  obtain ⟨u0, u, e3, e11, et⟩ := ht d hd
  obtain ⟨ρ', σ', e10, rfl, gf, gl⟩ := hu u0 e3
  refine Ends.steps E2 ((sCons_next e10).trans rfl) ?_
  rw [nth_eq] at gf
  refine Ends.view (ρ2 := rho2 p q r s u0) (σ2 := [scr F]) [2] (by decide) rfl (by simpa using gl) ?_ rfl rho2_ren ?_
  · intro j k o2 h1 h2
    match j, h1, h2 with
    | 0, h1, h2 => cases h1; cases h2; exact ⟨_, gf, scr_ren _ _⟩
    | k + 1, h1, h2 => cases h1
  refine Ends.steps E3 ((sCons_next e11).trans rfl) ?_
  exact Ends.of R3.toHSs et
end
end Mine
namespace Mine
theorem IntsAre_VsR {φ : List Addr} : ∀ {vs : List Value} {l : List Int}, IntsAre vs l → VsR φ (l.map .int) vs
  | [], [], _ => .nil
  | [], _ :: _, h => by cases h
  | _ :: _, [], h => by cases h
  | v :: vs, i :: l, h => by
    obtain ⟨t, vs', e, h'⟩ := h.cons_inv
    cases e
    exact .cons (.int _ _) (IntsAre_VsR h')
theorem IntsAre_len : ∀ {vs : List Value} {l : List Int}, IntsAre vs l → vs.length = l.length
  | [], [], _ => rfl
  | [], _ :: _, h => by cases h
  | _ :: _, [], h => by cases h
  | v :: vs, i :: l, h => by
    obtain ⟨t, vs', e, h'⟩ := h.cons_inv
    cases e
    simp [IntsAre_len h']
section
variable {prog : Program} {w : World} {h₀ : Heap} {n : Nat} {ns : List (Str × NameKind)} {tab : List Str} {mg mb : Str → Option Value}
/-- a list comprehension at one place: what its iterator gives is told apart -/
theorem comp_at {elt target iter : Expr} {ifs : List Expr} {scope : Scope} {pos : Pos} {step : Src → Nat → Loc → Hp → Option (Option Loc)} {t : Loc → Hp → Option Bool} {f : Loc → Hp → Option V} (tg fr : List Str) (fi : List Nat)
    (hkind : scope.kind = .function) (hcell : ∀ x ∈ scope.names, x.2 ≠ .cell) (hnames : ∀ x ∈ scope.names, x.2 = .local → scope.names.lookup x.1 = some .local)
    (hfr : scope.names.filterMap (fun p => if p.2 == .free then some p.1 else .none) = fr) (hca : Caught tab ns (relab ns scope.names) fi fr) (htg : ∀ x ∈ tg, (relab ns scope.names).lookup x = some .local)
    (hT : ∀ cenv, EnvOK h₀ (relab ns scope.names) cenv → ∀ src, Turn prog w h₀ n (tg ++ fr) cenv target src (step src))
    (ht : HTL prog w h₀ n (relab ns scope.names) (tg ++ fr) ifs t) (hf : HP prog w h₀ n (relab ns scope.names) (tg ++ fr) elt f)
    (hfold : ∀ env x, foldedSetIterable iter env x = pure x)
    {env : Env} (he : EnvOK h₀ ns env) {A : Around} (hA : Room n A) (n0 : Nat) {ρ : Loc} {σ : Hp} {φ : List Addr} {s : Shared} (H : HR h₀ φ σ s.heap) (F : FOK env tab ρ φ s.heap) (src : Src) (σ₁ : Hp) (fin : List V)
    (hI : ∀ (Q E : Value → Shared → Prop), (∀ φ' I W h' tk, Ext n0 φ φ' s.heap h' → HR h₀ φ' σ₁ h' → SrcAt φ' src I W 0 h' → (∀ b ∈ W, s.heap.get? b = none ∧ b ∉ φ') → Q (.ref I) { s with heap := h', toks := tk }) →
      wpAny (model prog w) A (eval iter env) (fun x s₁ => wpAny (model prog w) A (pyIter x) Q E s₁) E s)
    (eL : compGo (step src) t f σ₁ 1000 0 (compLoc tg.length fi ρ) = some fin) (Q E : Value → Shared → Prop)
    (hQ : ∀ φ' x h' tk, Ext n0 φ φ' s.heap h' → HR h₀ φ' (σ₁ ++ [⟨false, fin⟩]) h' → VR φ' (.ref σ₁.length) x → Q x { s with heap := h', toks := tk }) :
    wpAny (model prog w) A (eval (.ListComp elt [⟨target, iter, ifs, 0⟩] scope pos) env) Q E s := by
  refine comp_core tg fr fi hkind hcell hnames hfr hca htg hT ht hf hfold env he A hA n0 ρ σ φ s H F src σ₁ fin hI eL none Q E fun φ' D C h' tk k H' hv' hC hCφ hC0 hCs => ?_
  obtain ⟨m, hm⟩ := hC
  refine ⟨m, hm, fun h'' hs => ?_⟩
  refine hQ φ' _ h'' tk ⟨k.pre, fun b o hb e => hs.extBut b o (fun q => by rw [q, hCs] at e; cases e) (k.keep b o hb e)⟩ ?_ hv'
  exact H'.keepsOn (fun b o e => hs.extBut b o (fun q => by rw [q, hC0] at e; cases e) (H'.keep b o e)) fun a ha o e => hs.extBut a o (fun q => hCφ (q ▸ ha)) e

theorem rho0_ren : ∀ (i : Nat) (v2 : V), look rho0 i = some v2 → ∃ v, look (put (List.replicate 13 .none) 0 (.ref 2)) i = some v ∧ Ren [1, 2] v v2 :=
  RenFrom.all (.keep rfl (.ref rfl) (.skip (.skip (.skip (.skip (.skip (.skip (.skip (.skip (.skip (.skip (.skip (.skip .nil)))))))))))))
/-- from the first statement on: the script's list stands in h₀ -/
structure Starts (prog : Program) (w : World) (h₀ : Heap) (n : Nat) (ns : List (Str × NameKind)) (tab : List Str) (sc : Str) (st : List Stmt) : Prop where
  run : ∀ env, EnvOK h₀ ns env → Apart env → ∀ A, Room n A → ∀ s, HR h₀ [] [] s.heap → FOK env tab (List.replicate 13 .none) [] s.heap → ∀ m a vs (zs : List Int), s.heap.Ns env.locals m → m sc = some (.ref a) → h₀.IsList a (List.toArray vs) → IntsAre vs zs → zs.length ≤ 63 →
    ∀ (Q : Flow → Shared → Prop) (E : Value → Shared → Prop), (∀ h' tk, Keep h₀ h' → Q (.ret (.bool true)) { s with heap := h', toks := tk }) → wpAny (model prog w) A (execs st env) Q E s

theorem list_keep {h h' : Heap} {a : Addr} {xs : Array Value} (k : Keep h h') (x : h.IsList a xs) : h'.IsList a xs := by
  obtain ⟨o, e, r⟩ := x
  exact ⟨o, k _ _ e, r⟩

theorem slice_iter {A : Around} {s : Shared} (H : HR h₀ [] [] s.heap) {vs : List Value} {zs : List Int} (hI : IntsAre vs zs) (o : Obj) (tk0 : Nat) {Q E : Value → Shared → Prop}
    (hQ : ∀ φ' I W h' tk, Ext 0 [] φ' s.heap h' → HR h₀ φ' [scr (zs.take 2)] h' → SrcAt φ' (.lst 0) I W 0 h' → (∀ b ∈ W, s.heap.get? b = none ∧ b ∉ φ') → Q (.ref I) { s with heap := h', toks := tk }) :
    wpAny (model prog w) A (pyIter (.ref (s.heap.objs.size + 1))) Q E { s with heap := (s.heap.push o).push { cls := .type "list", data := .seq (vs.take 2).toArray }, toks := tk0 } := by
  have hsz : (s.heap.push o).objs.size = s.heap.objs.size + 1 := Heap.size_push ..
  have H3 := pushSeq (H.keeps (Keep.push s.heap o)) false (IntsAre_VsR (φ := []) (hI.take 2))
  rw [hsz] at H3
  have k3 : Ext 0 [] ([] ++ [s.heap.objs.size + 1]) s.heap ((s.heap.push o).push { cls := Value.type "list", data := .seq (vs.take 2).toArray }) := by
    refine .of_add ((Keep.push _ _).trans (Keep.push _ _)) ?_
    cases q : s.heap.get? (s.heap.objs.size + 1) with
    | none => rfl
    | some o => have this : s.heap.objs.size + 1 < s.heap.objs.size := Heap.lt_size q; omega
  have ea : ([] ++ [s.heap.objs.size + 1] : List Addr)[0]? = some (s.heap.objs.size + 1) := rfl
  obtain ⟨ys, hys, hl3⟩ := H3.list ea rfl
  refine wpAny_pyIter_list hl3 (hQ _ _ [_] _ _ (k3.trans H3 (.of_keep (Keep.push _ _))) (H3.keeps (Keep.push _ _)) ⟨rfl, _, ea, _, Heap.get?_push_size _ rfl, rfl, rfl⟩ fun b hb => ?_)
  rw [List.mem_singleton.mp hb]
  exact k3.back H3 (Heap.none_size _)
theorem Starts.mk' {x sc : Str} {p1 p2 p3 pos1 ps pp pq pc : Pos} {kc : Nat} {elt target zero : Expr} {scope : Scope} {rest : List Stmt} {tgn : Str}
    (hi : nth tab 0 = some x) (hk : isStore (ns.lookup x) = true) (nd : tab.Nodup)
    (hs : ∀ env, EnvOK h₀ ns env → swapsWith (.List [.ListComp elt [⟨target, .Subscript (.Name sc ps) (.Slice none (some (.Constant (.int 2) kc pc)) none pp) pq, [], 0⟩] scope pos1, zero] p2) (some (.Name x p1)) p3.line env = pure false)
    (hsc : ns.lookup sc = some .local) (hd : (sc == ("__debug__" : Str)) = false)
    (hkind : scope.kind = .function) (hcell : ∀ x ∈ scope.names, x.2 ≠ .cell) (hnames : ∀ x ∈ scope.names, x.2 = .local → scope.names.lookup x.1 = some .local)
    (hfr : scope.names.filterMap (fun p => if p.2 == .free then some p.1 else .none) = []) (htg : ∀ x ∈ [tgn], (relab ns scope.names).lookup x = some .local)
    (hT : ∀ cenv, EnvOK h₀ (relab ns scope.names) cenv → ∀ src, Turn prog w h₀ n ([tgn] ++ []) cenv target src (step1 src 0))
    (hf : HP prog w h₀ n (relab ns scope.names) ([tgn] ++ []) elt (callP1 intVal (varF 0)))
    (hfold : ∀ env x, foldedSetIterable (.Subscript (.Name sc ps) (.Slice none (some (.Constant (.int 2) kc pc)) none pp) pq) env x = pure x)
    (ht : ∀ o r, letTemporaryGo (.Name sc ps) o r = pure ()) (hz : HP prog w h₀ n ns tab zero (intF 0)) (hstz : isStar zero = false)
    (R : ∀ xs : List Int, xs.length ≤ 2 → Ends prog w h₀ n ns tab rest rho0 [scr xs, poolAt 0]) :
    Starts prog w h₀ n ns tab sc (.Assign [.Name x p1] (.List [.ListComp elt [⟨target, .Subscript (.Name sc ps) (.Slice none (some (.Constant (.int 2) kc pc)) none pp) pq, [], 0⟩] scope pos1, zero] p2) p3 :: rest) := by
  constructor
  intro env he ap A hA s H F m a vs zs hm hma hl hI hlen Q E hQ
  have hvl := IntsAre_len hI
  -- the script's head
  have hIter : ∀ (Q E : Value → Shared → Prop), (∀ φ' I W h' tk, Ext 0 [] φ' s.heap h' → HR h₀ φ' [scr (zs.take 2)] h' → SrcAt φ' (.lst 0) I W 0 h' → (∀ b ∈ W, s.heap.get? b = none ∧ b ∉ φ') → Q (.ref I) { s with heap := h', toks := tk }) →
      wpAny (model prog w) A (eval (.Subscript (.Name sc ps) (.Slice none (some (.Constant (.int 2) kc pc)) none pp) pq) env) (fun x s₁ => wpAny (model prog w) A (pyIter x) Q E s₁) E s := by
    intro Q E hQ
    refine wpAny_Subscript_list_slice (wpAny_Name (wpAny_loadName_local he.kind (by rw [he.kindOf]; exact hsc) hm hma ?_) hd) ht
    refine wpAny_evalPart_none (wpAny_evalPart_some (wpAny_Constant_int ?_))
    refine ⟨a, vs.toArray, none, some 2, rfl, list_keep H.keep hl, by simp [hvl, sizeLine_eq]; omega, .none, .int _ _, ?_⟩
    have e : slicePick vs.toArray none (some 2) none = (vs.take 2).toArray := by
      have := slicePick_upto' vs.toArray 2
      simpa using this
    rw [e]
    exact slice_iter H hI _ _ hQ
  have hc := compGo_lst (σ := [scr (zs.take 2)]) (id := 0) (its := (zs.take 2).map .int) (f := callP1 intVal (varF 0)) (g := id) (rest := []) rfl (fun v hv => by
    obtain ⟨i, _, rfl⟩ := List.mem_map.mp hv
    rfl) (zs.take 2).length 1000 0 none (by simp) (by simp; omega) (Nat.zero_le _)
  have hc' : compGo (step1 (.lst 0) 0) noTest (callP1 intVal (varF 0)) [scr (zs.take 2)] 1000 0 (compLoc [tgn].length [] (List.replicate 13 none)) = some ((zs.take 2).map .int) := by
    exact hc.trans (by simp)
  refine wpAny_execs_cons (wpAny_Assign_Name (wpAny_List (args_cons (comp_at [tgn] [] [] hkind hcell hnames hfr .nil htg hT HTL.nil hf hfold he hA 0 H F (.lst 0) [scr (zs.take 2)] _ hIter hc' _ _ fun φ' y h' tk k H' hv => ?_) (star_each rfl))) (hs env he))
  refine args_cons (hz.1 env he A hA _ _ φ' { s with heap := h', toks := tk } H' (F.ext k) _ rfl _ _ fun z h'' tk' k' hv' => ?_) (star_each hstz)
  refine args_nil ⟨by rw [sizeLine_eq]; simp, ?_⟩
  have H2 := H'.keeps k'
  have F2 := (F.ext k).keeps k'
  have H4 := pushSeq H2 false (.cons hv (.cons hv' .nil))
  have F4 := F2.ext (Ext.push (n0 := 0) (φ := φ') h'' { cls := .type (if false then "tuple" else "list"), data := .seq [y, z].toArray 0 })
  refine store_var he (fun _ => ap) F4 hi hk nd (VR.top H2 _) fun h3 tk3 k3 F3 => ?_
  have H5 := HR.keepsOwn he H4 F4 fun b o hb e => k3 b o (.inl hb) e
  have En := R (zs.take 2) (by simp; omega)
  have En2 : Ends prog w h₀ n ns tab rest (put (List.replicate 13 .none) 0 (.ref 2)) [scr (zs.take 2), scr (zs.take 2), ⟨false, [.ref 1, .int 0]⟩] := by
    refine Ends.view (ρ2 := rho0) (σ2 := [scr (zs.take 2), poolAt 0]) [1, 2] (by decide) rfl (by simp) ?_ rfl ?_ En
    · intro j k o2 h1 h2
      match j, h1, h2 with
      | 0, h1, h2 => cases h1; cases h2; exact ⟨_, rfl, scr_ren _ _⟩
      | 1, h1, h2 => cases h1; cases h2; exact ⟨_, rfl, .cons (.ref rfl) (.cons (.int _) .nil)⟩
      | k + 2, h1, h2 => cases h1
    · exact rho0_ren
  exact En2.run env he ap A hA _ { s with heap := h3, toks := tk3 } H5 F3 Q E hQ
end
end Mine
namespace Mine
section
variable {prog : Program} {w : World} {h₀ : Heap} {mg mb : Str → Option Value}
set_option maxRecDepth 10000 in
set_option maxHeartbeats 4000000 in
theorem law_starts (x : X mg mb h₀) : Starts prog w h₀ 8 (scopeAt 30).names lawTab (Str.ofString "script") (bodyAt 30) := by
  refine Starts.mk' (tgn := Str.ofString "cell") rfl (by decide +kernel) (by decide +kernel) (by exact env_elim fun _ _ _ _ _ _ _ _ _ _ _ => rfl) (by decide +kernel) (by decide +kernel) rfl (by decide +kernel) (by decide +kernel) rfl (by decide +kernel)
    (fun _ he _ => turn1 he 0 rfl (by decide +kernel) (by decide +kernel)) ?_ (by exact fun _ _ => rfl) (by exact fun _ _ => rfl) HP.int rfl (law_ends x)
  exact HP.call1T x.g (by decide +kernel) x.int.1 x.int.2 (by decide +kernel) rfl HB.int (HP.var 0 rfl (by decide +kernel) (by decide +kernel) (by decide +kernel))
end
end Mine
namespace Mine
noncomputable def recAt (i : Nat) : DefRec := ⟨nameAt i, argsAt i, bodyAt i, scopeAt i, posAt i⟩
set_option maxRecDepth 100000 in
theorem rec3 : (recsOf hd.view_39)[0]? = some (recAt 3) := by kernel_rfl
set_option maxRecDepth 100000 in
theorem rec4 : (recsOf hd.view_39)[1]? = some (recAt 4) := by kernel_rfl
set_option maxRecDepth 100000 in
theorem rec6 : (recsOf hd.view_39)[2]? = some (recAt 6) := by kernel_rfl
set_option maxRecDepth 100000 in
theorem rec7 : (recsOf hd.view_39)[3]? = some (recAt 7) := by kernel_rfl
set_option maxRecDepth 100000 in
theorem rec8 : (recsOf hd.view_39)[4]? = some (recAt 8) := by kernel_rfl
set_option maxRecDepth 100000 in
theorem rec9 : (recsOf hd.view_39)[5]? = some (recAt 9) := by kernel_rfl
set_option maxRecDepth 100000 in
theorem rec10 : (recsOf hd.view_39)[6]? = some (recAt 10) := by kernel_rfl
set_option maxRecDepth 100000 in
theorem rec11 : (recsOf hd.view_39)[7]? = some (recAt 11) := by kernel_rfl
set_option maxRecDepth 100000 in
theorem rec12 : (recsOf hd.view_39)[8]? = some (recAt 12) := by kernel_rfl
set_option maxRecDepth 100000 in
theorem rec13 : (recsOf hd.view_39)[9]? = some (recAt 13) := by kernel_rfl
set_option maxRecDepth 100000 in
theorem rec14 : (recsOf hd.view_39)[10]? = some (recAt 14) := by kernel_rfl
set_option maxRecDepth 100000 in
theorem rec15 : (recsOf hd.view_39)[11]? = some (recAt 15) := by kernel_rfl
set_option maxRecDepth 100000 in
theorem rec16 : (recsOf hd.view_39)[12]? = some (recAt 16) := by kernel_rfl
set_option maxRecDepth 100000 in
theorem rec18 : (recsOf hd.view_39)[13]? = some (recAt 18) := by kernel_rfl
set_option maxRecDepth 100000 in
theorem rec19 : (recsOf hd.view_39)[14]? = some (recAt 19) := by kernel_rfl
set_option maxRecDepth 100000 in
theorem rec20 : (recsOf hd.view_39)[15]? = some (recAt 20) := by kernel_rfl
set_option maxRecDepth 100000 in
theorem rec22 : (recsOf hd.view_39)[16]? = some (recAt 22) := by kernel_rfl
set_option maxRecDepth 100000 in
theorem rec23 : (recsOf hd.view_39)[17]? = some (recAt 23) := by kernel_rfl
set_option maxRecDepth 100000 in
theorem rec24 : (recsOf hd.view_39)[18]? = some (recAt 24) := by kernel_rfl
set_option maxRecDepth 100000 in
theorem rec25 : (recsOf hd.view_39)[19]? = some (recAt 25) := by kernel_rfl
set_option maxRecDepth 100000 in
theorem rec27 : (recsOf hd.view_39)[20]? = some (recAt 27) := by kernel_rfl
set_option maxRecDepth 100000 in
theorem rec28 : (recsOf hd.view_39)[21]? = some (recAt 28) := by kernel_rfl
set_option maxRecDepth 100000 in
theorem rec29 : (recsOf hd.view_39)[22]? = some (recAt 29) := by kernel_rfl
theorem rec_mem (i : Nat) (h : isDef i = true) : recAt i ∈ recsOf hd.view_39 :=
  match i, h with
  | 0, h => absurd h (by decide +kernel)
  | 1, h => absurd h (by decide +kernel)
  | 2, h => absurd h (by decide +kernel)
  | 3, h => List.mem_of_getElem? rec3
  | 4, h => List.mem_of_getElem? rec4
  | 5, h => absurd h (by decide +kernel)
  | 6, h => List.mem_of_getElem? rec6
  | 7, h => List.mem_of_getElem? rec7
  | 8, h => List.mem_of_getElem? rec8
  | 9, h => List.mem_of_getElem? rec9
  | 10, h => List.mem_of_getElem? rec10
  | 11, h => List.mem_of_getElem? rec11
  | 12, h => List.mem_of_getElem? rec12
  | 13, h => List.mem_of_getElem? rec13
  | 14, h => List.mem_of_getElem? rec14
  | 15, h => List.mem_of_getElem? rec15
  | 16, h => List.mem_of_getElem? rec16
  | 17, h => absurd h (by decide +kernel)
  | 18, h => List.mem_of_getElem? rec18
  | 19, h => List.mem_of_getElem? rec19
  | 20, h => List.mem_of_getElem? rec20
  | 21, h => absurd h (by decide +kernel)
  | 22, h => List.mem_of_getElem? rec22
  | 23, h => List.mem_of_getElem? rec23
  | 24, h => List.mem_of_getElem? rec24
  | 25, h => List.mem_of_getElem? rec25
  | 26, h => absurd h (by decide +kernel)
  | 27, h => List.mem_of_getElem? rec27
  | 28, h => List.mem_of_getElem? rec28
  | 29, h => List.mem_of_getElem? rec29
  | k + 30, h => absurd h (by
    have : decide (k + 30 ≤ 29) = false := decide_eq_false (by omega)
    unfold isDef; rw [this]; simp)
theorem free_ok {mean : ExcName → Option Value} {mg mb : Str → Option Value} {h : Heap} (T : Top hd.view_39 (looseW hd.view_39 []) mean mg mb h) (x : Str)
    (e : (decide (x ∉ startupNames) && (decide (x ∉ looseW hd.view_39 []) && (decide (x ∉ (recsOf hd.view_39).map (·.name)) && (decide (x ∉ (litsOf hd.view_39).map (·.1)) && decide (x ∉ (clssOf hd.view_39 (looseW hd.view_39 [])).map (·.name)))))) = true) : mg x = none := by
  simp only [Bool.and_eq_true, decide_eq_true_eq] at e
  exact T.free x e.1 e.2.1 e.2.2.1 e.2.2.2.1 e.2.2.2.2
set_option maxRecDepth 100000 in
theorem free_len {mean : ExcName → Option Value} {mg mb : Str → Option Value} {h : Heap} (T : Top hd.view_39 (looseW hd.view_39 []) mean mg mb h) : mg (Str.ofString "len") = none ∧ mb (Str.ofString "len") = some (.builtin "len") :=
  ⟨free_ok T _ (by decide +kernel), (T.builtins _ (by decide +kernel)).trans (by first | boot_by_name | rfl | kernel_rfl)⟩
set_option maxRecDepth 100000 in
theorem free_abs {mean : ExcName → Option Value} {mg mb : Str → Option Value} {h : Heap} (T : Top hd.view_39 (looseW hd.view_39 []) mean mg mb h) : mg (Str.ofString "abs") = none ∧ mb (Str.ofString "abs") = some (.builtin "abs") :=
  ⟨free_ok T _ (by decide +kernel), (T.builtins _ (by decide +kernel)).trans (by first | boot_by_name | rfl | kernel_rfl)⟩
set_option maxRecDepth 100000 in
theorem free_max {mean : ExcName → Option Value} {mg mb : Str → Option Value} {h : Heap} (T : Top hd.view_39 (looseW hd.view_39 []) mean mg mb h) : mg (Str.ofString "max") = none ∧ mb (Str.ofString "max") = some (.builtin "max") :=
  ⟨free_ok T _ (by decide +kernel), (T.builtins _ (by decide +kernel)).trans (by first | boot_by_name | rfl | kernel_rfl)⟩
set_option maxRecDepth 100000 in
theorem free_range {mean : ExcName → Option Value} {mg mb : Str → Option Value} {h : Heap} (T : Top hd.view_39 (looseW hd.view_39 []) mean mg mb h) : mg (Str.ofString "range") = none ∧ mb (Str.ofString "range") = some (.type "range") :=
  ⟨free_ok T _ (by decide +kernel), (T.builtins _ (by decide +kernel)).trans (by first | boot_by_name | rfl | kernel_rfl)⟩
set_option maxRecDepth 100000 in
theorem free_list {mean : ExcName → Option Value} {mg mb : Str → Option Value} {h : Heap} (T : Top hd.view_39 (looseW hd.view_39 []) mean mg mb h) : mg (Str.ofString "list") = none ∧ mb (Str.ofString "list") = some (.type "list") :=
  ⟨free_ok T _ (by decide +kernel), (T.builtins _ (by decide +kernel)).trans (by first | boot_by_name | rfl | kernel_rfl)⟩
set_option maxRecDepth 100000 in
theorem free_enumerate {mean : ExcName → Option Value} {mg mb : Str → Option Value} {h : Heap} (T : Top hd.view_39 (looseW hd.view_39 []) mean mg mb h) : mg (Str.ofString "enumerate") = none ∧ mb (Str.ofString "enumerate") = some (.type "enumerate") :=
  ⟨free_ok T _ (by decide +kernel), (T.builtins _ (by decide +kernel)).trans (by first | boot_by_name | rfl | kernel_rfl)⟩
set_option maxRecDepth 100000 in
theorem free_reversed {mean : ExcName → Option Value} {mg mb : Str → Option Value} {h : Heap} (T : Top hd.view_39 (looseW hd.view_39 []) mean mg mb h) : mg (Str.ofString "reversed") = none ∧ mb (Str.ofString "reversed") = some (.type "reversed") :=
  ⟨free_ok T _ (by decide +kernel), (T.builtins _ (by decide +kernel)).trans (by first | boot_by_name | rfl | kernel_rfl)⟩
set_option maxRecDepth 100000 in
theorem free_int {mean : ExcName → Option Value} {mg mb : Str → Option Value} {h : Heap} (T : Top hd.view_39 (looseW hd.view_39 []) mean mg mb h) : mg (Str.ofString "int") = none ∧ mb (Str.ofString "int") = some (.type "int") :=
  ⟨free_ok T _ (by decide +kernel), (T.builtins _ (by decide +kernel)).trans (by first | boot_by_name | rfl | kernel_rfl)⟩
theorem xOf {mean : ExcName → Option Value} {mg mb : Str → Option Value} {h : Heap} (T : Top hd.view_39 (looseW hd.view_39 []) mean mg mb h) : X mg mb h where
  g := ⟨T.g, T.b, T.nolimit⟩
  len := free_len T
  abs := free_abs T
  max := free_max T
  range := free_range T
  list := free_list T
  enumerate := free_enumerate T
  reversed := free_reversed T
  int := free_int T
  fn := fun i nm e => by
    have e' := Bool.and_eq_true_iff.mp e
    have hn : nm = nameAt i := eq_of_beq e'.1
    subst hn
    exact ⟨T.fn _ (rec_mem i e'.2)⟩
end Mine
namespace Mine
theorem cells_news {cm : Str → Option Value} : ∀ {cs : List (Str × Addr)} {news : List (Addr × Obj)}, CellsAre cm cs news → ∀ {n : Str} {c : Addr}, (n, c) ∈ cs → ∃ o, (c, o) ∈ news ∧ o.data = .cell (cm n)
  | _, _, .nil, _, _, h => by cases h
  | _, _, .cons e r, n, c, h => by
    rcases List.mem_cons.mp h with h | h
    · cases h; exact ⟨_, .head _, e⟩
    · obtain ⟨o, h1, h2⟩ := cells_news r h
      exact ⟨o, .tail _ h1, h2⟩
noncomputable def lawEnv (L fa : Addr) (cd : Value) : Env := envOfC (Str.ofString "law") (scopeAt 30) L fa cd
noncomputable def lawCells (L : Addr) : List (Str × Addr) := [(Str.ofString "spots", L + 1 + 1 + 1 + 1), (Str.ofString "f", L + 1 + 1 + 1), (Str.ofString "q", L + 1 + 1), (Str.ofString "p", L + 1)]
theorem lawEnv_cells (L fa : Addr) (cd : Value) : (lawEnv L fa cd).cells = lawCells L := by kernel_rfl
theorem lawEnv_ok {h₀ : Heap} {fa : Addr} {cd : Value} : EnvOK h₀ (scopeAt 30).names (lawEnv h₀.objs.size fa cd) := by
  refine ⟨by kernel_rfl, rfl, rfl, rfl, fun b hb => ?_⟩
  have hle : h₀.objs.size ≤ b := by
    unfold own at hb
    rw [lawEnv_cells] at hb
    have : b = h₀.objs.size ∨ b = h₀.objs.size + 1 + 1 + 1 + 1 ∨ b = h₀.objs.size + 1 + 1 + 1 ∨ b = h₀.objs.size + 1 + 1 ∨ b = h₀.objs.size + 1 := by
      simpa [lawCells, lawEnv, envOfC] using hb
    rcases this with h | h | h | h | h <;> rw [h]
    · exact Nat.le_refl _
    · exact Nat.le_add_right _ 4
    · exact Nat.le_add_right _ 3
    · exact Nat.le_add_right _ 2
    · exact Nat.le_add_right _ 1
  cases e : h₀.get? b with
  | none => rfl
  | some o => exact absurd (Heap.lt_size e) (Nat.not_lt.mpr hle)
theorem lawEnv_apart {L fa : Addr} {cd : Value} : Apart (lawEnv L fa cd) := by
  unfold Apart
  rw [lawEnv_cells]
  simp [lawCells]
  omega
theorem var_local {env : Env} {m : Str → Option Value} {φ : List Addr} {h : Heap} {x : Str} (hk : env.kindOf x = some .local) : VarIs env m φ h x .none := by
  unfold VarIs; rw [hk]; trivial
theorem var_cell {env : Env} {m : Str → Option Value} {h : Heap} {x : Str} {c : Addr} {cv : Option Value} (hk : env.kindOf x = some .cell) (hl : env.cells.lookup x = some c) (hc : h.IsCell c cv) : VarIs env m [] h x .none := by
  unfold VarIs; rw [hk]; exact ⟨c, cv, hl, by simp, hc, trivial⟩
theorem lawEnv_kind {L fa : Addr} {cd : Value} (x : Str) : (lawEnv L fa cd).kindOf x = (scopeAt 30).names.lookup x := rfl
theorem lawEnv_fok {h₀ h₁ : Heap} {L fa : Addr} {cd : Value} {m cm : Str → Option Value} {news : List (Addr × Obj)} (hm : h₁.Ns L m) (N : News h₀ L h₁ news) (X0 : CellsAre cm (lawCells L) news) :
    FOK (lawEnv L fa cd) lawTab (List.replicate 13 .none) [] h₁ := by
  have cell : ∀ {n : Str} {c : Addr}, (n, c) ∈ lawCells L → h₁.IsCell c (cm n) := fun h => by
    obtain ⟨o, h1, h2⟩ := cells_news X0 h
    exact ⟨o, N.get h1, h2⟩
  refine ⟨fun b hb => ⟨by simp, ?_⟩, rfl, m, hm, fun i x hx => ?_⟩
  · unfold own at hb
    rw [lawEnv_cells] at hb
    rcases List.mem_cons.mp hb with rfl | hb
    · obtain ⟨o, _, _, e, _⟩ := hm
      exact ⟨o, e⟩
    · obtain ⟨⟨n, c⟩, hc, rfl⟩ := List.mem_map.mp hb
      obtain ⟨o, e, _⟩ := cell hc
      exact ⟨o, e⟩
  · have hl : look (List.replicate 13 .none) i = .none := by
      unfold look
      rw [nth_eq]
      by_cases h : i < 13
      · rw [List.getElem?_replicate, if_pos h]
      · rw [List.getElem?_replicate, if_neg h]
    rw [hl]
    have kp : ∀ y, (scopeAt 30).names.lookup y = some .local → VarIs (lawEnv L fa cd) m [] h₁ y .none := fun y hy => var_local ((lawEnv_kind y).trans hy)
    have kc : ∀ y c, (scopeAt 30).names.lookup y = some .cell → (lawCells L).lookup y = some c → (y, c) ∈ lawCells L → VarIs (lawEnv L fa cd) m [] h₁ y .none := fun y c hy hl hm => var_cell ((lawEnv_kind y).trans hy) (by rw [lawEnv_cells]; exact hl) (cell hm)
    match i, hx with
    | 0, hx => cases hx; exact kp _ (by decide +kernel)
    | 1, hx => cases hx; exact kc _ (L + 1) (by decide +kernel) rfl (by simp [lawCells])
    | 2, hx => cases hx; exact kc _ (L + 1 + 1) (by decide +kernel) rfl (by simp [lawCells])
    | 3, hx => cases hx; exact kc _ (L + 1 + 1 + 1) (by decide +kernel) rfl (by simp [lawCells])
    | 4, hx => cases hx; exact kp _ (by decide +kernel)
    | 5, hx => cases hx; exact kp _ (by decide +kernel)
    | 6, hx => cases hx; exact kp _ (by decide +kernel)
    | 7, hx => cases hx; exact kc _ (L + 1 + 1 + 1 + 1) (by decide +kernel) rfl (by simp [lawCells])
    | 8, hx => cases hx; exact kp _ (by decide +kernel)
    | 9, hx => cases hx; exact kp _ (by decide +kernel)
    | 10, hx => cases hx; exact kp _ (by decide +kernel)
    | 11, hx => cases hx; exact kp _ (by decide +kernel)
    | 12, hx => cases hx; exact kp _ (by decide +kernel)
    | k + 13, hx => exact absurd hx (by simp [lawTab])
theorem good_true {c : ClaimW} {cl : Str → Option Addr} {mean : ExcName → Option Value} {args : List WData} {s₁ s' : Shared} (k : Keep s₁.heap s'.heap) (hg : s'.gens = #[]) (hn : ∀ cls, c.raises args cls = false)
    (hp : c.post args (.bool true) args = true) (hos : s'.os = s₁.os) : GoodW c cl mean args s₁ (.ok (.ret (.bool true))) s' :=
  ⟨.inl ⟨_, _, [], rfl, hn, .bool true, hp, unshared_nil⟩, k, hos, hg⟩
theorem room0 {env : Env} : Room 8 (callerA.deeper env) := by
  refine ⟨rfl, ?_, ?_⟩
  · show 1 + claimMargin + 1 + 8 < recursionLimit
    decide
  · show 4 + 3 + 3 * 8 + 200 < cLine
    decide
theorem law_join {mean : ExcName → Option Value} {mg mb : Str → Option Value} {prog : Program} {w : World} {s₁ : Shared} {h₁ : Heap} {tk : Nat} {m cm : Str → Option Value} {news : List (Addr × Obj)} {fa a : Addr} {cd : Value} {vs : List Value} {zs : List Int}
    (T : Top hd.view_39 (looseW hd.view_39 []) mean mg mb s₁.heap) (F : Fr s₁.heap s₁.heap.objs.size h₁ m) (N : News s₁.heap s₁.heap.objs.size h₁ news) (X0 : CellsAre cm (lawCells s₁.heap.objs.size) news)
    (hma : m (Str.ofString "script") = some (.ref a)) (hl : s₁.heap.IsList a (List.toArray vs)) (hI : IntsAre vs zs) (hlen : zs.length ≤ 63)
    {Q : Flow → Shared → Prop} {E : Value → Shared → Prop} (hQ : ∀ h' tk', Keep s₁.heap h' → Q (.ret (.bool true)) { s₁ with heap := h', toks := tk' }) :
    wpAny (model prog w) (callerA.deeper (lawEnv s₁.heap.objs.size fa cd)) (execs (bodyAt 30) (lawEnv s₁.heap.objs.size fa cd)) Q E { s₁ with heap := h₁, toks := tk } :=
  (law_starts (xOf T)).run (lawEnv s₁.heap.objs.size fa cd) lawEnv_ok lawEnv_apart _ room0 { s₁ with heap := h₁, toks := tk } ⟨F.keep, rfl, .nil, (fun a h => nomatch h), (fun k a o e => nomatch e)⟩ (lawEnv_fok F.ns N X0) m a vs zs F.ns hma hl hI hlen Q E hQ
end Mine
namespace Mine
set_option maxRecDepth 100000 in
set_option maxHeartbeats 8000000 in
theorem fin : PySem.Challenge.rw_xm0124_01.Holds := hd (by
  k_go0
  all_goals (try dsimp only)
  rename Top hd.view_39 (looseW hd.view_39 []) _ _ _ _ => T
  rename Fr _ _ _ _ => F
  rename News _ _ _ _ => N
  rename CellsAre _ _ _ => X0
  rename IntsAre _ _ => hI
  rename Heap.IsList _ _ _ => hL
  rename ¬ (_ < _) => hc
  rename _ = #[] => hg
  refine law_join T F N X0 (by rfl) hL hI (by omega) (fun h' tk' k => ?_)
  refine good_true k hg (raisesW_false ?_) ?_ rfl
  · wrow_none_raised
  · wrow_post)
end Mine
theorem PySem.Challenge.cw_xm0124_01_holds : PySem.Challenge.rw_xm0124_01.Holds := by
  exact Mine.fin
