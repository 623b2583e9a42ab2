import PyProof.Rows.All
import Wide.All
import Open.Line
import PySem.Challenge.RW_nn0253_01
set_option Elab.async false
set_option linter.unusedVariables false
set_option linter.unusedSimpArgs false
set_option linter.unusedSectionVars false

namespace Mine
open PySem PyProof.Rows

/-! ## Values -/
inductive AV where
  | none
  | bool (b : Bool)
  | int (i : Int)
  | str (s : Str)
  | list (xs : List AV)
  | tup (xs : List AV)
  | loc (a : Addr)
  | wlist (xs : List AV)
  | rng (a b : Int)

abbrev Part := Addr → Option Obj
abbrev Store := Addr → Option (List AV)
abbrev Rho := List (Str × AV)

abbrev LObj (items : List Value) (n : Nat) : Obj := { cls := .type "list", dict := .none, data := .seq items.toArray n, slots := #[] }
abbrev TObj (items : List Value) (n : Nat) : Obj := { cls := .type "tuple", dict := .none, data := .seq items.toArray n, slots := #[] }

mutual
inductive VR (κ : Part) : AV → Value → Prop
  | none : VR κ .none .none
  | bool (b : Bool) : VR κ (.bool b) (.bool b)
  | int (i : Int) (t : Tok) : VR κ (.int i) (.int i t)
  | str (s : Str) (t : Tok) : VR κ (.str s) (.str s t)
  | list {a items n xs} : κ a = some (LObj items n) → VRs κ xs items → VR κ (.list xs) (.ref a)
  | tup {a items n xs} : κ a = some (TObj items n) → VRs κ xs items → VR κ (.tup xs) (.ref a)
  | wlist {a o items n xs} : κ a = some o → o.cls = .type "list" → o.data = .seq (List.toArray items) n → VRs κ xs items → VR κ (.wlist xs) (.ref a)
  | loc (a : Addr) : VR κ (.loc a) (.ref a)
  | rng {r a b t u v} : κ r = some { cls := .type "range", dict := .none, data := .fields #[.int a t, .int b u, .int 1 v], slots := #[] } → VR κ (.rng a b) (.ref r)
inductive VRs (κ : Part) : List AV → List Value → Prop
  | nil : VRs κ [] []
  | cons {x v xs vs} : VR κ x v → VRs κ xs vs → VRs κ (x :: xs) (v :: vs)
end

def PLe (κ κ' : Part) : Prop := ∀ a o, κ a = some o → κ' a = some o
theorem PLe.refl (κ : Part) : PLe κ κ := fun _ _ e => e
theorem PLe.trans {a b c : Part} (x : PLe a b) (y : PLe b c) : PLe a c := fun p o e => y p o (x p o e)

mutual
theorem VR.mono {κ κ' : Part} (h : PLe κ κ') : ∀ {x : AV} {v : Value}, VR κ x v → VR κ' x v
  | _, _, .none => .none
  | _, _, .bool b => .bool b
  | _, _, .int i t => .int i t
  | _, _, .str s t => .str s t
  | _, _, .list e r => .list (h _ _ e) (VRs.mono h r)
  | _, _, .tup e r => .tup (h _ _ e) (VRs.mono h r)
  | _, _, .wlist e c d r => .wlist (h _ _ e) c d (VRs.mono h r)
  | _, _, .loc a => .loc a
  | _, _, .rng e => .rng (h _ _ e)
theorem VRs.mono {κ κ' : Part} (h : PLe κ κ') : ∀ {xs : List AV} {vs : List Value}, VRs κ xs vs → VRs κ' xs vs
  | _, _, .nil => .nil
  | _, _, .cons a r => .cons (VR.mono h a) (VRs.mono h r)
end

theorem VRs.length {κ : Part} : ∀ {xs : List AV} {vs : List Value}, VRs κ xs vs → xs.length = vs.length
  | _, _, .nil => rfl
  | _, _, .cons _ r => congrArg (· + 1) (VRs.length r)

theorem VRs.get {κ : Part} : ∀ {xs : List AV} {vs : List Value}, VRs κ xs vs → ∀ {i : Nat} {x : AV}, xs[i]? = some x → ∃ v, vs[i]? = some v ∧ VR κ x v
  | _, _, .nil, i, x, h => by simp at h
  | _, _, .cons a r, 0, x, h => by simp at h; subst h; exact ⟨_, rfl, a⟩
  | _, _, .cons a r, i + 1, x, h => by simp at h; simpa using VRs.get r h

theorem VRs.append {κ : Part} : ∀ {xs ys : List AV} {vs ws : List Value}, VRs κ xs vs → VRs κ ys ws → VRs κ (xs ++ ys) (vs ++ ws)
  | _, _, _, _, .nil, h => h
  | _, _, _, _, .cons a r, h => .cons a (VRs.append r h)

theorem VRs.drop {κ : Part} : ∀ {xs : List AV} {vs : List Value} (n : Nat), VRs κ xs vs → VRs κ (xs.drop n) (vs.drop n)
  | _, _, 0, h => h
  | _, _, n + 1, .nil => .nil
  | _, _, n + 1, .cons _ r => VRs.drop n r

theorem VRs.take {κ : Part} : ∀ {xs : List AV} {vs : List Value} (n : Nat), VRs κ xs vs → VRs κ (xs.take n) (vs.take n)
  | _, _, 0, h => .nil
  | _, _, n + 1, .nil => .nil
  | _, _, n + 1, .cons a r => .cons a (VRs.take n r)

theorem VRs.set {κ : Part} : ∀ {xs : List AV} {vs : List Value} (i : Nat) {x : AV} {v : Value}, VRs κ xs vs → VR κ x v → VRs κ (xs.set i x) (vs.set i v)
  | _, _, i, _, _, .nil, _ => .nil
  | _, _, 0, _, _, .cons _ r, h => .cons h r
  | _, _, i + 1, _, _, .cons a r, h => .cons a (VRs.set i r h)

theorem VRs.replicate {κ : Part} {x : AV} {v : Value} (h : VR κ x v) : ∀ n : Nat, VRs κ (List.replicate n x) (List.replicate n v)
  | 0 => .nil
  | n + 1 => .cons h (VRs.replicate h n)

theorem VRs.of_get {κ : Part} : ∀ {xs : List AV} {vs : List Value}, xs.length = vs.length → (∀ (i : Nat) (x : AV) (v : Value), xs[i]? = some x → vs[i]? = some v → VR κ x v) → VRs κ xs vs
  | [], [], _, _ => .nil
  | x :: xs, v :: vs, hl, h => .cons (h 0 x v rfl rfl) (VRs.of_get (by simpa using hl) fun i y u e1 e2 => h (i + 1) y u e1 e2)
  | [], _ :: _, hl, _ => by simp at hl
  | _ :: _, [], hl, _ => by simp at hl

/-! ## Relations to the heap -/
structure HRel (hb : Heap) (κ τ : Part) (σ : Store) (h : Heap) : Prop where
  base : ∀ a o, hb.get? a = some o → κ a = some o
  k : ∀ a o, κ a = some o → h.get? a = some o
  t : ∀ a o, τ a = some o → h.get? a = some o
  d : ∀ a o, τ a = some o → κ a = none
  s : ∀ a xs, σ a = some xs → κ a = none ∧ τ a = none ∧ ∃ items n, h.get? a = some (LObj items n) ∧ VRs κ xs items

structure EnvR (κ τ : Part) (env : Env) (own : List Str) (ρ : Rho) (h : Heap) : Prop where
  kind : env.scope.kind = .function
  glob : env.globals = mainGlobals
  blt : env.builtins = builtinsNs
  locK : κ env.locals = none
  locT : τ env.locals = none
  loc : ∃ m, h.Ns env.locals m ∧ ∀ x v, ρ.lookup x = some v → env.kindOf x = some .local → ∃ v', m x = some v' ∧ VR κ v v'
  cel : ∀ x v, ρ.lookup x = some v → (env.kindOf x = some .cell ∨ env.kindOf x = some .free) → ∃ c v', env.cells.lookup x = some c ∧ h.IsCell c (some v') ∧ VR κ v v'
  cells : ∀ x c, env.cells.lookup x = some c → κ c = none ∧ ∃ cv, h.IsCell c cv
  ownc : ∀ x, x ∈ own → ∃ c, env.cells.lookup x = some c ∧ τ c = none
  apart : ∀ x y c, x ∈ own → env.cells.lookup x = some c → env.cells.lookup y = some c → x = y

def Room (n : Nat) (A : Around) : Prop := A.handled = none ∧ A.depth + n ≤ 800 ∧ A.units + 10 * n ≤ 9000

theorem Room.deeper {n : Nat} {A : Around} (h : Room (n + 1) A) (env : Env) : Room n (A.deeper env) := by
  obtain ⟨a, b, c⟩ := h
  exact ⟨a, by show A.depth + 1 + n ≤ 800; omega, by show A.units + 3 + 10 * n ≤ 9000; omega⟩
theorem Room.le {n m : Nat} {A : Around} (h : Room n A) (hm : m ≤ n) : Room m A := by
  obtain ⟨a, b, c⟩ := h
  exact ⟨a, by omega, by omega⟩

/-! ## Keeping the relations -/
section
variable {hb : Heap} {κ κ' τ : Part} {σ σ' : Store} {h h' : Heap} {env : Env} {own : List Str} {ρ : Rho}

theorem HRel.fresh (H : HRel hb κ τ σ h) {a : Addr} (ha : h.get? a = none) : κ a = none ∧ τ a = none ∧ σ a = none := by
  refine ⟨?_, ?_, ?_⟩
  · cases e : κ a with
    | none => rfl
    | some o => rw [H.k _ _ e] at ha; cases ha
  · cases e : τ a with
    | none => rfl
    | some o => rw [H.t _ _ e] at ha; cases ha
  · cases e : σ a with
    | none => rfl
    | some o => obtain ⟨_, _, items, n, e', _⟩ := H.s _ _ e; rw [e'] at ha; cases ha

/-- the heap grew, nothing that stood changed -/
theorem HRel.grow (H : HRel hb κ τ σ h) (hk : ∀ b o, h.get? b = some o → h'.get? b = some o) : HRel hb κ τ σ h' :=
  ⟨H.base, fun a o e => hk a o (H.k a o e), fun a o e => hk a o (H.t a o e), H.d, fun a xs e => let ⟨x, y, items, n, e', r⟩ := H.s a xs e; ⟨x, y, items, n, hk _ _ e', r⟩⟩

def padd (κ : Part) (a : Addr) (o : Obj) : Part := fun b => if b = a then some o else κ b
theorem padd_le {κ : Part} {a : Addr} {o : Obj} (h : κ a = none) : PLe κ (padd κ a o) := fun b x e => by
  unfold padd
  by_cases q : b = a
  · subst q; rw [h] at e; cases e
  · rw [if_neg q]; exact e
theorem padd_self {κ : Part} {a : Addr} {o : Obj} : padd κ a o a = some o := if_pos rfl
theorem padd_ne {κ : Part} {a b : Addr} {o : Obj} (h : b ≠ a) : padd κ a o b = κ b := if_neg h

/-- a new object, frozen -/
theorem HRel.freeze (H : HRel hb κ τ σ h) {a : Addr} {o : Obj} (ha : h.get? a = none) (hk : ∀ b x, h.get? b = some x → h'.get? b = some x) (ho : h'.get? a = some o) : HRel hb (padd κ a o) τ σ h' := by
  obtain ⟨f1, f2, f3⟩ := H.fresh ha
  refine ⟨fun b x e => padd_le f1 b x (H.base b x e), fun b x e => ?_, fun b x e => hk _ _ (H.t b x e), fun b x e => ?_, fun b xs e => ?_⟩
  · by_cases q : b = a
    · subst q; rw [padd_self] at e; cases e; exact ho
    · rw [padd_ne q] at e; exact hk _ _ (H.k b x e)
  · rw [padd_ne (by rintro rfl; rw [f2] at e; cases e)]; exact H.d b x e
  · obtain ⟨x, y, items, n, e', r⟩ := H.s b xs e
    have q : b ≠ a := by rintro rfl; rw [ha] at e'; cases e'
    exact ⟨by rw [padd_ne q]; exact x, y, items, n, hk _ _ e', r.mono (padd_le f1)⟩

theorem Ns_get {h : Heap} {a : Addr} {m} (x : h.Ns a m) : ∃ o, h.get? a = some o ∧ ∃ es ep, o.data = .dict es ep := let ⟨o, es, ep, e, d, _⟩ := x; ⟨o, e, es, ep, d⟩

open Classical in
/-- what the frame at hand keeps while something else runs -/
noncomputable def frameT (τ : Part) (env : Env) (h : Heap) : Part := fun a => if a = env.locals ∨ (∃ x, env.cells.lookup x = some a) then h.get? a else τ a

theorem EnvR.lift (V : EnvR κ τ env own ρ h) (H : HRel hb κ τ σ h) : HRel hb κ (frameT τ env h) σ h ∧
    ∀ κ' σ' h', PLe κ κ' → HRel hb κ' (frameT τ env h) σ' h' → HRel hb κ' τ σ' h' ∧ EnvR κ' τ env own ρ h' := by
  obtain ⟨m, hn, hm⟩ := V.loc
  obtain ⟨oL, eL, es, ep, dL⟩ := Ns_get hn
  have sL : ∀ a xs, σ a = some xs → ¬ (a = env.locals ∨ (∃ x, env.cells.lookup x = some a)) := by
    rintro a xs e (rfl | ⟨x, q⟩)
    · obtain ⟨_, _, items, n, e', _⟩ := H.s _ _ e
      rw [eL] at e'; cases e'; cases dL
    · obtain ⟨_, cv, oc, ec, dc⟩ := V.cells x a q
      obtain ⟨_, _, items, n, e', _⟩ := H.s _ _ e
      rw [ec] at e'; cases e'; cases dc
  have tE : ∀ a o, frameT τ env h a = some o → h.get? a = some o := by
    intro a o e
    unfold frameT at e
    split at e
    · exact e
    · exact H.t _ _ e
  have inL : frameT τ env h env.locals = some oL := by unfold frameT; rw [if_pos (.inl rfl)]; exact eL
  have inC : ∀ x c o, env.cells.lookup x = some c → h.get? c = some o → frameT τ env h c = some o := by
    intro x c o q e
    unfold frameT; rw [if_pos (.inr ⟨x, q⟩)]; exact e
  have tle : ∀ a o, τ a = some o → frameT τ env h a = some o := by
    intro a o e
    unfold frameT
    split
    · exact H.t _ _ e
    · exact e
  refine ⟨⟨H.base, H.k, tE, ?_, ?_⟩, ?_⟩
  · intro a o e
    unfold frameT at e
    split at e
    · rename_i q
      rcases q with rfl | ⟨x, q⟩
      · exact V.locK
      · exact (V.cells x a q).1
    · exact H.d _ _ e
  · intro a xs e
    obtain ⟨x, y, r⟩ := H.s a xs e
    refine ⟨x, ?_, r⟩
    unfold frameT; rw [if_neg (sL a xs e)]; exact y
  · intro κ' σ' h' le H'
    have cellK : ∀ x c cv, env.cells.lookup x = some c → h.IsCell c cv → h'.IsCell c cv := by
      rintro x c cv q ⟨o, e, d⟩
      exact ⟨o, H'.t _ _ (inC x c o q e), d⟩
    refine ⟨⟨H'.base, H'.k, fun a o e => H'.t _ _ (tle a o e), fun a o e => H'.d _ _ (tle a o e), fun a xs e => ?_⟩, ?_⟩
    · obtain ⟨x, y, r⟩ := H'.s a xs e
      refine ⟨x, ?_, r⟩
      cases q : τ a with
      | none => rfl
      | some o => rw [tle _ _ q] at y; cases y
    · refine ⟨V.kind, V.glob, V.blt, H'.d _ _ inL, V.locT, ⟨m, ?_, fun x v e k => ?_⟩, fun x v e k => ?_, fun x c q => ?_, V.ownc, V.apart⟩
      · exact hn.at' fun o e => by rw [eL] at e; cases e; exact H'.t _ _ inL
      · obtain ⟨v', e1, e2⟩ := hm x v e k; exact ⟨v', e1, e2.mono le⟩
      · obtain ⟨c, v', e1, e2, e3⟩ := V.cel x v e k
        exact ⟨c, v', e1, cellK x c _ e1 e2, e3.mono le⟩
      · obtain ⟨_, cv, o, ec, dc⟩ := V.cells x c q
        exact ⟨H'.d _ _ (inC x c o q ec), cv, cellK x c cv q ⟨o, ec, dc⟩⟩
end

/-! ## Judgements -/
section
variable (prog : Program) (w : World) (hb : Heap)

def PostE (κ τ : Part) (env : Env) (own : List Str) (ρ : Rho) (s : Shared) (Φ : AV → Store → Prop) (Q : Value → Shared → Prop) : Prop :=
  ∀ κ' v v' σ' h' tk', PLe κ κ' → HRel hb κ' τ σ' h' → EnvR κ' τ env own ρ h' → VR κ' v v' → Φ v σ' → Q v' { s with heap := h', toks := tk' }

def wpE (n : Nat) (sc : Scope) (own : List Str) (ρ : Rho) (σ : Store) (e : Expr) (Φ : AV → Store → Prop) : Prop :=
  ∀ (A : Around) (env : Env) (κ τ : Part) (s : Shared) (Q E : Value → Shared → Prop), Room n A → env.scope = sc → HRel hb κ τ σ s.heap → EnvR κ τ env own ρ s.heap →
    PostE hb κ τ env own ρ s Φ Q → wpAny (model prog w) A (eval e env) Q E s

def PostT (κ τ : Part) (env : Env) (own : List Str) (ρ : Rho) (s : Shared) (Φ : Bool → Store → Prop) (Q : Bool → Shared → Prop) : Prop :=
  ∀ κ' b σ' h' tk', PLe κ κ' → HRel hb κ' τ σ' h' → EnvR κ' τ env own ρ h' → Φ b σ' → Q b { s with heap := h', toks := tk' }

def wpT (n : Nat) (sc : Scope) (own : List Str) (ρ : Rho) (σ : Store) (e : Expr) (Φ : Bool → Store → Prop) : Prop :=
  ∀ (A : Around) (env : Env) (κ τ : Part) (s : Shared) (Q : Bool → Shared → Prop) (E : Value → Shared → Prop), Room n A → env.scope = sc → HRel hb κ τ σ s.heap → EnvR κ τ env own ρ s.heap →
    PostT hb κ τ env own ρ s Φ Q → wpAny (model prog w) A (isTrue e env (eval e env)) Q E s

def wpEs (n : Nat) (sc : Scope) (own : List Str) (ρ : Rho) (σ : Store) (es : List Expr) (Φ : List AV → Store → Prop) : Prop :=
  ∀ (A : Around) (env : Env) (κ τ : Part) (s : Shared) (pos : Pos) (Q : List Value → Shared → Prop) (E : Value → Shared → Prop), Room n A → env.scope = sc → HRel hb κ τ σ s.heap → EnvR κ τ env own ρ s.heap →
    (∀ κ' vs vs' σ' h' tk', PLe κ κ' → HRel hb κ' τ σ' h' → EnvR κ' τ env own ρ h' → VRs κ' vs vs' → Φ vs σ' → Q vs' { s with heap := h', toks := tk' }) →
    wpAny (model prog w) A (spliced (backTo pos (starEach es env))) Q E s

inductive FL where
  | next | brk | cont
  | ret (v : AV)

inductive FlR (κ : Part) : FL → Flow → Prop
  | next : FlR κ .next .next
  | brk : FlR κ .brk .brk
  | cont : FlR κ .cont .cont
  | ret {v v'} : VR κ v v' → FlR κ (.ret v) (.ret v')

def PostS (κ τ : Part) (env : Env) (own : List Str) (s : Shared) (Φ : FL → Rho → Store → Prop) (Q : Flow → Shared → Prop) : Prop :=
  ∀ κ' f f' ρ' σ' h' tk', PLe κ κ' → HRel hb κ' τ σ' h' → EnvR κ' τ env own ρ' h' → FlR κ' f f' → Φ f ρ' σ' → Q f' { s with heap := h', toks := tk' }

def wpS (n : Nat) (sc : Scope) (own : List Str) (ρ : Rho) (σ : Store) (st : Stmt) (Φ : FL → Rho → Store → Prop) : Prop :=
  ∀ (A : Around) (env : Env) (κ τ : Part) (s : Shared) (Q : Flow → Shared → Prop), Room n A → env.scope = sc → HRel hb κ τ σ s.heap → EnvR κ τ env own ρ s.heap →
    PostS hb κ τ env own s Φ Q → wpAny (model prog w) A (exec st env) Q (fun _ _ => False) s

def wpSs (n : Nat) (sc : Scope) (own : List Str) (ρ : Rho) (σ : Store) (st : List Stmt) (Φ : FL → Rho → Store → Prop) : Prop :=
  ∀ (A : Around) (env : Env) (κ τ : Part) (s : Shared) (Q : Flow → Shared → Prop), Room n A → env.scope = sc → HRel hb κ τ σ s.heap → EnvR κ τ env own ρ s.heap →
    PostS hb κ τ env own s Φ Q → wpAny (model prog w) A (execs st env) Q (fun _ _ => False) s

/-- what is assigned to a target -/
def PostA (κ τ : Part) (env : Env) (own : List Str) (s : Shared) (Φ : Rho → Store → Prop) (Q : Unit → Shared → Prop) : Prop :=
  ∀ κ' ρ' σ' h' tk', PLe κ κ' → HRel hb κ' τ σ' h' → EnvR κ' τ env own ρ' h' → Φ ρ' σ' → Q () { s with heap := h', toks := tk' }

def wpA (n : Nat) (sc : Scope) (own : List Str) (ρ : Rho) (σ : Store) (t : Expr) (v : AV) (Φ : Rho → Store → Prop) : Prop :=
  ∀ (A : Around) (env : Env) (κ τ : Part) (s : Shared) (v' : Value) (Q : Unit → Shared → Prop) (E : Value → Shared → Prop), Room n A → env.scope = sc → HRel hb κ τ σ s.heap → EnvR κ τ env own ρ s.heap → VR κ v v' →
    PostA hb κ τ env own s Φ Q → wpAny (model prog w) A (assign t env v') Q E s

/-- a step over values alone -/
def wpV (n : Nat) (σ : Store) (f : List Value → Sem Value) (vs : List AV) (Φ : AV → Store → Prop) : Prop :=
  ∀ (A : Around) (κ τ : Part) (s : Shared) (vs' : List Value) (Q E : Value → Shared → Prop), Room n A → HRel hb κ τ σ s.heap → VRs κ vs vs' →
    (∀ κ' v v' σ' h' tk', PLe κ κ' → HRel hb κ' τ σ' h' → VR κ' v v' → Φ v σ' → Q v' { s with heap := h', toks := tk' }) →
    wpAny (model prog w) A (f vs') Q E s

def wpTr (σ : Store) (v : AV) (Φ : Bool → Store → Prop) : Prop :=
  ∀ (A : Around) (κ τ : Part) (s : Shared) (v' : Value) (Q : Bool → Shared → Prop) (E : Value → Shared → Prop), Room 0 A → HRel hb κ τ σ s.heap → VR κ v v' →
    (∀ κ' b σ' h' tk', PLe κ κ' → HRel hb κ' τ σ' h' → Φ b σ' → Q b { s with heap := h', toks := tk' }) →
    wpAny (model prog w) A (truthy v') Q E s
end
end Mine

namespace Mine
open PySem PyProof.Rows

section
variable {prog : Program} {w : World} {hb : Heap} {n : Nat} {sc : Scope} {own : List Str} {ρ : Rho} {σ : Store}

/-! ## Steps over values, from an expression's place -/
theorem wpV_at {f : List Value → Sem Value} {vs : List AV} {Φ : AV → Store → Prop} {A : Around} {env : Env} {κ τ : Part} {s : Shared} {vs' : List Value} {Q E : Value → Shared → Prop}
    (h : wpV prog w hb n σ f vs Φ) (R : Room n A) (H : HRel hb κ τ σ s.heap) (V : EnvR κ τ env own ρ s.heap) (r : VRs κ vs vs')
    (hQ : PostE hb κ τ env own ρ s Φ Q) : wpAny (model prog w) A (f vs') Q E s := by
  obtain ⟨H1, back⟩ := V.lift H
  refine h A κ _ s vs' Q E R H1 r fun κ' v v' σ' h' tk' le H2 rv hΦ => ?_
  obtain ⟨H3, V3⟩ := back κ' σ' h' le H2
  exact hQ κ' v v' σ' h' tk' le H3 V3 rv hΦ

theorem wpTr_at {v : AV} {Φ : Bool → Store → Prop} {A : Around} {env : Env} {κ τ : Part} {s : Shared} {v' : Value} {Q : Bool → Shared → Prop} {E : Value → Shared → Prop}
    (h : wpTr prog w hb σ v Φ) (R : Room n A) (H : HRel hb κ τ σ s.heap) (V : EnvR κ τ env own ρ s.heap) (r : VR κ v v')
    (hQ : PostT hb κ τ env own ρ s Φ Q) : wpAny (model prog w) A (truthy v') Q E s := by
  obtain ⟨H1, back⟩ := V.lift H
  refine h A κ _ s v' Q E (R.le (Nat.zero_le _)) H1 r fun κ' b σ' h' tk' le H2 hΦ => ?_
  obtain ⟨H3, V3⟩ := back κ' σ' h' le H2
  exact hQ κ' b σ' h' tk' le H3 V3 hΦ

theorem wpE_mono {e : Expr} {Φ Ψ : AV → Store → Prop} (h : wpE prog w hb n sc own ρ σ e Φ) (k : ∀ v σ', Φ v σ' → Ψ v σ') : wpE prog w hb n sc own ρ σ e Ψ :=
  fun A env κ τ s Q E R he H V hQ => h A env κ τ s Q E R he H V fun κ' v v' σ' h' tk' a b c d e => hQ κ' v v' σ' h' tk' a b c d (k _ _ e)
theorem wpT_mono {e : Expr} {Φ Ψ : Bool → Store → Prop} (h : wpT prog w hb n sc own ρ σ e Φ) (k : ∀ v σ', Φ v σ' → Ψ v σ') : wpT prog w hb n sc own ρ σ e Ψ :=
  fun A env κ τ s Q E R he H V hQ => h A env κ τ s Q E R he H V fun κ' v σ' h' tk' a b c e => hQ κ' v σ' h' tk' a b c (k _ _ e)
theorem wpV_mono {f : List Value → Sem Value} {vs : List AV} {Φ Ψ : AV → Store → Prop} (h : wpV prog w hb n σ f vs Φ) (k : ∀ v σ', Φ v σ' → Ψ v σ') : wpV prog w hb n σ f vs Ψ :=
  fun A κ τ s vs' Q E R H r hQ => h A κ τ s vs' Q E R H r fun κ' v v' σ' h' tk' a b c e => hQ κ' v v' σ' h' tk' a b c (k _ _ e)
theorem wpS_mono {st : Stmt} {Φ Ψ : FL → Rho → Store → Prop} (h : wpS prog w hb n sc own ρ σ st Φ) (k : ∀ f ρ' σ', Φ f ρ' σ' → Ψ f ρ' σ') : wpS prog w hb n sc own ρ σ st Ψ :=
  fun A env κ τ s Q R he H V hQ => h A env κ τ s Q R he H V fun κ' f f' ρ' σ' h' tk' a b c d e => hQ κ' f f' ρ' σ' h' tk' a b c d (k _ _ _ e)
theorem wpSs_mono {st : List Stmt} {Φ Ψ : FL → Rho → Store → Prop} (h : wpSs prog w hb n sc own ρ σ st Φ) (k : ∀ f ρ' σ', Φ f ρ' σ' → Ψ f ρ' σ') : wpSs prog w hb n sc own ρ σ st Ψ :=
  fun A env κ τ s Q R he H V hQ => h A env κ τ s Q R he H V fun κ' f f' ρ' σ' h' tk' a b c d e => hQ κ' f f' ρ' σ' h' tk' a b c d (k _ _ _ e)
theorem wpV_le {m : Nat} {f : List Value → Sem Value} {vs : List AV} {Φ : AV → Store → Prop} (h : wpV prog w hb m σ f vs Φ) (k : m ≤ n) : wpV prog w hb n σ f vs Φ :=
  fun A κ τ s vs' Q E R H r hQ => h A κ τ s vs' Q E (R.le k) H r hQ

/-! ## Constants and names -/
theorem wpE_int {i : Int} {k : Nat} {pos : Pos} {Φ : AV → Store → Prop} (h : Φ (.int i) σ) : wpE prog w hb n sc own ρ σ (.Constant (.int i) k pos) Φ :=
  fun _ _ κ _ s _ _ _ _ H V hQ => wpAny_Constant_int (hQ κ _ _ σ s.heap _ (.refl _) H V (.int _ _) h)
theorem wpE_none {k : Nat} {pos : Pos} {Φ : AV → Store → Prop} (h : Φ .none σ) : wpE prog w hb n sc own ρ σ (.Constant .none k pos) Φ :=
  fun _ _ κ _ s _ _ _ _ H V hQ => wpAny_Constant_none (hQ κ _ _ σ s.heap s.toks (.refl _) H V .none h)
theorem wpE_bool {b : Bool} {k : Nat} {pos : Pos} {Φ : AV → Store → Prop} (h : Φ (.bool b) σ) : wpE prog w hb n sc own ρ σ (.Constant (.bool b) k pos) Φ :=
  fun _ _ κ _ s _ _ _ _ H V hQ => wpAny_Constant_bool (hQ κ _ _ σ s.heap s.toks (.refl _) H V (.bool _) h)
theorem wpE_str {x : Str} {k : Nat} {pos : Pos} {Φ : AV → Store → Prop} (h : Φ (.str x) σ) : wpE prog w hb n sc own ρ σ (.Constant (.str x) k pos) Φ :=
  fun _ _ κ _ s _ _ _ _ H V hQ => wpAny_Constant_str (hQ κ _ _ σ s.heap _ (.refl _) H V (.str _ _) h)

def nameOk (sc : Scope) (x : Str) : Bool :=
  (match sc.names.lookup x with
    | some .local => true
    | some .cell => true
    | some .free => !(x == ("__classdict__" : Str))
    | _ => false) && !(x == ("__debug__" : Str))

theorem wpE_name {x : Str} {pos : Pos} {v : AV} {Φ : AV → Store → Prop} (hv : ρ.lookup x = some v) (hk : nameOk sc x = true) (h : Φ v σ) :
    wpE prog w hb n sc own ρ σ (.Name x pos) Φ := by
  intro A env κ τ s Q E R he H V hQ
  unfold nameOk at hk
  simp only [Bool.and_eq_true, Bool.not_eq_true'] at hk
  obtain ⟨hk, hd⟩ := hk
  have hkind : env.kindOf x = sc.names.lookup x := by rw [← he]; rfl
  refine wpAny_Name ?_ hd
  cases q : sc.names.lookup x with
  | none => rw [q] at hk; cases hk
  | some kd =>
    rw [q] at hk hkind
    cases kd with
    | «local» =>
      obtain ⟨m, hn, hm⟩ := V.loc
      obtain ⟨v', e1, e2⟩ := hm x v hv hkind
      exact wpAny_loadName_local V.kind hkind hn e1 (hQ κ _ _ σ s.heap s.toks (.refl _) H V e2 h)
    | cell =>
      obtain ⟨c, v', e1, e2, e3⟩ := V.cel x v hv (.inl hkind)
      exact wpAny_loadName_cell V.kind hkind e1 e2 (hQ κ _ _ σ s.heap s.toks (.refl _) H V e3 h)
    | free =>
      obtain ⟨c, v', e1, e2, e3⟩ := V.cel x v hv (.inr hkind)
      exact wpAny_loadName_free V.kind hkind e1 e2 (hQ κ _ _ σ s.heap s.toks (.refl _) H V e3 h) (by simpa using hk)
    | _ => cases hk

/-! ## Operators -/
def fBin (op : Operator) : List Value → Sem Value
  | [a, b] => binaryOp op a b
  | _ => pure .none
def fCmp (op : CmpOp) : List Value → Sem Value
  | [a, b] => compareOp op a b
  | _ => pure .none
def fUn (op : UnaryOp) : List Value → Sem Value
  | [a] => unaryOp op a
  | _ => pure .none

theorem VRs.two {κ : Part} {a b : AV} {vs : List Value} (h : VRs κ [a, b] vs) : ∃ x y, vs = [x, y] ∧ VR κ a x ∧ VR κ b y := by
  cases h with | cons h1 h2 => cases h2 with | cons h3 h4 => cases h4; exact ⟨_, _, rfl, h1, h3⟩
theorem VRs.one {κ : Part} {a : AV} {vs : List Value} (h : VRs κ [a] vs) : ∃ x, vs = [x] ∧ VR κ a x := by
  cases h with | cons h1 h2 => cases h2; exact ⟨_, rfl, h1⟩

theorem wpE_BinOp {l r : Expr} {op : Operator} {pos : Pos} {Φ : AV → Store → Prop}
    (h : wpE prog w hb n sc own ρ σ l fun a σ1 => wpE prog w hb n sc own ρ σ1 r fun b σ2 => wpV prog w hb 0 σ2 (fBin op) [a, b] Φ) :
    wpE prog w hb n sc own ρ σ (.BinOp l op r pos) Φ := by
  intro A env κ τ s Q E R he H V hQ
  refine wpAny_BinOp (h A env κ τ s _ E R he H V ?_)
  intro κ1 a a' σ1 h1 tk1 le1 H1 V1 r1 g1
  refine g1 A env κ1 τ _ _ E R he H1 V1 ?_
  intro κ2 b b' σ2 h2 tk2 le2 H2 V2 r2 g2
  exact wpV_at (f := fBin op) g2 (R.le (Nat.zero_le _)) H2 V2 (.cons (r1.mono le2) (.cons r2 .nil)) fun κ' v v' σ' h' tk' a b c d e => hQ κ' v v' σ' h' tk' (le1.trans (le2.trans a)) b c d e

theorem wpE_Compare {l r : Expr} {op : CmpOp} {pos : Pos} {Φ : AV → Store → Prop} (hm : behindInMarks op r = false)
    (h : wpE prog w hb n sc own ρ σ l fun a σ1 => wpE prog w hb n sc own ρ σ1 r fun b σ2 => wpV prog w hb 0 σ2 (fCmp op) [a, b] Φ) :
    wpE prog w hb n sc own ρ σ (.Compare l [op] [r] pos) Φ := by
  intro A env κ τ s Q E R he H V hQ
  refine wpAny_Compare1 (h A env κ τ s _ E R he H V ?_) hm
  intro κ1 a a' σ1 h1 tk1 le1 H1 V1 r1 g1
  refine g1 A env κ1 τ _ _ E R he H1 V1 ?_
  intro κ2 b b' σ2 h2 tk2 le2 H2 V2 r2 g2
  exact wpV_at (f := fCmp op) g2 (R.le (Nat.zero_le _)) H2 V2 (.cons (r1.mono le2) (.cons r2 .nil)) fun κ' v v' σ' h' tk' a b c d e => hQ κ' v v' σ' h' tk' (le1.trans (le2.trans a)) b c d e

theorem wpT_Compare {l r : Expr} {op : CmpOp} {pos : Pos} {Φ : Bool → Store → Prop} (hm : behindInMarks op r = false)
    (h : wpE prog w hb n sc own ρ σ l fun a σ1 => wpE prog w hb n sc own ρ σ1 r fun b σ2 => wpV prog w hb 0 σ2 (fCmp op) [a, b] fun v σ3 => wpTr prog w hb σ3 v Φ) :
    wpT prog w hb n sc own ρ σ (.Compare l [op] [r] pos) Φ := by
  intro A env κ τ s Q E R he H V hQ
  refine wpAny_isTrue_Compare1 (h A env κ τ s _ E R he H V ?_) hm
  intro κ1 a a' σ1 h1 tk1 le1 H1 V1 r1 g1
  refine g1 A env κ1 τ _ _ E R he H1 V1 ?_
  intro κ2 b b' σ2 h2 tk2 le2 H2 V2 r2 g2
  refine wpV_at (f := fCmp op) g2 (R.le (Nat.zero_le _)) H2 V2 (.cons (r1.mono le2) (.cons r2 .nil)) fun κ3 v v' σ3 h3 tk3 le3 H3 V3 r3 g3 => ?_
  exact wpTr_at (n := 0) g3 (R.le (Nat.zero_le _)) H3 V3 r3 fun κ' b σ' h' tk' a' b' c d => hQ κ' b σ' h' tk' (le1.trans (le2.trans (le3.trans a'))) b' c d

theorem wpE_UnaryOp {x : Expr} {op : UnaryOp} {pos : Pos} {Φ : AV → Store → Prop} (h : wpE prog w hb n sc own ρ σ x fun a σ1 => wpV prog w hb 0 σ1 (fUn op) [a] Φ) :
    wpE prog w hb n sc own ρ σ (.UnaryOp op x pos) Φ := by
  intro A env κ τ s Q E R he H V hQ
  refine wpAny_UnaryOp (h A env κ τ s _ E R he H V ?_)
  intro κ1 a a' σ1 h1 tk1 le1 H1 V1 r1 g1
  exact wpV_at (f := fUn op) g1 (R.le (Nat.zero_le _)) H1 V1 (.cons r1 .nil) fun κ' v v' σ' h' tk' a b c d e => hQ κ' v v' σ' h' tk' (le1.trans a) b c d e

theorem wpT_Not {x : Expr} {pos : Pos} {Φ : Bool → Store → Prop} (h : wpT prog w hb n sc own ρ σ x fun b σ1 => Φ (!b) σ1) : wpT prog w hb n sc own ρ σ (.UnaryOp .Not x pos) Φ :=
  fun A env κ τ s Q E R he H V hQ => wpAny_isTrue_Not (h A env κ τ s _ E R he H V fun κ' b σ' h' tk' a1 a2 a3 a4 => hQ κ' (!b) σ' h' tk' a1 a2 a3 a4)

theorem wpT_value {e : Expr} {Φ : Bool → Store → Prop} (hq : ∀ env whole, isTrue e env whole = (do let v ← whole; standAt e.pos; holding [v] (truthy v)))
    (h : wpE prog w hb n sc own ρ σ e fun v σ1 => wpTr prog w hb σ1 v Φ) : wpT prog w hb n sc own ρ σ e Φ := by
  intro A env κ τ s Q E R he H V hQ
  refine wpAny_isTrue_value (h A env κ τ s _ E R he H V ?_) (hq env _)
  intro κ1 a a' σ1 h1 tk1 le1 H1 V1 r1 g1
  exact wpTr_at (n := 0) g1 (R.le (Nat.zero_le _)) H1 V1 r1 fun κ' b σ' h' tk' a' b' c d => hQ κ' b σ' h' tk' (le1.trans a') b' c d

theorem wpT_And {x y : Expr} {pos : Pos} {Φ : Bool → Store → Prop} (h : wpT prog w hb n sc own ρ σ x fun b σ1 => if b then wpT prog w hb n sc own ρ σ1 y Φ else Φ false σ1) :
    wpT prog w hb n sc own ρ σ (.BoolOp .And [x, y] pos) Φ := by
  intro A env κ τ s Q E R he H V hQ
  refine wpAny_isTrue_BoolOp (wpAny_allTrue_And_cons (h A env κ τ s _ E R he H V ?_))
  intro κ1 b σ1 h1 tk1 le1 H1 V1 g1
  cases b with
  | false => exact hQ κ1 false σ1 h1 tk1 le1 H1 V1 g1
  | true =>
    refine wpAny_allTrue_And_cons (g1 A env κ1 τ _ _ E R he H1 V1 ?_)
    intro κ2 b σ2 h2 tk2 le2 H2 V2 g2
    cases b with
    | false => exact hQ κ2 false σ2 h2 tk2 (le1.trans le2) H2 V2 g2
    | true => exact wpAny_allTrue_And_nil (hQ κ2 true σ2 h2 tk2 (le1.trans le2) H2 V2 g2)

theorem wpT_Or {x y : Expr} {pos : Pos} {Φ : Bool → Store → Prop} (h : wpT prog w hb n sc own ρ σ x fun b σ1 => if b then Φ true σ1 else wpT prog w hb n sc own ρ σ1 y Φ) :
    wpT prog w hb n sc own ρ σ (.BoolOp .Or [x, y] pos) Φ := by
  intro A env κ τ s Q E R he H V hQ
  refine wpAny_isTrue_BoolOp (wpAny_allTrue_Or_cons (h A env κ τ s _ E R he H V ?_))
  intro κ1 b σ1 h1 tk1 le1 H1 V1 g1
  cases b with
  | true => exact hQ κ1 true σ1 h1 tk1 le1 H1 V1 g1
  | false =>
    refine wpAny_allTrue_Or_cons (g1 A env κ1 τ _ _ E R he H1 V1 ?_)
    intro κ2 b σ2 h2 tk2 le2 H2 V2 g2
    cases b with
    | true => exact hQ κ2 true σ2 h2 tk2 (le1.trans le2) H2 V2 g2
    | false => exact wpAny_allTrue_Or_nil (hQ κ2 false σ2 h2 tk2 (le1.trans le2) H2 V2 g2)

theorem wpE_And {x y : Expr} {pos : Pos} {Φ : AV → Store → Prop} (h : wpE prog w hb n sc own ρ σ x fun v σ1 => wpTr prog w hb σ1 v fun b σ2 => if b then wpE prog w hb n sc own ρ σ2 y Φ else Φ v σ2) :
    wpE prog w hb n sc own ρ σ (.BoolOp .And [x, y] pos) Φ := by
  intro A env κ τ s Q E R he H V hQ
  refine wpAny_And2 (h A env κ τ s _ E R he H V ?_)
  intro κ1 v v' σ1 h1 tk1 le1 H1 V1 r1 g1
  refine wpTr_at (n := 0) g1 (R.le (Nat.zero_le _)) H1 V1 r1 fun κ2 b σ2 h2 tk2 le2 H2 V2 g2 => ?_
  cases b with
  | false => exact hQ κ2 v v' σ2 h2 tk2 (le1.trans le2) H2 V2 (r1.mono le2) g2
  | true => exact g2 A env κ2 τ _ _ E R he H2 V2 fun κ' v v' σ' h' tk' a b c d e => hQ κ' v v' σ' h' tk' (le1.trans (le2.trans a)) b c d e

theorem wpE_Or {x y : Expr} {pos : Pos} {Φ : AV → Store → Prop} (h : wpE prog w hb n sc own ρ σ x fun v σ1 => wpTr prog w hb σ1 v fun b σ2 => if b then Φ v σ2 else wpE prog w hb n sc own ρ σ2 y Φ) :
    wpE prog w hb n sc own ρ σ (.BoolOp .Or [x, y] pos) Φ := by
  intro A env κ τ s Q E R he H V hQ
  refine wpAny_Or2 (h A env κ τ s _ E R he H V ?_)
  intro κ1 v v' σ1 h1 tk1 le1 H1 V1 r1 g1
  refine wpTr_at (n := 0) g1 (R.le (Nat.zero_le _)) H1 V1 r1 fun κ2 b σ2 h2 tk2 le2 H2 V2 g2 => ?_
  cases b with
  | true => exact hQ κ2 v v' σ2 h2 tk2 (le1.trans le2) H2 V2 (r1.mono le2) g2
  | false => exact g2 A env κ2 τ _ _ E R he H2 V2 fun κ' v v' σ' h' tk' a b c d e => hQ κ' v v' σ' h' tk' (le1.trans (le2.trans a)) b c d e

theorem wpE_IfExp {t x y : Expr} {pos : Pos} {Φ : AV → Store → Prop} (h : wpT prog w hb n sc own ρ σ t fun b σ1 => if b then wpE prog w hb n sc own ρ σ1 x Φ else wpE prog w hb n sc own ρ σ1 y Φ) :
    wpE prog w hb n sc own ρ σ (.IfExp t x y pos) Φ := by
  intro A env κ τ s Q E R he H V hQ
  refine wpAny_IfExp (h A env κ τ s _ E R he H V ?_)
  intro κ1 b σ1 h1 tk1 le1 H1 V1 g1
  cases b <;> exact g1 A env κ1 τ _ _ E R he H1 V1 fun κ' v v' σ' h' tk' a b c d e => hQ κ' v v' σ' h' tk' (le1.trans a) b c d e

/-! ## Several expressions; displays -/
theorem wpEs_nil {Φ : List AV → Store → Prop} (h : Φ [] σ) : wpEs prog w hb n sc own ρ σ [] Φ :=
  fun _ _ κ _ s _ _ _ _ _ H V hQ => wpAny_items_nil (hQ κ [] [] σ s.heap s.toks (.refl _) H V .nil h)

def notStarred : Expr → Bool
  | .Starred .. => false
  | _ => true
theorem starEach_plain {e : Expr} {es : List Expr} {env : Env} (h : notStarred e = true) : starEach (e :: es) env = (false, eval e env) :: starEach es env := by
  cases e <;> first | rfl | cases h

theorem wpEs_cons {e : Expr} {es : List Expr} {Φ : List AV → Store → Prop} (hs : notStarred e = true)
    (h : wpE prog w hb n sc own ρ σ e fun v σ1 => wpEs prog w hb n sc own ρ σ1 es fun vs σ2 => Φ (v :: vs) σ2) : wpEs prog w hb n sc own ρ σ (e :: es) Φ := by
  intro A env κ τ s pos Q E R he H V hQ
  refine wpAny_items_cons (h A env κ τ s _ E R he H V ?_) (starEach_plain hs)
  intro κ1 v v' σ1 h1 tk1 le1 H1 V1 r1 g1
  refine g1 A env κ1 τ _ pos _ E R he H1 V1 ?_
  intro κ2 vs vs' σ2 h2 tk2 le2 H2 V2 r2 g2
  exact hQ κ2 (v :: vs) (v' :: vs') σ2 h2 tk2 (le1.trans le2) H2 V2 (.cons (r1.mono le2) r2) g2

theorem get_size {h : Heap} : h.get? h.objs.size = none := by
  cases e : h.get? h.objs.size with
  | none => rfl
  | some o => exact absurd (Heap.lt_size e) (Nat.lt_irrefl _)
theorem push_keeps {h : Heap} (o : Obj) : ∀ b x, h.get? b = some x → (h.push o).get? b = some x := fun _ _ e => Heap.get?_push_of_some _ e

section
variable {κ τ : Part} {h h' : Heap} {env : Env}
theorem EnvR.freeze (V : EnvR κ τ env own ρ h) (H : HRel hb κ τ σ h) {a : Addr} {o : Obj} (ha : h.get? a = none) (hk : ∀ b x, h.get? b = some x → h'.get? b = some x) (ho : h'.get? a = some o) :
    HRel hb (padd κ a o) τ σ h' ∧ EnvR (padd κ a o) τ env own ρ h' := by
  obtain ⟨H1, back⟩ := V.lift H
  exact back _ _ _ (padd_le (H.fresh ha).1) (H1.freeze ha hk ho)
theorem EnvR.grow (V : EnvR κ τ env own ρ h) (H : HRel hb κ τ σ h) (hk : ∀ b x, h.get? b = some x → h'.get? b = some x) : HRel hb κ τ σ h' ∧ EnvR κ τ env own ρ h' := by
  obtain ⟨H1, back⟩ := V.lift H
  exact back _ _ _ (.refl _) (H1.grow hk)
end

def sput (σ : Store) (a : Addr) (xs : List AV) : Store := fun b => if b = a then some xs else σ b
theorem sput_self {σ : Store} {a : Addr} {xs : List AV} : sput σ a xs a = some xs := if_pos rfl
theorem sput_ne {σ : Store} {a b : Addr} {xs : List AV} (h : b ≠ a) : sput σ a xs b = σ b := if_neg h

section
variable {κ τ : Part} {h h' : Heap} {env : Env}
/-- a new list that may be changed -/
theorem HRel.newL (H : HRel hb κ τ σ h) {a : Addr} {items : List Value} {m : Nat} {xs : List AV} (ha : h.get? a = none) (hk : ∀ b x, h.get? b = some x → h'.get? b = some x)
    (ho : h'.get? a = some (LObj items m)) (r : VRs κ xs items) : HRel hb κ τ (sput σ a xs) h' := by
  obtain ⟨f1, f2, f3⟩ := H.fresh ha
  refine ⟨H.base, fun b x e => hk _ _ (H.k b x e), fun b x e => hk _ _ (H.t b x e), H.d, fun b ys e => ?_⟩
  by_cases q : b = a
  · subst q; rw [sput_self] at e; cases e; exact ⟨f1, f2, items, m, ho, r⟩
  · rw [sput_ne q] at e
    obtain ⟨x, y, its, k, e', r'⟩ := H.s b ys e
    exact ⟨x, y, its, k, hk _ _ e', r'⟩
/-- a list changed in place -/
theorem HRel.setL (H : HRel hb κ τ σ h) {a : Addr} {items : List Value} {m : Nat} {xs ys : List AV} (ha : σ a = some ys) (hs : Heap.SameBut a h h')
    (ho : h'.get? a = some (LObj items m)) (r : VRs κ xs items) : HRel hb κ τ (sput σ a xs) h' := by
  obtain ⟨f1, f2, _⟩ := H.s a ys ha
  refine ⟨H.base, fun b x e => ?_, fun b x e => ?_, H.d, fun b ys e => ?_⟩
  · rw [hs.2 b (by rintro rfl; rw [f1] at e; cases e)]; exact H.k b x e
  · rw [hs.2 b (by rintro rfl; rw [f2] at e; cases e)]; exact H.t b x e
  · by_cases q : b = a
    · subst q; rw [sput_self] at e; cases e; exact ⟨f1, f2, items, m, ho, r⟩
    · rw [sput_ne q] at e
      obtain ⟨x, y, its, k, e', r'⟩ := H.s b ys e
      exact ⟨x, y, its, k, by rw [hs.2 b q]; exact e', r'⟩
end

theorem wpE_List {es : List Expr} {pos : Pos} {Φ : AV → Store → Prop} (h : wpEs prog w hb n sc own ρ σ es fun vs σ1 => vs.length ≤ 1000000 ∧ Φ (.list vs) σ1) :
    wpE prog w hb n sc own ρ σ (.List es pos) Φ := by
  intro A env κ τ s Q E R he H V hQ
  refine wpAny_List (h A env κ τ s pos _ E R he H V ?_)
  intro κ1 vs vs' σ1 h1 tk1 le1 H1 V1 r1 ⟨hl, g1⟩
  refine ⟨by rw [← r1.length]; exact Nat.le_trans hl (by decide), ?_⟩
  have ho : (h1.push { cls := .type "list", data := .seq vs'.toArray }).get? h1.objs.size = some (LObj vs' 0) := Heap.get?_push_size _ rfl
  obtain ⟨H2, V2⟩ := V1.freeze H1 get_size (push_keeps _) ho
  exact hQ _ (.list vs) _ σ1 _ tk1 (le1.trans (padd_le (H1.fresh get_size).1)) H2 V2 (.list padd_self (r1.mono (padd_le (H1.fresh get_size).1))) g1

theorem wpE_List_loc {es : List Expr} {pos : Pos} {Φ : AV → Store → Prop} (h : wpEs prog w hb n sc own ρ σ es fun vs σ1 => vs.length ≤ 1000000 ∧ ∀ a, σ1 a = none → Φ (.loc a) (sput σ1 a vs)) :
    wpE prog w hb n sc own ρ σ (.List es pos) Φ := by
  intro A env κ τ s Q E R he H V hQ
  refine wpAny_List (h A env κ τ s pos _ E R he H V ?_)
  intro κ1 vs vs' σ1 h1 tk1 le1 H1 V1 r1 ⟨hl, g1⟩
  refine ⟨by rw [← r1.length]; exact Nat.le_trans hl (by decide), ?_⟩
  have ho : (h1.push { cls := .type "list", data := .seq vs'.toArray }).get? h1.objs.size = some (LObj vs' 0) := Heap.get?_push_size _ rfl
  have H2 := H1.newL get_size (push_keeps _) ho r1
  obtain ⟨H3, V3⟩ := V1.grow H1 (push_keeps { cls := .type "list", data := .seq vs'.toArray })
  exact hQ _ (.loc h1.objs.size) _ _ _ tk1 le1 H2 V3 (.loc _) (g1 _ (H1.fresh get_size).2.2)

theorem wpE_Tuple {es : List Expr} {k : Nat} {pos : Pos} {Φ : AV → Store → Prop} (h : wpEs prog w hb n sc own ρ σ es fun vs σ1 => vs.length ≤ 1000000 ∧ Φ (.tup vs) σ1) :
    wpE prog w hb n sc own ρ σ (.Tuple es k pos) Φ := by
  intro A env κ τ s Q E R he H V hQ
  refine wpAny_Tuple (h A env κ τ s pos _ E R he H V ?_)
  intro κ1 vs vs' σ1 h1 tk1 le1 H1 V1 r1 ⟨hl, g1⟩
  refine ⟨by rw [← r1.length]; exact Nat.le_trans hl (by decide), ?_⟩
  have ho : (h1.push { cls := .type "tuple", data := .seq vs'.toArray }).get? h1.objs.size = some (TObj vs' 0) := Heap.get?_push_size _ rfl
  obtain ⟨H2, V2⟩ := V1.freeze H1 get_size (push_keeps _) ho
  exact hQ _ (.tup vs) _ σ1 _ tk1 (le1.trans (padd_le (H1.fresh get_size).1)) H2 V2 (.tup padd_self (r1.mono (padd_le (H1.fresh get_size).1))) g1

/-! ## Statements -/
theorem wpSs_nil {Φ : FL → Rho → Store → Prop} (h : Φ .next ρ σ) : wpSs prog w hb n sc own ρ σ [] Φ :=
  fun _ _ κ _ s _ _ _ H V hQ => wpAny_execs_nil (hQ κ .next .next ρ σ s.heap s.toks (.refl _) H V .next h)

theorem wpSs_cons {st : Stmt} {rest : List Stmt} {Φ : FL → Rho → Store → Prop}
    (h : wpS prog w hb n sc own ρ σ st fun f ρ' σ' => match f with | .next => wpSs prog w hb n sc own ρ' σ' rest Φ | f => Φ f ρ' σ') : wpSs prog w hb n sc own ρ σ (st :: rest) Φ := by
  intro A env κ τ s Q R he H V hQ
  refine wpAny_execs_cons (h A env κ τ s _ R he H V ?_)
  intro κ1 f f' ρ1 σ1 h1 tk1 le1 H1 V1 r1 g1
  cases r1 with
  | next => exact g1 A env κ1 τ _ _ R he H1 V1 fun κ' f f' ρ' σ' h' tk' a b c d e => hQ κ' f f' ρ' σ' h' tk' (le1.trans a) b c d e
  | brk => exact hQ κ1 _ _ ρ1 σ1 h1 tk1 le1 H1 V1 .brk g1
  | cont => exact hQ κ1 _ _ ρ1 σ1 h1 tk1 le1 H1 V1 .cont g1
  | ret r => exact hQ κ1 _ _ ρ1 σ1 h1 tk1 le1 H1 V1 (.ret r) g1

theorem wpS_Return {e : Expr} {pos : Pos} {Φ : FL → Rho → Store → Prop} (h : wpE prog w hb n sc own ρ σ e fun v σ1 => Φ (.ret v) ρ σ1) : wpS prog w hb n sc own ρ σ (.Return (some e) pos) Φ :=
  fun A env κ τ s Q R he H V hQ => wpAny_Return_some (h A env κ τ s _ _ R he H V fun κ' v v' σ' h' tk' a b c d e => hQ κ' (.ret v) (.ret v') ρ σ' h' tk' a b c (.ret d) e)

theorem wpS_Continue {pos : Pos} {Φ : FL → Rho → Store → Prop} (h : Φ .cont ρ σ) : wpS prog w hb n sc own ρ σ (.Continue pos) Φ :=
  fun A env κ τ s Q R he H V hQ => wpAny_Continue (hQ κ .cont .cont ρ σ s.heap s.toks (.refl _) H V .cont h)

theorem wpS_If {t : Expr} {b o : List Stmt} {pos : Pos} {Φ : FL → Rho → Store → Prop}
    (h : wpT prog w hb n sc own ρ σ t fun k σ1 => if k then wpSs prog w hb n sc own ρ σ1 b Φ else wpSs prog w hb n sc own ρ σ1 o Φ) : wpS prog w hb n sc own ρ σ (.If t b o pos) Φ := by
  intro A env κ τ s Q R he H V hQ
  refine wpAny_If (h A env κ τ s _ _ R he H V ?_)
  intro κ1 k σ1 h1 tk1 le1 H1 V1 g1
  cases k <;> exact g1 A env κ1 τ _ _ R he H1 V1 fun κ' f f' ρ' σ' h' tk' a b c d e => hQ κ' f f' ρ' σ' h' tk' (le1.trans a) b c d e
end
end Mine

namespace Mine
open PySem PyProof.Rows

section
variable {prog : Program} {w : World} {hb : Heap} {n : Nat} {σ : Store} {Φ : AV → Store → Prop}

/-! ## ints -/
theorem v_add {x y : Int} (h : Φ (.int (x + y)) σ) : wpV prog w hb n σ (fBin .Add) [.int x, .int y] Φ := by
  intro A κ τ s vs' Q E R H r hQ
  obtain ⟨a, b, rfl, r1, r2⟩ := r.two; cases r1; cases r2
  exact P.add_int (hQ κ _ _ σ s.heap _ (.refl _) H (.int _ _) h)
theorem v_sub {x y : Int} (h : Φ (.int (x - y)) σ) : wpV prog w hb n σ (fBin .Sub) [.int x, .int y] Φ := by
  intro A κ τ s vs' Q E R H r hQ
  obtain ⟨a, b, rfl, r1, r2⟩ := r.two; cases r1; cases r2
  exact P.sub_int (hQ κ _ _ σ s.heap _ (.refl _) H (.int _ _) h)
theorem v_mul {x y : Int} (hm : IntMulOk x y) (h : Φ (.int (x * y)) σ) : wpV prog w hb n σ (fBin .Mult) [.int x, .int y] Φ := by
  intro A κ τ s vs' Q E R H r hQ
  obtain ⟨a, b, rfl, r1, r2⟩ := r.two; cases r1; cases r2
  exact P.mul_int (hQ κ _ _ σ s.heap _ (.refl _) H (.int _ _) h) hm
theorem v_floordiv {x y : Int} (h0 : y ≠ 0) (hl : y.natAbs.log2 < 9000) (h : Φ (.int (x.fdiv y)) σ) : wpV prog w hb n σ (fBin .FloorDiv) [.int x, .int y] Φ := by
  intro A κ τ s vs' Q E R H r hQ
  obtain ⟨a, b, rfl, r1, r2⟩ := r.two; cases r1; cases r2
  exact AutoIntOps.floordiv_1 (by simpa using h0) (by rw [PyProof.noPylong_of_log2 hl]; decide) (hQ κ _ _ σ s.heap _ (.refl _) H (.int _ _) h)
theorem v_mod {x y : Int} (h0 : y ≠ 0) (h : Φ (.int (x.fmod y)) σ) : wpV prog w hb n σ (fBin .Mod) [.int x, .int y] Φ := by
  intro A κ τ s vs' Q E R H r hQ
  obtain ⟨a, b, rfl, r1, r2⟩ := r.two; cases r1; cases r2
  exact AutoIntOps.mod_1 (by simpa using h0) (hQ κ _ _ σ s.heap _ (.refl _) H (.int _ _) h)
theorem v_neg {x : Int} (h : Φ (.int (-x)) σ) : wpV prog w hb n σ (fUn .USub) [.int x] Φ := by
  intro A κ τ s vs' Q E R H r hQ
  obtain ⟨a, rfl, r1⟩ := r.one; cases r1
  exact P.neg_int (hQ κ _ _ σ s.heap _ (.refl _) H (.int _ _) h)
theorem v_eq {x y : Int} (h : Φ (.bool (x == y)) σ) : wpV prog w hb n σ (fCmp .Eq) [.int x, .int y] Φ := by
  intro A κ τ s vs' Q E R H r hQ
  obtain ⟨a, b, rfl, r1, r2⟩ := r.two; cases r1; cases r2
  exact P.eq_int (hQ κ _ _ σ s.heap s.toks (.refl _) H (.bool _) h)
theorem v_ne {x y : Int} (h : Φ (.bool (x != y)) σ) : wpV prog w hb n σ (fCmp .NotEq) [.int x, .int y] Φ := by
  intro A κ τ s vs' Q E R H r hQ
  obtain ⟨a, b, rfl, r1, r2⟩ := r.two; cases r1; cases r2
  exact P.ne_int (hQ κ _ _ σ s.heap s.toks (.refl _) H (.bool _) h)
theorem v_lt {x y : Int} (h : Φ (.bool (decide (x < y))) σ) : wpV prog w hb n σ (fCmp .Lt) [.int x, .int y] Φ := by
  intro A κ τ s vs' Q E R H r hQ
  obtain ⟨a, b, rfl, r1, r2⟩ := r.two; cases r1; cases r2
  exact P.lt_int (hQ κ _ _ σ s.heap s.toks (.refl _) H (.bool _) h)
theorem v_gt {x y : Int} (h : Φ (.bool (decide (x > y))) σ) : wpV prog w hb n σ (fCmp .Gt) [.int x, .int y] Φ := by
  intro A κ τ s vs' Q E R H r hQ
  obtain ⟨a, b, rfl, r1, r2⟩ := r.two; cases r1; cases r2
  exact P.gt_int (hQ κ _ _ σ s.heap s.toks (.refl _) H (.bool _) h)
theorem v_ge {x y : Int} (h : Φ (.bool (decide (x ≥ y))) σ) : wpV prog w hb n σ (fCmp .GtE) [.int x, .int y] Φ := by
  intro A κ τ s vs' Q E R H r hQ
  obtain ⟨a, b, rfl, r1, r2⟩ := r.two; cases r1; cases r2
  exact P.ge_int (hQ κ _ _ σ s.heap s.toks (.refl _) H (.bool _) h)

def AV.isNone : AV → Bool
  | .none => true
  | _ => false
theorem VR.isNone {κ : Part} {v : AV} {x : Value} (r : VR κ v x) : (x == Value.none) = v.isNone := by
  cases r <;> rfl
theorem v_is_none {v : AV} (h : Φ (.bool v.isNone) σ) : wpV prog w hb n σ (fCmp .Is) [v, .none] Φ := by
  intro A κ τ s vs' Q E R H r hQ
  obtain ⟨a, b, rfl, r1, r2⟩ := r.two; cases r2
  refine is_none ?_
  rw [r1.isNone]
  exact hQ κ _ _ σ s.heap s.toks (.refl _) H (.bool _) h
theorem v_is_not_none {v : AV} (h : Φ (.bool (!v.isNone)) σ) : wpV prog w hb n σ (fCmp .IsNot) [v, .none] Φ := by
  intro A κ τ s vs' Q E R H r hQ
  obtain ⟨a, b, rfl, r1, r2⟩ := r.two; cases r2
  refine isNot_none ?_
  rw [r1.isNone]
  exact hQ κ _ _ σ s.heap s.toks (.refl _) H (.bool _) h

/-! ## truth -/
theorem t_bool {b : Bool} {Ψ : Bool → Store → Prop} (h : Ψ b σ) : wpTr prog w hb σ (.bool b) Ψ := by
  intro A κ τ s v' Q E R H r hQ
  cases r
  exact wpAny_truthy_bool (hQ κ b σ s.heap s.toks (.refl _) H h)

/-! ## lists -/
theorem VRs.ints {κ : Part} : ∀ {xs : List Int} {vs : List Value}, VRs κ (xs.map .int) vs → IntsAre vs xs
  | [], _, .nil => .nil
  | _ :: _, _, .cons (.int _ t) r => .cons _ t (VRs.ints r)

theorem VR.getL {κ τ : Part} {h : Heap} (H : HRel hb κ τ σ h) {xs : List AV} {v : Value} (r : VR κ (.list xs) v) : ∃ a items m, v = .ref a ∧ h.get? a = some (LObj items m) ∧ VRs κ xs items := by
  cases r with | list e r => exact ⟨_, _, _, rfl, H.k _ _ e, r⟩
theorem VR.getT {κ τ : Part} {h : Heap} (H : HRel hb κ τ σ h) {xs : List AV} {v : Value} (r : VR κ (.tup xs) v) : ∃ a items m, v = .ref a ∧ h.get? a = some (TObj items m) ∧ VRs κ xs items := by
  cases r with | tup e r => exact ⟨_, _, _, rfl, H.k _ _ e, r⟩

theorem Room.hu {A : Around} (R : Room n A) : A.units + 64 < cLine := by
  have := R.2.2
  have e : cLine = 9900 := rfl
  omega
theorem Room.hu' {A : Around} (R : Room n A) : A.units < cLine := by have := R.hu; omega

section
open PySem.Calls PyProof.V
theorem lays_ints (zs : List Int) : PyData.canLayAll0 (zs.map PyData.int) = true := by
  induction zs with
  | nil => rfl
  | cons z zs ih => simp [PyData.canLayAll0, PyData.canLay0, ih]
theorem flat_ints (zs : List Int) : PyData.depthAll (zs.map PyData.int) = 0 := by
  induction zs with
  | nil => rfl
  | cons z zs ih => simp [PyData.depthAll, PyData.depth, ih]
theorem shape_ints (zs : List Int) : SeqAt.shaped (.list (zs.map PyData.int)) = true := by
  simp [SeqAt.shaped, PyData.canLay0, PyData.depth, lays_ints, flat_ints]
theorem same_ints (xs ys : List Int) : Spec.same (.list (xs.map PyData.int)) (.list (ys.map PyData.int)) = decide (xs = ys) := by
  simp only [Spec.same]
  induction xs generalizing ys with
  | nil => cases ys <;> simp [Spec.sameAll]
  | cons x xs ih =>
    cases ys with
    | nil => simp [Spec.sameAll]
    | cons y ys =>
      simp only [List.map_cons, Spec.sameAll, Spec.same, ih]
      by_cases h1 : x = y <;> by_cases h2 : xs = ys <;> simp [h1, h2]
theorem carry_ints {vs : List Value} {zs : List Int} (h : IntsAre vs zs) : CarriedAll vs (zs.map PyData.int) := by
  induction h with
  | nil => exact .nil
  | cons n t _ ih => exact .cons (.int n t) ih
theorem eq_ints {prog : Program} {w : World} {A : Around} {E : Value → Shared → Prop} {s : Shared} {a b : Addr} {xs ys : List Value} {ns ms : List Int} {Q : Value → Shared → Prop}
    (ha : s.heap.IsList a xs.toArray) (hb : s.heap.IsList b ys.toArray) (hi : IntsAre xs ns) (hj : IntsAre ys ms) (hu : A.units + 64 < cLine) (h : Q (.bool (decide (ns = ms))) s) :
    wpAny (model prog w) A (compareOp .Eq (.ref a) (.ref b)) Q E s := by
  refine eq_dataH_same (reads_newData ha (carry_ints hi)) (reads_newData hb (carry_ints hj)) (shape_ints _) (shape_ints _) hu ?_ (by rw [same_ints]; exact h)
  exact SeqAt.noMix_of_shape (.list .int) rfl _ _ (list_map_has fun _ => rfl) (list_map_has fun _ => rfl)
theorem ne_ints {prog : Program} {w : World} {A : Around} {E : Value → Shared → Prop} {s : Shared} {a b : Addr} {xs ys : List Value} {ns ms : List Int} {Q : Value → Shared → Prop}
    (ha : s.heap.IsList a xs.toArray) (hb : s.heap.IsList b ys.toArray) (hi : IntsAre xs ns) (hj : IntsAre ys ms) (hu : A.units + 64 < cLine) (h : Q (.bool (!decide (ns = ms))) s) :
    wpAny (model prog w) A (compareOp .NotEq (.ref a) (.ref b)) Q E s := by
  refine ne_dataH_same (reads_newData ha (carry_ints hi)) (reads_newData hb (carry_ints hj)) (shape_ints _) (shape_ints _) hu ?_ (by rw [same_ints]; exact h)
  exact SeqAt.noMix_of_shape (.list .int) rfl _ _ (list_map_has fun _ => rfl) (list_map_has fun _ => rfl)
end

theorem LObj.isList {h : Heap} {a : Addr} {items : List Value} {m : Nat} (e : h.get? a = some (LObj items m)) : h.IsList a items.toArray := ⟨_, e, rfl, m, rfl⟩
theorem TObj.isTuple {h : Heap} {a : Addr} {items : List Value} {m : Nat} (e : h.get? a = some (TObj items m)) : h.IsTuple a items.toArray := ⟨_, e, rfl, m, rfl⟩

theorem v_eq_ints {xs ys : List Int} (h : Φ (.bool (decide (xs = ys))) σ) : wpV prog w hb n σ (fCmp .Eq) [.list (xs.map .int), .list (ys.map .int)] Φ := by
  intro A κ τ s vs' Q E R H r hQ
  obtain ⟨a, b, rfl, r1, r2⟩ := r.two
  obtain ⟨l1, i1, m1, rfl, e1, q1⟩ := r1.getL H
  obtain ⟨l2, i2, m2, rfl, e2, q2⟩ := r2.getL H
  exact eq_ints (LObj.isList e1) (LObj.isList e2) q1.ints q2.ints R.hu (hQ κ _ _ σ s.heap s.toks (.refl _) H (.bool _) h)
theorem v_ne_ints {xs ys : List Int} (h : Φ (.bool (!decide (xs = ys))) σ) : wpV prog w hb n σ (fCmp .NotEq) [.list (xs.map .int), .list (ys.map .int)] Φ := by
  intro A κ τ s vs' Q E R H r hQ
  obtain ⟨a, b, rfl, r1, r2⟩ := r.two
  obtain ⟨l1, i1, m1, rfl, e1, q1⟩ := r1.getL H
  obtain ⟨l2, i2, m2, rfl, e2, q2⟩ := r2.getL H
  exact ne_ints (LObj.isList e1) (LObj.isList e2) q1.ints q2.ints R.hu (hQ κ _ _ σ s.heap s.toks (.refl _) H (.bool _) h)

/-- compared with the empty list -/
theorem v_eq_nil {xs : List AV} (h : Φ (.bool xs.isEmpty) σ) : wpV prog w hb n σ (fCmp .Eq) [.list xs, .list []] Φ := by
  intro A κ τ s vs' Q E R H r hQ
  obtain ⟨a, b, rfl, r1, r2⟩ := r.two
  obtain ⟨l1, i1, m1, rfl, e1, q1⟩ := r1.getL H
  obtain ⟨l2, i2, m2, rfl, e2, q2⟩ := r2.getL H
  cases q2
  cases q1 with
  | nil =>
    refine P.eq_list (e := fun _ => true) e1 e2 rfl (fun j h1 _ => absurd h1 (Nat.not_lt_zero _)) R.hu' ?_
    exact hQ κ (.bool true) _ σ s.heap s.toks (.refl _) H (.bool _) h
  | cons a b =>
    refine P.eq_list_lengths e1 e2 (by simp) R.hu' ?_
    exact hQ κ (.bool false) _ σ s.heap s.toks (.refl _) H (.bool _) h
theorem v_ne_nil {xs : List AV} (h : Φ (.bool (!xs.isEmpty)) σ) : wpV prog w hb n σ (fCmp .NotEq) [.list xs, .list []] Φ := by
  intro A κ τ s vs' Q E R H r hQ
  obtain ⟨a, b, rfl, r1, r2⟩ := r.two
  obtain ⟨l1, i1, m1, rfl, e1, q1⟩ := r1.getL H
  obtain ⟨l2, i2, m2, rfl, e2, q2⟩ := r2.getL H
  cases q2
  cases q1 with
  | nil =>
    refine SeqAt.RcNeAt.lists (e := fun _ => true) (LObj.isList e1) (LObj.isList e2) rfl R.hu' (fun j h1 _ => absurd h1 (Nat.not_lt_zero _)) prog w E Q ?_
    exact hQ κ (.bool false) _ σ s.heap s.toks (.refl _) H (.bool _) h
  | cons a b =>
    refine SeqAt.RcNeAt.lists_lengths (LObj.isList e1) (LObj.isList e2) (by simp) R.hu' prog w E Q ?_
    exact hQ κ (.bool true) _ σ s.heap s.toks (.refl _) H (.bool _) h

theorem frozenL {κ τ : Part} {h : Heap} (H : HRel hb κ τ σ h) {o : Obj} : HRel hb (padd κ h.objs.size o) τ σ (h.push o) ↔ HRel hb (padd κ h.objs.size o) τ σ (h.push o) := Iff.rfl

theorem v_add_list {xs ys : List AV} (hl : xs.length + ys.length ≤ 1000000) (h : Φ (.list (xs ++ ys)) σ) : wpV prog w hb n σ (fBin .Add) [.list xs, .list ys] Φ := by
  intro A κ τ s vs' Q E R H r hQ
  obtain ⟨a, b, rfl, r1, r2⟩ := r.two
  obtain ⟨l1, i1, m1, rfl, e1, q1⟩ := r1.getL H
  obtain ⟨l2, i2, m2, rfl, e2, q2⟩ := r2.getL H
  have hz : i1.toArray.size + i2.toArray.size ≤ sizeLine := by
    rw [List.size_toArray, List.size_toArray, ← q1.length, ← q2.length]; exact Nat.le_trans hl (by decide)
  refine P.add_list e1 e2 ?_ hz
  have ho : (s.heap.push { cls := .type "list", data := .seq (i1.toArray ++ i2.toArray) }).get? s.heap.objs.size = some (LObj (i1 ++ i2) 0) := by
    rw [Heap.get?_push_size _ rfl]; simp
  have f := (H.fresh (get_size (h := s.heap))).1
  exact hQ _ _ _ σ _ s.toks (padd_le f) (H.freeze get_size (push_keeps _) ho) (.list padd_self ((q1.append q2).mono (padd_le f))) h

theorem v_mul_list {x : Int} {xs : List AV} (h0 : 0 ≤ x) (h1 : x ≤ 1000) (hl : xs.length = 1) (h : ∀ a, σ a = none → Φ (.loc a) (sput σ a (List.replicate x.toNat (xs.getD 0 .none)))) :
    wpV prog w hb n σ (fBin .Mult) [.list xs, .int x] Φ := by
  intro A κ τ s vs' Q E R H r hQ
  obtain ⟨a, b, rfl, r1, r2⟩ := r.two
  obtain ⟨l1, i1, m1, rfl, e1, q1⟩ := r1.getL H
  cases r2 with | int _ u =>
  match xs, hl with
  | [x1], _ =>
  obtain ⟨v1, rfl, q⟩ := q1.one
  have F0 : ∀ (k : Nat), (List.foldl (fun x1 x2 => x1 ++ x2) #[] (List.replicate k #[v1])).toList = List.replicate k v1 := by
    have : ∀ (k : Nat) (acc : Array Value), (List.foldl (fun x1 x2 => x1 ++ x2) acc (List.replicate k #[v1])).toList = acc.toList ++ List.replicate k v1 := by
      intro k
      induction k with
      | zero => intro acc; simp
      | succ k ih => intro acc; rw [List.replicate_succ, List.foldl_cons, ih]; simp [List.replicate_succ]
    intro k; rw [this]; simp
  refine wpAny_binaryOp_repeat_ref (T := "list") (U := "int") (by decide) ⟨_, e1, rfl⟩ (fun s' => typeIs_int s' x u) noFill_list_mul F.fills_int_mul F.slot_int_rmul repeat_list F.slot_int_index.lookup
    (call_meets F.slot_int_rmul (typeIs_int s x u) F.entry_int_rmul (F.args_int_rmul_2 _ _) (int___rmul___int_list x u l1 [v1].toArray m1)
      ⟨e1, rfl, ⟨_, e1, rfl⟩, call_meets F.slot_list_mul ⟨_, e1, rfl⟩ F.entry_list_mul (F.args_list_mul_2 _ _)
        (AutoListH.list___mul___list_int_3 l1 [v1].toArray m1 x u (by simp [Builtin.List.listFitsIndex]; omega) (by simp; omega) (by simp [Builtin.List.listTooLong, sizeLine]; omega))
        ⟨e1, ?_⟩⟩)
  have ho : (s.heap.push { cls := .type "list", data := .seq (List.foldl (fun x1 x2 => x1 ++ x2) #[] (List.replicate (if ([v1].toArray).isEmpty = true then 0 else x.toNat) [v1].toArray)) }).get? s.heap.objs.size = some (LObj (List.replicate x.toNat v1) 0) := by
    rw [Heap.get?_push_size _ rfl]
    have e : (if ([v1].toArray).isEmpty = true then 0 else x.toNat) = x.toNat := by simp
    rw [e, ← F0 x.toNat]
  have q' : VRs κ (List.replicate x.toNat x1) (List.replicate x.toNat v1) := VRs.replicate q _
  exact hQ κ (.loc s.heap.objs.size) _ _ _ s.toks (.refl _) (H.newL get_size (push_keeps _) ho q') (.loc _) (h _ (H.fresh get_size).2.2)
end
end Mine

namespace Mine
open PySem PyProof.Rows

/-! ## The program's names -/
def bltOf : List (Str × Value) := [("len", .builtin "len"), ("abs", .builtin "abs"), ("min", .builtin "min"), ("max", .builtin "max"), ("sum", .builtin "sum"), ("range", .type "range"), ("enumerate", .type "enumerate"), ("list", .type "list")]

structure Glo (hb : Heap) (mg mb : Str → Option Value) : Prop where
  g : hb.Ns mainGlobals mg
  b : hb.Ns builtinsNs mb
  nolimit : hb.NoLimit
  blt : ∀ x v, bltOf.lookup x = some v → mg x = none ∧ mb x = some v

def FnAt (hb : Heap) (mg : Str → Option Value) (x : Str) (params : Arguments) (body : List Stmt) (scope : Scope) : Prop :=
  ∃ a o pm code doc, mg x = some (.ref a) ∧ hb.get? a = some o ∧ o.data = .func (Calls.docDef x params body scope pm code doc) ∧ hb.CodeRec code x

section
variable {prog : Program} {w : World} {hb : Heap} {mg mb : Str → Option Value} {n : Nat} {sc : Scope} {own : List Str} {ρ : Rho} {σ : Store}

theorem HRel.keeps {κ τ : Part} {h : Heap} (H : HRel hb κ τ σ h) : ∀ b o, hb.get? b = some o → h.get? b = some o := fun b o e => H.k _ _ (H.base _ _ e)

def fCall (f : Value) (vs : List Value) : Sem Value := call f vs

/-- a function of the text, by its name -/
def wpF (prog : Program) (w : World) (hb : Heap) (mg : Str → Option Value) (n : Nat) (σ : Store) (x : Str) (vs : List AV) (Φ : AV → Store → Prop) : Prop :=
  ∀ a, mg x = some (.ref a) → wpV prog w hb n σ (fCall (.ref a)) vs Φ

theorem wpF_mono {x : Str} {vs : List AV} {Φ Ψ : AV → Store → Prop} (h : wpF prog w hb mg n σ x vs Φ) (k : ∀ v σ', Φ v σ' → Ψ v σ') : wpF prog w hb mg n σ x vs Ψ :=
  fun a ha => wpV_mono (h a ha) k
theorem wpF_le {m : Nat} {x : Str} {vs : List AV} {Φ : AV → Store → Prop} (h : wpF prog w hb mg m σ x vs Φ) (k : m ≤ n) : wpF prog w hb mg n σ x vs Φ :=
  fun a ha => wpV_le (h a ha) k

theorem backTo_plain {e : Expr} {es : List Expr} {pos : Pos} {env : Env} (h : notStarred e = true) : backTo pos (starEach (e :: es) env) = (false, eval e env) :: backTo pos (starEach es env) := by
  rw [starEach_plain h]; rfl
theorem backTo_any {pos : Pos} {env : Env} : ∀ {es : List Expr}, es.all notStarred = true → (backTo pos (starEach es env)).any (·.1) = false
  | [], _ => rfl
  | e :: es, h => by
    simp only [List.all_cons, Bool.and_eq_true] at h
    rw [backTo_plain h.1, List.any_cons, backTo_any h.2]; rfl

theorem wpE_callB {f : Str} {p pos : Pos} {id : String} {e : Expr} {es : List Expr} {Φ : AV → Store → Prop} (G : Glo hb mg mb) (hk : sc.names.lookup f = some .globalImplicit) (hd : (f == ("__debug__" : Str)) = false)
    (hb' : bltOf.lookup f = some (.builtin id)) (hs : (e :: es).all notStarred = true)
    (h : wpEs prog w hb n sc own ρ σ (e :: es) fun vs σ1 => wpV prog w hb 0 σ1 (fCall (.builtin id)) vs Φ) :
    wpE prog w hb n sc own ρ σ (.Call (.Name f p) (e :: es) [] pos) Φ := by
  intro A env κ τ s Q E R he H V hQ
  have hkind : env.kindOf f = some .globalImplicit := by rw [← hk, ← he]; rfl
  have hse : notStarred e = true := by simp only [List.all_cons, Bool.and_eq_true] at hs; exact hs.1
  refine wpAny_Call_NameR (Calls.Name_function_global V.kind hkind (Calls.loadGlobal_builtin (V.glob ▸ G.g.keeps H.keeps) (G.blt f _ hb').1 (V.blt ▸ G.b.keeps H.keeps) (G.blt f _ hb').2 ?_) hd)
  refine Calls.callWith_builtin (backTo_any hs) ?_
  rw [backTo_plain hse]
  refine Calls.evalArgs_plain ?_
  rw [← backTo_plain hse]
  refine h A env κ τ s pos _ E R he H V fun κ1 vs vs' σ1 h1 tk1 le1 H1 V1 r1 g1 => ?_
  exact wpV_at (f := fCall (.builtin id)) g1 (R.le (Nat.zero_le _)) H1 V1 r1 fun κ' v v' σ' h' tk' a b c d e => hQ κ' v v' σ' h' tk' (le1.trans a) b c d e

theorem wpE_callTy {f : Str} {p pos : Pos} {T : String} {e : Expr} {es : List Expr} {Φ : AV → Store → Prop} (G : Glo hb mg mb) (hk : sc.names.lookup f = some .globalImplicit) (hd : (f == ("__debug__" : Str)) = false)
    (hb' : bltOf.lookup f = some (.type T)) (hs : (e :: es).all notStarred = true)
    (h : wpEs prog w hb n sc own ρ σ (e :: es) fun vs σ1 => wpV prog w hb 0 σ1 (fCall (.type T)) vs Φ) :
    wpE prog w hb n sc own ρ σ (.Call (.Name f p) (e :: es) [] pos) Φ := by
  intro A env κ τ s Q E R he H V hQ
  have hkind : env.kindOf f = some .globalImplicit := by rw [← hk, ← he]; rfl
  have hse : notStarred e = true := by simp only [List.all_cons, Bool.and_eq_true] at hs; exact hs.1
  refine wpAny_Call_NameR (Calls.Name_function_global V.kind hkind (Calls.loadGlobal_builtin (V.glob ▸ G.g.keeps H.keeps) (G.blt f _ hb').1 (V.blt ▸ G.b.keeps H.keeps) (G.blt f _ hb').2 ?_) hd)
  refine PySem.callWith_type (backTo_any hs) ?_
  rw [backTo_plain hse]
  refine Calls.evalArgs_plain ?_
  rw [← backTo_plain hse]
  refine h A env κ τ s pos _ E R he H V fun κ1 vs vs' σ1 h1 tk1 le1 H1 V1 r1 g1 => ?_
  exact wpV_at (f := fCall (.type T)) g1 (R.le (Nat.zero_le _)) H1 V1 r1 fun κ' v v' σ' h' tk' a b c d e => hQ κ' v v' σ' h' tk' (le1.trans a) b c d e

theorem wpE_callF {f : Str} {p pos : Pos} {params : Arguments} {body : List Stmt} {scope : Scope} {e : Expr} {es : List Expr} {Φ : AV → Store → Prop} (G : Glo hb mg mb) (hf : FnAt hb mg f params body scope)
    (hk : sc.names.lookup f = some .globalImplicit) (hd : (f == ("__debug__" : Str)) = false) (hs : (e :: es).all notStarred = true)
    (h : wpEs prog w hb n sc own ρ σ (e :: es) fun vs σ1 => wpF prog w hb mg n σ1 f vs Φ) :
    wpE prog w hb n sc own ρ σ (.Call (.Name f p) (e :: es) [] pos) Φ := by
  intro A env κ τ s Q E R he H V hQ
  obtain ⟨a, o, pm, code, doc, h1, h2, h3, h4⟩ := hf
  have hkind : env.kindOf f = some .globalImplicit := by rw [← hk, ← he]; rfl
  have hse : notStarred e = true := by simp only [List.all_cons, Bool.and_eq_true] at hs; exact hs.1
  refine wpAny_Call_NameR (Calls.Name_function_global V.kind hkind (Calls.loadGlobal_global (V.glob ▸ G.g.keeps H.keeps) h1 ?_) hd)
  refine Calls.callWith_function (a := a) (o := o) (fd := Calls.docDef f params body scope pm code doc) ?_
  rw [backTo_plain hse]
  refine Calls.evalArgs_plain ?_
  rw [← backTo_plain hse]
  refine h A env κ τ s pos _ E R he H V fun κ1 vs vs' σ1 hh1 tk1 le1 H1 V1 r1 g1 => ⟨⟨H1.keeps _ _ h2, h3⟩, ?_⟩
  exact wpV_at (f := fCall (.ref a)) (g1 a h1) R H1 V1 r1 fun κ' v v' σ' h' tk' a b c d e => hQ κ' v v' σ' h' tk' (le1.trans a) b c d e

/-! ## Entering a function -/
noncomputable def cellNames : List (Str × NameKind) → List Str
  | [] => []
  | (x, k) :: r => if k == .cell then x :: cellNames r else cellNames r

theorem lookup_acc_some {x : Str} : ∀ (names : List (Str × NameKind)) (k : Nat) (acc : List (Str × Addr)), (∃ c, acc.lookup x = some c) → ∃ c, (cellsFrom k names acc).lookup x = some c
  | [], k, acc, h => h
  | (y, kd) :: r, k, acc, h => by
    unfold cellsFrom
    split
    · refine lookup_acc_some r _ _ ?_
      rw [List.lookup_cons]
      split
      · exact ⟨_, rfl⟩
      · exact h
    · exact lookup_acc_some r _ _ h

theorem cellNames_lookup {x : Str} : ∀ (names : List (Str × NameKind)) (k : Nat) (acc : List (Str × Addr)), x ∈ cellNames names → ∃ c, (cellsFrom k names acc).lookup x = some c
  | [], k, acc, h => nomatch h
  | (y, kd) :: r, k, acc, h => by
    unfold cellNames at h
    unfold cellsFrom
    split at h
    · rename_i q
      rw [if_pos q]
      rcases List.mem_cons.mp h with rfl | h
      · exact lookup_acc_some r _ _ ⟨k, by rw [List.lookup_cons]; simp⟩
      · exact cellNames_lookup r _ _ h
    · rename_i q
      rw [if_neg q]
      exact cellNames_lookup r _ _ h

theorem cellNames_of_lookup {x : Str} : ∀ {names : List (Str × NameKind)}, names.lookup x = some .cell → x ∈ cellNames names
  | [], h => by cases h
  | (y, k) :: r, h => by
    rw [List.lookup_cons] at h
    unfold cellNames
    cases q : x == y with
    | true =>
      rw [q] at h; simp only [Option.some.injEq] at h; subst h
      rw [beq_iff_eq.mp q]; simp
    | false =>
      rw [q] at h
      split
      · exact List.mem_cons_of_mem _ (cellNames_of_lookup h)
      · exact cellNames_of_lookup h

theorem bindL_skip {kd : Str → Option NameKind} {x : Str} : ∀ (bs : List (Str × Value)) (m : Str → Option Value), x ∉ bs.map (·.1) → bindL kd bs m x = m x
  | [], m, _ => rfl
  | (y, v) :: r, m, h => by
    simp only [List.map_cons, List.mem_cons, not_or] at h
    unfold bindL
    rw [bindL_skip r _ h.2]
    split
    · exact if_neg h.1
    · rfl
theorem bindL_get {kd : Str → Option NameKind} {x : Str} {v : Value} (hk : kd x = some .local) : ∀ (bs : List (Str × Value)) (m : Str → Option Value), (bs.map (·.1)).Nodup → bs.lookup x = some v → bindL kd bs m x = some v
  | [], m, _, h => by cases h
  | (y, u) :: r, m, nd, h => by
    simp only [List.map_cons, List.nodup_cons] at nd
    rw [List.lookup_cons] at h
    unfold bindL
    cases q : x == y with
    | true =>
      rw [q] at h; cases h
      have e := beq_iff_eq.mp q; subst e
      rw [bindL_skip r _ nd.1, if_pos hk, if_pos rfl]
    | false => rw [q] at h; exact bindL_get hk r _ nd.2 h
theorem bindC_skip {kd : Str → Option NameKind} {x : Str} : ∀ (bs : List (Str × Value)) (m : Str → Option Value), x ∉ bs.map (·.1) → bindC kd bs m x = m x
  | [], m, _ => rfl
  | (y, v) :: r, m, h => by
    simp only [List.map_cons, List.mem_cons, not_or] at h
    unfold bindC
    rw [bindC_skip r _ h.2]
    split
    · rfl
    · exact if_neg h.1
theorem bindC_get {kd : Str → Option NameKind} {x : Str} {v : Value} (hk : kd x ≠ some .local) : ∀ (bs : List (Str × Value)) (m : Str → Option Value), (bs.map (·.1)).Nodup → bs.lookup x = some v → bindC kd bs m x = some v
  | [], m, _, h => by cases h
  | (y, u) :: r, m, nd, h => by
    simp only [List.map_cons, List.nodup_cons] at nd
    rw [List.lookup_cons] at h
    unfold bindC
    cases q : x == y with
    | true =>
      rw [q] at h; cases h
      have e := beq_iff_eq.mp q; subst e
      rw [bindC_skip r _ nd.1, if_neg hk, if_pos rfl]
    | false => rw [q] at h; exact bindC_get hk r _ nd.2 h

theorem zip_lookup {κ : Part} {x : Str} {v : AV} : ∀ {ps : List Str} {as : List AV} {vs : List Value}, VRs κ as vs → (ps.zip as).lookup x = some v → ∃ v', (ps.zip vs).lookup x = some v' ∧ VR κ v v'
  | [], _, _, _, h => by cases h
  | _ :: _, _, _, .nil, h => by cases h
  | p :: ps, _, _, .cons a r, h => by
    simp only [List.zip_cons_cons, List.lookup_cons] at h ⊢
    cases q : x == p with
    | true => rw [q] at h; cases h; exact ⟨_, rfl, a⟩
    | false => rw [q] at h; exact zip_lookup r h

/-- what a def's head must be, checked by computation -/
def headOk (ps : List Str) (sc : Scope) : Bool :=
  decide ps.Nodup && ps.all (fun x => match sc.names.lookup x with | some .local => true | some .cell => true | _ => false) && (sc.isCoroutine == false) && (sc.isGenerator == false) && decide (sc.kind = .function)

theorem wpF_intro {x : Str} {params : Arguments} {body : List Stmt} {scope : Scope} {as : List AV} {Φ : AV → Store → Prop} (ps : List Str) (G : Glo hb mg mb) (hf : FnAt hb mg x params body scope) (hh : headOk ps scope = true)
    (hbind : ∀ (pm code doc : Value) (vs : List Value), vs.length = as.length → bindArgs (Calls.docDef x params body scope pm code doc) ⟨vs, []⟩ = pure (ps.zip vs)) (hlen : ps.length = as.length)
    (h : wpSs prog w hb n scope (cellNames scope.names) (ps.zip as) σ body fun f _ σ' => Φ (match f with | .ret v => v | _ => .none) σ') :
    wpF prog w hb mg (n + 1) σ x as Φ := by
  intro a ha A κ τ s vs' Q E R H r hQ
  obtain ⟨a', o, pm, code, doc, h1, h2, h3, h4⟩ := hf
  rw [ha] at h1; cases h1
  unfold headOk at hh
  simp only [Bool.and_eq_true, decide_eq_true_eq, beq_iff_eq] at hh
  obtain ⟨⟨⟨⟨nd, hps⟩, hco⟩, hgen⟩, hkind⟩ := hh
  have hlv : ps.length = vs'.length := hlen.trans r.length
  have hfst : (ps.zip vs').map (·.1) = ps := by rw [List.map_fst_zip (Nat.le_of_eq hlv)]
  have hkd : ∀ y ∈ ps.zip vs', scope.names.lookup y.1 = some .local ∨ (scope.names.lookup y.1 = some .cell ∧ ((cellsFrom (s.heap.objs.size + 1) scope.names []).lookup y.1).isSome = true) := by
    intro y hy
    have hm : y.1 ∈ ps := hfst ▸ List.mem_map_of_mem hy
    have := List.all_eq_true.mp hps _ hm
    split at this
    · rename_i q; exact .inl q
    · rename_i q
      obtain ⟨c, hc⟩ := cellNames_lookup (names := scope.names) (s.heap.objs.size + 1) [] (cellNames_of_lookup q)
      exact .inr ⟨q, by rw [hc]; rfl⟩
    · cases this
  refine wpAny_call ?_
  refine codeAny_call_cells (fd := Calls.docDef x params body scope pm code doc) (body := body) (binds := ps.zip vs') (by have := R.2.1; show A.depth < 1000; omega) (H.keeps _ _ h2) h3 (G.nolimit.keeps H.keeps) (h4.keeps H.keeps) rfl
    (hbind pm code doc vs' r.length.symm) rfl hkd (fun s₁ X => ?_) hco hgen hkind
  obtain ⟨h₁, tk₁, rfl⟩ := X.toInCall.same
  have hs := X.toInCall.fresh
  have hk := X.toInCall.keep
  have hL : s.heap.get? (callEnvC (Calls.docDef x params body scope pm code doc) s.heap.objs.size a).locals = none := Heap.get?_none_of_le hs
  have hC : ∀ y c, (callEnvC (Calls.docDef x params body scope pm code doc) s.heap.objs.size a).cells.lookup y = some c → s.heap.get? c = none := fun y c e =>
    Heap.get?_none_of_le (Nat.le_of_lt (Nat.lt_of_le_of_lt hs (X.above y c (mem_of_lookup e))))
  have H1 : HRel hb κ τ σ h₁ := H.grow hk
  have V1 : EnvR κ τ (callEnvC (Calls.docDef x params body scope pm code doc) s.heap.objs.size a) (cellNames scope.names) (ps.zip as) h₁ := by
    refine ⟨hkind, rfl, rfl, (H.fresh hL).1, (H.fresh hL).2.1, ⟨_, X.toInCall.ns, fun y v e k => ?_⟩, fun y v e k => ?_, fun y c e => ⟨(H.fresh (hC y c e)).1, _, X.cell y c e⟩, fun y hy => ?_, fun y z c hy e1 e2 => ?_⟩
    · obtain ⟨v', e1, e2⟩ := zip_lookup r e
      exact ⟨v', bindL_get k _ _ (by rw [hfst]; exact nd) e1, e2⟩
    · obtain ⟨v', e1, e2⟩ := zip_lookup r e
      have hk' : scope.names.lookup y = some .cell ∨ scope.names.lookup y = some .free := k
      rcases hk' with hk' | hk'
      · obtain ⟨c, hc⟩ := cellNames_lookup (names := scope.names) (s.heap.objs.size + 1) [] (cellNames_of_lookup hk')
        refine ⟨c, v', hc, ?_, e2⟩
        have := X.cell y c hc
        rwa [bindC_get (by show scope.names.lookup y ≠ _; rw [hk']; decide) _ _ (by rw [hfst]; exact nd) e1] at this
      · exfalso
        have hm : y ∈ ps := by
          have := mem_of_lookup e1
          have := List.mem_map_of_mem (f := (·.1)) this
          rwa [hfst] at this
        have := List.all_eq_true.mp hps _ hm
        rw [hk'] at this; cases this
    · obtain ⟨c, hc⟩ := cellNames_lookup (names := scope.names) (s.heap.objs.size + 1) [] hy
      exact ⟨c, hc, (H.fresh (hC y c hc)).2.1⟩
    · exact name_of_addr X.apart (mem_of_lookup e1) (mem_of_lookup e2)
  refine wpAny_mono (h (A.deeper _) _ κ τ _ (fun f s' => Q (match f with | .ret v => v | _ => .none) s') (R.deeper _) rfl H1 V1 ?_) (fun f s' q => q) (fun _ _ f => f.elim)
  intro κ' f f' ρ' σ' h' tk' le H' V' rf hΦ
  refine hQ κ' _ _ σ' h' tk' le H' ?_ hΦ
  cases rf with
  | ret r => exact r
  | _ => exact .none

end
end Mine

namespace Mine
open PySem PyProof.Rows

section
variable {prog : Program} {w : World} {hb : Heap} {mg mb : Str → Option Value} {n : Nat} {sc : Scope} {own : List Str} {ρ : Rho} {σ : Store} {Φ : AV → Store → Prop}

/-! ## Items -/
def fItem : List Value → Sem Value
  | [o, i] => getItem o i
  | _ => pure .none

def isSeqLike : AV → Bool
  | .list _ | .tup _ | .loc _ | .wlist _ => true
  | _ => false

/-- the base has a type whose __getitem__ is built in -/
def Seqy (s : Shared) (v : Value) : Prop := ∃ T id, s.TypeIs v T ∧ typeLookup (.type T) "__getitem__" = pure (some (.builtin id))

theorem VR.seqy {κ τ : Part} {s : Shared} {x : AV} {v : Value} (H : HRel hb κ τ σ s.heap) (hx : match x with | .list _ | .tup _ | .wlist _ => True | .loc a => (σ a).isSome = true | _ => False) (r : VR κ x v) : Seqy s v := by
  cases r with
  | list e r => exact ⟨"list", _, ⟨_, H.k _ _ e, rfl⟩, slot_list_getitem.lookup⟩
  | wlist e c d r => exact ⟨"list", _, ⟨_, H.k _ _ e, c⟩, slot_list_getitem.lookup⟩
  | tup e r => exact ⟨"tuple", _, ⟨_, H.k _ _ e, rfl⟩, F.slot_tuple_getitem.lookup⟩
  | loc a =>
    obtain ⟨xs, e⟩ := Option.isSome_iff_exists.mp hx
    obtain ⟨_, _, items, m, e', _⟩ := H.s _ _ e
    exact ⟨"list", _, ⟨_, e', rfl⟩, slot_list_getitem.lookup⟩
  | _ => exact hx.elim

theorem sub_gen {A : Around} {env : Env} {s : Shared} {value slice : Expr} {pos : Pos} {Q E : Value → Shared → Prop} (hs : ∀ o i, subscripted slice false o i = operate [o, i] (getItem o i))
    (h : wpAny (model prog w) A (eval value env) (fun o s₁ => wpAny (model prog w) A (eval slice env) (fun i s₂ => Seqy s₂ o ∧ wpAny (model prog w) A (getItem o i) Q E s₂) E s₁) E s) :
    wpAny (model prog w) A (eval (.Subscript value slice pos) env) Q E s := by
  rw [eval_Subscript]
  refine wpAny_bind (wpAny_mono h (fun o s₁ h₁ => wpAny_bind (wpAny_holding (wpAny_mono h₁ (fun i s₂ h₂ => wpAny_bind (wpAny_standAt ?_)) fun _ _ x => x)))
    fun _ _ x => x)
  obtain ⟨⟨T, id, hT, hl⟩, h₂⟩ := h₂
  refine wpAny_bind ?_
  rw [getitemInPython_of_ne hT.not_modules]
  refine wpAny_bind (wpAny_specialOf hT hl ?_)
  have fin : wpAny (model prog w) A (operate [o, i] (getItem o i)) (fun r s₃ => wpAny (model prog w) A (letTemporaryGo value o r >>= fun _ => pure r) Q E s₃) E s₂ :=
    wpAny_operating (wpAny_mono h₂ (fun r s₃ h₃ => wpAny_bind (wpAny_letTemporaryGo (wpAny_pure h₃))) fun _ _ x => x)
  first
    | exact wpAny_pure (hs o i ▸ wpAny_bind fin)
    | exact wpAny_pure (wpAny_bind (hs o i ▸ fin))
    | exact wpAny_bind (wpAny_pure (wpAny_bind (hs o i ▸ fin)))

theorem wpE_Sub {value slice : Expr} {pos : Pos} (hs : ∀ o i, subscripted slice false o i = operate [o, i] (getItem o i))
    (h : wpE prog w hb n sc own ρ σ value fun a σ1 => wpE prog w hb n sc own ρ σ1 slice fun b σ2 =>
      (match a with | .list _ | .tup _ | .wlist _ => True | .loc a => (σ2 a).isSome = true | _ => False) ∧ wpV prog w hb 0 σ2 fItem [a, b] Φ) :
    wpE prog w hb n sc own ρ σ (.Subscript value slice pos) Φ := by
  intro A env κ τ s Q E R he H V hQ
  refine sub_gen hs (h A env κ τ s _ E R he H V ?_)
  intro κ1 a a' σ1 h1 tk1 le1 H1 V1 r1 g1
  refine g1 A env κ1 τ _ _ E R he H1 V1 ?_
  intro κ2 b b' σ2 h2 tk2 le2 H2 V2 r2 ⟨gs, g2⟩
  refine ⟨(r1.mono le2).seqy (s := { heap := h2, gens := s.gens, drawn := s.drawn, toks := tk2, os := s.os }) H2 gs, ?_⟩
  exact wpV_at (f := fItem) g2 (R.le (Nat.zero_le _)) H2 V2 (.cons (r1.mono le2) (.cons r2 .nil)) fun κ' v v' σ' h' tk' a b c d e => hQ κ' v v' σ' h' tk' (le1.trans (le2.trans a)) b c d e

theorem v_item {xs : List AV} {k : Int} {x : AV} (h0 : 0 ≤ k) (hx : xs[k.toNat]? = some x) (hl : k < 1000000) (h : Φ x σ) : wpV prog w hb n σ fItem [.list xs, .int k] Φ := by
  intro A κ τ s vs' Q E R H r hQ
  obtain ⟨a, b, rfl, r1, r2⟩ := r.two
  obtain ⟨l1, i1, m1, rfl, e1, q1⟩ := r1.getL H
  cases r2 with | int _ t =>
  obtain ⟨v, hv, rv⟩ := q1.get hx
  exact wpAny_getItem_list (LObj.isList e1) h0 (by omega) (by simpa using hv) (hQ κ _ _ σ s.heap s.toks (.refl _) H rv h)
theorem v_item_loc {xs : List AV} {a : Addr} {k : Int} {x : AV} (ha : σ a = some xs) (h0 : 0 ≤ k) (hx : xs[k.toNat]? = some x) (hl : k < 1000000) (h : Φ x σ) : wpV prog w hb n σ fItem [.loc a, .int k] Φ := by
  intro A κ τ s vs' Q E R H r hQ
  obtain ⟨v1, b, rfl, r1, r2⟩ := r.two
  cases r1; cases r2 with | int _ t =>
  obtain ⟨_, _, items, m, e', q1⟩ := H.s _ _ ha
  obtain ⟨v, hv, rv⟩ := q1.get hx
  exact wpAny_getItem_list (LObj.isList e') h0 (by omega) (by simpa using hv) (hQ κ _ _ σ s.heap s.toks (.refl _) H rv h)
theorem v_item_tup {xs : List AV} {k : Int} {x : AV} (h0 : 0 ≤ k) (hx : xs[k.toNat]? = some x) (hl : k < 1000000) (h : Φ x σ) : wpV prog w hb n σ fItem [.tup xs, .int k] Φ := by
  intro A κ τ s vs' Q E R H r hQ
  obtain ⟨a, b, rfl, r1, r2⟩ := r.two
  obtain ⟨l1, i1, m1, rfl, e1, q1⟩ := r1.getT H
  cases r2 with | int _ t =>
  obtain ⟨v, hv, rv⟩ := q1.get hx
  have hlt : k.toNat < i1.length := by rw [← q1.length]; exact (List.getElem?_eq_some_iff.mp hx).1
  refine P.getItem_tuple e1 (by omega) (by omega) (k := k.toNat) (seqIndex_of h0 (by simp; omega)) (by simpa using hv) (hQ κ _ _ σ s.heap s.toks (.refl _) H rv h)

/-! ## Slices -/
def cutOf (xs : List AV) (lo hi : Option Nat) : List AV := (match hi with | none => xs | some b => xs.take b).drop (lo.getD 0)

def wpPart (prog : Program) (w : World) (hb : Heap) (n : Nat) (sc : Scope) (own : List Str) (ρ : Rho) (σ : Store) (e : Option Expr) (Φ : Option Int → Store → Prop) : Prop :=
  match e with
  | none => Φ none σ
  | some e => wpE prog w hb n sc own ρ σ e fun v σ1 => match v with | .int i => Φ (some i) σ1 | _ => False

theorem slicePick_to (items : List Value) (b : Nat) : slicePick items.toArray none (some (b : Int)) none = (items.take b).toArray := by
  by_cases hb : b ≤ items.length
  · rw [slicePick_upto _ _ (by simpa using hb)]
  · have e : slicePick items.toArray none (some (b : Int)) none = slicePick items.toArray none (some (items.length : Int)) none := by
      unfold slicePick sliceBounds
      simp only [Option.getD_none, List.size_toArray]
      have e1 : (if (b : Int) < 0 then (b : Int) + (items.length : Int) else (b : Int)) = b := if_neg (by omega)
      have e2 : (if ((items.length : Nat) : Int) < 0 then ((items.length : Nat) : Int) + (items.length : Int) else ((items.length : Nat) : Int)) = items.length := if_neg (by omega)
      have e3 : max 0 (min (b : Int) (items.length : Int)) = max 0 (min (items.length : Int) (items.length : Int)) := by omega
      simp only [e1, e2, e3, show (1 : Int) > 0 from by decide, if_true]
    rw [e, slicePick_upto _ _ (by simp)]
    rw [List.take_of_length_le (Nat.le_refl _), List.take_of_length_le (by omega)]
theorem slicePick_drop (items : List Value) (a : Nat) (h : a ≤ items.length) : slicePick items.toArray (some (a : Int)) none none = (items.drop a).toArray := by
  rw [slicePick_from _ _ (by simpa using h)]

theorem wpE_cutTo {value hi : Expr} {p pos : Pos} (ht : ∀ o r, letTemporaryGo value o r = pure ())
    (h : wpE prog w hb n sc own ρ σ value fun v σ1 => wpE prog w hb n sc own ρ σ1 hi fun b σ2 =>
      ∃ xs k, (v = .list xs ∨ v = .wlist xs) ∧ b = .int k ∧ 0 ≤ k ∧ xs.length ≤ 1000000 ∧ Φ (.list (xs.take k.toNat)) σ2) :
    wpE prog w hb n sc own ρ σ (.Subscript value (.Slice none (some hi) none p) pos) Φ := by
  intro A env κ τ s Q E R he H V hQ
  have key : wpAny (model prog w) A (eval value env) (fun o s₁ => wpAny (model prog w) A (eval (.Slice none (some hi) none p) env) (fun i s₂ => s₂.TypeIs o "list" ∧ wpAny (model prog w) A (getItem o i) Q E s₂) E s₁) E s := by
    refine h A env κ τ s _ E R he H V ?_
    intro κ1 v v' σ1 h1 tk1 le1 H1 V1 r1 g1
    refine wpAny_Slice ?_
    rw [evalPart_none]
    refine wpAny_pure ?_
    rw [evalPart_some]
    refine g1 A env κ1 τ _ _ E R he H1 V1 ?_
    intro κ2 b b' σ2 h2 tk2 le2 H2 V2 r2 ⟨xs, k, hv, hbk, h0, hl, g2⟩
    subst hbk
    cases r2 with | int _ t =>
    refine wpAny_pure ?_
    obtain ⟨a, o, items, m, rfl, e1, e2, e3, q1⟩ : ∃ a o items m, v' = .ref a ∧ h2.get? a = some o ∧ o.cls = .type "list" ∧ o.data = .seq (List.toArray items) m ∧ VRs κ2 xs items := by
      rcases hv with rfl | rfl
      · obtain ⟨a, items, m, rfl, e, q⟩ := (r1.mono le2).getL H2
        exact ⟨a, _, items, m, rfl, e, rfl, rfl, q⟩
      · cases r1.mono le2 with | wlist e c d q => exact ⟨_, _, _, _, rfl, H2.k _ _ e, c, d, q⟩
    generalize hSl : h2.push { cls := .type "slice", data := .fields #[Value.none, Value.int k t, Value.none] } = h3
    have k3 : ∀ b x, h2.get? b = some x → h3.get? b = some x := hSl ▸ push_keeps _
    have el : h3.IsList a items.toArray := ⟨o, k3 _ _ e1, e2, m, e3⟩
    refine ⟨⟨o, k3 _ _ e1, e2⟩, ?_⟩
    obtain ⟨H3, V3⟩ := V2.grow H2 k3
    refine wpAny_getItem_list_slice el (hSl ▸ Heap.IsSliceOf.new h2 _ _ _) .none (.int k t) .none (by decide) ?_ (by simp only [List.size_toArray]; rw [← q1.length]; exact Nat.le_trans hl (by decide))
    obtain ⟨kn, rfl⟩ := Int.eq_ofNat_of_zero_le h0
    have ho : (h3.push { cls := .type "list", data := .seq (slicePick items.toArray none (some (kn : Int)) none) }).get? h3.objs.size = some (LObj (items.take kn) 0) := by
      rw [Heap.get?_push_size _ rfl]
      rw [slicePick_to]
    obtain ⟨H4, V4⟩ := V3.freeze H3 get_size (push_keeps _) ho
    have f := (H3.fresh get_size).1
    exact hQ _ (.list (xs.take kn)) _ σ2 _ tk2 (le1.trans (le2.trans (padd_le f))) H4 V4 (.list padd_self ((q1.take kn).mono (padd_le f))) g2
  have := wpAny_Subscript_Slice (M := model prog w) (A := A) (E := E) (s := s) (env := env) (value := value) (lower := none) (upper := some hi) (p := p) (pos := pos) (T := "list") (id := _) (Q := Q) list_getitem_lookup key ht
  exact this

theorem wpE_cutFrom {value lo : Expr} {p pos : Pos} (ht : ∀ o r, letTemporaryGo value o r = pure ())
    (h : wpE prog w hb n sc own ρ σ value fun v σ1 => wpE prog w hb n sc own ρ σ1 lo fun b σ2 =>
      ∃ xs k, v = .list xs ∧ b = .int k ∧ 0 ≤ k ∧ k ≤ xs.length ∧ xs.length ≤ 1000000 ∧ Φ (.list (xs.drop k.toNat)) σ2) :
    wpE prog w hb n sc own ρ σ (.Subscript value (.Slice (some lo) none none p) pos) Φ := by
  intro A env κ τ s Q E R he H V hQ
  have key : wpAny (model prog w) A (eval value env) (fun o s₁ => wpAny (model prog w) A (eval (.Slice (some lo) none none p) env) (fun i s₂ => s₂.TypeIs o "list" ∧ wpAny (model prog w) A (getItem o i) Q E s₂) E s₁) E s := by
    refine h A env κ τ s _ E R he H V ?_
    intro κ1 v v' σ1 h1 tk1 le1 H1 V1 r1 g1
    refine wpAny_Slice ?_
    rw [evalPart_some]
    refine g1 A env κ1 τ _ _ E R he H1 V1 ?_
    intro κ2 b b' σ2 h2 tk2 le2 H2 V2 r2 ⟨xs, k, hv, hbk, h0, hkl, hl, g2⟩
    subst hbk hv
    cases r2 with | int _ t =>
    rw [evalPart_none]
    refine wpAny_pure (wpAny_pure ?_)
    obtain ⟨a, items, m, rfl, e1, q1⟩ := (r1.mono le2).getL H2
    generalize hSl : h2.push { cls := .type "slice", data := .fields #[Value.int k t, Value.none, Value.none] } = h3
    have k3 : ∀ b x, h2.get? b = some x → h3.get? b = some x := hSl ▸ push_keeps _
    have el : h3.IsList a items.toArray := ⟨_, k3 _ _ e1, rfl, m, rfl⟩
    refine ⟨⟨_, k3 _ _ e1, rfl⟩, ?_⟩
    obtain ⟨H3, V3⟩ := V2.grow H2 k3
    refine wpAny_getItem_list_slice el (hSl ▸ Heap.IsSliceOf.new h2 _ _ _) (.int k t) .none .none (by decide) ?_ (by simp only [List.size_toArray]; rw [← q1.length]; exact Nat.le_trans hl (by decide))
    obtain ⟨kn, rfl⟩ := Int.eq_ofNat_of_zero_le h0
    have hkn : kn ≤ items.length := by rw [← q1.length]; omega
    have ho : (h3.push { cls := .type "list", data := .seq (slicePick items.toArray (some (kn : Int)) none none) }).get? h3.objs.size = some (LObj (items.drop kn) 0) := by
      rw [Heap.get?_push_size _ rfl]
      rw [slicePick_drop _ _ hkn]
    obtain ⟨H4, V4⟩ := V3.freeze H3 get_size (push_keeps _) ho
    have f := (H3.fresh get_size).1
    exact hQ _ (.list (xs.drop kn)) _ σ2 _ tk2 (le1.trans (le2.trans (padd_le f))) H4 V4 (.list padd_self ((q1.drop kn).mono (padd_le f))) g2
  have := wpAny_Subscript_Slice (M := model prog w) (A := A) (E := E) (s := s) (env := env) (value := value) (lower := some lo) (upper := none) (p := p) (pos := pos) (T := "list") (id := _) (Q := Q) list_getitem_lookup key ht
  exact this

/-! ## Built-in functions -/
theorem v_len {xs : List AV} (hl : xs.length ≤ 1000000) (h : Φ (.int xs.length) σ) : wpV prog w hb n σ (fCall (.builtin "len")) [.list xs] Φ := by
  intro A κ τ s vs' Q E R H r hQ
  obtain ⟨v1, rfl, r1⟩ := r.one
  obtain ⟨l1, i1, m1, rfl, e1, q1⟩ := r1.getL H
  refine Calls.call_len_list (LObj.isList e1) (by simp only [List.size_toArray]; rw [← q1.length]; omega) ?_
  have : ((i1.toArray.size : Nat) : Int) = xs.length := by simp [q1.length]
  rw [this]
  exact hQ κ (.int xs.length) _ σ s.heap _ (.refl _) H (.int _ _) h
theorem v_len_loc {a : Addr} {xs : List AV} (ha : σ a = some xs) (hl : xs.length ≤ 1000000) (h : Φ (.int xs.length) σ) : wpV prog w hb n σ (fCall (.builtin "len")) [.loc a] Φ := by
  intro A κ τ s vs' Q E R H r hQ
  obtain ⟨v1, rfl, r1⟩ := r.one
  cases r1
  obtain ⟨_, _, i1, m, e', q1⟩ := H.s _ _ ha
  refine Calls.call_len_list (LObj.isList e') (by simp only [List.size_toArray]; rw [← q1.length]; omega) ?_
  have : ((i1.toArray.size : Nat) : Int) = xs.length := by simp [q1.length]
  rw [this]
  exact hQ κ (.int xs.length) _ σ s.heap _ (.refl _) H (.int _ _) h
theorem v_abs {x : Int} (h : Φ (.int (if x < 0 then -x else x)) σ) : wpV prog w hb n σ (fCall (.builtin "abs")) [.int x] Φ := by
  intro A κ τ s vs' Q E R H r hQ
  obtain ⟨v1, rfl, r1⟩ := r.one
  cases r1
  exact call_abs_int fun u tk => hQ κ _ _ σ s.heap tk (.refl _) H (.int _ _) h
theorem v_max {x y : Int} (h : Φ (.int (max x y)) σ) : wpV prog w hb n σ (fCall (.builtin "max")) [.int x, .int y] Φ := by
  intro A κ τ s vs' Q E R H r hQ
  obtain ⟨a, b, rfl, r1, r2⟩ := r.two; cases r1; cases r2
  refine Flt.max_two_num R.1 (.int _ _) (.int _ _) fun h' tk hk => ?_
  refine hQ κ (.int (max x y)) _ σ h' tk (.refl _) (H.grow hk) ?_ h
  simp only [Flt.ltV]
  by_cases q : x < y
  · simp only [q, decide_true, if_true, show max x y = y by omega]; exact .int _ _
  · simp only [q, decide_false, show max x y = x by omega]; exact .int _ _
theorem v_min {x y : Int} (h : Φ (.int (min x y)) σ) : wpV prog w hb n σ (fCall (.builtin "min")) [.int x, .int y] Φ := by
  intro A κ τ s vs' Q E R H r hQ
  obtain ⟨a, b, rfl, r1, r2⟩ := r.two; cases r1; cases r2
  refine Flt.min_two_num R.1 (.int _ _) (.int _ _) fun h' tk hk => ?_
  refine hQ κ (.int (min x y)) _ σ h' tk (.refl _) (H.grow hk) ?_ h
  simp only [Flt.ltV]
  by_cases q : y < x
  · simp only [q, decide_true, if_true, show min x y = y by omega]; exact .int _ _
  · simp only [q, decide_false, show min x y = x by omega]; exact .int _ _
theorem v_list {xs : List AV} (hl : xs.length ≤ 1000000) (h : ∀ a, σ a = none → Φ (.loc a) (sput σ a xs)) : wpV prog w hb n σ (fCall (.type "list")) [.list xs] Φ := by
  intro A κ τ s vs' Q E R H r hQ
  obtain ⟨v1, rfl, r1⟩ := r.one
  obtain ⟨l1, i1, m1, rfl, e1, q1⟩ := r1.getL H
  refine call_list_seq l1 (.inl rfl) e1 rfl rfl (fun h' c' hk ho => ?_) (by simp only [List.size_toArray]; rw [← q1.length]; exact Nat.le_trans hl (by decide))
  exact hQ κ (.loc s.heap.objs.size) _ _ h' s.toks (.refl _) (H.newL get_size hk ho q1) (.loc _) (h _ (H.fresh get_size).2.2)

theorem preSum_list (xs : List Int) : ∀ k, k ≤ xs.length → preSum (fun i => xs.getD i 0) k = (xs.take k).sum := by
  intro k
  induction k with
  | zero => intro _; simp [preSum]
  | succ k ih =>
    intro hk
    rw [preSum, ih (by omega), List.take_succ_eq_append_getElem (by omega), List.sum_append]
    simp [List.getD_eq_getElem?_getD, List.getElem?_eq_getElem (show k < xs.length by omega)]

theorem v_sum {xs : List Int} (hl : xs.length ≤ 1000000) (h : Φ (.int xs.sum) σ) : wpV prog w hb n σ (fCall (.builtin "sum")) [.list (xs.map .int)] Φ := by
  intro A κ τ s vs' Q E R H r hQ
  obtain ⟨v1, rfl, r1⟩ := r.one
  obtain ⟨l1, i1, m1, rfl, e1, q1⟩ := r1.getL H
  refine call_sum_walkAnyS (wpAny_pyIter_list (LObj.isList e1) ?_)
  have hlt : l1 < s.heap.objs.size := Heap.lt_size e1
  have hne : l1 ≠ s.heap.objs.size := Nat.ne_of_lt hlt
  refine ⟨_, _, _, _, _, _, _, fun i => xs.getD i 0, rfl, (Walks.list (A := A.in1) R.1 s.heap.objs.size l1 hne i1.toArray).toS, ⟨⟨_, Heap.get?_push_size _ rfl, rfl, rfl⟩, (LObj.isList e1).push _⟩, ?_, ?_, ?_⟩
  · intro b hb
    show b < (s.heap.push _).objs.size
    rw [Heap.size_push]
    rcases List.mem_cons.mp hb with rfl | hb
    · exact Nat.lt_succ_self _
    · rcases List.mem_cons.mp hb with rfl | hb
      · exact Nat.lt_succ_of_lt hlt
      · cases hb
  · intro i v hi
    have hi' : i1[i]? = some v := by simpa using hi
    have hlen : (xs.map AV.int).length = i1.length := q1.length
    have hil : i < i1.length := (List.getElem?_eq_some_iff.mp hi').1
    have hix : i < xs.length := by rw [List.length_map] at hlen; omega
    obtain ⟨v2, e2, r2⟩ := q1.get (i := i) (x := .int xs[i]) (by simp [hix])
    rw [hi'] at e2; cases e2
    cases r2 with | int _ t => exact ⟨t, by simp [List.getD_eq_getElem?_getD, hix]⟩
  · intro s' t' M
    obtain ⟨mh, mg', md, mo, mt⟩ := M
    have hsz : i1.toArray.size = xs.length := by simp [← q1.length]
    have e : preSum (fun i => xs.getD i 0) i1.toArray.size = xs.sum := by rw [hsz, preSum_list xs _ (Nat.le_refl _), List.take_length]
    rw [e]
    have hk : ∀ b o, s.heap.get? b = some o → s'.heap.get? b = some o := fun b o x => mh b o (by
      intro hb
      have : b = s.heap.objs.size := by simpa using hb
      exact absurd this (Nat.ne_of_lt (Heap.lt_size x))) (push_keeps _ _ _ x)
    have := hQ κ (.int xs.sum) _ σ s'.heap s'.toks (.refl _) (H.grow hk) (.int _ t') h
    have es : ({ s with heap := s'.heap, toks := s'.toks } : Shared) = s' := by
      obtain ⟨h', g', d', t'', o'⟩ := s'
      simp only at mg' md mo
      subst mg' md mo
      rfl
    rw [es] at this
    exact this
end
end Mine

namespace Mine
open PySem PyProof.Rows

section
variable {prog : Program} {w : World} {hb : Heap} {mg mb : Str → Option Value} {n : Nat} {sc : Scope} {own : List Str} {ρ : Rho} {σ : Store}

/-! ## Targets -/
def storeOk (sc : Scope) (own : List Str) (x : Str) : Bool :=
  match sc.names.lookup x with
  | some .local => true
  | some .cell => own.contains x
  | _ => false

theorem rset_lookup {x y : Str} {v u : AV} {ρ : Rho} (h : ((x, v) :: ρ).lookup y = some u) : (y = x ∧ u = v) ∨ (y ≠ x ∧ ρ.lookup y = some u) := by
  rw [List.lookup_cons] at h
  cases q : y == x with
  | true => rw [q] at h; cases h; exact .inl ⟨beq_iff_eq.mp q, rfl⟩
  | false => rw [q] at h; exact .inr ⟨fun e => by rw [e] at q; simp at q, h⟩

theorem bind_name {A : Around} {env : Env} {κ τ : Part} {s : Shared} {x : Str} {v : AV} {v' : Value} {Q : Unit → Shared → Prop} {E : Value → Shared → Prop} (he : env.scope = sc) (hk : storeOk sc own x = true)
    (H : HRel hb κ τ σ s.heap) (V : EnvR κ τ env own ρ s.heap) (r : VR κ v v')
    (hQ : ∀ h' tk', HRel hb κ τ σ h' → EnvR κ τ env own ((x, v) :: ρ) h' → Q () { s with heap := h', toks := tk' }) : wpAny (model prog w) A (storeName env x v') Q E s := by
  unfold storeOk at hk
  have hkind : env.kindOf x = sc.names.lookup x := by rw [← he]; rfl
  obtain ⟨m, hn, hm⟩ := V.loc
  cases q : sc.names.lookup x with
  | none => rw [q] at hk; cases hk
  | some kd =>
    rw [q] at hk hkind
    cases kd with
    | «local» =>
      refine wpAny_storeName_local hkind hn (fun h' hn' hs => ?_) (by rw [V.kind]; rfl)
      have ne : ∀ a o, κ a = some o → a ≠ env.locals := fun a o e q => by rw [q, V.locK] at e; cases e
      have ne2 : ∀ a o, τ a = some o → a ≠ env.locals := fun a o e q => by rw [q, V.locT] at e; cases e
      have ne3 : ∀ y c, env.cells.lookup y = some c → c ≠ env.locals := fun y c e q => by
        obtain ⟨_, cv, oc, ec, dc⟩ := V.cells y c e
        obtain ⟨o, eo, es, ep, d⟩ := Ns_get hn
        rw [q, eo] at ec; cases ec; rw [d] at dc; cases dc
      refine hQ h' _ ⟨H.base, fun a o e => (hs.2 a (ne a o e)).trans (H.k a o e), fun a o e => (hs.2 a (ne2 a o e)).trans (H.t a o e), H.d, fun a xs e => ?_⟩
        ⟨V.kind, V.glob, V.blt, V.locK, V.locT, ⟨_, hn', fun y u e k => ?_⟩, fun y u e k => ?_, fun y c e => ?_, V.ownc, V.apart⟩
      · obtain ⟨a1, a2, items, k, e', rr⟩ := H.s a xs e
        refine ⟨a1, a2, items, k, (hs.2 a ?_).trans e', rr⟩
        rintro rfl
        obtain ⟨o, eo, es, ep, d⟩ := Ns_get hn
        rw [eo] at e'; cases e'; cases d
      · rcases rset_lookup e with ⟨rfl, rfl⟩ | ⟨hne, e⟩
        · exact ⟨v', by rw [if_pos rfl], r⟩
        · obtain ⟨u', e1, e2⟩ := hm y u e k
          exact ⟨u', by rw [if_neg hne]; exact e1, e2⟩
      · rcases rset_lookup e with ⟨rfl, rfl⟩ | ⟨hne, e⟩
        · rw [hkind] at k; rcases k with k | k <;> cases k
        · obtain ⟨c, u', e1, e2, e3⟩ := V.cel y u e k
          exact ⟨c, u', e1, e2.sameBut hs (ne3 y c e1), e3⟩
      · obtain ⟨e1, cv, e2⟩ := V.cells y c e
        exact ⟨e1, cv, e2.sameBut hs (ne3 y c e)⟩
    | cell =>
      have hx : x ∈ own := by simpa using hk
      obtain ⟨c, hc, hct⟩ := V.ownc x hx
      obtain ⟨hck, cv, hcv⟩ := V.cells x c hc
      refine wpAny_storeName_cell V.kind hkind hc hcv (fun h' hc' hs => ?_)
      obtain ⟨oc, ec, dc⟩ := id hcv
      have ne0 : env.locals ≠ c := fun q => by
        obtain ⟨o, eo, es, ep, d⟩ := Ns_get hn
        rw [← q, eo] at ec; cases ec; rw [d] at dc; cases dc
      refine hQ h' s.toks ⟨H.base, fun a o e => (hs.2 a (fun q => by rw [q, hck] at e; cases e)).trans (H.k a o e), fun a o e => (hs.2 a (fun q => by rw [q, hct] at e; cases e)).trans (H.t a o e), H.d, fun a xs e => ?_⟩
        ⟨V.kind, V.glob, V.blt, V.locK, V.locT, ⟨m, hn.sameBut hs ne0, fun y u e k => ?_⟩, fun y u e k => ?_, fun y d e => ?_, V.ownc, V.apart⟩
      · obtain ⟨a1, a2, items, k, e', rr⟩ := H.s a xs e
        refine ⟨a1, a2, items, k, (hs.2 a ?_).trans e', rr⟩
        rintro rfl
        rw [ec] at e'; cases e'; cases dc
      · rcases rset_lookup e with ⟨rfl, rfl⟩ | ⟨hne, e⟩
        · rw [hkind] at k; cases k
        · exact hm y u e k
      · rcases rset_lookup e with ⟨rfl, rfl⟩ | ⟨hne, e⟩
        · exact ⟨c, v', hc, hc', r⟩
        · obtain ⟨d, u', e1, e2, e3⟩ := V.cel y u e k
          exact ⟨d, u', e1, e2.sameBut hs (fun q => hne (V.apart x y c hx hc (q ▸ e1)).symm), e3⟩
      · obtain ⟨e1, cv', e2⟩ := V.cells y d e
        by_cases q : d = c
        · subst q; exact ⟨e1, _, hc'⟩
        · exact ⟨e1, cv', e2.sameBut hs q⟩
    | _ => cases hk

theorem wpA_name {x : Str} {pos : Pos} {v : AV} {Φ : Rho → Store → Prop} (hk : storeOk sc own x = true) (h : Φ ((x, v) :: ρ) σ) : wpA prog w hb n sc own ρ σ (.Name x pos) v Φ := by
  intro A env κ τ s v' Q E R he H V r hQ
  exact wpAny_assign_Name (bind_name he hk H V r fun h' tk' H' V' => hQ κ _ σ h' tk' (.refl _) H' V' h)

/-- targets one behind the other -/
noncomputable def wpAs (prog : Program) (w : World) (hb : Heap) (n : Nat) (sc : Scope) (own : List Str) : Rho → Store → List Expr → List AV → (Rho → Store → Prop) → Prop
  | ρ, σ, [], [], Φ => Φ ρ σ
  | ρ, σ, t :: ts, v :: vs, Φ => notStarred t = true ∧ wpA prog w hb n sc own ρ σ t v fun ρ' σ' => wpAs prog w hb n sc own ρ' σ' ts vs Φ
  | _, _, _, _, _ => False

theorem assignEach_plain {e : Expr} {es : List Expr} {env : Env} (h : notStarred e = true) : assignEach (e :: es) env = (false, assign e env) :: assignEach es env := by
  cases e <;> first | rfl | cases h

theorem wpAs_run : ∀ {ts : List Expr} {vs : List AV} {ρ : Rho} {σ : Store} {Φ : Rho → Store → Prop}, wpAs prog w hb n sc own ρ σ ts vs Φ →
    ∀ (A : Around) (env : Env) (κ τ : Part) (s : Shared) (vs' : List Value) (Q : Unit → Shared → Prop) (E : Value → Shared → Prop), Room n A → env.scope = sc → HRel hb κ τ σ s.heap → EnvR κ τ env own ρ s.heap → VRs κ vs vs' →
    PostA hb κ τ env own s Φ Q → wpAny (model prog w) A (assignInOrder ((assignEach ts env).map (·.2)) vs') Q E s
  | [], [], ρ, σ, Φ, h => fun A env κ τ s vs' Q E R he H V r hQ => by
    cases r
    exact wpAny_assignInOrder_none (hQ κ ρ σ s.heap s.toks (.refl _) H V h)
  | t :: ts, v :: vs, ρ, σ, Φ, h => fun A env κ τ s vs' Q E R he H V r hQ => by
    cases r with | cons r1 r2 =>
    obtain ⟨hs, h⟩ := h
    rw [assignEach_plain hs]
    refine wpAny_assignInOrder_more (h A env κ τ s _ _ E R he H V r1 ?_)
    intro κ1 ρ1 σ1 h1 tk1 le1 H1 V1 g1
    exact wpAs_run g1 A env κ1 τ _ _ Q E R he H1 V1 (r2.mono le1) fun κ' ρ' σ' h' tk' a b c d => hQ κ' ρ' σ' h' tk' (le1.trans a) b c d
  | [], _ :: _, _, _, _, h => h.elim
  | _ :: _, [], _, _, _, h => h.elim

theorem assignEach_len {env : Env} : ∀ {ts : List Expr}, ts.all notStarred = true → (assignEach ts env).length = ts.length ∧ (assignEach ts env).findIdx? (·.1) = none
  | [], _ => ⟨rfl, rfl⟩
  | t :: ts, h => by
    simp only [List.all_cons, Bool.and_eq_true] at h
    obtain ⟨a, b⟩ := assignEach_len (env := env) h.2
    rw [assignEach_plain h.1]
    refine ⟨by simp [a], ?_⟩
    rw [List.findIdx?_cons]
    simp [b]

theorem wpA_tuple {ts : List Expr} {k : Nat} {pos : Pos} {vs : List AV} {Φ : Rho → Store → Prop} (hs : ts.all notStarred = true) (hl : ts.length = vs.length) (h : wpAs prog w hb n sc own ρ σ ts vs Φ) :
    wpA prog w hb n sc own ρ σ (.Tuple ts k pos) (.tup vs) Φ := by
  intro A env κ τ s v' Q E R he H V r hQ
  obtain ⟨a, items, m, rfl, e1, q1⟩ := r.getT H
  obtain ⟨l1, l2⟩ := assignEach_len (env := env) hs
  refine wpAny_assign_Tuple R.1 (TObj.isTuple e1) (by rw [l1, hl, q1.length]; simp) l2 fun h' hx => ?_
  have hk : ∀ b o, s.heap.get? b = some o → h'.get? b = some o := fun b o e => hx b o (Nat.ne_of_lt (Heap.lt_size e)) e
  obtain ⟨H1, V1⟩ := V.grow H hk
  simp only
  exact wpAs_run h A env κ τ _ _ Q E R he H1 V1 (by simpa using q1) hQ

/-! ## Stores into lists -/
theorem wpAny_setItem_L {A : Around} {E : Value → Shared → Prop} {s : Shared} {l : Addr} {items : List Value} {m : Nat} {k : Int} {t : Tok} {v : Value} {Q : Unit → Shared → Prop} (hl : s.heap.get? l = some (LObj items m))
    (h0 : 0 ≤ k) (hfit : k < 2 ^ 63) (hn : k < items.length)
    (hQ : ∀ h' m', h'.get? l = some (LObj (items.set k.toNat v) m') → Heap.SameBut l s.heap h' → Q () { s with heap := h' }) :
    wpAny (model prog w) A (setItem (.ref l) (.int k t) v) Q E s := by
  have hl' := LObj.isList hl
  unfold setItem
  try with_reducible refine wpAny_holding ?_
  first | refine wpAny_bind (wpAny_pure ?_) | skip
  refine wpAny_bind (wpAny_sequenceKey hl'.typeIs (by decide) ?_)
  refine wpAny_bind (wpAny_callSpecial?_slot (name := Str.ofString "__setitem__") hl'.typeIs slot_list_setitem
    (wpAny_call_entry slot_list_setitem hl'.typeIs entry_list_setitem ?_ (args_list_setitem _ _ _)))
  show wpAny _ _ (Builtin.List.listSubscript? (.int k t) >>= _) _ _ s
  refine wpAny_bind (wpAny_listSubscript_int (fitsIndex_of h0 hfit) ?_)
  clear hfit
  obtain ⟨j, rfl⟩ := Int.eq_ofNat_of_zero_le h0
  have hj : j < items.toArray.size := by simp; omega
  have hx' : items.toArray[j]? = some items.toArray[j] := Array.getElem?_eq_getElem hj
  show wpAny _ _ ((seqItemAt l j >>= fun r => pure (r.map (j, ·))) >>= _) _ _ s
  refine wpAny_bind (wpAny_bind (wpAny_seqItemAt hl rfl (wpAny_pure ?_)))
  rw [hx']
  show wpAny _ _ (setSeqItemAt l j v >>= _) _ _ s
  have hfin : ∃ m', (s.heap.update l (Obj.mapSeq (·.setIfInBounds j v))).get? l = some (LObj (items.set j v) m') := by
    have e : Obj.mapSeq (·.setIfInBounds j v) (LObj items m) = LObj (items.set j v) m := by simp [Obj.mapSeq]
    exact ⟨m, e ▸ Heap.get?_update_self _ hl (by rw [e]; rfl)⟩
  obtain ⟨m', hm⟩ := hfin
  refine wpAny_bind (wpAny_setSeqItemAt hl rfl ?_)
  first
    | exact wpAny_bind (wpAny_pure (wpAny_pure ⟨.none, rfl, wpAny_pure (hQ _ _ hm (Heap.SameBut.update ..))⟩))
    | exact wpAny_pure ⟨.none, rfl, wpAny_pure (hQ _ _ hm (Heap.SameBut.update ..))⟩

theorem wpA_sub {o i : Expr} {pos : Pos} {v : AV} {Φ : Rho → Store → Prop}
    (h : wpE prog w hb n sc own ρ σ o fun a σ1 => wpE prog w hb n sc own ρ σ1 i fun b σ2 =>
      ∃ l xs k, a = .loc l ∧ b = .int k ∧ σ2 l = some xs ∧ 0 ≤ k ∧ k < xs.length ∧ k < 1000000 ∧ Φ ρ (sput σ2 l (xs.set k.toNat v))) :
    wpA prog w hb n sc own ρ σ (.Subscript o i pos) v Φ := by
  intro A env κ τ s v' Q E R he H V r hQ
  show wpAny (model prog w) A (do
    let ov ← holding [v'] (eval o env)
    let iv ← holding [v', ov] (eval i env)
    standAt pos
    holding [v', ov, iv] (setItem ov iv v')
    release (match (generalizing := false) i with | .Slice _ _ none _ => [iv, v', ov] | _ => [v', ov, iv]) []) Q E s
  refine wpAny_bind (wpAny_holding (h A env κ τ s _ E R he H V ?_))
  intro κ1 a a' σ1 h1 tk1 le1 H1 V1 r1 g1
  refine wpAny_bind (wpAny_holding (g1 A env κ1 τ _ _ E R he H1 V1 ?_))
  intro κ2 b b' σ2 h2 tk2 le2 H2 V2 r2 ⟨l, xs, k, ea, eb, hl, h0, hk, hf, g2⟩
  subst ea eb
  cases r1; cases r2 with | int _ t =>
  obtain ⟨f1, f2, items, m, eo, q1⟩ := H2.s _ _ hl
  refine wpAny_bind (wpAny_standAt (wpAny_bind (wpAny_holding (wpAny_setItem_L eo h0 (by omega) (by rw [← q1.length]; exact hk) fun h' m' ho hs => ?_))))
  refine wpAny_release ?_
  have qv := r.mono (le1.trans le2)
  have H3 : HRel hb κ2 τ (sput σ2 l (xs.set k.toNat v)) h' := H2.setL hl hs ho (q1.set _ qv)
  obtain ⟨H2t, back⟩ := V2.lift H2
  have H3t : HRel hb κ2 (frameT τ env h2) (sput σ2 l (xs.set k.toNat v)) h' := H2t.setL hl hs ho (q1.set _ qv)
  exact hQ κ2 ρ _ h' tk2 (le1.trans le2) H3 (back _ _ _ (.refl _) H3t).2 g2

/-! ## Statements that store -/
theorem wpS_Assign {t value : Expr} {pos : Pos} {Φ : FL → Rho → Store → Prop} (hn : notStarred t = true)
    (hs : ∀ env : Env, env.scope = sc → swapsWithSole [t] value pos.line env = pure false) (hw : ∀ env : Env, env.scope = sc → swappedStores [t] value env = pure none)
    (h : wpE prog w hb n sc own ρ σ value fun v σ1 => wpA prog w hb n sc own ρ σ1 t v fun ρ' σ' => Φ .next ρ' σ') : wpS prog w hb n sc own ρ σ (.Assign [t] value pos) Φ := by
  intro A env κ τ s Q R he H V hQ
  refine wpAny_Assign_stores (h A env κ τ s _ _ R he H V ?_) (hs env he) (hw env he)
  intro κ1 v v' σ1 h1 tk1 le1 H1 V1 r1 g1
  rw [assignEach_plain hn]
  show wpAny _ _ (assign t env v') _ _ _
  refine g1 A env κ1 τ _ v' _ _ R he H1 V1 r1 ?_
  exact fun κ' ρ' σ' h' tk' a b c d => hQ κ' .next .next ρ' σ' h' tk' (le1.trans a) b c .next d

theorem wpS_Assign_swap {ts vs : List Expr} {k1 k2 : Nat} {p1 p2 pos : Pos} {names : List Str} {Φ : FL → Rho → Store → Prop}
    (hs : ∀ env : Env, swapsWithSole [.Tuple ts k1 p1] (.Tuple vs k2 p2) pos.line env = pure false) (hw : ∀ env : Env, env.scope = sc → swappedStores [.Tuple ts k1 p1] (.Tuple vs k2 p2) env = pure (some names))
    (hok : names.all (storeOk sc own) = true)
    (h : wpEs prog w hb n sc own ρ σ vs fun as σ1 => as.length = names.length ∧ as.length ≤ 1000000 ∧ Φ .next ((names.zip as) ++ ρ) σ1) :
    wpS prog w hb n sc own ρ σ (.Assign [.Tuple ts k1 p1] (.Tuple vs k2 p2) pos) Φ := by
  intro A env κ τ s Q R he H V hQ
  rw [exec_Assign_arm]
  refine wpAny_bind (wpAny_standAt ?_)
  rw [hs env]
  refine wpAny_bind (wpAny_pure ?_)
  show wpAny _ _ (eval (.Tuple vs k2 p2) env >>= fun v => swappedStores [.Tuple ts k1 p1] (.Tuple vs k2 p2) env >>= fun z => assignStores env v z _) _ _ s
  refine wpAny_bind (wpE_Tuple (Φ := fun v σ1 => ∃ as, v = .tup as ∧ as.length = names.length ∧ Φ .next ((names.zip as) ++ ρ) σ1) (fun A env κ τ s pos Q E R he H V hQ =>
    h A env κ τ s pos Q E R he H V fun κ' vs vs' σ' h' tk' a b c d e => hQ κ' vs vs' σ' h' tk' a b c d ⟨e.2.1, vs, rfl, e.1, e.2.2⟩) A env κ τ s _ _ R he H V ?_)
  intro κ1 v v' σ1 h1 tk1 le1 H1 V1 r1 ⟨as, e, hl, g1⟩
  subst e
  rw [hw env he]
  refine wpAny_bind (wpAny_pure ?_)
  obtain ⟨a, items, m, rfl, e1, q1⟩ := r1.getT H1
  show wpAny _ _ (rule "assign.swapped-stores" >>= fun _ => unpackItems (.ref a) names.length none >>= fun items => assignInOrder (names.reverse.map fun n => bindName env n) items.reverse >>= fun _ => (pure Flow.next : Sem Flow)) _ _ _
  refine wpAny_bind (wpAny_rule ?_)
  have hz : names.length = items.toArray.size := by rw [← hl, q1.length]; simp
  rw [hz]
  refine wpAny_bind (wpAny_unpackItems_tuple R.1 (TObj.isTuple e1) fun h' hx => ?_)
  have hk : ∀ b o, h1.get? b = some o → h'.get? b = some o := fun b o e => hx b o (Nat.ne_of_lt (Heap.lt_size e)) e
  obtain ⟨H2, V2⟩ := V1.grow H1 hk
  simp only
  have key : ∀ (names : List Str) (as : List AV) (vs : List Value) (ρ : Rho) (s : Shared) (hn : names.all (storeOk sc own) = true) (hl : as.length = names.length) (hq : VRs κ1 as vs) (H : HRel hb κ1 τ σ1 s.heap) (V : EnvR κ1 τ env own ρ s.heap)
      (K : Unit → Shared → Prop) (hK : ∀ h' tk', HRel hb κ1 τ σ1 h' → EnvR κ1 τ env own ((names.zip as).reverse ++ ρ) h' → K () { s with heap := h', toks := tk' }),
      wpAny (model prog w) A (assignInOrder (names.map fun n => bindName env n) vs) K (fun _ _ => False) s := by
    intro names
    induction names with
    | nil =>
      intro as vs ρ s hn hl hq H V K hK
      cases as with
      | nil => cases hq; exact wpAny_assignInOrder_none (hK s.heap s.toks H V)
      | cons _ _ => simp at hl
    | cons x names ih =>
      intro as vs ρ s hn hl hq H V K hK
      cases as with
      | nil => simp at hl
      | cons a as =>
        cases hq with | cons q1 q2 =>
        simp only [List.all_cons, Bool.and_eq_true] at hn
        refine wpAny_assignInOrder_more (wpAny_bindName (bind_name he hn.1 H V q1 fun h' tk' H' V' => ?_))
        refine ih as _ ((x, a) :: ρ) _ hn.2 (by simpa using hl) q2 H' V' K fun h'' tk'' H'' V'' => ?_
        refine hK h'' tk'' H'' ?_
        simpa using V''
  have hrev : ∀ (xs : List Str) (ys : List AV), xs.length = ys.length → (xs.reverse.zip ys.reverse).reverse = xs.zip ys := by
    intro xs ys hl
    rw [List.zip_eq_zipWith, List.zip_eq_zipWith, List.reverse_zipWith (by simp [hl])]; simp
  have qr : VRs κ1 as.reverse items.reverse := by
    have : ∀ {xs : List AV} {vs : List Value}, VRs κ1 xs vs → VRs κ1 xs.reverse vs.reverse := by
      intro xs
      induction xs with
      | nil => intro vs h; cases h; exact .nil
      | cons x xs ih => intro vs h; cases h with | cons a b => simp only [List.reverse_cons]; exact (ih b).append (.cons a .nil)
    exact this q1
  refine wpAny_bind (key names.reverse as.reverse items.reverse ρ _ (by simpa [List.all_reverse] using hok) (by simp [hl]) qr H2 V2 _ fun h'' tk'' H'' V'' => ?_)
  rw [hrev _ _ hl.symm] at V''
  exact wpAny_pure (hQ κ1 .next .next _ σ1 h'' tk'' le1 H'' V'' .next g1)

theorem wpS_Expr {e : Expr} {pos : Pos} {Φ : FL → Rho → Store → Prop} (hi : sc.kind = .function) (hs : ∀ env : Env, swapsWith e none pos.line env = pure false)
    (h : wpE prog w hb n sc own ρ σ e fun _ σ1 => Φ .next ρ σ1) : wpS prog w hb n sc own ρ σ (.Expr e pos) Φ := by
  intro A env κ τ s Q R he H V hQ
  refine wpAny_Expr_any (h A env κ τ s _ _ R he H V fun κ' v v' σ' h' tk' a b c d e => hQ κ' .next .next ρ σ' h' tk' a b c .next e) ?_ (hs env)
  unfold interactive
  rw [he, hi]; rfl

end
end Mine

namespace Mine
open PySem PyProof.Rows

section
variable {prog : Program} {w : World} {hb : Heap} {mg mb : Str → Option Value} {n : Nat} {sc : Scope} {own : List Str} {ρ : Rho} {σ : Store} {Φ : AV → Store → Prop}

theorem EnvR.setL {κ τ : Part} {h h' : Heap} {env : Env} (V : EnvR κ τ env own ρ h) (H : HRel hb κ τ σ h) {a : Addr} {items : List Value} {m : Nat} {xs ys : List AV} (ha : σ a = some ys) (hs : Heap.SameBut a h h')
    (ho : h'.get? a = some (LObj items m)) (r : VRs κ xs items) : HRel hb κ τ (sput σ a xs) h' ∧ EnvR κ τ env own ρ h' := by
  obtain ⟨H1, back⟩ := V.lift H
  exact back _ _ _ (.refl _) (H1.setL ha hs ho r)

theorem wpE_append {o e : Expr} {apos pos : Pos} (ho : ∀ env : Env, attributeBase o "append" env (eval o env) = eval o env) (hl : (apos.endLine == pos.line) = true) (hn : notStarred e = true)
    (h : wpE prog w hb n sc own ρ σ o fun a σ1 => ∃ l, a = .loc l ∧ (σ1 l).isSome = true ∧ wpE prog w hb n sc own ρ σ1 e fun v σ2 => ∃ xs, σ2 l = some xs ∧ xs.length ≤ 1000000 ∧ Φ .none (sput σ2 l (xs ++ [v]))) :
    wpE prog w hb n sc own ρ σ (.Call (.Attribute o "append" apos) [e] [] pos) Φ := by
  intro A env κ τ s Q E R he H V hQ
  refine wpAny_Call_method (T := "list") (id := "list.append") (ho env) (by rw [backTo_plain hn]; rfl) hl F.plainAttrs_list slot_list_append F.type_list_append (h A env κ τ s _ E R he H V ?_)
  intro κ1 a a' σ1 h1 tk1 le1 H1 V1 r1 ⟨l, e1, e2, g1⟩
  subst e1
  cases r1
  obtain ⟨ys, e2⟩ := Option.isSome_iff_exists.mp e2
  obtain ⟨_, _, its, m0, eo, _⟩ := H1.s _ _ e2
  refine ⟨⟨_, eo, rfl⟩, fun a q => by cases q; exact ⟨_, eo, rfl⟩, ?_⟩
  rw [backTo_plain hn]
  refine P.append_list (g1 A env κ1 τ _ _ E R he H1 V1 ?_)
  intro κ2 v v' σ2 h2 tk2 le2 H2 V2 r2 ⟨xs, e3, hx, g2⟩
  obtain ⟨_, _, items, m, eo2, q2⟩ := H2.s _ _ e3
  refine ⟨items.toArray, m, by simp only [List.size_toArray]; rw [← q2.length]; exact Nat.le_trans hx (by decide), eo2, ?_⟩
  have ep : Obj.mapSeq (fun xs => xs.push v') (LObj items m) = LObj (items ++ [v']) (m + 1) := by simp [Obj.mapSeq]
  have eo3 : (h2.update l (Obj.mapSeq fun xs => xs.push v')).get? l = some (LObj (items ++ [v']) (m + 1)) := by rw [← ep]; exact Heap.get?_update_self _ eo2 (by rw [ep]; rfl)
  obtain ⟨H3, V3⟩ := V2.setL H2 e3 (Heap.SameBut.update ..) eo3 (q2.append (.cons r2 .nil))
  exact hQ κ2 .none .none _ _ tk2 (le1.trans le2) H3 V3 .none g2

theorem wpE_pop {o e : Expr} {apos pos : Pos} (ho : ∀ env : Env, attributeBase o "pop" env (eval o env) = eval o env) (hl : (apos.endLine == pos.line) = true) (hn : notStarred e = true)
    (h : wpE prog w hb n sc own ρ σ o fun a σ1 => ∃ l, a = .loc l ∧ (σ1 l).isSome = true ∧ wpE prog w hb n sc own ρ σ1 e fun v σ2 => ∃ xs x, v = .int 0 ∧ σ2 l = some (x :: xs) ∧ xs.length < 1000000 ∧ Φ x (sput σ2 l xs)) :
    wpE prog w hb n sc own ρ σ (.Call (.Attribute o "pop" apos) [e] [] pos) Φ := by
  intro A env κ τ s Q E R he H V hQ
  refine wpAny_Call_method (T := "list") (id := "list.pop") (ho env) (by rw [backTo_plain hn]; rfl) hl F.plainAttrs_list F.slot_list_pop F.type_list_pop (h A env κ τ s _ E R he H V ?_)
  intro κ1 a a' σ1 h1 tk1 le1 H1 V1 r1 ⟨l, e1, e2, g1⟩
  subst e1
  cases r1
  obtain ⟨ys, e2⟩ := Option.isSome_iff_exists.mp e2
  obtain ⟨_, _, its, m0, eo, _⟩ := H1.s _ _ e2
  refine ⟨⟨_, eo, rfl⟩, fun a q => by cases q; exact ⟨_, eo, rfl⟩, ?_⟩
  rw [backTo_plain hn]
  refine P.pop_at_list (g1 A env κ1 τ _ _ E R he H1 V1 ?_)
  intro κ2 v v' σ2 h2 tk2 le2 H2 V2 r2 ⟨xs, x, ev, e3, hx, g2⟩
  subst ev
  cases r2 with | int _ t =>
  obtain ⟨_, _, items, m, eo2, q2⟩ := H2.s _ _ e3
  cases q2 with | @cons _ y _ items r3 q3 =>
  refine ⟨(y :: items).toArray, m, 0, t, 0, y, ?_, rfl, eo2, by decide, ?_, rfl, ?_⟩
  · have := q3.length
    simp only [List.size_toArray, List.length_cons]
    exact Nat.le_trans (show items.length + 1 ≤ 1000000 by omega) (by decide)
  · unfold seqIndex?; simp <;> omega
  have ep : ∃ m', Obj.mapSeq (fun xs => xs.eraseIdxIfInBounds 0) (LObj (y :: items) m) = LObj items m' := by
    refine ⟨m + 1, ?_⟩
    have e : ((y :: items).toArray.eraseIdxIfInBounds 0) = items.toArray := by simp
    unfold Obj.mapSeq
    simp only [e]
    simp
  obtain ⟨m', ep⟩ := ep
  have eo3 : (h2.update l (Obj.mapSeq fun xs => xs.eraseIdxIfInBounds 0)).get? l = some (LObj items m') := by rw [← ep]; exact Heap.get?_update_self _ eo2 (by rw [ep]; rfl)
  obtain ⟨H3, V3⟩ := V2.setL H2 e3 (Heap.SameBut.update ..) eo3 q3
  exact hQ κ2 x y _ _ tk2 (le1.trans le2) H3 V3 r3 g2
end
end Mine

namespace Mine
open PySem PyProof.Rows

section
variable {prog : Program} {w : World} {hb : Heap} {mg mb : Str → Option Value} {n : Nat} {sc : Scope} {own : List Str} {ρ : Rho} {σ : Store} {Φ : AV → Store → Prop}

theorem v_range1 {N : Int} (h : Φ (.rng 0 N) σ) : wpV prog w hb n σ (fCall (.type "range")) [.int N] Φ := by
  intro A κ τ s vs' Q E R H r hQ
  obtain ⟨v1, rfl, r1⟩ := r.one
  cases r1
  refine call_range_1 ?_
  have f := (H.fresh (get_size (h := s.heap))).1
  exact hQ _ (.rng 0 N) _ σ _ _ (padd_le f) (H.freeze get_size (push_keeps _) (Heap.get?_push_size _ rfl)) (.rng padd_self) h
theorem v_range2 {a b : Int} (h : Φ (.rng a b) σ) : wpV prog w hb n σ (fCall (.type "range")) [.int a, .int b] Φ := by
  intro A κ τ s vs' Q E R H r hQ
  obtain ⟨x, y, rfl, r1, r2⟩ := r.two
  cases r1; cases r2
  refine call_range_2 ?_
  have f := (H.fresh (get_size (h := s.heap))).1
  exact hQ _ (.rng a b) _ σ _ _ (padd_le f) (H.freeze get_size (push_keeps _) (Heap.get?_push_size _ rfl)) (.rng padd_self) h

/-! ## More to keep -/
open Classical in
noncomputable def tadd (τ : Part) (wr : List Addr) (h : Heap) : Part := fun b => if b ∈ wr then h.get? b else τ b

section
variable {κ κ' τ τ' : Part} {h h' : Heap} {env : Env} {wr : List Addr}

theorem tadd_le (ht : ∀ a o, τ a = some o → h.get? a = some o) : PLe τ (tadd τ wr h) := by
  intro a o e
  unfold tadd
  split
  · exact ht a o e
  · exact e
theorem tadd_in {b : Addr} (hb : b ∈ wr) : tadd τ wr h b = h.get? b := if_pos hb

theorem HRel.addT (H : HRel hb κ τ σ h) (hκ : ∀ b ∈ wr, κ b = none) (hσ : ∀ b ∈ wr, σ b = none) : HRel hb κ (tadd τ wr h) σ h := by
  refine ⟨H.base, H.k, fun a o e => ?_, fun a o e => ?_, fun a xs e => ?_⟩
  · unfold tadd at e
    split at e
    · exact e
    · exact H.t _ _ e
  · unfold tadd at e
    split at e
    · rename_i q; exact hκ a q
    · exact H.d _ _ e
  · obtain ⟨x, y, r⟩ := H.s a xs e
    refine ⟨x, ?_, r⟩
    unfold tadd
    rw [if_neg (fun q => by rw [hσ a q] at e; cases e)]
    exact y
theorem HRel.weakT (H : HRel hb κ τ' σ h) (hl : PLe τ τ') : HRel hb κ τ σ h :=
  ⟨H.base, H.k, fun a o e => H.t a o (hl a o e), fun a o e => H.d a o (hl a o e), fun a xs e => by
    obtain ⟨x, y, r⟩ := H.s a xs e
    refine ⟨x, ?_, r⟩
    cases q : τ a with
    | none => rfl
    | some o => rw [hl a o q] at y; cases y⟩
theorem EnvR.weakT (V : EnvR κ τ' env own ρ h) (hl : PLe τ τ') : EnvR κ τ env own ρ h := by
  have hn : ∀ a, τ' a = none → τ a = none := fun a e => by
    cases q : τ a with
    | none => rfl
    | some o => rw [hl a o q] at e; cases e
  exact ⟨V.kind, V.glob, V.blt, V.locK, hn _ V.locT, V.loc, V.cel, V.cells, fun x hx => let ⟨c, e1, e2⟩ := V.ownc x hx; ⟨c, e1, hn _ e2⟩, V.apart⟩
theorem EnvR.addT (V : EnvR κ τ env own ρ h) (h1 : env.locals ∉ wr) (h2 : ∀ x c, env.cells.lookup x = some c → c ∉ wr) : EnvR κ (tadd τ wr h) env own ρ h :=
  ⟨V.kind, V.glob, V.blt, V.locK, by unfold tadd; rw [if_neg h1]; exact V.locT, V.loc, V.cel, V.cells, fun x hx => let ⟨c, e1, e2⟩ := V.ownc x hx; ⟨c, e1, by unfold tadd; rw [if_neg (h2 x c e1)]; exact e2⟩, V.apart⟩
theorem EnvR.weakRho {ρ' : Rho} (V : EnvR κ τ env own ρ h) (hr : ∀ x v, ρ'.lookup x = some v → ρ.lookup x = some v) : EnvR κ τ env own ρ' h :=
  ⟨V.kind, V.glob, V.blt, V.locK, V.locT, let ⟨m, a, b⟩ := V.loc; ⟨m, a, fun x v e k => b x v (hr x v e) k⟩, fun x v e k => V.cel x v (hr x v e) k, V.cells, V.ownc, V.apart⟩

/-- iterators lie apart from all else -/
def Iters (wr : List Addr) (h : Heap) : Prop := ∀ b ∈ wr, ∃ o vs, h.get? b = some o ∧ o.data = .fields vs

theorem Iters.sigma (I : Iters wr h) (H : HRel hb κ τ σ h) : ∀ b ∈ wr, σ b = none := fun b hb => by
  cases e : σ b with
  | none => rfl
  | some xs =>
    obtain ⟨_, _, items, m, e', _⟩ := H.s b xs e
    obtain ⟨o, vs, e2, d⟩ := I b hb
    rw [e'] at e2; cases e2; cases d
theorem Iters.loc (I : Iters wr h) (V : EnvR κ τ env own ρ h) : env.locals ∉ wr := fun hb => by
  obtain ⟨m, hn, _⟩ := V.loc
  obtain ⟨o, e, es, ep, d⟩ := Ns_get hn
  obtain ⟨o', vs, e2, d'⟩ := I _ hb
  rw [e] at e2; cases e2; rw [d] at d'; cases d'
theorem Iters.cell (I : Iters wr h) (V : EnvR κ τ env own ρ h) : ∀ x c, env.cells.lookup x = some c → c ∉ wr := fun x c q hb => by
  obtain ⟨_, cv, o, e, d⟩ := V.cells x c q
  obtain ⟨o', vs, e2, d'⟩ := I _ hb
  rw [e] at e2; cases e2; rw [d] at d'; cases d'
theorem Iters.frame (I : Iters wr h) (V : EnvR κ τ env own ρ h) (ht : ∀ b ∈ wr, τ b = none) : ∀ b ∈ wr, frameT τ env h b = none := fun b hb => by
  unfold frameT
  rw [if_neg]
  · exact ht b hb
  · rintro (rfl | ⟨x, q⟩)
    · exact I.loc V hb
    · exact I.cell V x b q hb

theorem HRel.keepBut (H : HRel hb κ τ σ h) (I : Iters wr h) (hκ : ∀ b ∈ wr, κ b = none) (ht : ∀ b ∈ wr, τ b = none) (hk : ∀ b o, b ∉ wr → h.get? b = some o → h'.get? b = some o) : HRel hb κ τ σ h' := by
  have hs := I.sigma H
  refine ⟨H.base, fun a o e => hk a o (fun q => by rw [hκ a q] at e; cases e) (H.k a o e), fun a o e => hk a o (fun q => by rw [ht a q] at e; cases e) (H.t a o e), H.d, fun a xs e => ?_⟩
  obtain ⟨x, y, items, m, e', r⟩ := H.s a xs e
  exact ⟨x, y, items, m, hk a _ (fun q => by rw [hs a q] at e; cases e) e', r⟩
end

/-! ## What is gone through -/
structure Feeds (prog : Program) (w : World) (hb : Heap) (A : Around) (it : Addr) (wr : List Addr) (tgt : Expr) (κ0 τ0 : Part) (xs : List AV) (St : Nat → Heap → Prop) : Prop where
  live : ∀ i h, St i h → Iters wr h
  frame : ∀ i h h', St i h → (∀ b ∈ wr, ∀ o, h.get? b = some o → h'.get? b = some o) → (∀ b o, κ0 b = some o → h'.get? b = some o) → (∀ b o, τ0 b = some o → h'.get? b = some o) → St i h'
  item : ∀ i x κ τ σ (s : Shared) (Q : Value → Shared → Prop) (E : Value → Shared → Prop), xs[i]? = some x → St i s.heap → PLe κ0 κ → PLe τ0 τ → HRel hb κ τ σ s.heap → (∀ b ∈ wr, κ b = none ∧ τ b = none) →
    (∀ κ' v h' tk, PLe κ κ' → HRel hb κ' τ σ h' → (∀ b ∈ wr, κ' b = none) → VR κ' x v → St (i + 1) h' → Q v { s with heap := h', toks := tk }) →
    wpAny (model prog w) A (pyNext (.ref it)) (fun r s1 => match r with | none => False | some v => wpAny (model prog w) A (letOwnedTupleGo tgt (.ref it) v) (fun _ s2 => Q v s2) E s1) E s
  done : ∀ κ τ σ (s : Shared) (Q : Option Value → Shared → Prop) (E : Value → Shared → Prop), St xs.length s.heap → PLe κ0 κ → PLe τ0 τ → HRel hb κ τ σ s.heap → (∀ b ∈ wr, κ b = none ∧ τ b = none) →
    (∀ h' tk, HRel hb κ τ σ h' → Q none { s with heap := h', toks := tk }) → wpAny (model prog w) A (pyNext (.ref it)) Q E s
  self : ∀ i (s : Shared) (Q : Value → Shared → Prop) (E : Value → Shared → Prop), St i s.heap → Q (.ref it) s → wpAny (model prog w) A (pyIter (.ref it)) Q E s

theorem Feeds.of_walks {A : Around} {it : Addr} {fp wr : List Addr} {m : Nat} {P : Nat → Value → Prop} {St : Nat → Heap → Prop} {tgt : Expr} {κ0 τ0 : Part} {xs : List AV} (W : Walks prog w A it fp wr m P St)
    (ht : ∀ v, letOwnedTupleGo tgt (.ref it) v = pure ()) (hm : m = xs.length) (hP : ∀ i x v, xs[i]? = some x → P i v → VR κ0 x v) (hlive : ∀ i h, St i h → Iters wr h)
    (hfp : ∀ b ∈ fp, b ∈ wr ∨ (κ0 b).isSome = true ∨ (τ0 b).isSome = true) :
    Feeds prog w hb A it wr tgt κ0 τ0 xs (fun i h => St i h ∧ (∀ b o, κ0 b = some o → h.get? b = some o) ∧ (∀ b o, τ0 b = some o → h.get? b = some o)) where
  live := fun i h st => hlive i h st.1
  frame := fun i h h' st k1 k2 k3 => ⟨W.frame i h h' st.1 fun b hb o e => by
    rcases hfp b hb with q | q | q
    · exact k1 b q o e
    · obtain ⟨o', q⟩ := Option.isSome_iff_exists.mp q
      rw [st.2.1 b o' q] at e; cases e; exact k2 b _ q
    · obtain ⟨o', q⟩ := Option.isSome_iff_exists.mp q
      rw [st.2.2 b o' q] at e; cases e; exact k3 b _ q, k2, k3⟩
  item := fun i x κ τ σ s Q E hx st l1 l2 H hw hQ => by
    have hlt : i < m := by rw [hm]; exact (List.getElem?_eq_some_iff.mp hx).1
    have I := hlive i _ st.1
    refine W.item i s _ E hlt st.1 fun v h' tk hp st' hk => ?_
    simp only
    refine wpAny_of_eq (ht v) ?_
    have H' := H.keepBut I (fun b hb => (hw b hb).1) (fun b hb => (hw b hb).2) hk
    exact hQ κ v h' tk (.refl _) H' (fun b hb => (hw b hb).1) ((hP i x v hx hp).mono l1) ⟨st', fun b o e => H'.k b o (l1 b o e), fun b o e => H'.t b o (l2 b o e)⟩
  done := fun κ τ σ s Q E st l1 l2 H hw hQ => W.done s Q E (hm ▸ st.1) fun h' tk hk => hQ h' tk (H.keepBut (hlive _ _ st.1) (fun b hb => (hw b hb).1) (fun b hb => (hw b hb).2) hk)
  self := fun i s Q E st hQ => W.self i s Q E st.1 hQ

/-- the iteration over a value -/
def PostI (prog : Program) (w : World) (hb : Heap) (A : Around) (κ τ : Part) (tgt : Expr) (s : Shared) (Φ : List AV → Store → (Store → Store) → Prop) (Q : Value → Shared → Prop) : Prop :=
  ∀ κ1 τ1 σ1 xs rest it wr St h' tk', PLe κ κ1 → PLe τ τ1 → HRel hb κ1 τ1 σ1 h' → Feeds prog w hb A it wr tgt κ1 τ1 xs St → St 0 h' → (∀ b ∈ wr, κ1 b = none ∧ τ1 b = none) →
    (∀ b o, s.heap.get? b = some o → h'.get? b = some o) → (∀ b o, κ1 b = some o → κ b = some o ∨ s.heap.get? b = none) → (∀ b o, τ1 b = some o → τ b = some o ∨ ∃ its m, o = LObj its m) → (∀ σ' b, s.heap.get? b = none → rest σ' b = σ' b) →
    (∀ κ' σ' h'', PLe κ1 κ' → HRel hb κ' τ1 σ' h'' → HRel hb κ' τ (rest σ') h'') → Φ xs σ1 rest → Q (.ref it) { s with heap := h', toks := tk' }

def wpIt (prog : Program) (w : World) (hb : Heap) (σ : Store) (v : AV) (tgt : Expr) (Φ : List AV → Store → (Store → Store) → Prop) : Prop :=
  ∀ (A : Around) (κ τ : Part) (s : Shared) (v' : Value) (Q E : Value → Shared → Prop), Room 0 A → HRel hb κ τ σ s.heap → VR κ v v' → PostI prog w hb A κ τ tgt s Φ Q → wpAny (model prog w) A (pyIter v') Q E s

def plainTgt (t : Expr) : Prop := ∀ it v, letOwnedTupleGo t it v = pure ()

theorem it_list {xs : List AV} {tgt : Expr} {Φ : List AV → Store → (Store → Store) → Prop} (ht : plainTgt tgt) (h : Φ xs σ id) : wpIt prog w hb σ (.list xs) tgt Φ := by
  intro A κ τ s v' Q E R H r hQ
  cases r with | @list a items m _ e r =>
  have e' := H.k _ _ e
  refine wpAny_pyIter_list (LObj.isList e') ?_
  have hlt : a < s.heap.objs.size := Heap.lt_size e'
  have hne : a ≠ s.heap.objs.size := Nat.ne_of_lt hlt
  obtain ⟨f1, f2, f3⟩ := H.fresh (get_size (h := s.heap))
  have hk := push_keeps (h := s.heap) { cls := .type "list_iterator", data := .fields #[.ref a, .int ((0 : Nat) : Int) 0] }
  refine hQ κ τ σ xs id _ _ _ _ s.toks (.refl _) (.refl _) (H.grow hk) (Feeds.of_walks (Walks.list (A := A) R.1 s.heap.objs.size a hne items.toArray) (ht _) (by simp [r.length]) ?_ ?_ ?_) ⟨⟨⟨_, Heap.get?_push_size _ rfl, rfl, rfl⟩, (LObj.isList e').push _⟩, fun b o q => hk b o (H.k b o q), fun b o q => hk b o (H.t b o q)⟩ ?_ hk (fun _ _ q => .inl q) (fun _ _ q => .inl q) (fun _ _ _ => rfl) (fun _ _ _ _ H' => H') h
  · intro i x v hx hp
    obtain ⟨u, e1, e2⟩ := r.get hx
    have hp' : items[i]? = some v := by simpa using hp
    rw [hp'] at e1; cases e1; exact e2
  · rintro i h' ⟨⟨o, e1, e2, e3⟩, _⟩ b hb
    cases List.mem_singleton.mp hb
    exact ⟨o, _, e1, e3⟩
  · intro b hb
    rcases List.mem_cons.mp hb with rfl | hb
    · exact .inl (List.mem_singleton.mpr rfl)
    · cases List.mem_singleton.mp hb; exact .inr (.inl (by rw [e]; rfl))
  · intro b hb
    cases List.mem_singleton.mp hb
    exact ⟨f1, f2⟩

theorem it_tup {xs : List AV} {tgt : Expr} {Φ : List AV → Store → (Store → Store) → Prop} (ht : plainTgt tgt) (h : Φ xs σ id) : wpIt prog w hb σ (.tup xs) tgt Φ := by
  intro A κ τ s v' Q E R H r hQ
  cases r with | @tup a items m _ e r =>
  have e' := H.k _ _ e
  refine wpAny_pyIter_tuple (TObj.isTuple e') ?_
  have hlt : a < s.heap.objs.size := Heap.lt_size e'
  have hne : a ≠ s.heap.objs.size := Nat.ne_of_lt hlt
  obtain ⟨f1, f2, f3⟩ := H.fresh (get_size (h := s.heap))
  have hk := push_keeps (h := s.heap) { cls := .type "tuple_iterator", data := .fields #[.ref a, .int ((0 : Nat) : Int) 0] }
  refine hQ κ τ σ xs id _ _ _ _ s.toks (.refl _) (.refl _) (H.grow hk) (Feeds.of_walks (Walks.tuple (A := A) R.1 s.heap.objs.size a hne items.toArray) (ht _) (by simp [r.length]) ?_ ?_ ?_) ⟨⟨⟨_, Heap.get?_push_size _ rfl, rfl, rfl⟩, (TObj.isTuple e').push _⟩, fun b o q => hk b o (H.k b o q), fun b o q => hk b o (H.t b o q)⟩ ?_ hk (fun _ _ q => .inl q) (fun _ _ q => .inl q) (fun _ _ _ => rfl) (fun _ _ _ _ H' => H') h
  · intro i x v hx hp
    obtain ⟨u, e1, e2⟩ := r.get hx
    have hp' : items[i]? = some v := by simpa using hp
    rw [hp'] at e1; cases e1; exact e2
  · rintro i h' ⟨⟨o, e1, e2, e3⟩, _⟩ b hb
    cases List.mem_singleton.mp hb
    exact ⟨o, _, e1, e3⟩
  · intro b hb
    rcases List.mem_cons.mp hb with rfl | hb
    · exact .inl (List.mem_singleton.mpr rfl)
    · cases List.mem_singleton.mp hb; exact .inr (.inl (by rw [e]; rfl))
  · intro b hb
    cases List.mem_singleton.mp hb
    exact ⟨f1, f2⟩

def rngAV (a b : Int) : List AV := (List.range (b - a).toNat).map fun i => .int (a + (i : Nat))

theorem it_rng {a b : Int} {tgt : Expr} {Φ : List AV → Store → (Store → Store) → Prop} (ht : plainTgt tgt) (ha : -1000000 ≤ a) (ha' : a ≤ 1000000) (hb1 : -1000000 ≤ b) (hb2 : b ≤ 1000000) (h : Φ (rngAV a b) σ id) : wpIt prog w hb σ (.rng a b) tgt Φ := by
  intro A κ τ s v' Q E R H r hQ
  cases r with | @rng r a b t u v e =>
  have e' := H.k _ _ e
  refine wpAny_pyIter_range (t := t) (u := u) (v := v) e' (small_one (by omega) (by omega) (by omega) (by omega)) ?_
  obtain ⟨f1, f2, f3⟩ := H.fresh (get_size (h := s.heap))
  have hk := push_keeps (h := s.heap) { cls := .type "range_iterator", data := .fields #[rawInt a, rawInt (Builtin.Range.rangeSize a b 1), rawInt 1] }
  refine hQ κ τ σ (rngAV a b) id _ _ _ _ s.toks (.refl _) (.refl _) (H.grow hk) (Feeds.of_walks (Walks.range (A := A) R.1 s.heap.objs.size a 1 (b - a).toNat) (ht _) (by simp [rngAV]) ?_ ?_ ?_) ⟨?_, fun b o q => hk b o (H.k b o q), fun b o q => hk b o (H.t b o q)⟩ ?_ hk (fun _ _ q => .inl q) (fun _ _ q => .inl q) (fun _ _ _ => rfl) (fun _ _ _ _ H' => H') h
  · rintro i x v hx ⟨t, rfl⟩
    unfold rngAV at hx
    rw [List.getElem?_map] at hx
    have hi : i < (b - a).toNat := by
      cases q : (List.range (b - a).toNat)[i]? with
      | none => rw [q] at hx; cases hx
      | some j => have := (List.getElem?_eq_some_iff.mp q).1; simpa using this
    rw [List.getElem?_range hi] at hx
    cases hx
    have : a + (i : Int) * 1 = a + (i : Int) := by omega
    rw [this]; exact .int _ _
  · rintro i h' st b hb
    cases List.mem_singleton.mp hb
    exact ⟨_, _, st, rfl⟩
  · intro b hb
    exact .inl hb
  · show IsRangeIter _ _ _ _ _
    unfold IsRangeIter
    rw [Heap.get?_push_size _ rfl, rangeSize_nat]
    simp
  · intro b hb
    cases List.mem_singleton.mp hb
    exact ⟨f1, f2⟩

open Classical in
noncomputable def serase (σ : Store) (a : Addr) : Store := fun b => if b = a then none else σ b

theorem it_loc {a : Addr} {xs : List AV} {tgt : Expr} {Φ : List AV → Store → (Store → Store) → Prop} (ht : plainTgt tgt) (ha : σ a = some xs) (h : Φ xs (serase σ a) (fun σ' => sput σ' a xs)) : wpIt prog w hb σ (.loc a) tgt Φ := by
  intro A κ τ s v' Q E R H r hQ
  cases r
  obtain ⟨g1, g2, items, m, e', r⟩ := H.s _ _ ha
  refine wpAny_pyIter_list (LObj.isList e') ?_
  have hlt : a < s.heap.objs.size := Heap.lt_size e'
  have hne : a ≠ s.heap.objs.size := Nat.ne_of_lt hlt
  obtain ⟨f1, f2, f3⟩ := H.fresh (get_size (h := s.heap))
  have hk := push_keeps (h := s.heap) { cls := .type "list_iterator", data := .fields #[.ref a, .int ((0 : Nat) : Int) 0] }
  -- the list goes over to what stays
  have He : HRel hb κ τ (serase σ a) s.heap := ⟨H.base, H.k, H.t, H.d, fun b ys e => by
    unfold serase at e
    split at e
    · cases e
    · exact H.s b ys e⟩
  have H1 : HRel hb κ (tadd τ [a] s.heap) (serase σ a) s.heap := He.addT (fun b hb => by cases List.mem_singleton.mp hb; exact g1) (fun b hb => by cases List.mem_singleton.mp hb; unfold serase; exact if_pos rfl)
  have ta : tadd τ [a] s.heap a = some (LObj items m) := by rw [tadd_in (List.mem_singleton.mpr rfl)]; exact e'
  have tn : tadd τ [a] s.heap s.heap.objs.size = none := by unfold tadd; rw [if_neg (fun q => hne (List.mem_singleton.mp q).symm)]; exact f2
  refine hQ κ (tadd τ [a] s.heap) _ xs (fun σ' => sput σ' a xs) _ _ _ _ s.toks (.refl _) (tadd_le H.t) (H1.grow hk) (Feeds.of_walks (Walks.list (A := A) R.1 s.heap.objs.size a hne items.toArray) (ht _) (by simp [r.length]) ?_ ?_ ?_) ⟨⟨⟨_, Heap.get?_push_size _ rfl, rfl, rfl⟩, (LObj.isList e').push _⟩, fun b o q => hk b o (H1.k b o q), fun b o q => hk b o (H1.t b o q)⟩ ?_ hk (fun _ _ q => .inl q) ?_ (fun σ' b q => sput_ne (by rintro rfl; rw [e'] at q; cases q)) ?_ h
  · intro i x v hx hp
    obtain ⟨u, e1, e2⟩ := r.get hx
    have hp' : items[i]? = some v := by simpa using hp
    rw [hp'] at e1; cases e1; exact e2
  · rintro i h' ⟨⟨o, e1, e2, e3⟩, _⟩ b hb
    cases List.mem_singleton.mp hb
    exact ⟨o, _, e1, e3⟩
  · intro b hb
    rcases List.mem_cons.mp hb with rfl | hb
    · exact .inl (List.mem_singleton.mpr rfl)
    · cases List.mem_singleton.mp hb; exact .inr (.inr (by rw [ta]; rfl))
  · intro b hb
    cases List.mem_singleton.mp hb
    exact ⟨f1, tn⟩
  · intro b o q
    unfold tadd at q
    split at q
    · rename_i hb
      cases List.mem_singleton.mp hb
      rw [e'] at q; cases q; exact .inr ⟨items, m, rfl⟩
    · exact .inl q
  · intro κ' σ' h'' le H'
    have Hw := H'.weakT (tadd_le H.t)
    refine ⟨Hw.base, Hw.k, Hw.t, Hw.d, fun b ys e => ?_⟩
    by_cases q : b = a
    · subst q
      rw [sput_self] at e; cases e
      exact ⟨H'.d _ _ ta, g2, items, m, H'.t _ _ ta, r.mono le⟩
    · rw [sput_ne q] at e; exact Hw.s b ys e
end
end Mine

namespace Mine
open PySem PyProof.Rows

section
variable {prog : Program} {w : World} {hb : Heap} {mg mb : Str → Option Value} {n : Nat} {sc : Scope} {own : List Str} {ρ : Rho} {σ : Store}

/-! ## Iterables in a frame -/
def PostIE (prog : Program) (w : World) (hb : Heap) (A : Around) (κ τ : Part) (env : Env) (own : List Str) (ρ : Rho) (tgt : Expr) (s : Shared) (Φ : List AV → Store → (Store → Store) → Prop) (Q : Value → Shared → Prop) : Prop :=
  ∀ κ1 τ1 σ1 xs rest it wr St h' tk', PLe κ κ1 → PLe τ τ1 → HRel hb κ1 τ1 σ1 h' → EnvR κ1 τ1 env own ρ h' → Feeds prog w hb A it wr tgt κ1 τ1 xs St → St 0 h' → (∀ b ∈ wr, κ1 b = none ∧ τ1 b = none) → (∀ σ' b, h'.get? b = none → rest σ' b = σ' b) →
    (∀ κ' σ' h'', PLe κ1 κ' → HRel hb κ' τ1 σ' h'' → HRel hb κ' τ (rest σ') h'') → Φ xs σ1 rest → Q (.ref it) { s with heap := h', toks := tk' }

def wpI (prog : Program) (w : World) (hb : Heap) (n : Nat) (sc : Scope) (own : List Str) (ρ : Rho) (σ : Store) (iter tgt : Expr) (Φ : List AV → Store → (Store → Store) → Prop) : Prop :=
  ∀ (A : Around) (env : Env) (κ τ : Part) (s : Shared) (Q E : Value → Shared → Prop), Room n A → env.scope = sc → HRel hb κ τ σ s.heap → EnvR κ τ env own ρ s.heap → PostIE prog w hb A κ τ env own ρ tgt s Φ Q →
    wpAny (model prog w) A (eval iter env) (fun x s1 => wpAny (model prog w) A (pyIter x) Q E s1) E s

theorem wpIt_at {v : AV} {tgt : Expr} {Φ : List AV → Store → (Store → Store) → Prop} {A : Around} {env : Env} {κ τ : Part} {s : Shared} {v' : Value} {Q E : Value → Shared → Prop}
    (h : wpIt prog w hb σ v tgt Φ) (R : Room n A) (H : HRel hb κ τ σ s.heap) (V : EnvR κ τ env own ρ s.heap) (r : VR κ v v')
    (hQ : PostIE prog w hb A κ τ env own ρ tgt s Φ Q) : wpAny (model prog w) A (pyIter v') Q E s := by
  refine h A κ τ s v' Q E (R.le (Nat.zero_le _)) H r fun κ1 τ1 σ1 xs rest it wr St h' tk' l1 l2 H1 Fd st hw k1 k2 k3 hr back hΦ => ?_
  refine hQ κ1 τ1 σ1 xs rest it wr St h' tk' l1 l2 H1 ?_ Fd st hw (fun σ' b q => hr σ' b (by
    cases e : s.heap.get? b with
    | none => rfl
    | some o => rw [k1 b o e] at q; cases q)) back hΦ
  obtain ⟨m, hn, hm⟩ := V.loc
  obtain ⟨oL, eL, es, ep, dL⟩ := Ns_get hn
  refine ⟨V.kind, V.glob, V.blt, ?_, ?_, ⟨m, hn.keeps k1, fun x u e k => let ⟨u', e1, e2⟩ := hm x u e k; ⟨u', e1, e2.mono l1⟩⟩, fun x u e k => let ⟨c, u', e1, e2, e3⟩ := V.cel x u e k; ⟨c, u', e1, e2.keeps k1, e3.mono l1⟩, fun x c e => ?_, fun x hx => ?_, V.apart⟩
  · cases q : κ1 env.locals with
    | none => rfl
    | some o =>
      rcases k2 _ _ q with q | q
      · rw [V.locK] at q; cases q
      · rw [eL] at q; cases q
  · cases q : τ1 env.locals with
    | none => rfl
    | some o =>
      rcases k3 _ _ q with q' | ⟨its, mm, rfl⟩
      · rw [V.locT] at q'; cases q'
      · have := H1.t _ _ q
        rw [k1 _ _ eL] at this; cases this; cases dL
  · obtain ⟨e1, cv, oc, ec, dc⟩ := V.cells x c e
    refine ⟨?_, cv, oc, k1 _ _ ec, dc⟩
    cases q : κ1 c with
    | none => rfl
    | some o =>
      rcases k2 _ _ q with q | q
      · rw [e1] at q; cases q
      · rw [ec] at q; cases q
  · obtain ⟨c, e1, e2⟩ := V.ownc x hx
    refine ⟨c, e1, ?_⟩
    obtain ⟨_, cv, oc, ec, dc⟩ := V.cells x c e1
    cases q : τ1 c with
    | none => rfl
    | some o =>
      rcases k3 _ _ q with q' | ⟨its, mm, rfl⟩
      · rw [e2] at q'; cases q'
      · have := H1.t _ _ q
        rw [k1 _ _ ec] at this; cases this; cases dc

theorem wpI_value {iter tgt : Expr} {Φ : List AV → Store → (Store → Store) → Prop} (h : wpE prog w hb n sc own ρ σ iter fun v σ1 => wpIt prog w hb σ1 v tgt Φ) : wpI prog w hb n sc own ρ σ iter tgt Φ := by
  intro A env κ τ s Q E R he H V hQ
  refine h A env κ τ s _ E R he H V ?_
  intro κ1 v v' σ1 h1 tk1 le1 H1 V1 r1 g1
  exact wpIt_at g1 R H1 V1 r1 fun κ2 τ2 σ2 xs rest it wr St h' tk' a b c d e f g i j k => hQ κ2 τ2 σ2 xs rest it wr St h' tk' (le1.trans a) b c d e f g i j k

/-! ## for -/
def Sub (ρ0 ρ : Rho) : Prop := ∀ x v, ρ0.lookup x = some v → ρ.lookup x = some v
theorem Sub.refl (ρ : Rho) : Sub ρ ρ := fun _ _ e => e
theorem Sub.trans {a b c : Rho} (x : Sub a b) (y : Sub b c) : Sub a c := fun p v e => y p v (x p v e)
theorem Sub.cons {ρ0 ρ : Rho} {x : Str} {v : AV} (s : Sub ρ0 ρ) (h : ρ0.lookup x = none) : Sub ρ0 ((x, v) :: ρ) := fun y u e => by
  rw [List.lookup_cons]
  cases q : y == x with
  | true => rw [beq_iff_eq.mp q, h] at e; cases e
  | false => exact s y u e
theorem Sub.cons₂ {ρ0 ρ : Rho} {x : Str} {v : AV} (s : Sub ρ0 ρ) : Sub ((x, v) :: ρ0) ((x, v) :: ρ) := fun y u e => by
  rw [List.lookup_cons] at e ⊢
  cases q : y == x with
  | true => rw [q] at e; exact e
  | false => rw [q] at e; exact s y u e

theorem wpSs_weak {ρ0 : Rho} {st : List Stmt} {Φ : FL → Rho → Store → Prop} (hs : Sub ρ0 ρ) (h : wpSs prog w hb n sc own ρ0 σ st Φ) : wpSs prog w hb n sc own ρ σ st Φ :=
  fun A env κ τ s Q R he H V hQ => h A env κ τ s Q R he H (V.weakRho hs) hQ
theorem wpS_weak {ρ0 : Rho} {st : Stmt} {Φ : FL → Rho → Store → Prop} (hs : Sub ρ0 ρ) (h : wpS prog w hb n sc own ρ0 σ st Φ) : wpS prog w hb n sc own ρ σ st Φ :=
  fun A env κ τ s Q R he H V hQ => h A env κ τ s Q R he H (V.weakRho hs) hQ

theorem frameT_none {κ τ : Part} {h : Heap} {env : Env} {wr : List Addr} (I : Iters wr h) (V : EnvR κ τ env own ρ h) (ht : ∀ b ∈ wr, κ b = none ∧ τ b = none) : ∀ b ∈ wr, κ b = none ∧ frameT τ env h b = none :=
  fun b hb => ⟨(ht b hb).1, I.frame V (fun b hb => (ht b hb).2) b hb⟩

theorem frameT_le {κ τ : Part} {h : Heap} {env : Env} (H : HRel hb κ τ σ h) : PLe τ (frameT τ env h) := by
  intro a o e
  unfold frameT
  split
  · exact H.t _ _ e
  · exact e

/-- one item drawn, in a frame -/
theorem Feeds.draw {A : Around} {it : Addr} {wr : List Addr} {tgt : Expr} {κ0 τ0 : Part} {xs : List AV} {St : Nat → Heap → Prop} (Fd : Feeds prog w hb A it wr tgt κ0 τ0 xs St)
    {env : Env} {κ τ : Part} {s : Shared} {i : Nat} {x : AV} {Q : Value → Shared → Prop} {E : Value → Shared → Prop} (hx : xs[i]? = some x) (st : St i s.heap) (l1 : PLe κ0 κ) (l2 : PLe τ0 τ) (H : HRel hb κ τ σ s.heap) (V : EnvR κ τ env own ρ s.heap) (hw : ∀ b ∈ wr, κ b = none ∧ τ b = none)
    (hQ : ∀ κ' v h' tk, PLe κ κ' → HRel hb κ' τ σ h' → EnvR κ' τ env own ρ h' → (∀ b ∈ wr, κ' b = none) → VR κ' x v → St (i + 1) h' → Q v { s with heap := h', toks := tk }) :
    wpAny (model prog w) A (pyNext (.ref it)) (fun r s1 => match r with | none => False | some v => wpAny (model prog w) A (letOwnedTupleGo tgt (.ref it) v) (fun _ s2 => Q v s2) E s1) E s := by
  obtain ⟨H1, back⟩ := V.lift H
  refine Fd.item i x κ _ σ s Q E hx st l1 (l2.trans (frameT_le H)) H1 (frameT_none (Fd.live i _ st) V hw) fun κ' v h' tk le H' hw' r st' => ?_
  obtain ⟨H2, V2⟩ := back κ' σ h' le H'
  exact hQ κ' v h' tk le H2 V2 hw' r st'

theorem forLoop_F {A : Around} {R : Result → Shared → Prop} {target : Expr} {it : Value} {body : List Stmt} {env : Env} {s : Shared} (I : Nat → Shared → Prop)
    (turn : ∀ n s, I n s → wpAny (model prog w) A (pyNext it) (fun r s1 => r = none ∧ R (.ok .next) s1) (fun _ _ => False) s ∨
      wpAny (model prog w) A (pyNext it) (fun r s1 => match r with | none => False | some v => wpAny (model prog w) A (letOwnedTupleGo target it v) (fun _ s1' =>
          wpAny (model prog w) A (assign target env v) (fun _ s₂ => wpAny (model prog w) A (execs body env) (fun f s₃ => match f with
            | .next | .cont => ∃ m, m < n ∧ I m s₃
            | .brk => R (.ok .next) s₃
            | .ret v => R (.ok (.ret v)) s₃) (fun _ _ => False) s₂) (fun _ _ => False) s1') (fun _ _ => False) s1) (fun _ _ => False) s)
    (n : Nat) (h : I n s) : codeAny (model prog w) A (.forLoop target it body [] env) R s := by
  refine codeAny_forLoop_any I (fun n s hI => ?_) n h
  rcases turn n s hI with q | q
  · refine wpAny_mono q (fun r s1 hr => ?_) (fun _ _ f => f.elim)
    obtain ⟨rfl, hr⟩ := hr
    exact wpAny_execs_nil hr
  · refine wpAny_mono q (fun r s1 hr => ?_) (fun _ _ f => f.elim)
    cases r with
    | none => exact hr.elim
    | some v => exact wpAny_mono hr (fun _ s2 h2 => wpAny_mono h2 (fun _ s3 h3 => wpAny_mono h3 (fun _ _ q => q) (fun _ _ f => f.elim)) (fun _ _ f => f.elim)) (fun _ _ f => f.elim)

theorem wpS_For {tgt iter : Expr} {body : List Stmt} {pos : Pos} {Φ : FL → Rho → Store → Prop} (hs : ∀ env x, foldedSetIterable iter env x = pure x)
    (h : wpI prog w hb n sc own ρ σ iter tgt fun xs σ1 rest => ∃ J : Nat → Rho → Store → Prop, J 0 ρ σ1 ∧
      (∀ i x ρ' σ', xs[i]? = some x → J i ρ' σ' → wpA prog w hb n sc own ρ' σ' tgt x fun ρ2 σ2 => wpSs prog w hb n sc own ρ2 σ2 body fun f ρ3 σ3 => match f with
        | .next => ∃ ρ4, Sub ρ4 ρ3 ∧ J (i + 1) ρ4 σ3
        | .cont => ∃ ρ4, Sub ρ4 ρ3 ∧ J (i + 1) ρ4 σ3
        | .brk => Φ .next ρ3 (rest σ3)
        | .ret v => Φ (.ret v) ρ3 (rest σ3)) ∧
      (∀ ρ' σ', J xs.length ρ' σ' → Φ .next ρ' (rest σ'))) :
    wpS prog w hb n sc own ρ σ (.For tgt iter body [] pos) Φ := by
  intro A env κ τ s Q R he H V hQ
  refine wpAny_For (h A env κ τ s _ _ R he H V ?_) (hs env)
  intro κ1 τ1 σ1 xs rest it wr St h1 tk1 l1 l2 H1 V1 Fd st hw _ back ⟨J, j0, jstep, jend⟩
  refine forLoop_F (fun k s' => ∃ i ρ' σ' κ' h' tk', k = xs.length - i ∧ i ≤ xs.length ∧ s' = { s with heap := h', toks := tk' } ∧ PLe κ1 κ' ∧ HRel hb κ' τ1 σ' h' ∧ EnvR κ' τ1 env own ρ' h' ∧ St i h' ∧ (∀ b ∈ wr, κ' b = none ∧ τ1 b = none) ∧ J i ρ' σ') ?_ xs.length
    ⟨0, ρ, σ1, κ1, h1, tk1, rfl, Nat.zero_le _, rfl, .refl _, H1, V1, st, hw, j0⟩
  rintro k s' ⟨i, ρ', σ', κ', h', tk', rfl, hi, rfl, lk, H', V', st', hw', j⟩
  by_cases hlt : i < xs.length
  · have hx : xs[i]? = some xs[i] := List.getElem?_eq_getElem hlt
    refine .inr (Fd.draw hx st' lk (.refl _) H' V' hw' ?_)
    intro κ2 v h2 tk2 le2 H2 V2 hw2 r2 st2
    have I2 := Fd.live _ _ st2
    have Ht := H2.addT hw2 (I2.sigma H2)
    have Vt := V2.addT (I2.loc V2) (I2.cell V2)
    refine jstep i _ ρ' σ' hx j A env κ2 _ _ v _ _ R he Ht Vt r2 ?_
    intro κ3 ρ3 σ3 h3 tk3 le3 H3 V3 g3
    refine g3 A env κ3 _ _ _ R he H3 V3 ?_
    intro κ4 f f' ρ4 σ4 h4 tk4 le4 H4 V4 rf g4
    have hle : PLe τ1 (tadd τ1 wr h2) := tadd_le H2.t
    have H5 := H4.weakT hle
    have V5 := V4.weakT hle
    have hw5 : ∀ b ∈ wr, κ4 b = none ∧ τ1 b = none := fun b hb => by
      obtain ⟨o, vs, e, _⟩ := I2 b hb
      exact ⟨H4.d b o (by rw [tadd_in hb]; exact e), (hw b hb).2⟩
    have kw : ∀ b ∈ wr, ∀ o, h2.get? b = some o → h4.get? b = some o := fun b hb o e => H4.t b o (by rw [tadd_in hb]; exact e)
    have lall : PLe κ1 κ4 := lk.trans (le2.trans (le3.trans le4))
    have st5 : St (i + 1) h4 := Fd.frame _ _ _ st2 kw (fun b o e => H5.k b o (lall b o e)) (fun b o e => H5.t b o e)
    cases rf with
    | next => obtain ⟨ρ5, hsub, g5⟩ := g4; exact ⟨xs.length - (i + 1), by omega, i + 1, ρ5, σ4, κ4, h4, tk4, rfl, hlt, rfl, lall, H5, V5.weakRho hsub, st5, hw5, g5⟩
    | cont => obtain ⟨ρ5, hsub, g5⟩ := g4; exact ⟨xs.length - (i + 1), by omega, i + 1, ρ5, σ4, κ4, h4, tk4, rfl, hlt, rfl, lall, H5, V5.weakRho hsub, st5, hw5, g5⟩
    | brk => exact hQ κ4 .next .next ρ4 _ h4 tk4 (l1.trans lall) (back _ _ _ lall H5) (V5.weakT l2) .next g4
    | ret r => exact hQ κ4 (.ret _) _ ρ4 _ h4 tk4 (l1.trans lall) (back _ _ _ lall H5) (V5.weakT l2) (.ret r) g4
  · have hin : i = xs.length := by omega
    subst hin
    obtain ⟨H1t, backE⟩ := V'.lift H'
    refine .inl (Fd.done κ' _ σ' _ _ _ st' lk (frameT_le H') H1t (frameT_none (Fd.live _ _ st') V' hw') fun h2 tk2 H2 => ⟨rfl, ?_⟩)
    obtain ⟨H3, V3⟩ := backE κ' σ' h2 (.refl _) H2
    exact hQ κ' .next .next ρ' _ h2 tk2 (l1.trans lk) (back _ _ _ lk H3) (V3.weakT l2) .next (jend ρ' σ' j)

theorem wpS_While {t : Expr} {body : List Stmt} {pos : Pos} {Φ : FL → Rho → Store → Prop} (J : Nat → Rho → Store → Prop) (k0 : Nat) (h0 : J k0 ρ σ)
    (step : ∀ k ρ' σ', J k ρ' σ' → wpT prog w hb n sc own ρ' σ' t fun b σ1 => if b then wpSs prog w hb n sc own ρ' σ1 body fun f ρ2 σ2 => (match f with
        | .next => ∃ m ρ4, m < k ∧ Sub ρ4 ρ2 ∧ J m ρ4 σ2
        | .cont => ∃ m ρ4, m < k ∧ Sub ρ4 ρ2 ∧ J m ρ4 σ2
        | .brk => Φ .next ρ2 σ2
        | .ret v => Φ (.ret v) ρ2 σ2) else Φ .next ρ' σ1) :
    wpS prog w hb n sc own ρ σ (.While t body [] pos) Φ := by
  intro A env κ τ s Q R he H V hQ
  refine wpAny_While ?_
  refine codeAny_whileLoop (fun k s' => ∃ ρ' σ' κ' h' tk', s' = { s with heap := h', toks := tk' } ∧ PLe κ κ' ∧ HRel hb κ' τ σ' h' ∧ EnvR κ' τ env own ρ' h' ∧ J k ρ' σ') ?_ k0 ⟨ρ, σ, κ, s.heap, s.toks, rfl, .refl _, H, V, h0⟩
  rintro k s' ⟨ρ', σ', κ', h', tk', rfl, lk, H', V', j⟩
  refine step k ρ' σ' j A env κ' τ _ _ _ R he H' V' ?_
  intro κ1 b σ1 h1 tk1 le1 H1 V1 g1
  cases b with
  | false =>
    exact wpAny_execs_nil (hQ κ1 .next .next ρ' σ1 h1 tk1 (lk.trans le1) H1 V1 .next g1)
  | true =>
    refine wpAny_mono (g1 A env κ1 τ _ _ R he H1 V1 ?_) (fun _ _ q => q) (fun _ _ f => f.elim)
    intro κ2 f f' ρ2 σ2 h2 tk2 le2 H2 V2 rf g2
    cases rf with
    | next => obtain ⟨m, ρ4, hm, hsub, j2⟩ := g2; exact ⟨m, hm, ρ4, σ2, κ2, h2, tk2, rfl, lk.trans (le1.trans le2), H2, V2.weakRho hsub, j2⟩
    | cont => obtain ⟨m, ρ4, hm, hsub, j2⟩ := g2; exact ⟨m, hm, ρ4, σ2, κ2, h2, tk2, rfl, lk.trans (le1.trans le2), H2, V2.weakRho hsub, j2⟩
    | brk => exact hQ κ2 .next .next ρ2 σ2 h2 tk2 (lk.trans (le1.trans le2)) H2 V2 .next g2
    | ret r => exact hQ κ2 (.ret _) _ ρ2 σ2 h2 tk2 (lk.trans (le1.trans le2)) H2 V2 (.ret r) g2
end
end Mine

namespace Mine
open PySem PyProof.Rows

section
variable {prog : Program} {w : World} {hb : Heap} {mg mb : Str → Option Value} {n : Nat} {sc : Scope} {own : List Str} {ρ : Rho} {σ : Store}

theorem HRel.addK {κ τ : Part} {h : Heap} {T : Addr} {o : Obj} (H : HRel hb κ τ σ h) (ho : h.get? T = some o) (h1 : κ T = none) (h2 : τ T = none) (h3 : σ T = none) : HRel hb (padd κ T o) τ σ h := by
  refine ⟨fun b x e => padd_le h1 b x (H.base b x e), fun b x e => ?_, H.t, fun b x e => ?_, fun b xs e => ?_⟩
  · by_cases q : b = T
    · subst q; rw [padd_self] at e; cases e; exact ho
    · rw [padd_ne q] at e; exact H.k b x e
  · rw [padd_ne (by rintro rfl; rw [h2] at e; cases e)]; exact H.d b x e
  · obtain ⟨x, y, items, m, e', r⟩ := H.s b xs e
    exact ⟨by rw [padd_ne (by rintro rfl; rw [h3] at e; cases e)]; exact x, y, items, m, e', r.mono (padd_le h1)⟩

def enumAV (xs : List AV) : List AV := (List.range xs.length).map fun i => .tup [.int (i : Nat), xs.getD i .none]
theorem enumAV_get {xs : List AV} {i : Nat} {x : AV} (h : (enumAV xs)[i]? = some x) : ∃ y, xs[i]? = some y ∧ x = .tup [.int (i : Nat), y] := by
  unfold enumAV at h
  rw [List.getElem?_map] at h
  cases q : (List.range xs.length)[i]? with
  | none => rw [q] at h; cases h
  | some j =>
    have hi : i < xs.length := by have := (List.getElem?_eq_some_iff.mp q).1; simpa using this
    rw [List.getElem?_range hi] at h
    cases h
    exact ⟨xs[i], List.getElem?_eq_getElem hi, by simp [List.getD_eq_getElem?_getD, hi]⟩

theorem Feeds.enum {A : Around} {e it l : Addr} {elts : List Expr} {k : Nat} {tp : Pos} {κ0 τ0 : Part} {xs : List AV} {items : List Value} {m : Nat} (hh : A.handled = none) (hei : e ≠ it) (hle : l ≠ e) (hli : l ≠ it)
    (hl : κ0 l = some (LObj items m) ∨ τ0 l = some (LObj items m)) (r : VRs κ0 xs items) :
    Feeds prog w hb A e [e, it] (.Tuple elts k tp) κ0 τ0 (enumAV xs) (fun i h => (∃ old, IsEnum h e it i old) ∧ h.IsListIter it l i ∧ (∀ b o, κ0 b = some o → h.get? b = some o) ∧ (∀ b o, τ0 b = some o → h.get? b = some o)) where
  live := fun i h st b hb => by
    obtain ⟨⟨old, he⟩, ⟨o, e1, e2, e3⟩, _⟩ := st
    rcases List.mem_cons.mp hb with rfl | hb
    · exact ⟨_, _, he, rfl⟩
    · cases List.mem_singleton.mp hb; exact ⟨o, _, e1, e3⟩
  frame := fun i h h' st k1 k2 k3 => by
    obtain ⟨⟨old, he⟩, hit, _, _⟩ := st
    exact ⟨⟨old, k1 e (by simp) _ he⟩, hit.at fun o x => k1 it (by simp) o x, k2, k3⟩
  item := fun i x κ τ σ s Q E hx st l1 l2 H hw hQ => by
    obtain ⟨⟨old, he⟩, hit, s1, s2⟩ := st
    obtain ⟨y, hy, rfl⟩ := enumAV_get hx
    obtain ⟨v, hv, rv⟩ := r.get hy
    have hlo : s.heap.get? l = some (LObj items m) := by
      rcases hl with q | q
      · exact s1 _ _ q
      · exact s2 _ _ q
    have I : Iters [e, it] s.heap := fun b hb => by
      obtain ⟨o, e1, e2, e3⟩ := hit
      rcases List.mem_cons.mp hb with rfl | hb
      · exact ⟨_, _, he, rfl⟩
      · cases List.mem_singleton.mp hb; exact ⟨o, _, e1, e3⟩
    refine wpAny_pyNext_enum_item he hit (LObj.isList hlo) (x := v) (by simpa using hv) hei fun h1 ho hit1 hT hsz hk => ?_
    simp only
    have H1 : HRel hb κ τ σ h1 := H.keepBut I (fun b hb => (hw b hb).1) (fun b hb => (hw b hb).2) fun b o hb q => hk b o (fun e' => hb (by simp [e'])) (fun e' => hb (by simp [e'])) q
    obtain ⟨f1, f2, f3⟩ := H.fresh (get_size (h := s.heap))
    have H2 := H1.addK (T := s.heap.objs.size) (o := TObj [.int i s.toks, v] 0) hT f1 f2 f3
    have helt : e < s.heap.objs.size := Heap.lt_size he
    have hilt : it < s.heap.objs.size := by obtain ⟨_, x, _⟩ := hit; exact Heap.lt_size x
    refine wpAny_letOwnedTupleGo_enum ho fun h2 he2 hs2 => ?_
    have I1 : Iters [e, it] h1 := fun b hb => by
      obtain ⟨o, e1, e2, e3⟩ := hit1
      rcases List.mem_cons.mp hb with rfl | hb
      · exact ⟨_, _, ho, rfl⟩
      · cases List.mem_singleton.mp hb; exact ⟨o, _, e1, e3⟩
    have hwk : ∀ b ∈ [e, it], padd κ s.heap.objs.size (TObj [.int i s.toks, v] 0) b = none := fun b hb => by
      rw [padd_ne (by
        rcases List.mem_cons.mp hb with rfl | hb
        · exact Nat.ne_of_lt helt
        · cases List.mem_singleton.mp hb; exact Nat.ne_of_lt hilt)]
      exact (hw b hb).1
    have H3 : HRel hb (padd κ s.heap.objs.size (TObj [.int i s.toks, v] 0)) τ σ h2 := H2.keepBut I1 hwk (fun b hb => (hw b hb).2) fun b o hb q => by
      rw [hs2.2 b (fun e' => hb (by simp [e']))]; exact q
    refine hQ _ _ h2 _ (padd_le f1) H3 hwk (.tup padd_self (.cons (.int _ _) (.cons (rv.mono (l1.trans (padd_le f1))) .nil))) ⟨⟨v, ?_⟩, hit1.at fun o q => (hs2.2 it hei.symm).trans q, fun b o q => H3.k b o (padd_le f1 b o (l1 b o q)), fun b o q => H3.t b o (l2 b o q)⟩
    simpa using he2
  done := fun κ τ σ s Q E st l1 l2 H hw hQ => by
    obtain ⟨⟨old, he⟩, hit, s1, s2⟩ := st
    have hlo : s.heap.get? l = some (LObj items m) := by
      rcases hl with q | q
      · exact s1 _ _ q
      · exact s2 _ _ q
    have I : Iters [e, it] s.heap := fun b hb => by
      obtain ⟨o, e1, e2, e3⟩ := hit
      rcases List.mem_cons.mp hb with rfl | hb
      · exact ⟨_, _, he, rfl⟩
      · cases List.mem_singleton.mp hb; exact ⟨o, _, e1, e3⟩
    refine wpAny_pyNext_enum_end hh he hit (LObj.isList hlo) (by simp [enumAV, r.length]) fun h' hk => ?_
    exact hQ h' s.toks (H.keepBut I (fun b hb => (hw b hb).1) (fun b hb => (hw b hb).2) fun b o hb q => hk b o (fun e' => hb (by simp [e'])) q)
  self := fun i s Q E st hQ => by
    obtain ⟨⟨old, he⟩, _⟩ := st
    exact wpAny_pyIter_enum he hQ

theorem enum_at {A : Around} {env : Env} {κ τ κ1 τ1 : Part} {s : Shared} {l : Addr} {items : List Value} {m : Nat} {xs : List AV} {elts : List Expr} {k : Nat} {tp : Pos} {σ1 : Store} {rest : Store → Store} {Φ : List AV → Store → (Store → Store) → Prop} {Q E : Value → Shared → Prop}
    (R : Room n A) (hlo : s.heap.get? l = some (LObj items m)) (hl : κ1 l = some (LObj items m) ∨ τ1 l = some (LObj items m)) (r : VRs κ1 xs items) (l1 : PLe κ κ1) (l2 : PLe τ τ1) (H : HRel hb κ1 τ1 σ1 s.heap) (V : EnvR κ1 τ1 env own ρ s.heap)
    (hr : ∀ σ' b, s.heap.get? b = none → rest σ' b = σ' b) (back : ∀ κ' σ' h'', PLe κ1 κ' → HRel hb κ' τ1 σ' h'' → HRel hb κ' τ (rest σ') h'') (hΦ : Φ (enumAV xs) σ1 rest) (hQ : PostIE prog w hb A κ τ env own ρ (.Tuple elts k tp) s Φ Q) :
    wpAny (model prog w) A (call (.type "enumerate") [.ref l]) (fun x s1 => wpAny (model prog w) A (pyIter x) Q E s1) E s := by
  refine call_enumerate_1 hlo fun h' he hit hsz hk => ?_
  refine wpAny_pyIter_enum he ?_
  obtain ⟨H1, V1⟩ := V.grow H hk
  have hlt : l < s.heap.objs.size := Heap.lt_size hlo
  have n1 : s.heap.get? s.heap.objs.size = none := get_size
  have n2 : s.heap.get? (s.heap.objs.size + 1) = none := Heap.get?_none_of_le (Nat.le_succ _)
  refine hQ κ1 τ1 σ1 (enumAV xs) rest _ [_, _] _ h' s.toks l1 l2 H1 V1 (Feeds.enum (e := s.heap.objs.size + 1) (it := s.heap.objs.size) (l := l) R.1 (Nat.ne_of_gt (Nat.lt_succ_self _)) (Nat.ne_of_lt (Nat.lt_succ_of_lt hlt)) (Nat.ne_of_lt hlt) hl r) ⟨⟨_, he⟩, hit, fun b o q => H1.k b o q, fun b o q => H1.t b o q⟩ ?_ (fun σ' b q => hr σ' b (by
    cases e : s.heap.get? b with
    | none => rfl
    | some o => rw [hk b o e] at q; cases q)) back hΦ
  intro b hb
  rcases List.mem_cons.mp hb with rfl | hb
  · exact ⟨(H.fresh n2).1, (H.fresh n2).2.1⟩
  · cases List.mem_singleton.mp hb; exact ⟨(H.fresh n1).1, (H.fresh n1).2.1⟩

theorem wpI_enum {p pos tp : Pos} {e : Expr} {elts : List Expr} {k : Nat} {Φ : List AV → Store → (Store → Store) → Prop} (G : Glo hb mg mb) (hk : sc.names.lookup ("enumerate" : Str) = some .globalImplicit) (hn : notStarred e = true)
    (h : wpE prog w hb n sc own ρ σ e fun v σ1 => (∃ xs, v = .list xs ∧ Φ (enumAV xs) σ1 id) ∨ (∃ a xs, v = .loc a ∧ σ1 a = some xs ∧ Φ (enumAV xs) (serase σ1 a) fun σ' => sput σ' a xs)) :
    wpI prog w hb n sc own ρ σ (.Call (.Name "enumerate" p) [e] [] pos) (.Tuple elts k tp) Φ := by
  intro A env κ τ s Q E R he H V hQ
  have hkind : env.kindOf "enumerate" = some .globalImplicit := by rw [← hk, ← he]; rfl
  have hb' : bltOf.lookup ("enumerate" : Str) = some (.type "enumerate") := by decide
  refine wpAny_Call_NameR (Calls.Name_function_global V.kind hkind (Calls.loadGlobal_builtin (V.glob ▸ G.g.keeps H.keeps) (G.blt _ _ hb').1 (V.blt ▸ G.b.keeps H.keeps) (G.blt _ _ hb').2 ?_) (by decide))
  have hs : ([e] : List Expr).all notStarred = true := by simp [hn]
  refine PySem.callWith_type (backTo_any hs) ?_
  rw [backTo_plain hn]
  refine Calls.evalArgs_plain (Calls.spliced_cons (h A env κ τ s _ E R he H V ?_))
  intro κ1 v v' σ1 h1 tk1 le1 H1 V1 r1 g1
  refine Calls.spliced_nil ?_
  show wpAny _ _ (call (.type "enumerate") [v']) _ _ _
  rcases g1 with ⟨xs, rfl, g⟩ | ⟨a, xs, rfl, ha, g⟩
  · cases r1 with | @list a items m _ e1 q1 =>
    exact enum_at (κ := κ1) (τ := τ) (rest := id) (n := n) R (H1.k _ _ e1) (.inl e1) q1 (.refl _) (.refl _) H1 V1 (fun _ _ _ => rfl) (fun _ _ _ _ H' => H') g fun κ2 τ2 σ2 xs rest it wr St h' tk' a b c d e f g i j k => hQ κ2 τ2 σ2 xs rest it wr St h' tk' (le1.trans a) b c d e f g i j k
  · cases r1
    obtain ⟨g1, g2, items, m, e1, q1⟩ := H1.s _ _ ha
    have He : HRel hb κ1 τ (serase σ1 a) h1 := ⟨H1.base, H1.k, H1.t, H1.d, fun b ys e => by
      unfold serase at e
      split at e
      · cases e
      · exact H1.s b ys e⟩
    have H2 : HRel hb κ1 (tadd τ [a] h1) (serase σ1 a) h1 := He.addT (fun b hb => by cases List.mem_singleton.mp hb; exact g1) (fun b hb => by cases List.mem_singleton.mp hb; unfold serase; exact if_pos rfl)
    have ta : tadd τ [a] h1 a = some (LObj items m) := by rw [tadd_in (List.mem_singleton.mpr rfl)]; exact e1
    have V2 : EnvR κ1 (tadd τ [a] h1) env own ρ h1 := V1.addT (fun hb => by
        have := List.mem_singleton.mp hb
        obtain ⟨mm, hn, _⟩ := V1.loc
        obtain ⟨o, e2, es, ep, d⟩ := Ns_get hn
        rw [this, e1] at e2; cases e2; cases d) (fun x c q hb => by
        have := List.mem_singleton.mp hb
        obtain ⟨_, cv, o, e2, d⟩ := V1.cells x c q
        rw [this, e1] at e2; cases e2; cases d)
    refine enum_at (κ := κ1) (τ := τ) (rest := fun σ' => sput σ' a xs) (n := n) R e1 (.inr ta) q1 (.refl _) (tadd_le H1.t) H2 V2 (fun σ' b q => sput_ne (by rintro rfl; rw [e1] at q; cases q)) ?_ g fun κ2 τ2 σ2 xs rest it wr St h' tk' a b c d e f g i j k => hQ κ2 τ2 σ2 xs rest it wr St h' tk' (le1.trans a) b c d e f g i j k
    intro κ' σ' h'' le H'
    have Hw := H'.weakT (tadd_le H1.t)
    refine ⟨Hw.base, Hw.k, Hw.t, Hw.d, fun b ys e => ?_⟩
    by_cases q : b = a
    · subst q
      rw [sput_self] at e; cases e
      exact ⟨H'.d _ _ ta, g2, items, m, H'.t _ _ ta, q1.mono le⟩
    · rw [sput_ne q] at e; exact Hw.s b ys e
end
end Mine

namespace Mine
open PySem PyProof.Rows

section
variable {prog : Program} {w : World} {hb : Heap} {mg mb : Str → Option Value} {n : Nat} {sc : Scope} {own : List Str} {ρ : Rho} {σ : Store}

/-! ## The frame of a comprehension -/
theorem cellsFrom_app : ∀ (names : List (Str × NameKind)) (k : Nat) (acc cl : List (Str × Addr)), cellsFrom k names (acc ++ cl) = cellsFrom k names acc ++ cl
  | [], _, _, _ => rfl
  | (x, kd) :: r, k, acc, cl => by
    unfold cellsFrom
    split
    · exact cellsFrom_app r (k + 1) ((x, k) :: acc) cl
    · exact cellsFrom_app r k acc cl

theorem lookup_app {x : Str} : ∀ (a b : List (Str × Addr)), (a ++ b).lookup x = match a.lookup x with | some c => some c | none => b.lookup x
  | [], b => rfl
  | (y, c) :: a, b => by
    rw [List.cons_append, List.lookup_cons, List.lookup_cons]
    split
    · rfl
    · exact lookup_app a b

noncomputable def closeAll (env : Env) : List (Str × NameKind) → List (Str × Addr) → List (Str × Addr)
  | [], acc => acc
  | (x, k) :: r, acc => if k == .free then closeAll env r ((x, (env.cells.lookup x).getD 0) :: acc) else closeAll env r acc

theorem closure_eq {env : Env} (f : Str × NameKind → List (Str × Addr) → Sem (ForInStep (List (Str × Addr))))
    (hf : ∀ x k r, f (x, k) r = if k == .free then (do let c ← cellOf env x; pure (.yield ((x, c) :: r))) else pure (.yield r)) :
    ∀ (names : List (Str × NameKind)) (acc : List (Str × Addr)), (∀ x, (x, NameKind.free) ∈ names → ∃ c, env.cells.lookup x = some c) → forIn names acc f = pure (closeAll env names acc)
  | [], acc, _ => rfl
  | (y, kd) :: r, acc, h => by
    rw [List.forIn_cons, hf]
    unfold closeAll
    split
    · rename_i hk
      obtain ⟨c, hc⟩ := h y (by rw [show kd = .free from beq_iff_eq.mp hk]; exact .head _)
      unfold cellOf
      rw [hc]
      simp only [pure_bind, Option.getD_some]
      exact closure_eq f hf r _ fun x hx => h x (.tail _ hx)
    · simp only [pure_bind]
      exact closure_eq f hf r _ fun x hx => h x (.tail _ hx)

theorem closeAll_sound {env : Env} {x : Str} {c : Addr} : ∀ (names : List (Str × NameKind)) (acc : List (Str × Addr)), (∀ x, (x, NameKind.free) ∈ names → ∃ c, env.cells.lookup x = some c) → (∀ c, acc.lookup x = some c → env.cells.lookup x = some c) →
    (closeAll env names acc).lookup x = some c → env.cells.lookup x = some c
  | [], acc, _, ha, e => ha c e
  | (y, kd) :: r, acc, h, ha, e => by
    unfold closeAll at e
    split at e
    · rename_i hk
      refine closeAll_sound r _ (fun x hx => h x (.tail _ hx)) (fun d q => ?_) e
      rw [List.lookup_cons] at q
      split at q
      · rename_i q2
        obtain ⟨d', hd⟩ := h y (by rw [show kd = .free from beq_iff_eq.mp hk]; exact .head _)
        cases q
        rw [beq_iff_eq.mp q2, hd]; rfl
      · exact ha d q
    · exact closeAll_sound r _ (fun x hx => h x (.tail _ hx)) ha e

theorem closeAll_mono {env : Env} {x : Str} : ∀ (names : List (Str × NameKind)) (acc : List (Str × Addr)), (∃ c, acc.lookup x = some c) → ∃ c, (closeAll env names acc).lookup x = some c
  | [], acc, ha => ha
  | (y, kd) :: r, acc, ha => by
    unfold closeAll
    split
    · refine closeAll_mono r _ ?_
      rw [List.lookup_cons]
      split
      · exact ⟨_, rfl⟩
      · exact ha
    · exact closeAll_mono r _ ha

theorem closeAll_has {env : Env} {x : Str} : ∀ (names : List (Str × NameKind)) (acc : List (Str × Addr)), (x, NameKind.free) ∈ names → ∃ c, (closeAll env names acc).lookup x = some c
  | (y, kd) :: r, acc, hx => by
    unfold closeAll
    rcases List.mem_cons.mp hx with e | hx
    · cases e
      rw [if_pos (by rfl)]
      exact closeAll_mono r _ ⟨_, by rw [List.lookup_cons]; simp; rfl⟩
    · split
      · exact closeAll_has r _ hx
      · exact closeAll_has r _ hx

theorem closure_ok {env : Env} {scope : Scope} (h : ∀ x, (x, NameKind.free) ∈ scope.names → ∃ c, env.cells.lookup x = some c) :
    ∃ cl, closureFor scope env = pure cl ∧ (∀ x c, cl.lookup x = some c → env.cells.lookup x = some c) ∧ (∀ x, (x, NameKind.free) ∈ scope.names → ∃ c, cl.lookup x = some c) := by
  refine ⟨closeAll env scope.names [], ?_, fun x c e => closeAll_sound scope.names [] h (fun _ q => by cases q) e, fun x hx => closeAll_has _ _ hx⟩
  unfold closureFor
  exact congrArg (fun m : Sem (List (Str × Addr)) => m >>= fun cs => pure cs) (closure_eq _ (fun x k r => by cases k <;> rfl) scope.names [] h)

/-- the scope of a comprehension, as it runs in a frame of scope sc -/
def relS (scope sc : Scope) : Scope := { scope with names := scope.names.map fun (n, k) => if (k == .free && sc.kind == .function && sc.names.lookup n == some .cell) then (n, .cell) else (n, k) }
theorem relS_eq {scope : Scope} {env : Env} : relabel scope env = relS scope env.scope := rfl

def compRho (scope : Scope) (ρ : Rho) : Rho := ρ.filter fun p => scope.names.lookup p.1 == some .free

theorem filter_lookup {x : Str} {v : AV} {f : Str → Bool} : ∀ {ρ : Rho}, (ρ.filter fun p => f p.1).lookup x = some v → ρ.lookup x = some v ∧ f x = true
  | [], h => by cases h
  | (y, u) :: r, h => by
    rw [List.filter_cons] at h
    split at h
    · rename_i q
      rw [List.lookup_cons] at h ⊢
      cases e : x == y with
      | true =>
        rw [e] at h; cases h
        rw [beq_iff_eq.mp e]; exact ⟨rfl, q⟩
      | false => rw [e] at h; exact filter_lookup h
    · rename_i q
      obtain ⟨a, b⟩ := filter_lookup h
      refine ⟨?_, b⟩
      rw [List.lookup_cons]
      cases e : x == y with
      | true => rw [beq_iff_eq.mp e] at b; exact absurd b q
      | false => exact a

/-- checked by computation: a comprehension's scope in a frame -/
def compOk (sc : Scope) (own : List Str) (ρ : Rho) (scope : Scope) : Bool :=
  decide (scope.kind = .function) && decide (scope.names.map (·.1)).Nodup && scope.names.all fun (x, k) =>
    k != .free || ((match sc.names.lookup x with | some .cell => true | some .free => true | _ => false) && (own.contains x || (ρ.lookup x).isSome))

theorem nodup_lookup {x : Str} {k : NameKind} : ∀ {l : List (Str × NameKind)}, (l.map (·.1)).Nodup → (x, k) ∈ l → l.lookup x = some k
  | (y, u) :: r, nd, h => by
    simp only [List.map_cons, List.nodup_cons] at nd
    rw [List.lookup_cons]
    rcases List.mem_cons.mp h with e | h
    · cases e; simp
    · cases q : x == y with
      | true => exact absurd (List.mem_map_of_mem (f := (·.1)) h) (by rw [show (x, k).1 = y from beq_iff_eq.mp q]; exact nd.1)
      | false => exact nodup_lookup nd.2 h

theorem mem_lookup {x : Str} {k : NameKind} : ∀ {l : List (Str × NameKind)}, l.lookup x = some k → (x, k) ∈ l
  | (y, u) :: r, h => by
    rw [List.lookup_cons] at h
    cases q : x == y with
    | true => rw [q] at h; cases h; rw [beq_iff_eq.mp q]; exact .head _
    | false => rw [q] at h; exact .tail _ (mem_lookup h)

theorem relS_lookup {scope sc : Scope} {x : Str} {k : NameKind} (h : scope.names.lookup x = some k) (hs : sc.kind = .function) :
    (relS scope sc).names.lookup x = some (if k = .free ∧ sc.names.lookup x = some .cell then .cell else k) := by
  unfold relS
  dsimp only
  revert h
  generalize scope.names = l
  intro h
  induction l with
  | nil => cases h
  | cons p r ih =>
    obtain ⟨y, u⟩ := p
    rw [List.lookup_cons] at h
    rw [List.map_cons]
    cases q : x == y with
    | true =>
      rw [q] at h; cases h
      have e := beq_iff_eq.mp q; subst e
      dsimp only
      split
      · rename_i hc
        simp only [hs, Bool.and_eq_true, beq_iff_eq, beq_self_eq_true, and_true] at hc
        rw [List.lookup_cons, q, if_pos hc]
      · rename_i hc
        simp only [hs, Bool.and_eq_true, beq_iff_eq, beq_self_eq_true, and_true] at hc
        rw [List.lookup_cons, q, if_neg hc]
    | false =>
      rw [q] at h
      dsimp only
      split <;> (rw [List.lookup_cons, q]; exact ih h)

theorem compEnv_new {A : Around} {env : Env} {scope : Scope} {κ τ : Part} {s : Shared} {cl : List (Str × Addr)} {Q : Env → Shared → Prop} {E : Value → Shared → Prop}
    (hok : compOk sc own ρ scope = true) (he : env.scope = sc) (H : HRel hb κ τ σ s.heap) (hcl1 : ∀ x c, cl.lookup x = some c → env.cells.lookup x = some c) (hcl2 : ∀ x, (x, NameKind.free) ∈ scope.names → ∃ c, cl.lookup x = some c)
    (hV : env.scope.kind = .function ∧ env.globals = mainGlobals ∧ env.builtins = builtinsNs) (hcells : ∀ x c, env.cells.lookup x = some c → κ c = none ∧ ∃ cv, s.heap.IsCell c cv)
    (hcel : ∀ x v, ρ.lookup x = some v → (env.kindOf x = some .cell ∨ env.kindOf x = some .free) → ∃ c v', env.cells.lookup x = some c ∧ s.heap.IsCell c (some v') ∧ VR κ v v')
    (hQ : ∀ (cenv : Env) h' m, (∀ b o, s.heap.get? b = some o → h'.get? b = some o) → s.heap.get? cenv.locals = none → h'.Ns cenv.locals m → ({ cenv with scope := relabel scope env } : Env).scope = relS scope sc → EnvR κ τ { cenv with scope := relabel scope env } (cellNames scope.names) (compRho scope ρ) h' → Q cenv { s with heap := h' }) :
    wpAny (model prog w) A (newFunctionEnv scope env.globals cl [] env.qual none .none (some env)) Q E s := by
  unfold compOk at hok
  simp only [Bool.and_eq_true, decide_eq_true_eq] at hok
  obtain ⟨⟨hk, nd⟩, hall⟩ := hok
  obtain ⟨hV1, hV2, hV3⟩ := hV
  simp only [newFunctionEnv, Option.isSome_some, if_true]
  refine wpAny_bind (wpAny_alloc ?_)
  refine wpAny_bind (wpAny_layCells _ (fun name kind cells => by cases kind <;> rfl) _ _ _ _ ?_)
  have e1 : ({ s with heap := s.heap.push { cls := .type "dict", data := .dict #[] } } : Shared).heap.objs.size = s.heap.objs.size + 1 := Heap.size_push ..
  rw [e1]
  rw [List.forIn_nil]
  refine wpAny_bind (wpAny_pure (wpAny_pure ?_))
  have ok := cellsFrom_ok scope.names (s.heap.push { cls := .type "dict", data := .dict #[] }) (s.heap.objs.size + 1) [] ⟨fun _ _ hm => (nomatch hm), List.Pairwise.nil⟩ (by rw [Heap.size_push]; exact Nat.le_refl _)
  rw [Heap.size_push] at ok
  have ecl : cellsFrom (s.heap.objs.size + 1) scope.names cl = cellsFrom (s.heap.objs.size + 1) scope.names [] ++ cl := by
    have := cellsFrom_app scope.names (s.heap.objs.size + 1) [] cl
    simpa using this
  have hkeep : ∀ b o, s.heap.get? b = some o → (pushCells (s.heap.push { cls := .type "dict", data := .dict #[] }) scope.names).get? b = some o := fun b o e => pushCells_keeps _ _ b o (Heap.get?_push_of_some _ e)
  have hL : s.heap.get? s.heap.objs.size = none := get_size
  have hNs := (Heap.Ns.new s.heap (.type "dict")).keeps (pushCells_keeps scope.names _)
  have look : ∀ x, (cellsFrom (s.heap.objs.size + 1) scope.names cl).lookup x = match (cellsFrom (s.heap.objs.size + 1) scope.names []).lookup x with | some c => some c | none => cl.lookup x := fun x => by rw [ecl, lookup_app]
  have ownNew : ∀ x c, (cellsFrom (s.heap.objs.size + 1) scope.names []).lookup x = some c → s.heap.get? c = none ∧ (pushCells (s.heap.push { cls := .type "dict", data := .dict #[] }) scope.names).IsCell c none := fun x c e => by
    obtain ⟨a, b⟩ := ok.empty x c (mem_of_lookup e)
    exact ⟨Heap.get?_none_of_le (Nat.le_of_succ_le b), a⟩
  have outOld : ∀ x c, cl.lookup x = some c → κ c = none ∧ ∃ cv, s.heap.IsCell c cv := fun x c e => hcells x c (hcl1 x c e)
  refine hQ _ _ (fun _ => none) hkeep hL hNs (by rw [relS_eq, he]) ?_
  have freeKind : ∀ x, scope.names.lookup x = some .free → (sc.names.lookup x = some .cell ∨ sc.names.lookup x = some .free) := fun x e => by
    have := List.all_eq_true.mp hall _ (mem_lookup e)
    simp only [bne_self_eq_false, Bool.false_or, Bool.and_eq_true] at this
    have t := this.1
    split at t
    · rename_i q; exact .inl q
    · rename_i q; exact .inr q
    · cases t
  have notOwn : ∀ x, scope.names.lookup x = some .free → (cellsFrom (s.heap.objs.size + 1) scope.names []).lookup x = none := fun x e => by
    cases q : (cellsFrom (s.heap.objs.size + 1) scope.names []).lookup x with
    | none => rfl
    | some c =>
      exfalso
      -- a cell's name is no free name
      have : ∀ (names : List (Str × NameKind)) (k : Nat) (acc : List (Str × Addr)), (∃ c, (cellsFrom k names acc).lookup x = some c) → (∃ c, acc.lookup x = some c) ∨ (x, NameKind.cell) ∈ names := by
        intro names
        induction names with
        | nil => intro k acc h; exact .inl h
        | cons p r ih =>
          obtain ⟨y, kd⟩ := p
          intro k acc h
          unfold cellsFrom at h
          split at h
          · rename_i hkc
            rcases ih _ _ h with ⟨c, hc⟩ | hm
            · rw [List.lookup_cons] at hc
              cases e2 : x == y with
              | true =>
                right
                rw [beq_iff_eq.mp e2, show kd = .cell from beq_iff_eq.mp hkc]; exact .head _
              | false => rw [e2] at hc; exact .inl ⟨c, hc⟩
            · exact .inr (.tail _ hm)
          · rcases ih _ _ h with q | hm
            · exact .inl q
            · exact .inr (.tail _ hm)
      rcases this _ _ _ ⟨c, q⟩ with ⟨c', hc'⟩ | hm
      · cases hc'
      · have := nodup_lookup nd hm; rw [e] at this; cases this
  refine ⟨hk, hV2, hV3, (H.fresh hL).1, (H.fresh hL).2.1, ⟨_, hNs, fun x v e kx => ?_⟩, fun x v e _ => ?_, fun x c e => ?_, fun x hx => ?_, fun x y c hx e1 e2 => ?_⟩
  · -- no local name is bound yet
    obtain ⟨_, hf⟩ := filter_lookup (f := fun x => scope.names.lookup x == some .free) e
    have hf' : scope.names.lookup x = some .free := by simpa using hf
    have kx' : (relS scope env.scope).names.lookup x = some .local := kx
    rw [relS_lookup hf' hV1] at kx'
    split at kx' <;> cases kx'
  · obtain ⟨e', hf⟩ := filter_lookup (f := fun x => scope.names.lookup x == some .free) e
    have hf' : scope.names.lookup x = some .free := by simpa using hf
    have fk : env.kindOf x = some .cell ∨ env.kindOf x = some .free := by
      have := freeKind x hf'
      rw [← he] at this; exact this
    obtain ⟨c, v', c1, c2, c3⟩ := hcel x v e' fk
    obtain ⟨d, hd⟩ := hcl2 x (mem_lookup hf')
    have : d = c := by have := hcl1 x d hd; rw [c1] at this; cases this; rfl
    subst this
    refine ⟨d, v', ?_, c2.keeps hkeep, c3⟩
    show (cellsFrom (s.heap.objs.size + 1) scope.names cl).lookup x = some d
    rw [look, notOwn x hf']; exact hd
  · have e' : (cellsFrom (s.heap.objs.size + 1) scope.names cl).lookup x = some c := e
    rw [look] at e'
    split at e'
    · rename_i q
      cases e'
      obtain ⟨a, b⟩ := ownNew x _ q
      exact ⟨(H.fresh a).1, none, b⟩
    · obtain ⟨a, cv, b⟩ := outOld x c e'
      exact ⟨a, cv, b.keeps hkeep⟩
  · obtain ⟨c, hc⟩ := cellNames_lookup (names := scope.names) (s.heap.objs.size + 1) [] hx
    refine ⟨c, ?_, (H.fresh (ownNew x c hc).1).2.1⟩
    show (cellsFrom (s.heap.objs.size + 1) scope.names cl).lookup x = some c
    rw [look, hc]
  · have e1' : (cellsFrom (s.heap.objs.size + 1) scope.names cl).lookup x = some c := e1
    have e2' : (cellsFrom (s.heap.objs.size + 1) scope.names cl).lookup y = some c := e2
    obtain ⟨c', hc⟩ := cellNames_lookup (names := scope.names) (s.heap.objs.size + 1) [] hx
    rw [look, hc] at e1'
    cases e1'
    rw [look] at e2'
    split at e2'
    · rename_i q
      cases e2'
      exact name_of_addr ok.apart (mem_of_lookup hc) (mem_of_lookup q)
    · exfalso
      obtain ⟨_, cv, o, eo, _⟩ := outOld y c e2'
      rw [(ownNew x c hc).1] at eo; cases eo
end
end Mine

namespace Mine
open PySem PyProof.Rows

section
variable {prog : Program} {w : World} {hb : Heap} {mg mb : Str → Option Value} {n : Nat} {sc : Scope} {own : List Str} {ρ : Rho} {σ : Store}

/-! ## The loop of a comprehension -/
def testsSem (ifs : List Expr) (env : Env) : Sem Bool := forIn ifs true fun c r => if r = true then do let ok ← isTrue c env (eval c env); pure (ForInStep.yield ok) else pure (ForInStep.yield r)

/-- the turn of the innermost clause -/
def TurnIs (e : Expr) (depth : Nat) (target elt : Expr) (ifs : List Expr) (p : Pos) : Prop :=
  ∀ (it acc : Value) (env : Env), compTurn e depth it acc env = (standAt p >>= fun _ => pyNext it >>= fun r => match r with
      | none => pure (.done .next)
      | some v => letOwnedTupleGo target it v >>= fun _ => assign target env v >>= fun _ => testsSem ifs env >>= fun ok =>
        if ok = true then ((eval elt env >>= fun x => call (.builtin "list.append") [acc, x] >>= fun _ => pure ()) >>= fun _ => again (.compLoop e depth it acc env)) else again (.compLoop e depth it acc env))

theorem turn_one (elt target iter : Expr) (ifs : List Expr) (scope : Scope) (pos : Pos) : TurnIs (.ListComp elt [⟨target, iter, ifs, 0⟩] scope pos) 0 target elt ifs iter.pos := fun _ _ _ => rfl
theorem turn_two (elt target iter : Expr) (ifs : List Expr) (g0 : Comprehension) (scope : Scope) (pos : Pos) : TurnIs (.ListComp elt [g0, ⟨target, iter, ifs, 0⟩] scope pos) 1 target elt ifs iter.pos := fun _ _ _ => rfl

theorem compLoop_F {elt0 : Expr} {gens : List Comprehension} {scope : Scope} {cpos : Pos} {depth : Nat} {target elt : Expr} {ifs : List Expr} {p : Pos} {A : Around} {R : Result → Shared → Prop} {it acc : Value} {env : Env} {s : Shared}
    (ht : TurnIs (.ListComp elt0 gens scope cpos) depth target elt ifs p) (I : Nat → Shared → Prop)
    (turn : ∀ n s, I n s → wpAny (model prog w) A (pyNext it) (fun r s1 => r = none ∧ R (.ok .next) s1) (fun _ _ => False) s ∨
      wpAny (model prog w) A (pyNext it) (fun r s1 => match r with | none => False | some v => wpAny (model prog w) A (letOwnedTupleGo target it v) (fun _ s1' =>
          wpAny (model prog w) A (assign target env v) (fun _ s₂ => wpAny (model prog w) A (testsSem ifs env) (fun ok s3 =>
            if ok = true then wpAny (model prog w) A (eval elt env) (fun x s4 => wpAny (model prog w) A (call (.builtin "list.append") [acc, x]) (fun _ s5 => ∃ m, m < n ∧ I m s5) (fun _ _ => False) s4) (fun _ _ => False) s3
            else ∃ m, m < n ∧ I m s3) (fun _ _ => False) s₂) (fun _ _ => False) s1') (fun _ _ => False) s1) (fun _ _ => False) s)
    (n : Nat) (h : I n s) : codeAny (model prog w) A (.compLoop (.ListComp elt0 gens scope cpos) depth it acc env) R s := by
  refine codeAny_loop rfl I (fun n s hI => ?_) n h
  show wpAny _ _ ((compTurn (.ListComp elt0 gens scope cpos) depth it acc env).onRaise (fun x => do noteFrame x env; theTreesLotGoes x)) _ _ s
  refine wpAny_noted ?_
  rw [ht]
  refine wpAny_bind (wpAny_standAt (wpAny_bind ?_))
  rcases turn n s hI with q | q
  · refine wpAny_mono q (fun r s1 hr => ?_) (fun _ _ f => f.elim)
    obtain ⟨rfl, hr⟩ := hr
    exact wpAny_pure hr
  · refine wpAny_mono q (fun r s1 hr => ?_) (fun _ _ f => f.elim)
    cases r with
    | none => exact hr.elim
    | some v =>
      refine wpAny_bind (wpAny_mono hr (fun _ s2 h2 => ?_) (fun _ _ f => f.elim))
      refine wpAny_bind (wpAny_mono h2 (fun _ s3 h3 => ?_) (fun _ _ f => f.elim))
      refine wpAny_bind (wpAny_mono h3 (fun ok s4 h4 => ?_) (fun _ _ f => f.elim))
      cases ok with
      | true =>
        refine wpAny_bind (wpAny_bind (wpAny_mono h4 (fun x s5 h5 => ?_) (fun _ _ f => f.elim)))
        refine wpAny_bind (wpAny_mono h5 (fun _ s6 h6 => ?_) (fun _ _ f => f.elim))
        exact wpAny_pure (wpAny_pure ⟨rfl, h6⟩)
      | false => exact wpAny_pure ⟨rfl, h4⟩

/-- one test or none -/
def wpTs (prog : Program) (w : World) (hb : Heap) (n : Nat) (sc : Scope) (own : List Str) (ρ : Rho) (σ : Store) (ifs : List Expr) (Φ : Bool → Store → Prop) : Prop :=
  match ifs with
  | [] => Φ true σ
  | [c] => wpT prog w hb n sc own ρ σ c Φ
  | _ => False

theorem wpTs_run {ifs : List Expr} {Φ : Bool → Store → Prop} (h : wpTs prog w hb n sc own ρ σ ifs Φ) (A : Around) (env : Env) (κ τ : Part) (s : Shared) (Q : Bool → Shared → Prop) (E : Value → Shared → Prop) (R : Room n A) (he : env.scope = sc) (H : HRel hb κ τ σ s.heap) (V : EnvR κ τ env own ρ s.heap)
    (hQ : PostT hb κ τ env own ρ s Φ Q) : wpAny (model prog w) A (testsSem ifs env) Q E s := by
  match ifs, h with
  | [], h => exact wpAny_tests_nil (hQ κ true σ s.heap s.toks (.refl _) H V h)
  | [c], h => exact wpAny_tests_one (h A env κ τ s Q E R he H V hQ)

/-- where a comprehension stands: its list at D holds acc -/
structure CompSt (hb : Heap) (κ τ : Part) (σ : Store) (cenv : Env) (own : List Str) (ρ : Rho) (D : Addr) (acc : List AV) (h : Heap) : Prop where
  rel : HRel hb κ τ σ h
  env : EnvR κ τ cenv own ρ h
  here : ∃ items m, h.get? D = some (LObj items m) ∧ VRs κ acc items
  dk : κ D = none
  dt : τ D = none
  ds : σ D = none

theorem CompSt.weakT {κ τ τ' : Part} {cenv : Env} {D : Addr} {acc : List AV} {h : Heap} (c : CompSt hb κ τ' σ cenv own ρ D acc h) (hl : PLe τ τ') : CompSt hb κ τ σ cenv own ρ D acc h :=
  ⟨c.rel.weakT hl, c.env.weakT hl, c.here, c.dk, (by
    cases q : τ D with
    | none => rfl
    | some o => have := hl _ _ q; rw [c.dt] at this; cases this), c.ds⟩

theorem inner_loop {elt0 : Expr} {gens : List Comprehension} {scope : Scope} {cpos : Pos} {depth : Nat} {target elt : Expr} {ifs : List Expr} {p : Pos} (ht : TurnIs (.ListComp elt0 gens scope cpos) depth target elt ifs p)
    {A : Around} {R : Result → Shared → Prop} {it D : Addr} {cenv : Env} {s : Shared} {κ1 κ τ τ0 : Part} {wr : List Addr} {xs : List AV} {St : Nat → Heap → Prop} {acc0 : List AV}
    (Rm : Room n A) (he : cenv.scope = sc) (Fd : Feeds prog w hb A it wr target κ1 τ0 xs St) (l1 : PLe κ1 κ) (l2 : PLe τ0 τ) (st : St 0 s.heap) (hw : ∀ b ∈ wr, κ b = none ∧ τ b = none) (c0 : CompSt hb κ τ σ cenv own ρ D acc0 s.heap)
    (J : Nat → List AV → Store → Prop) (j0 : J 0 acc0 σ)
    (jstep : ∀ i x acc σ', xs[i]? = some x → J i acc σ' → wpA prog w hb n sc own ρ σ' target x fun ρ2 σ2 => (∀ y u, ρ.lookup y = some u → ρ2.lookup y = some u) ∧ wpTs prog w hb n sc own ρ2 σ2 ifs fun b σ3 =>
      if b then wpE prog w hb n sc own ρ2 σ3 elt fun v σ4 => acc.length ≤ 1000000 ∧ J (i + 1) (acc ++ [v]) σ4 else J (i + 1) acc σ3)
    (hend : ∀ κ' σ' h' tk' acc, PLe κ κ' → CompSt hb κ' τ σ' cenv own ρ D acc h' → J xs.length acc σ' → R (.ok .next) { s with heap := h', toks := tk' }) :
    codeAny (model prog w) A (.compLoop (.ListComp elt0 gens scope cpos) depth (.ref it) (.ref D) cenv) R s := by
  refine compLoop_F ht (fun k s' => ∃ i acc σ' κ' h' tk', k = xs.length - i ∧ i ≤ xs.length ∧ s' = { s with heap := h', toks := tk' } ∧ PLe κ κ' ∧ CompSt hb κ' τ σ' cenv own ρ D acc h' ∧ St i h' ∧ (∀ b ∈ wr, κ' b = none ∧ τ b = none) ∧ J i acc σ') ?_ xs.length
    ⟨0, acc0, σ, κ, s.heap, s.toks, rfl, Nat.zero_le _, rfl, .refl _, c0, st, hw, j0⟩
  rintro k s' ⟨i, acc, σ', κ', h', tk', rfl, hi, rfl, lk, C, st', hw', j⟩
  obtain ⟨items0, m0, eD, rD⟩ := C.here
  have I' := Fd.live _ _ st'
  have hDw : D ∉ wr := fun q => by
    obtain ⟨o, vs, e, d⟩ := I' D q
    rw [eD] at e; cases e; cases d
  have hDL : cenv.locals ≠ D := fun q => by
    obtain ⟨mm, hn, _⟩ := C.env.loc
    obtain ⟨o, e, es, ep, d⟩ := Ns_get hn
    rw [q, eD] at e; cases e; cases d
  have hDc : ∀ x c, cenv.cells.lookup x = some c → c ≠ D := fun x c q e => by
    obtain ⟨_, cv, o, e2, d⟩ := C.env.cells x c q
    rw [e, eD] at e2; cases e2; cases d
  -- the list stands still while an item is drawn
  have HD : HRel hb κ' (tadd τ [D] h') σ' h' := C.rel.addT (fun b q => by cases List.mem_singleton.mp q; exact C.dk) (fun b q => by cases List.mem_singleton.mp q; exact C.ds)
  have VD : EnvR κ' (tadd τ [D] h') cenv own ρ h' := C.env.addT (fun q => hDL (List.mem_singleton.mp q)) (fun x c e q => hDc x c e (List.mem_singleton.mp q))
  have hleD : PLe τ (tadd τ [D] h') := tadd_le C.rel.t
  have inD : tadd τ [D] h' D = some (LObj items0 m0) := by rw [tadd_in (List.mem_singleton.mpr rfl)]; exact eD
  have hwD : ∀ b ∈ wr, κ' b = none ∧ tadd τ [D] h' b = none := fun b hb => ⟨(hw' b hb).1, by unfold tadd; rw [if_neg (fun q => hDw (by rw [← List.mem_singleton.mp q]; exact hb))]; exact (hw' b hb).2⟩
  by_cases hlt : i < xs.length
  · have hx : xs[i]? = some xs[i] := List.getElem?_eq_getElem hlt
    refine .inr (Fd.draw hx st' (l1.trans lk) (l2.trans hleD) HD VD hwD ?_)
    intro κ2 v h2 tk2 le2 H2 V2 hw2 r2 st2
    have I2 := Fd.live _ _ st2
    have hwT : ∀ b ∈ wr, κ2 b = none ∧ tadd τ [D] h' b = none := fun b hb => ⟨hw2 b hb, (hwD b hb).2⟩
    have Ht := H2.addT hw2 (I2.sigma H2)
    have Vt := V2.addT (I2.loc V2) (I2.cell V2)
    have hle2 : PLe (tadd τ [D] h') (tadd (tadd τ [D] h') wr h2) := tadd_le H2.t
    refine jstep i _ acc σ' hx j A cenv κ2 _ _ v _ _ Rm he Ht Vt r2 ?_
    intro κ3 ρ3 σ3 h3 tk3 le3 H3 V3 ⟨sub, g3⟩
    refine wpTs_run g3 A cenv κ3 _ _ _ _ Rm he H3 V3 ?_
    intro κ4 b σ4 h4 tk4 le4 H4 V4 g4
    have finish : ∀ κ5 σ5 h5 acc5, PLe κ4 κ5 → HRel hb κ5 (tadd (tadd τ [D] h') wr h2) σ5 h5 → EnvR κ5 (tadd (tadd τ [D] h') wr h2) cenv own ρ3 h5 → ∀ h6 tk6, (∃ its mm, h6.get? D = some (LObj its mm) ∧ VRs κ5 acc5 its) → (∀ b o, b ≠ D → h5.get? b = some o → h6.get? b = some o) → J (i + 1) acc5 σ5 →
        ∃ m, m < xs.length - i ∧ ∃ i acc σ' κ' h' tk', m = xs.length - i ∧ i ≤ xs.length ∧ ({ s with heap := h6, toks := tk6 } : Shared) = { s with heap := h', toks := tk' } ∧ PLe κ κ' ∧ CompSt hb κ' τ σ' cenv own ρ D acc h' ∧ St i h' ∧ (∀ b ∈ wr, κ' b = none ∧ τ b = none) ∧ J i acc σ' := by
      intro κ5 σ5 h5 acc5 le5 H5 V5 h6 tk6 here hk6 j5
      have tD : tadd (tadd τ [D] h') wr h2 D = some (LObj items0 m0) := hle2 _ _ inD
      have kD : κ5 D = none := H5.d _ _ tD
      have sD : σ5 D = none := by
        cases q : σ5 D with
        | none => rfl
        | some ys => have := (H5.s D ys q).2.1; rw [tD] at this; cases this
      have H5w : HRel hb κ5 τ σ5 h5 := (H5.weakT hle2).weakT hleD
      have V5w : EnvR κ5 τ cenv own ρ h5 := ((V5.weakT hle2).weakT hleD).weakRho sub
      have H6 : HRel hb κ5 τ σ5 h6 := ⟨H5w.base, fun b o e => hk6 b o (fun q => by rw [q, kD] at e; cases e) (H5w.k b o e), fun b o e => hk6 b o (fun q => by rw [q, C.dt] at e; cases e) (H5w.t b o e), H5w.d, fun b ys e => by
        obtain ⟨x, y, its, mm, e', r⟩ := H5w.s b ys e
        exact ⟨x, y, its, mm, hk6 b _ (fun q => by rw [q, sD] at e; cases e) e', r⟩⟩
      have V6 : EnvR κ5 τ cenv own ρ h6 := by
        obtain ⟨mm, hn, hm⟩ := V5w.loc
        refine ⟨V5w.kind, V5w.glob, V5w.blt, V5w.locK, V5w.locT, ⟨mm, hn.at' fun o e => hk6 _ o hDL e, hm⟩, fun x u e k => ?_, fun x c e => ?_, V5w.ownc, V5w.apart⟩
        · obtain ⟨c, u', e1, ⟨o, e2, d⟩, e3⟩ := V5w.cel x u e k
          exact ⟨c, u', e1, ⟨o, hk6 c o (hDc x c e1) e2, d⟩, e3⟩
        · obtain ⟨e1, cv, o, e2, d⟩ := V5w.cells x c e
          exact ⟨e1, cv, o, hk6 c o (hDc x c e) e2, d⟩
      have kw : ∀ b ∈ wr, ∀ o, h2.get? b = some o → h6.get? b = some o := fun b hb o e => hk6 b o (fun q => hDw (q ▸ hb)) (H5.t b o (by rw [tadd_in hb]; exact e))
      have lall : PLe κ κ5 := lk.trans (le2.trans (le3.trans (le4.trans le5)))
      have st6 : St (i + 1) h6 := Fd.frame _ _ _ st2 kw (fun b o e => H6.k b o (lall b o (l1 b o e))) (fun b o e => H6.t b o (l2 b o e))
      have hw6 : ∀ b ∈ wr, κ5 b = none ∧ τ b = none := fun b hb => by
        obtain ⟨o, vs, e, _⟩ := I2 b hb
        exact ⟨H5.d b o (by rw [tadd_in hb]; exact e), (hw b hb).2⟩
      exact ⟨xs.length - (i + 1), by omega, i + 1, acc5, σ5, κ5, h6, tk6, rfl, hlt, rfl, lall, ⟨H6, V6, here, kD, C.dt, sD⟩, st6, hw6, j5⟩
    have tD2 : tadd (tadd τ [D] h') wr h2 D = some (LObj items0 m0) := hle2 _ _ inD
    cases b with
    | false =>
      simp only [Bool.false_eq_true, if_false] at g4 ⊢
      exact finish κ4 σ4 h4 acc (.refl _) H4 V4 h4 tk4 ⟨items0, m0, H4.t _ _ tD2, rD.mono (le2.trans (le3.trans le4))⟩ (fun _ _ _ e => e) g4
    | true =>
      simp only [if_true] at g4 ⊢
      refine g4 A cenv κ4 _ _ _ _ Rm he H4 V4 ?_
      intro κ5 u u' σ5 h5 tk5 le5 H5 V5 r5 ⟨hlen, g5⟩
      have eD5 : h5.get? D = some (LObj items0 m0) := H5.t _ _ tD2
      have rD5 := rD.mono (le2.trans (le3.trans (le4.trans le5)))
      refine wpAny_list_append_plain (l := D) (items := items0.toArray) ⟨m0, eD5⟩ (fun h6 hp hs => ?_) (by simp only [List.size_toArray]; rw [← rD.length]; exact Nat.le_trans hlen (by decide))
      obtain ⟨m6, e6⟩ := hp
      refine finish κ5 σ5 h5 (acc ++ [u]) le5 H5 V5 h6 tk5 ⟨items0 ++ [u'], m6, by rw [e6]; simp, rD5.append (.cons r5 .nil)⟩ (fun b o hb e => (hs.2 b hb).trans e) g5
  · have hin : i = xs.length := by omega
    subst hin
    obtain ⟨H1t, backE⟩ := VD.lift HD
    refine .inl (Fd.done κ' _ σ' _ _ _ st' (l1.trans lk) (l2.trans (hleD.trans (frameT_le HD))) H1t (frameT_none I' VD hwD) fun h2 tk2 H2 => ⟨rfl, ?_⟩)
    obtain ⟨H3, V3⟩ := backE κ' σ' h2 (.refl _) H2
    exact hend κ' σ' h2 tk2 acc lk ⟨H3.weakT hleD, V3.weakT hleD, ⟨items0, m0, H3.t _ _ inD, rD⟩, C.dk, C.dt, C.ds⟩ j
end
end Mine

namespace Mine
open PySem PyProof.Rows

section
variable {prog : Program} {w : World} {hb : Heap} {mg mb : Str → Option Value} {n : Nat} {sc : Scope} {own : List Str} {ρ : Rho} {σ : Store}

/-- a clause's turns: what must be shown for the element -/
def CompStep (prog : Program) (w : World) (hb : Heap) (n : Nat) (sc : Scope) (own : List Str) (ρ : Rho) (target elt : Expr) (ifs : List Expr) (xs : List AV) (J : Nat → List AV → Store → Prop) : Prop :=
  ∀ i x acc σ', xs[i]? = some x → J i acc σ' → wpA prog w hb n sc own ρ σ' target x fun ρ2 σ2 => (∀ y u, ρ.lookup y = some u → ρ2.lookup y = some u) ∧ wpTs prog w hb n sc own ρ2 σ2 ifs fun b σ3 =>
      if b then wpE prog w hb n sc own ρ2 σ3 elt fun v σ4 => acc.length ≤ 1000000 ∧ J (i + 1) (acc ++ [v]) σ4 else J (i + 1) acc σ3

/-- the end of a comprehension, before its list is handed on -/
def CompEnd (prog : Program) (w : World) (hb : Heap) (A : Around) (κ τ : Part) (env : Env) (own : List Str) (ρ : Rho) (s : Shared) (Ψ : List AV → Store → Prop) (use : Option (Value → Sem Unit)) (Q E : Value → Shared → Prop) : Prop :=
  ∀ κ' σ' D C m h' tk' acc items mm, PLe κ κ' → HRel hb κ' τ σ' h' → EnvR κ' τ env own ρ h' → h'.get? D = some (LObj items mm) → VRs κ' acc items → κ' D = none → τ D = none → σ' D = none → h'.Ns C m → κ' C = none → τ C = none →
    C ≠ env.locals → (∀ x c, env.cells.lookup x = some c → c ≠ C) → Ψ acc σ' → compPost (model prog w) A E use Q (.ref D) C (.ok .next) { s with heap := h', toks := tk' }

theorem comp_enter {e : Expr} {scope : Scope} {pos : Pos} {g : Comprehension} {gs : List Comprehension} {use : Option (Value → Sem Unit)} {target : Expr} {Φ : List AV → Store → (Store → Store) → Prop} {Ψ : List AV → Store → Prop}
    (hcl : clausesOf e = g :: gs) (hok : compOk sc own ρ scope = true) (hfold : ∀ env x, foldedSetIterable g.iter env x = pure x)
    (h : wpI prog w hb n sc own ρ σ g.iter target Φ)
    {A : Around} {env : Env} {κ τ : Part} {s : Shared} {Q E : Value → Shared → Prop} (R : Room n A) (he : env.scope = sc) (H : HRel hb κ τ σ s.heap) (V : EnvR κ τ env own ρ s.heap)
    (hfin : CompEnd prog w hb A κ τ env own ρ s Ψ use Q E)
    (hrun : ∀ κ1 τ1 σ1 xs rest it wr St (cenv : Env) D h1 tk1 κ0, PLe κ κ0 → Feeds prog w hb A it wr target κ0 τ1 xs St → Φ xs σ1 rest → cenv.scope = relS scope sc → κ1 = κ0 → ∀ τ2, PLe τ1 τ2 → St 0 h1 → (∀ b ∈ wr, κ0 b = none ∧ τ2 b = none) →
      CompSt hb κ0 τ2 σ1 cenv (cellNames scope.names) (compRho scope ρ) D [] h1 → ∀ (K : Result → Shared → Prop),
      (∀ κ' σ' h' tk' acc, PLe κ0 κ' → CompSt hb κ' τ2 σ' cenv (cellNames scope.names) (compRho scope ρ) D acc h' → Ψ acc (rest σ') → K (.ok .next) { s with heap := h', toks := tk' }) →
      codeAny (model prog w) A (.compStart e 0 (.ref it) (.ref D) cenv) K { s with heap := h1, toks := tk1 }) :
    wpAny (model prog w) A (comprehension e scope env pos (newList []) false (eval g.iter env) use) Q E s := by
  have hok' := hok
  unfold compOk at hok'
  simp only [Bool.and_eq_true, decide_eq_true_eq] at hok'
  obtain ⟨⟨hk, nd⟩, hall⟩ := hok'
  have hfree : ∀ x, (x, NameKind.free) ∈ scope.names → ∃ c, env.cells.lookup x = some c := by
    intro x hx
    have := List.all_eq_true.mp hall _ hx
    simp only [bne_self_eq_false, Bool.false_or, Bool.and_eq_true, Bool.or_eq_true] at this
    obtain ⟨a, b⟩ := this
    have fk : env.kindOf x = some .cell ∨ env.kindOf x = some .free := by
      show env.scope.names.lookup x = _ ∨ env.scope.names.lookup x = _
      rw [he]
      split at a
      · rename_i q; exact .inl q
      · rename_i q; exact .inr q
      · cases a
    rcases b with b | b
    · obtain ⟨c, hc, _⟩ := V.ownc x (by simpa using b)
      exact ⟨c, hc⟩
    · obtain ⟨v, hv⟩ := Option.isSome_iff_exists.mp b
      obtain ⟨c, _, hc, _⟩ := V.cel x v hv fk
      exact ⟨c, hc⟩
  obtain ⟨cl, hclo, cl1, cl2⟩ := closure_ok hfree
  refine wpAny_comprehension_free hcl (hfold env) hclo hk (fun x hx hl => by obtain ⟨y, k⟩ := x; exact nodup_lookup nd (by rw [← (show k = .local from hl)]; exact hx)) ?_
  refine h A env κ τ s _ E R he H V ?_
  intro κ1 τ1 σ1 xs rest it wr St h1 tk1 l1 l2 H1 V1 Fd st hw hrest back hΦ
  obtain ⟨HE, backE⟩ := V1.lift H1
  have I1 := Fd.live _ _ st
  have hwE := frameT_none I1 V1 hw
  -- the new list
  refine wpAny_newObj_type ?_
  generalize hh2 : h1.push { cls := .type "list", dict := none, data := .seq ([] : List Value).toArray } = h2
  have k2 : ∀ b o, h1.get? b = some o → h2.get? b = some o := hh2 ▸ push_keeps _
  have eD : h2.get? h1.objs.size = some (LObj [] 0) := hh2 ▸ Heap.get?_push_size _ rfl
  have nD : h1.get? h1.objs.size = none := get_size
  have HE2 := HE.grow k2
  refine compEnv_new (κ := κ1) (τ := frameT τ1 env h1) (σ := σ1) (own := own) (ρ := ρ) hok he HE2 cl1 cl2 ⟨V1.kind, V1.glob, V1.blt⟩ (fun x c e => ?_) (fun x v e k => ?_) ?_
  · obtain ⟨a, cv, b⟩ := V1.cells x c e
    exact ⟨a, cv, b.keeps k2⟩
  · obtain ⟨c, v', e1, e2, e3⟩ := V1.cel x v e k
    exact ⟨c, v', e1, e2.keeps k2, e3⟩
  intro cenv h3 m k3 nC hNs hsc VC
  have HE3 := HE2.grow k3
  have hD3 : h3.get? h1.objs.size = some (LObj [] 0) := k3 _ _ eD
  have k13 : ∀ b o, h1.get? b = some o → h3.get? b = some o := fun b o e => k3 b o (k2 b o e)
  have st3 : St 0 h3 := Fd.frame _ _ _ st (fun b hb o e => k13 b o e) (fun b o e => k13 b o (H1.k b o e)) (fun b o e => k13 b o (H1.t b o e))
  have fD := HE.fresh nD
  have nC1 : h1.get? cenv.locals = none := by
    cases q : h1.get? cenv.locals with
    | none => rfl
    | some o => have := k2 _ _ q; have nC' : h2.get? cenv.locals = none := nC; rw [nC'] at this; cases this
  have fC := HE.fresh nC1
  have CS : CompSt hb κ1 (frameT τ1 env h1) σ1 { cenv with scope := relabel scope env } (cellNames scope.names) (compRho scope ρ) h1.objs.size [] h3 :=
    ⟨HE3, VC, ⟨[], 0, hD3, .nil⟩, fD.1, fD.2.1, fD.2.2⟩
  have := hrun κ1 τ1 σ1 xs rest it wr St { cenv with scope := relabel scope env } h1.objs.size h3 tk1 κ1 l1 Fd hΦ hsc rfl (frameT τ1 env h1) (frameT_le H1) st3 hwE CS (compPost (model prog w) A E use Q (.ref h1.objs.size) cenv.locals) ?_
  · exact this
  intro κ' σ' h' tk' acc lk C' hΨ
  obtain ⟨H4, V4⟩ := backE κ' σ' h' lk C'.rel
  have H5 := back κ' σ' h' lk H4
  obtain ⟨items, mm, e5, r5⟩ := C'.here
  obtain ⟨mC, hnC, _⟩ := C'.env.loc
  refine hfin κ' (rest σ') h1.objs.size cenv.locals mC h' tk' acc items mm (l1.trans lk) H5 (V4.weakT l2) e5 r5 C'.dk ?_ ?_ hnC C'.env.locK ?_ ?_ ?_ hΨ
  · cases q : τ h1.objs.size with
    | none => rfl
    | some o => have := frameT_le (env := env) H1 _ _ (l2 _ _ q); rw [fD.2.1] at this; cases this
  · rw [hrest σ' _ nD]; exact C'.ds
  · cases q : τ cenv.locals with
    | none => rfl
    | some o => have := frameT_le (env := env) H1 _ _ (l2 _ _ q); rw [fC.2.1] at this; cases this
  · intro q
    obtain ⟨mm', hn, _⟩ := V1.loc
    obtain ⟨o, eo, _⟩ := Ns_get hn
    rw [← q, nC1] at eo; cases eo
  · intro x c q e
    obtain ⟨_, cv, o, eo, _⟩ := V1.cells x c q
    rw [e, nC1] at eo; cases eo

/-- one clause -/
theorem comp_one {elt target iter : Expr} {ifs : List Expr} {scope : Scope} {pos p : Pos} {use : Option (Value → Sem Unit)} {Ψ : List AV → Store → Prop}
    (hok : compOk sc own ρ scope = true) (hfold : ∀ env x, foldedSetIterable iter env x = pure x)
    (h : wpI prog w hb n sc own ρ σ iter target fun xs σ1 rest => ∃ J : Nat → List AV → Store → Prop, J 0 [] σ1 ∧ CompStep prog w hb n (relS scope sc) (cellNames scope.names) (compRho scope ρ) target elt ifs xs J ∧ ∀ acc σ', J xs.length acc σ' → Ψ acc (rest σ'))
    {A : Around} {env : Env} {κ τ : Part} {s : Shared} {Q E : Value → Shared → Prop} (R : Room n A) (he : env.scope = sc) (H : HRel hb κ τ σ s.heap) (V : EnvR κ τ env own ρ s.heap)
    (hfin : CompEnd prog w hb A κ τ env own ρ s Ψ use Q E) :
    wpAny (model prog w) A (comprehension (.ListComp elt [⟨target, iter, ifs, 0⟩] scope pos) scope env p (newList []) false (eval iter env) use) Q E s := by
  refine comp_enter (g := ⟨target, iter, ifs, 0⟩) (gs := []) rfl hok hfold h R he H V hfin ?_
  intro κ1 τ1 σ1 xs rest it wr St cenv D h1 tk1 κ0 l0 Fd ⟨J, j0, jstep, jend⟩ hsc _ τ2 l2 st hw C K hK
  have loop : ∀ K : Result → Shared → Prop, (∀ κ' σ' h' tk' acc, PLe κ0 κ' → CompSt hb κ' τ2 σ' cenv (cellNames scope.names) (compRho scope ρ) D acc h' → Ψ acc (rest σ') → K (.ok .next) { s with heap := h', toks := tk' }) →
      codeAny (model prog w) A (.compLoop (.ListComp elt [⟨target, iter, ifs, 0⟩] scope pos) 0 (.ref it) (.ref D) cenv) K { s with heap := h1, toks := tk1 } := fun K hK =>
    inner_loop (turn_one elt target iter ifs scope pos) R hsc Fd (.refl _) l2 st hw C J j0 jstep fun κ' σ' h' tk' acc lk C' j => hK κ' σ' h' tk' acc lk C' (jend acc σ' j)
  exact codeAny_compStart_list (loop _ hK) (Fd.self 0 _ _ _ st (loop _ hK))

def gensOk (iter : Expr) : Prop := ∀ env x, foldedSetIterable iter env x = pure x

theorem wpE_Comp {elt target iter : Expr} {ifs : List Expr} {scope : Scope} {pos : Pos} {Φ : AV → Store → Prop} (hok : compOk sc own ρ scope = true) (hfold : gensOk iter)
    (h : wpI prog w hb n sc own ρ σ iter target fun xs σ1 rest => ∃ J : Nat → List AV → Store → Prop, J 0 [] σ1 ∧ CompStep prog w hb n (relS scope sc) (cellNames scope.names) (compRho scope ρ) target elt ifs xs J ∧ ∀ acc σ', J xs.length acc σ' → Φ (.list acc) (rest σ')) :
    wpE prog w hb n sc own ρ σ (.ListComp elt [⟨target, iter, ifs, 0⟩] scope pos) Φ := by
  intro A env κ τ s Q E R he H V hQ
  rw [eval_ListComp]
  refine comp_one (Ψ := fun acc σ' => Φ (.list acc) σ') hok hfold h R he H V ?_
  intro κ' σ' D C m h' tk' acc items mm lk H' V' e r dk dt ds hn ck ct cL cc hΨ
  refine ⟨m, hn, fun h'' hs => ?_⟩
  have cD : C ≠ D := fun q => by obtain ⟨o, eo, es, ep, d⟩ := Ns_get hn; rw [q, e] at eo; cases eo; cases d
  have Iz : HRel hb κ' τ σ' h'' := ⟨H'.base, fun b o q => (hs.2 b (fun z => by rw [z, ck] at q; cases q)).trans (H'.k b o q), fun b o q => (hs.2 b (fun z => by rw [z, ct] at q; cases q)).trans (H'.t b o q), H'.d, fun b ys q => by
    obtain ⟨a1, a2, its, k, e', r'⟩ := H'.s b ys q
    refine ⟨a1, a2, its, k, (hs.2 b (fun z => ?_)).trans e', r'⟩
    obtain ⟨o, eo, es, ep, d⟩ := Ns_get hn
    rw [z] at e'; rw [eo] at e'; cases e'; cases d⟩
  have Vz : EnvR κ' τ env own ρ h'' := by
    obtain ⟨mm', hnL, hm⟩ := V'.loc
    refine ⟨V'.kind, V'.glob, V'.blt, V'.locK, V'.locT, ⟨mm', hnL.sameBut hs cL.symm, hm⟩, fun x u e k => ?_, fun x c e => ?_, V'.ownc, V'.apart⟩
    · obtain ⟨c, u', e1, e2, e3⟩ := V'.cel x u e k
      exact ⟨c, u', e1, e2.sameBut hs (cc x c e1), e3⟩
    · obtain ⟨e1, cv, e2⟩ := V'.cells x c e
      exact ⟨e1, cv, e2.sameBut hs (cc x c e)⟩
  have e' : h''.get? D = some (LObj items mm) := (hs.2 D cD.symm).trans e
  have H3 := Iz.addK e' dk dt ds
  obtain ⟨Hl, backl⟩ := Vz.lift Iz
  have dF : frameT τ env h'' D = none := by
    unfold frameT
    rw [if_neg]
    · exact dt
    · rintro (q | ⟨x, q⟩)
      · obtain ⟨mm', hnL, _⟩ := Vz.loc
        obtain ⟨o, eo, es, ep, d⟩ := Ns_get hnL
        rw [← q, e'] at eo; cases eo; cases d
      · obtain ⟨_, cv, o, eo, d⟩ := Vz.cells x D q
        rw [e'] at eo; cases eo; cases d
  obtain ⟨H4, V4⟩ := backl _ _ _ (padd_le dk) (Hl.addK e' dk dF ds)
  exact hQ _ (.list acc) _ _ _ tk' (lk.trans (padd_le dk)) H4 V4 (.list padd_self (r.mono (padd_le dk))) hΨ
end
end Mine

namespace Mine
open PySem PyProof.Rows

section
variable {prog : Program} {w : World} {hb : Heap} {mg mb : Str → Option Value} {n : Nat} {sc : Scope} {own : List Str} {ρ : Rho} {σ : Store}

theorem comp_close {κ τ : Part} {env : Env} {C : Addr} {m : Str → Option Value} {h h' : Heap} (H : HRel hb κ τ σ h) (V : EnvR κ τ env own ρ h) (hn : h.Ns C m) (ck : κ C = none) (ct : τ C = none) (cL : C ≠ env.locals) (cc : ∀ x c, env.cells.lookup x = some c → c ≠ C)
    (hs : Heap.SameBut C h h') : HRel hb κ τ σ h' ∧ EnvR κ τ env own ρ h' := by
  refine ⟨⟨H.base, fun b o q => (hs.2 b (fun z => by rw [z, ck] at q; cases q)).trans (H.k b o q), fun b o q => (hs.2 b (fun z => by rw [z, ct] at q; cases q)).trans (H.t b o q), H.d, fun b ys q => ?_⟩, ?_⟩
  · obtain ⟨a1, a2, its, k, e', r'⟩ := H.s b ys q
    refine ⟨a1, a2, its, k, (hs.2 b (fun z => ?_)).trans e', r'⟩
    obtain ⟨o, eo, es, ep, d⟩ := Ns_get hn
    rw [z] at e'; rw [eo] at e'; cases e'; cases d
  · obtain ⟨mm', hnL, hm⟩ := V.loc
    refine ⟨V.kind, V.glob, V.blt, V.locK, V.locT, ⟨mm', hnL.sameBut hs cL.symm, hm⟩, fun x u e k => ?_, fun x c e => ?_, V.ownc, V.apart⟩
    · obtain ⟨c, u', e1, e2, e3⟩ := V.cel x u e k
      exact ⟨c, u', e1, e2.sameBut hs (cc x c e1), e3⟩
    · obtain ⟨e1, cv, e2⟩ := V.cells x c e
      exact ⟨e1, cv, e2.sameBut hs (cc x c e)⟩

theorem EnvR.addK {κ τ : Part} {env : Env} {D : Addr} {h : Heap} {items : List Value} {mm : Nat} (V : EnvR κ τ env own ρ h) (H : HRel hb κ τ σ h) (e : h.get? D = some (LObj items mm)) (dk : κ D = none) (dt : τ D = none) (ds : σ D = none) :
    HRel hb (padd κ D (LObj items mm)) τ σ h ∧ EnvR (padd κ D (LObj items mm)) τ env own ρ h := by
  obtain ⟨Hl, backl⟩ := V.lift H
  have dF : frameT τ env h D = none := by
    unfold frameT
    rw [if_neg]
    · exact dt
    · rintro (q | ⟨x, q⟩)
      · obtain ⟨mm', hnL, _⟩ := V.loc
        obtain ⟨o, eo, es, ep, d⟩ := Ns_get hnL
        rw [← q, e] at eo; cases eo; cases d
      · obtain ⟨_, cv, o, eo, d⟩ := V.cells x D q
        rw [e] at eo; cases eo; cases d
  exact backl _ _ _ (padd_le dk) (Hl.addK e dk dF ds)

theorem EnvR.addS {κ τ : Part} {env : Env} {D : Addr} {h : Heap} {items : List Value} {mm : Nat} {acc : List AV} (V : EnvR κ τ env own ρ h) (H : HRel hb κ τ σ h) (e : h.get? D = some (LObj items mm)) (dk : κ D = none) (dt : τ D = none) (r : VRs κ acc items) :
    HRel hb κ τ (sput σ D acc) h :=
  ⟨H.base, H.k, H.t, H.d, fun b ys q => by
    by_cases z : b = D
    · subst z; rw [sput_self] at q; cases q; exact ⟨dk, dt, items, mm, e, r⟩
    · rw [sput_ne z] at q; exact H.s b ys q⟩

def CompPre (prog : Program) (w : World) (hb : Heap) (n : Nat) (sc : Scope) (own : List Str) (ρ : Rho) (σ : Store) (elt target iter : Expr) (ifs : List Expr) (scope : Scope) (Ψ : List AV → Store → Prop) : Prop :=
  wpI prog w hb n sc own ρ σ iter target fun xs σ1 rest => ∃ J : Nat → List AV → Store → Prop, J 0 [] σ1 ∧ CompStep prog w hb n (relS scope sc) (cellNames scope.names) (compRho scope ρ) target elt ifs xs J ∧ ∀ acc σ', J xs.length acc σ' → Ψ acc (rest σ')

theorem wpE_Comp_loc {elt target iter : Expr} {ifs : List Expr} {scope : Scope} {pos : Pos} {Φ : AV → Store → Prop} (hok : compOk sc own ρ scope = true) (hfold : gensOk iter)
    (h : CompPre prog w hb n sc own ρ σ elt target iter ifs scope fun acc σ' => ∀ a, σ' a = none → Φ (.loc a) (sput σ' a acc)) :
    wpE prog w hb n sc own ρ σ (.ListComp elt [⟨target, iter, ifs, 0⟩] scope pos) Φ := by
  intro A env κ τ s Q E R he H V hQ
  rw [eval_ListComp]
  refine comp_one (Ψ := fun acc σ' => ∀ a, σ' a = none → Φ (.loc a) (sput σ' a acc)) hok hfold h R he H V ?_
  intro κ' σ' D C m h' tk' acc items mm lk H' V' e r dk dt ds hn ck ct cL cc hΨ
  refine ⟨m, hn, fun h'' hs => ?_⟩
  have cD : D ≠ C := fun q => by obtain ⟨o, eo, es, ep, d⟩ := Ns_get hn; rw [← q, e] at eo; cases eo; cases d
  obtain ⟨H2, V2⟩ := comp_close H' V' hn ck ct cL cc hs
  have e' : h''.get? D = some (LObj items mm) := (hs.2 D cD).trans e
  exact hQ κ' (.loc D) _ _ _ tk' lk (V2.addS H2 e' dk dt r) V2 (.loc _) (hΨ D ds)

/-- a comprehension bound to a name -/
theorem comp_bind {e : Expr} {scope : Scope} {x : Str} {px pos : Pos} {elt : Expr} {gens : List Comprehension} {cpos : Pos} {Φ : FL → Rho → Store → Prop} {Ψ : List AV → Store → Prop} (fz : Bool)
    (hsw : ∀ env : Env, env.scope = sc → swapsWith (.ListComp elt gens scope cpos) (some (.Name x px)) pos.line env = pure true) (hst : storeOk sc own x = true) (hia : firstAsync gens = false)
    (hrun : ∀ {A : Around} {env : Env} {κ τ : Part} {s : Shared} {use : Option (Value → Sem Unit)} {Q E : Value → Shared → Prop}, Room n A → env.scope = sc → HRel hb κ τ σ s.heap → EnvR κ τ env own ρ s.heap → CompEnd prog w hb A κ τ env own ρ s Ψ use Q E →
      wpAny (model prog w) A (comprehension (.ListComp elt gens scope cpos) scope env (firstIterPos gens cpos) (newList []) false (firstIter gens env) use) Q E s)
    (h : ∀ acc σ', Ψ acc σ' → if fz then Φ .next ((x, .list acc) :: ρ) σ' else ∀ a, σ' a = none → Φ .next ((x, .loc a) :: ρ) (sput σ' a acc)) :
    wpS prog w hb n sc own ρ σ (.Assign [.Name x px] (.ListComp elt gens scope cpos) pos) Φ := by
  intro A env κ τ s Q R he H V hQ
  rw [exec_Assign_Name_used _ _ _ _ (hsw env he)]
  refine wpAny_bind (wpAny_standAt (wpAny_bind ?_))
  show wpAny _ A (do let _ ← comprehension (.ListComp elt gens scope cpos) scope env (firstIterPos gens cpos) (newList []) (firstAsync gens) (firstIter gens env) (some (assign (.Name x px) env))) _ _ s
  rw [hia]
  refine wpAny_bind ?_
  refine wpAny_mono (hrun (use := some (assign (.Name x px) env)) (Q := fun _ s' => Q .next s') R he H V ?_) (fun _ s' q => wpAny_pure (wpAny_pure q)) (fun _ _ f => f)
  intro κ' σ' D C m h' tk' acc items mm lk H' V' e r dk dt ds hn ck ct cL cc hΨ
  have cD : D ≠ C := fun q => by obtain ⟨o, eo, es, ep, d⟩ := Ns_get hn; rw [← q, e] at eo; cases eo; cases d
  obtain ⟨oC, eC, esC, epC, dC⟩ := Ns_get hn
  have sC : σ' C = none := by
    cases q : σ' C with
    | none => rfl
    | some ys => obtain ⟨_, _, its, k, e', _⟩ := H'.s C ys q; rw [eC] at e'; cases e'; cases dC
  -- the list's place, with the comprehension's own names kept
  have fin : ∀ (κ2 : Part) (v : AV) (σ2 : Store), PLe κ' κ2 → HRel hb κ2 τ σ2 h' → EnvR κ2 τ env own ρ h' → κ2 C = none → σ2 C = none → VR κ2 v (.ref D) → Φ .next ((x, v) :: ρ) σ2 →
      wpAny (model prog w) A (assign (.Name x px) env (.ref D)) (fun _ s'' => ∃ m, s''.heap.Ns C m ∧ ∀ h', Heap.SameBut C s''.heap h' → Q .next { s'' with heap := h' }) (fun _ _ => False) { s with heap := h', toks := tk' } := by
    intro κ2 v σ2 l2 H2 V2 kC s2C rv hΦ
    have HC := H2.addT (wr := [C]) (fun b q => by cases List.mem_singleton.mp q; exact kC) (fun b q => by cases List.mem_singleton.mp q; exact s2C)
    have VC : EnvR κ2 (tadd τ [C] h') env own ρ h' := V2.addT (fun q => cL (List.mem_singleton.mp q).symm) (fun y c e q => cc y c e (List.mem_singleton.mp q))
    have inC : tadd τ [C] h' C = some oC := by rw [tadd_in (List.mem_singleton.mpr rfl)]; exact eC
    refine wpAny_assign_Name (bind_name (s := { s with heap := h', toks := tk' }) he hst HC VC rv fun h3 tk3 H3 V3 => ?_)
    have hn3 : h3.Ns C m := hn.at' fun o q => by rw [eC] at q; cases q; exact H3.t _ _ inC
    refine ⟨m, hn3, fun h4 hs => ?_⟩
    obtain ⟨H4, V4⟩ := comp_close (H3.weakT (tadd_le H2.t)) (V3.weakT (tadd_le H2.t)) hn3 kC ct cL cc hs
    exact hQ κ2 .next .next _ σ2 h4 tk3 (lk.trans l2) H4 V4 .next hΦ
  have hh := h acc σ' hΨ
  cases fz with
  | true =>
    simp only [if_true] at hh
    obtain ⟨H2, V2⟩ := V'.addK H' e dk dt ds
    exact fin _ (.list acc) σ' (padd_le dk) H2 V2 (by rw [padd_ne cD.symm]; exact ck) sC (.list padd_self (r.mono (padd_le dk))) hh
  | false =>
    simp only [Bool.false_eq_true, if_false] at hh
    exact fin κ' (.loc D) _ (.refl _) (V'.addS H' e dk dt r) V' ck (by rw [sput_ne cD.symm]; exact sC) (.loc _) (hh D ds)

theorem wpS_Assign_comp {elt target iter : Expr} {ifs : List Expr} {scope : Scope} {cpos : Pos} {x : Str} {px pos : Pos} {Φ : FL → Rho → Store → Prop}
    (hsw : ∀ env : Env, env.scope = sc → swapsWith (.ListComp elt [⟨target, iter, ifs, 0⟩] scope cpos) (some (.Name x px)) pos.line env = pure true) (hst : storeOk sc own x = true) (hok : compOk sc own ρ scope = true) (hfold : gensOk iter)
    (h : CompPre prog w hb n sc own ρ σ elt target iter ifs scope fun acc σ' => Φ .next ((x, .list acc) :: ρ) σ') :
    wpS prog w hb n sc own ρ σ (.Assign [.Name x px] (.ListComp elt [⟨target, iter, ifs, 0⟩] scope cpos) pos) Φ :=
  comp_bind (e := .Constant .none 0 pos) (Ψ := fun acc σ' => Φ .next ((x, .list acc) :: ρ) σ') true hsw hst rfl (fun R he H V hfin => comp_one hok hfold h R he H V hfin) fun acc σ' q => q

theorem wpS_Assign_comp_loc {elt target iter : Expr} {ifs : List Expr} {scope : Scope} {cpos : Pos} {x : Str} {px pos : Pos} {Φ : FL → Rho → Store → Prop}
    (hsw : ∀ env : Env, env.scope = sc → swapsWith (.ListComp elt [⟨target, iter, ifs, 0⟩] scope cpos) (some (.Name x px)) pos.line env = pure true) (hst : storeOk sc own x = true) (hok : compOk sc own ρ scope = true) (hfold : gensOk iter)
    (h : CompPre prog w hb n sc own ρ σ elt target iter ifs scope fun acc σ' => ∀ a, σ' a = none → Φ .next ((x, .loc a) :: ρ) (sput σ' a acc)) :
    wpS prog w hb n sc own ρ σ (.Assign [.Name x px] (.ListComp elt [⟨target, iter, ifs, 0⟩] scope cpos) pos) Φ :=
  comp_bind (e := .Constant .none 0 pos) (Ψ := fun acc σ' => ∀ a, σ' a = none → Φ .next ((x, .loc a) :: ρ) (sput σ' a acc)) false hsw hst rfl (fun R he H V hfin => comp_one (Ψ := fun acc σ' => ∀ a, σ' a = none → Φ .next ((x, .loc a) :: ρ) (sput σ' a acc)) hok hfold h R he H V hfin) fun acc σ' q => q

/-! ## Two clauses -/
theorem turn_outer (elt t0 i0 t1 i1 : Expr) (ifs1 : List Expr) (scope : Scope) (pos : Pos) (it acc : Value) (env : Env) :
    compTurn (.ListComp elt [⟨t0, i0, [], 0⟩, ⟨t1, i1, ifs1, 0⟩] scope pos) 0 it acc env = (standAt i0.pos >>= fun _ => pyNext it >>= fun r => match r with
      | none => pure (.done .next)
      | some v => letOwnedTupleGo t0 it v >>= fun _ => assign t0 env v >>= fun _ => eval i1 env >>= fun x => standAt i1.pos >>= fun _ => foldedSetIterable i1 env x >>= fun x => (holding [x] (pyIter x)) >>= fun it1 =>
        runOwn (.compStart (.ListComp elt [⟨t0, i0, [], 0⟩, ⟨t1, i1, ifs1, 0⟩] scope pos) 1 it1 acc env) env >>= fun _ => again (.compLoop (.ListComp elt [⟨t0, i0, [], 0⟩, ⟨t1, i1, ifs1, 0⟩] scope pos) 0 it acc env)) := by rfl

theorem it_frozen {v : AV} {xs : List AV} {tgt : Expr} (ht : plainTgt tgt) (hv : v = .list xs ∨ v = .tup xs) {A : Around} {κ τ : Part} {s : Shared} {v' : Value} {Q E : Value → Shared → Prop} (hh : A.handled = none) (H : HRel hb κ τ σ s.heap) (r : VR κ v v')
    (hQ : ∀ it wr St h', (∀ b o, s.heap.get? b = some o → h'.get? b = some o) → Feeds prog w hb A it wr tgt κ τ xs St → St 0 h' → (∀ b ∈ wr, s.heap.get? b = none) → Q (.ref it) { s with heap := h' }) : wpAny (model prog w) A (pyIter v') Q E s := by
  have n0 : s.heap.get? s.heap.objs.size = none := get_size
  rcases hv with rfl | rfl
  · cases r with | @list a items m _ e r =>
    have e' := H.k _ _ e
    refine wpAny_pyIter_list (LObj.isList e') ?_
    have hne : a ≠ s.heap.objs.size := Nat.ne_of_lt (Heap.lt_size e')
    have hk := push_keeps (h := s.heap) { cls := .type "list_iterator", data := .fields #[.ref a, .int ((0 : Nat) : Int) 0] }
    refine hQ _ _ _ _ hk (Feeds.of_walks (Walks.list (A := A) hh s.heap.objs.size a hne items.toArray) (ht _) (by simp [r.length]) ?_ ?_ ?_) ⟨⟨⟨_, Heap.get?_push_size _ rfl, rfl, rfl⟩, (LObj.isList e').push _⟩, fun b o q => hk b o (H.k b o q), fun b o q => hk b o (H.t b o q)⟩ ?_
    · intro i x v hx hp
      obtain ⟨u, e1, e2⟩ := r.get hx
      have hp' : items[i]? = some v := by simpa using hp
      rw [hp'] at e1; cases e1; exact e2
    · rintro i h' ⟨⟨o, e1, e2, e3⟩, _⟩ b hb
      cases List.mem_singleton.mp hb
      exact ⟨o, _, e1, e3⟩
    · intro b hb
      rcases List.mem_cons.mp hb with rfl | hb
      · exact .inl (List.mem_singleton.mpr rfl)
      · cases List.mem_singleton.mp hb; exact .inr (.inl (by rw [e]; rfl))
    · intro b hb
      cases List.mem_singleton.mp hb
      exact n0
  · cases r with | @tup a items m _ e r =>
    have e' := H.k _ _ e
    refine wpAny_pyIter_tuple (TObj.isTuple e') ?_
    have hne : a ≠ s.heap.objs.size := Nat.ne_of_lt (Heap.lt_size e')
    have hk := push_keeps (h := s.heap) { cls := .type "tuple_iterator", data := .fields #[.ref a, .int ((0 : Nat) : Int) 0] }
    refine hQ _ _ _ _ hk (Feeds.of_walks (Walks.tuple (A := A) hh s.heap.objs.size a hne items.toArray) (ht _) (by simp [r.length]) ?_ ?_ ?_) ⟨⟨⟨_, Heap.get?_push_size _ rfl, rfl, rfl⟩, (TObj.isTuple e').push _⟩, fun b o q => hk b o (H.k b o q), fun b o q => hk b o (H.t b o q)⟩ ?_
    · intro i x v hx hp
      obtain ⟨u, e1, e2⟩ := r.get hx
      have hp' : items[i]? = some v := by simpa using hp
      rw [hp'] at e1; cases e1; exact e2
    · rintro i h' ⟨⟨o, e1, e2, e3⟩, _⟩ b hb
      cases List.mem_singleton.mp hb
      exact ⟨o, _, e1, e3⟩
    · intro b hb
      rcases List.mem_cons.mp hb with rfl | hb
      · exact .inl (List.mem_singleton.mpr rfl)
      · cases List.mem_singleton.mp hb; exact .inr (.inl (by rw [e]; rfl))
    · intro b hb
      cases List.mem_singleton.mp hb
      exact n0

theorem compStart_any {elt : Expr} {gens : List Comprehension} {g : Comprehension} {depth : Nat} {scope : Scope} {pos : Pos} {it acc : Value} {env : Env} {A : Around} {R : Result → Shared → Prop} {s : Shared} (hg : gens[depth]? = some g) (ha : g.is_async = 0)
    (h0 : codeAny (model prog w) A (.compLoop (.ListComp elt gens scope pos) depth it acc env) R s)
    (h : wpAny (model prog w) A (pyIter it) (fun it' s' => codeAny (model prog w) A (.compLoop (.ListComp elt gens scope pos) depth it' acc env) R s') (fun _ _ => False) s) :
    codeAny (model prog w) A (.compStart (.ListComp elt gens scope pos) depth it acc env) R s := by
  refine codeAny_of_tree ?_
  show wpAny _ _ ((compStart (.ListComp elt gens scope pos) depth it acc env).onRaise (fun x => do noteFrame x env; standAt theWindowsPlace)) _ _ s
  refine wpAny_notedAt ?_
  unfold compStart
  have e1 : (clausesOf (.ListComp elt gens scope pos))[depth]? = some g := hg
  rw [e1]
  have e2 : ((some g).elim false fun x => x.is_async != 0) = false := by simp [ha]
  rw [e2]
  simp only [Bool.false_eq_true, if_false]
  first
    | refine wpAny_bind (wpAny_pure ?_)
    | skip
  refine wpAny_bind (wpAny_askSetting ?_)
  refine wpAny_ite ?_
  split
  · first
      | exact wpAny_pure (And.intro rfl h0)
      | exact wpAny_bind (wpAny_pure (wpAny_pure (And.intro rfl h0)))
  · first
      | exact wpAny_bind (wpAny_rule (wpAny_bind (wpAny_standAt (wpAny_bind (wpAny_mono h (fun it' s' h' => wpAny_pure (And.intro rfl h')) fun _ _ f => f.elim)))))
      | exact wpAny_bind (wpAny_pure (wpAny_bind (wpAny_rule (wpAny_bind (wpAny_standAt (wpAny_bind (wpAny_mono h (fun it' s' h' => wpAny_pure (And.intro rfl h')) fun _ _ f => f.elim)))))))
end
end Mine

namespace Mine
open PySem PyProof.Rows

section
variable {prog : Program} {w : World} {hb : Heap} {mg mb : Str → Option Value} {n : Nat} {sc : Scope} {own : List Str} {ρ : Rho} {σ : Store}

theorem tadd_mono {τ τ' : Part} {wr : List Addr} {h : Heap} (hl : PLe τ τ') : PLe (tadd τ wr h) (tadd τ' wr h) := by
  intro a o e
  unfold tadd at e ⊢
  split
  · rename_i q; rw [if_pos q] at e; exact e
  · rename_i q; rw [if_neg q] at e; exact hl a o e

theorem compOuter_F {elt t0 i0 t1 i1 : Expr} {ifs1 : List Expr} {scope : Scope} {cpos : Pos} {A : Around} {R : Result → Shared → Prop} {it acc : Value} {env : Env} {s : Shared} (hfold : gensOk i1) (I : Nat → Shared → Prop)
    (turn : ∀ n s, I n s → wpAny (model prog w) A (pyNext it) (fun r s1 => r = none ∧ R (.ok .next) s1) (fun _ _ => False) s ∨
      wpAny (model prog w) A (pyNext it) (fun r s1 => match r with | none => False | some v => wpAny (model prog w) A (letOwnedTupleGo t0 it v) (fun _ s1' =>
          wpAny (model prog w) A (assign t0 env v) (fun _ s₂ => wpAny (model prog w) A (eval i1 env) (fun x s3 => wpAny (model prog w) A (pyIter x) (fun it1 s4 =>
            codeAny (model prog w) A (.compStart (.ListComp elt [⟨t0, i0, [], 0⟩, ⟨t1, i1, ifs1, 0⟩] scope cpos) 1 it1 acc env) (fun r s5 => match r with | .ok _ => ∃ m, m < n ∧ I m s5 | .error _ => False) s4) (fun _ _ => False) s3) (fun _ _ => False) s₂) (fun _ _ => False) s1') (fun _ _ => False) s1) (fun _ _ => False) s)
    (n : Nat) (h : I n s) : codeAny (model prog w) A (.compLoop (.ListComp elt [⟨t0, i0, [], 0⟩, ⟨t1, i1, ifs1, 0⟩] scope cpos) 0 it acc env) R s := by
  refine codeAny_loop rfl I (fun n s hI => ?_) n h
  show wpAny _ _ ((compTurn (.ListComp elt [⟨t0, i0, [], 0⟩, ⟨t1, i1, ifs1, 0⟩] scope cpos) 0 it acc env).onRaise (fun x => do noteFrame x env; theTreesLotGoes x)) _ _ s
  refine wpAny_noted ?_
  rw [turn_outer]
  refine wpAny_bind (wpAny_standAt (wpAny_bind ?_))
  rcases turn n s hI with q | q
  · refine wpAny_mono q (fun r s1 hr => ?_) (fun _ _ f => f.elim)
    obtain ⟨rfl, hr⟩ := hr
    exact wpAny_pure hr
  · refine wpAny_mono q (fun r s1 hr => ?_) (fun _ _ f => f.elim)
    cases r with
    | none => exact hr.elim
    | some v =>
      refine wpAny_bind (wpAny_mono hr (fun _ s2 h2 => ?_) (fun _ _ f => f.elim))
      refine wpAny_bind (wpAny_mono h2 (fun _ s3 h3 => ?_) (fun _ _ f => f.elim))
      refine wpAny_bind (wpAny_mono h3 (fun x s4 h4 => ?_) (fun _ _ f => f.elim))
      refine wpAny_bind (wpAny_standAt (wpAny_bind (wpAny_of_eq (hfold env x) ?_)))
      refine wpAny_bind (wpAny_holding (wpAny_mono h4 (fun it1 s5 h5 => ?_) (fun _ _ f => f.elim)))
      refine wpAny_bind (wpAny_runOwn (codeAny_mono h5 fun r s6 h6 => ?_))
      cases r with
      | ok f => exact wpAny_pure ⟨rfl, h6⟩
      | error e => exact h6.elim

theorem outer_loop {elt t0 i0 t1 i1 : Expr} {ifs1 : List Expr} {scope : Scope} {cpos : Pos} (hfold : gensOk i1) (ht1 : plainTgt t1)
    {A : Around} {R : Result → Shared → Prop} {it D : Addr} {cenv : Env} {s : Shared} {κ1 κ τ τ0 : Part} {wr : List Addr} {xs : List AV} {St : Nat → Heap → Prop} {acc0 : List AV}
    (Rm : Room n A) (he : cenv.scope = sc) (Fd : Feeds prog w hb A it wr t0 κ1 τ0 xs St) (l1 : PLe κ1 κ) (l2 : PLe τ0 τ) (st : St 0 s.heap) (hw : ∀ b ∈ wr, κ b = none ∧ τ b = none) (c0 : CompSt hb κ τ σ cenv own ρ D acc0 s.heap)
    (J : Nat → List AV → Store → Prop) (j0 : J 0 acc0 σ)
    (jstep : ∀ i x acc σ', xs[i]? = some x → J i acc σ' → wpA prog w hb n sc own ρ σ' t0 x fun ρ2 σ2 => (∀ y u, ρ.lookup y = some u → ρ2.lookup y = some u) ∧ wpE prog w hb n sc own ρ2 σ2 i1 fun v σ3 =>
      ∃ ys, (v = .list ys ∨ v = .tup ys) ∧ ∃ J2 : Nat → List AV → Store → Prop, J2 0 acc σ3 ∧ CompStep prog w hb n sc own ρ2 t1 elt ifs1 ys J2 ∧ ∀ acc' σ', J2 ys.length acc' σ' → J (i + 1) acc' σ')
    (hend : ∀ κ' σ' h' tk' acc, PLe κ κ' → CompSt hb κ' τ σ' cenv own ρ D acc h' → J xs.length acc σ' → R (.ok .next) { s with heap := h', toks := tk' }) :
    codeAny (model prog w) A (.compLoop (.ListComp elt [⟨t0, i0, [], 0⟩, ⟨t1, i1, ifs1, 0⟩] scope cpos) 0 (.ref it) (.ref D) cenv) R s := by
  refine compOuter_F hfold (fun k s' => ∃ i acc σ' κ' h' tk', k = xs.length - i ∧ i ≤ xs.length ∧ s' = { s with heap := h', toks := tk' } ∧ PLe κ κ' ∧ CompSt hb κ' τ σ' cenv own ρ D acc h' ∧ St i h' ∧ (∀ b ∈ wr, κ' b = none ∧ τ b = none) ∧ J i acc σ') ?_ xs.length
    ⟨0, acc0, σ, κ, s.heap, s.toks, rfl, Nat.zero_le _, rfl, .refl _, c0, st, hw, j0⟩
  rintro k s' ⟨i, acc, σ', κ', h', tk', rfl, hi, rfl, lk, C, st', hw', j⟩
  obtain ⟨items0, m0, eD, rD⟩ := C.here
  have I' := Fd.live _ _ st'
  have hDw : D ∉ wr := fun q => by
    obtain ⟨o, vs, e, d⟩ := I' D q
    rw [eD] at e; cases e; cases d
  have hDL : cenv.locals ≠ D := fun q => by
    obtain ⟨mm, hn, _⟩ := C.env.loc
    obtain ⟨o, e, es, ep, d⟩ := Ns_get hn
    rw [q, eD] at e; cases e; cases d
  have hDc : ∀ x c, cenv.cells.lookup x = some c → c ≠ D := fun x c q e => by
    obtain ⟨_, cv, o, e2, d⟩ := C.env.cells x c q
    rw [e, eD] at e2; cases e2; cases d
  have HD : HRel hb κ' (tadd τ [D] h') σ' h' := C.rel.addT (fun b q => by cases List.mem_singleton.mp q; exact C.dk) (fun b q => by cases List.mem_singleton.mp q; exact C.ds)
  have VD : EnvR κ' (tadd τ [D] h') cenv own ρ h' := C.env.addT (fun q => hDL (List.mem_singleton.mp q)) (fun x c e q => hDc x c e (List.mem_singleton.mp q))
  have hleD : PLe τ (tadd τ [D] h') := tadd_le C.rel.t
  have inD : tadd τ [D] h' D = some (LObj items0 m0) := by rw [tadd_in (List.mem_singleton.mpr rfl)]; exact eD
  have hwD : ∀ b ∈ wr, κ' b = none ∧ tadd τ [D] h' b = none := fun b hb => ⟨(hw' b hb).1, by unfold tadd; rw [if_neg (fun q => hDw (by rw [← List.mem_singleton.mp q]; exact hb))]; exact (hw' b hb).2⟩
  by_cases hlt : i < xs.length
  · have hx : xs[i]? = some xs[i] := List.getElem?_eq_getElem hlt
    refine .inr (Fd.draw hx st' (l1.trans lk) (l2.trans hleD) HD VD hwD ?_)
    intro κ2 v h2 tk2 le2 H2 V2 hw2 r2 st2
    have I2 := Fd.live _ _ st2
    have Ht := H2.addT hw2 (I2.sigma H2)
    have Vt := V2.addT (I2.loc V2) (I2.cell V2)
    have hle2 : PLe (tadd τ [D] h') (tadd (tadd τ [D] h') wr h2) := tadd_le H2.t
    refine jstep i _ acc σ' hx j A cenv κ2 _ _ v _ _ Rm he Ht Vt r2 ?_
    intro κ3 ρ3 σ3 h3 tk3 le3 H3 V3 ⟨sub, g3⟩
    refine g3 A cenv κ3 _ _ _ _ Rm he H3 V3 ?_
    intro κ4 v4 v4' σ4 h4 tk4 le4 H4 V4 r4 ⟨ys, hv, J2, j20, j2step, j2end⟩
    -- the list's place is let go again
    have tD2 : tadd (tadd τ [D] h') wr h2 D = some (LObj items0 m0) := hle2 _ _ inD
    have eD4 : h4.get? D = some (LObj items0 m0) := H4.t _ _ tD2
    have kD4 : κ4 D = none := H4.d _ _ tD2
    have sD4 : σ4 D = none := by
      cases q : σ4 D with
      | none => rfl
      | some ys => have := (H4.s D ys q).2.1; rw [tD2] at this; cases this
    have hlw : PLe (tadd τ wr h2) (tadd (tadd τ [D] h') wr h2) := tadd_mono hleD
    have H4w := H4.weakT hlw
    have V4w := V4.weakT hlw
    have tw : PLe τ (tadd τ wr h2) := tadd_le (H2.weakT hleD).t
    have dtw : tadd τ wr h2 D = none := by unfold tadd; rw [if_neg hDw]; exact C.dt
    refine it_frozen ht1 hv Rm.1 H4w r4 fun it1 wr1 St1 h5 hk5 Fd1 st1 hn1 => ?_
    obtain ⟨H5, V5⟩ := V4w.grow H4w hk5
    have hw1 : ∀ b ∈ wr1, κ4 b = none ∧ tadd τ wr h2 b = none := fun b hb => ⟨(H4w.fresh (hn1 b hb)).1, (H4w.fresh (hn1 b hb)).2.1⟩
    have C5 : CompSt hb κ4 (tadd τ wr h2) σ4 cenv own ρ3 D acc h5 := ⟨H5, V5, ⟨items0, m0, hk5 _ _ eD4, rD.mono (le2.trans (le3.trans le4))⟩, kD4, dtw, sD4⟩
    have loop : ∀ K : Result → Shared → Prop, (∀ κ6 σ6 h6 tk6 acc6, PLe κ4 κ6 → CompSt hb κ6 (tadd τ wr h2) σ6 cenv own ρ3 D acc6 h6 → J2 ys.length acc6 σ6 → K (.ok .next) { s with heap := h6, toks := tk6 }) →
        codeAny (model prog w) A (.compLoop (.ListComp elt [⟨t0, i0, [], 0⟩, ⟨t1, i1, ifs1, 0⟩] scope cpos) 1 (.ref it1) (.ref D) cenv) K { s with heap := h5, toks := tk4 } := fun K hK =>
      inner_loop (turn_two elt t1 i1 ifs1 ⟨t0, i0, [], 0⟩ scope cpos) Rm he Fd1 (.refl _) (.refl _) st1 hw1 C5 J2 j20 j2step fun κ6 σ6 h6 tk6 acc6 lk6 C6 j6 => hK κ6 σ6 h6 tk6 acc6 lk6 C6 j6
    have hK : ∀ κ6 σ6 h6 tk6 acc6, PLe κ4 κ6 → CompSt hb κ6 (tadd τ wr h2) σ6 cenv own ρ3 D acc6 h6 → J2 ys.length acc6 σ6 →
        ∃ m, m < xs.length - i ∧ ∃ i acc σ' κ' h' tk', m = xs.length - i ∧ i ≤ xs.length ∧ ({ s with heap := h6, toks := tk6 } : Shared) = { s with heap := h', toks := tk' } ∧ PLe κ κ' ∧ CompSt hb κ' τ σ' cenv own ρ D acc h' ∧ St i h' ∧ (∀ b ∈ wr, κ' b = none ∧ τ b = none) ∧ J i acc σ' := by
      intro κ6 σ6 h6 tk6 acc6 lk6 C6 j6
      have kw : ∀ b ∈ wr, ∀ o, h2.get? b = some o → h6.get? b = some o := fun b hb o e => C6.rel.t b o (by rw [tadd_in hb]; exact e)
      have lall : PLe κ κ6 := lk.trans (le2.trans (le3.trans (le4.trans lk6)))
      have H6 := C6.rel.weakT tw
      have st6 : St (i + 1) h6 := Fd.frame _ _ _ st2 kw (fun b o e => H6.k b o (lall b o (l1 b o e))) (fun b o e => H6.t b o (l2 b o e))
      have hw6 : ∀ b ∈ wr, κ6 b = none ∧ τ b = none := fun b hb => by
        obtain ⟨o, vs, e, _⟩ := I2 b hb
        exact ⟨C6.rel.d b o (by rw [tadd_in hb]; exact e), (hw b hb).2⟩
      exact ⟨xs.length - (i + 1), by omega, i + 1, acc6, σ6, κ6, h6, tk6, rfl, hlt, rfl, lall, ⟨H6, (C6.env.weakT tw).weakRho sub, C6.here, C6.dk, C.dt, C6.ds⟩, st6, hw6, j2end acc6 σ6 j6⟩
    exact compStart_any (g := ⟨t1, i1, ifs1, 0⟩) rfl rfl (loop _ hK) (Fd1.self 0 _ _ _ st1 (loop _ hK))
  · have hin : i = xs.length := by omega
    subst hin
    obtain ⟨H1t, backE⟩ := VD.lift HD
    refine .inl (Fd.done κ' _ σ' _ _ _ st' (l1.trans lk) (l2.trans (hleD.trans (frameT_le HD))) H1t (frameT_none I' VD hwD) fun h2 tk2 H2 => ⟨rfl, ?_⟩)
    obtain ⟨H3, V3⟩ := backE κ' σ' h2 (.refl _) H2
    exact hend κ' σ' h2 tk2 acc lk ⟨H3.weakT hleD, V3.weakT hleD, ⟨items0, m0, H3.t _ _ inD, rD⟩, C.dk, C.dt, C.ds⟩ j

def CompPre2 (prog : Program) (w : World) (hb : Heap) (n : Nat) (sc : Scope) (own : List Str) (ρ : Rho) (σ : Store) (elt t0 i0 t1 i1 : Expr) (ifs1 : List Expr) (scope : Scope) (Ψ : List AV → Store → Prop) : Prop :=
  wpI prog w hb n sc own ρ σ i0 t0 fun xs σ1 rest => ∃ J : Nat → List AV → Store → Prop, J 0 [] σ1 ∧
    (∀ i x acc σ', xs[i]? = some x → J i acc σ' → wpA prog w hb n (relS scope sc) (cellNames scope.names) (compRho scope ρ) σ' t0 x fun ρ2 σ2 => (∀ y u, (compRho scope ρ).lookup y = some u → ρ2.lookup y = some u) ∧ wpE prog w hb n (relS scope sc) (cellNames scope.names) ρ2 σ2 i1 fun v σ3 =>
      ∃ ys, (v = .list ys ∨ v = .tup ys) ∧ ∃ J2 : Nat → List AV → Store → Prop, J2 0 acc σ3 ∧ CompStep prog w hb n (relS scope sc) (cellNames scope.names) ρ2 t1 elt ifs1 ys J2 ∧ ∀ acc' σ', J2 ys.length acc' σ' → J (i + 1) acc' σ') ∧
    ∀ acc σ', J xs.length acc σ' → Ψ acc (rest σ')

theorem comp_two {elt t0 i0 t1 i1 : Expr} {ifs1 : List Expr} {scope : Scope} {pos p : Pos} {use : Option (Value → Sem Unit)} {Ψ : List AV → Store → Prop}
    (hok : compOk sc own ρ scope = true) (hf0 : gensOk i0) (hf1 : gensOk i1) (ht1 : plainTgt t1) (h : CompPre2 prog w hb n sc own ρ σ elt t0 i0 t1 i1 ifs1 scope Ψ)
    {A : Around} {env : Env} {κ τ : Part} {s : Shared} {Q E : Value → Shared → Prop} (R : Room n A) (he : env.scope = sc) (H : HRel hb κ τ σ s.heap) (V : EnvR κ τ env own ρ s.heap)
    (hfin : CompEnd prog w hb A κ τ env own ρ s Ψ use Q E) :
    wpAny (model prog w) A (comprehension (.ListComp elt [⟨t0, i0, [], 0⟩, ⟨t1, i1, ifs1, 0⟩] scope pos) scope env p (newList []) false (eval i0 env) use) Q E s := by
  refine comp_enter (g := ⟨t0, i0, [], 0⟩) (gs := [⟨t1, i1, ifs1, 0⟩]) rfl hok hf0 h R he H V hfin ?_
  intro κ1 τ1 σ1 xs rest it wr St cenv D h1 tk1 κ0 l0 Fd ⟨J, j0, jstep, jend⟩ hsc _ τ2 l2 st hw C K hK
  have loop : ∀ K : Result → Shared → Prop, (∀ κ' σ' h' tk' acc, PLe κ0 κ' → CompSt hb κ' τ2 σ' cenv (cellNames scope.names) (compRho scope ρ) D acc h' → Ψ acc (rest σ') → K (.ok .next) { s with heap := h', toks := tk' }) →
      codeAny (model prog w) A (.compLoop (.ListComp elt [⟨t0, i0, [], 0⟩, ⟨t1, i1, ifs1, 0⟩] scope pos) 0 (.ref it) (.ref D) cenv) K { s with heap := h1, toks := tk1 } := fun K hK =>
    outer_loop hf1 ht1 R hsc Fd (.refl _) l2 st hw C J j0 jstep fun κ' σ' h' tk' acc lk C' j => hK κ' σ' h' tk' acc lk C' (jend acc σ' j)
  exact codeAny_compStart_list (loop _ hK) (Fd.self 0 _ _ _ st (loop _ hK))

theorem wpE_Comp2 {elt t0 i0 t1 i1 : Expr} {ifs1 : List Expr} {scope : Scope} {pos : Pos} {Φ : AV → Store → Prop} (hok : compOk sc own ρ scope = true) (hf0 : gensOk i0) (hf1 : gensOk i1) (ht1 : plainTgt t1)
    (h : CompPre2 prog w hb n sc own ρ σ elt t0 i0 t1 i1 ifs1 scope fun acc σ' => Φ (.list acc) σ') :
    wpE prog w hb n sc own ρ σ (.ListComp elt [⟨t0, i0, [], 0⟩, ⟨t1, i1, ifs1, 0⟩] scope pos) Φ := by
  intro A env κ τ s Q E R he H V hQ
  rw [eval_ListComp]
  refine comp_two (Ψ := fun acc σ' => Φ (.list acc) σ') hok hf0 hf1 ht1 h R he H V ?_
  intro κ' σ' D C m h' tk' acc items mm lk H' V' e r dk dt ds hn ck ct cL cc hΨ
  refine ⟨m, hn, fun h'' hs => ?_⟩
  have cD : D ≠ C := fun q => by obtain ⟨o, eo, es, ep, d⟩ := Ns_get hn; rw [← q, e] at eo; cases eo; cases d
  obtain ⟨H2, V2⟩ := comp_close H' V' hn ck ct cL cc hs
  have e' : h''.get? D = some (LObj items mm) := (hs.2 D cD).trans e
  obtain ⟨H3, V3⟩ := V2.addK H2 e' dk dt ds
  exact hQ _ (.list acc) _ _ _ tk' (lk.trans (padd_le dk)) H3 V3 (.list padd_self (r.mono (padd_le dk))) hΨ

theorem wpS_Assign_comp2 {elt t0 i0 t1 i1 : Expr} {ifs1 : List Expr} {scope : Scope} {cpos : Pos} {x : Str} {px pos : Pos} {Φ : FL → Rho → Store → Prop}
    (hsw : ∀ env : Env, env.scope = sc → swapsWith (.ListComp elt [⟨t0, i0, [], 0⟩, ⟨t1, i1, ifs1, 0⟩] scope cpos) (some (.Name x px)) pos.line env = pure true) (hst : storeOk sc own x = true) (hok : compOk sc own ρ scope = true) (hf0 : gensOk i0) (hf1 : gensOk i1) (ht1 : plainTgt t1)
    (h : CompPre2 prog w hb n sc own ρ σ elt t0 i0 t1 i1 ifs1 scope fun acc σ' => Φ .next ((x, .list acc) :: ρ) σ') :
    wpS prog w hb n sc own ρ σ (.Assign [.Name x px] (.ListComp elt [⟨t0, i0, [], 0⟩, ⟨t1, i1, ifs1, 0⟩] scope cpos) pos) Φ :=
  comp_bind (e := .Constant .none 0 pos) (Ψ := fun acc σ' => Φ .next ((x, .list acc) :: ρ) σ') true hsw hst rfl (fun R he H V hfin => comp_two (Ψ := fun acc σ' => Φ .next ((x, .list acc) :: ρ) σ') hok hf0 hf1 ht1 h R he H V hfin) fun acc σ' q => q

/-! ## What was made may be frozen -/
mutual
inductive Res (σ : Store) (σ0 : Store) : AV → AV → Prop
  | same (v : AV) : Res σ σ0 v v
  | loc {a xs ys} : σ a = some xs → σ0 a = none → Ress σ σ0 xs ys → Res σ σ0 (.loc a) (.list ys)
  | tup {xs ys} : Ress σ σ0 xs ys → Res σ σ0 (.tup xs) (.tup ys)
  | list {xs ys} : Ress σ σ0 xs ys → Res σ σ0 (.list xs) (.list ys)
inductive Ress (σ : Store) (σ0 : Store) : List AV → List AV → Prop
  | nil : Ress σ σ0 [] []
  | cons {x y xs ys} : Res σ σ0 x y → Ress σ σ0 xs ys → Ress σ σ0 (x :: xs) (y :: ys)
end

theorem Ress.same {σ σ0 : Store} : ∀ (xs : List AV), Ress σ σ0 xs xs
  | [] => .nil
  | x :: xs => .cons (.same x) (Ress.same xs)

open Classical in
noncomputable def frz (κ : Part) (σ σ0 : Store) (h : Heap) : Part := fun a => if (σ a).isSome = true ∧ σ0 a = none then h.get? a else κ a

section
variable {κ τ : Part} {h : Heap} {σ0 : Store}
theorem frz_le (H : HRel hb κ τ σ h) : PLe κ (frz κ σ σ0 h) := by
  intro a o e
  unfold frz
  split
  · rename_i q
    obtain ⟨xs, q⟩ := Option.isSome_iff_exists.mp q.1
    rw [(H.s a xs q).1] at e; cases e
  · exact e
theorem HRel.frz (H : HRel hb κ τ σ h) (hs : ∀ a xs, σ0 a = some xs → σ a = some xs) : HRel hb (frz κ σ σ0 h) τ σ0 h := by
  refine ⟨fun a o e => frz_le H a o (H.base a o e), fun a o e => ?_, H.t, fun a o e => ?_, fun a xs e => ?_⟩
  · unfold Mine.frz at e
    split at e
    · exact e
    · exact H.k a o e
  · unfold Mine.frz
    rw [if_neg]
    · exact H.d a o e
    · rintro ⟨q, _⟩
      obtain ⟨xs, q⟩ := Option.isSome_iff_exists.mp q
      rw [(H.s a xs q).2.1] at e; cases e
  · obtain ⟨x, y, items, m, e', r⟩ := H.s a xs (hs a xs e)
    refine ⟨?_, y, items, m, e', r.mono (frz_le H)⟩
    unfold Mine.frz
    rw [if_neg (fun q => by rw [q.2] at e; cases e)]
    exact x
mutual
theorem VR.frz (H : HRel hb κ τ σ h) : ∀ {v w : AV} {x : Value}, Res σ σ0 v w → VR κ v x → VR (frz κ σ σ0 h) w x
  | _, _, _, .same v, r => r.mono (frz_le H)
  | _, _, _, .loc (a := a) e1 e2 rs, .loc _ => by
    obtain ⟨_, _, items, m, e', r⟩ := H.s a _ e1
    refine .list (items := items) (n := m) ?_ (VRs.frz H rs r)
    unfold Mine.frz
    rw [if_pos ⟨by rw [e1]; rfl, e2⟩]; exact e'
  | _, _, _, .tup rs, .tup e r => .tup (frz_le H _ _ e) (VRs.frz H rs r)
  | _, _, _, .list rs, .list e r => .list (frz_le H _ _ e) (VRs.frz H rs r)
theorem VRs.frz (H : HRel hb κ τ σ h) : ∀ {vs ws : List AV} {xs : List Value}, Ress σ σ0 vs ws → VRs κ vs xs → VRs (frz κ σ σ0 h) ws xs
  | _, _, _, .nil, .nil => .nil
  | _, _, _, .cons a b, .cons r s => .cons (VR.frz H a r) (VRs.frz H b s)
end
end

theorem wpV_freeze {f : List Value → Sem Value} {vs : List AV} {Ψ : AV → Store → Prop} (h : wpV prog w hb n σ f vs fun v σ' => ∃ (σ0 : Store) (u : AV), (∀ a xs, σ0 a = some xs → σ' a = some xs) ∧ Res σ' σ0 v u ∧ Ψ u σ0) : wpV prog w hb n σ f vs Ψ := by
  intro A κ τ s vs' Q E R H r hQ
  refine h A κ τ s vs' Q E R H r fun κ' v v' σ' h' tk' le H' r' ⟨σ0, u, hs, hr, hΨ⟩ => ?_
  exact hQ _ u v' σ0 h' tk' (le.trans (frz_le H')) (H'.frz hs) (VR.frz H' hr r') hΨ

theorem wpF_freeze {x : Str} {vs : List AV} {Ψ : AV → Store → Prop} (h : wpF prog w hb mg n σ x vs fun v σ' => ∃ (σ0 : Store) (u : AV), (∀ a xs, σ0 a = some xs → σ' a = some xs) ∧ Res σ' σ0 v u ∧ Ψ u σ0) : wpF prog w hb mg n σ x vs Ψ :=
  fun a ha => wpV_freeze (h a ha)
end
end Mine

namespace Mine
open PySem PyProof.Rows

section
variable {prog : Program} {w : World} {hb : Heap} {mg mb : Str → Option Value} {n : Nat} {sc : Scope} {own : List Str} {ρ : Rho} {σ : Store}

theorem wpS_If' {t : Expr} {b o : List Stmt} {pos : Pos} {Φ : FL → Rho → Store → Prop} (B : Bool) (ht : wpT prog w hb n sc own ρ σ t fun k σ1 => k = B ∧ σ1 = σ)
    (h1 : B = true → wpSs prog w hb n sc own ρ σ b Φ) (h0 : B = false → wpSs prog w hb n sc own ρ σ o Φ) : wpS prog w hb n sc own ρ σ (.If t b o pos) Φ := by
  refine wpS_If (wpT_mono ht fun k σ1 ⟨e1, e2⟩ => ?_)
  subst e1 e2
  cases k with
  | true => exact h1 rfl
  | false => exact h0 rfl
theorem wpT_Or' {x y : Expr} {pos : Pos} {Φ : Bool → Store → Prop} (B C : Bool) (hx : wpT prog w hb n sc own ρ σ x fun k σ1 => k = B ∧ σ1 = σ) (hy : B = false → wpT prog w hb n sc own ρ σ y fun k σ1 => k = C ∧ σ1 = σ) (h : Φ (B || C) σ) :
    wpT prog w hb n sc own ρ σ (.BoolOp .Or [x, y] pos) Φ := by
  refine wpT_Or (wpT_mono hx fun k σ1 ⟨e1, e2⟩ => ?_)
  subst e1 e2
  cases k with
  | true => simpa using h
  | false => exact wpT_mono (hy rfl) fun k σ1 ⟨e1, e2⟩ => by subst e1 e2; simpa using h
theorem wpT_And' {x y : Expr} {pos : Pos} {Φ : Bool → Store → Prop} (B C : Bool) (hx : wpT prog w hb n sc own ρ σ x fun k σ1 => k = B ∧ σ1 = σ) (hy : B = true → wpT prog w hb n sc own ρ σ y fun k σ1 => k = C ∧ σ1 = σ) (h : Φ (B && C) σ) :
    wpT prog w hb n sc own ρ σ (.BoolOp .And [x, y] pos) Φ := by
  refine wpT_And (wpT_mono hx fun k σ1 ⟨e1, e2⟩ => ?_)
  subst e1 e2
  cases k with
  | false => simpa using h
  | true => exact wpT_mono (hy rfl) fun k σ1 ⟨e1, e2⟩ => by subst e1 e2; simpa using h
theorem wpE_And' {x y : Expr} {pos : Pos} {Φ : AV → Store → Prop} (B C : Bool) (hx : wpE prog w hb n sc own ρ σ x fun v σ1 => v = .bool B ∧ σ1 = σ) (hy : B = true → wpE prog w hb n sc own ρ σ y fun v σ1 => v = .bool C ∧ σ1 = σ) (h : Φ (.bool (B && C)) σ) :
    wpE prog w hb n sc own ρ σ (.BoolOp .And [x, y] pos) Φ := by
  refine wpE_And (wpE_mono hx fun v σ1 ⟨e1, e2⟩ => ?_)
  subst e1 e2
  refine t_bool ?_
  cases B with
  | false => simpa using h
  | true => exact wpE_mono (hy rfl) fun v σ1 ⟨e1, e2⟩ => by subst e1 e2; simpa using h
theorem wpE_IfExp' {t x y : Expr} {pos : Pos} {Φ : AV → Store → Prop} (B : Bool) (ht : wpT prog w hb n sc own ρ σ t fun k σ1 => k = B ∧ σ1 = σ)
    (h1 : B = true → wpE prog w hb n sc own ρ σ x Φ) (h0 : B = false → wpE prog w hb n sc own ρ σ y Φ) : wpE prog w hb n sc own ρ σ (.IfExp t x y pos) Φ := by
  refine wpE_IfExp (wpT_mono ht fun k σ1 ⟨e1, e2⟩ => ?_)
  subst e1 e2
  cases k with
  | true => exact h1 rfl
  | false => exact h0 rfl

theorem map_range_snoc {α : Type} (f : Nat → α) (i : Nat) : (List.range i).map f ++ [f i] = (List.range (i + 1)).map f := by
  rw [List.range_succ, List.map_append]; rfl

theorem wpE_CompP {elt target iter : Expr} {ifs : List Expr} {scope : Scope} {pos : Pos} {Φ : AV → Store → Prop} (hok : compOk sc own ρ scope = true) (hfold : gensOk iter)
    (h : CompPre prog w hb n sc own ρ σ elt target iter ifs scope fun acc σ' => Φ (.list acc) σ') :
    wpE prog w hb n sc own ρ σ (.ListComp elt [⟨target, iter, ifs, 0⟩] scope pos) Φ := wpE_Comp hok hfold h

/-- each element by itself -/
theorem compPre_map {elt iter : Expr} {x : Str} {px : Pos} {scope : Scope} {Ψ : List AV → Store → Prop} (hst : storeOk (relS scope sc) (cellNames scope.names) x = true) (hx : (compRho scope ρ).lookup x = none)
    (h : wpI prog w hb n sc own ρ σ iter (.Name x px) fun xs σ1 rest => xs.length ≤ 1000000 ∧ ∃ f : Nat → AV, (∀ i y, xs[i]? = some y → wpE prog w hb n (relS scope sc) (cellNames scope.names) ((x, y) :: compRho scope ρ) σ1 elt fun v σ' => v = f i ∧ σ' = σ1) ∧ Ψ ((List.range xs.length).map f) (rest σ1)) :
    CompPre prog w hb n sc own ρ σ elt (.Name x px) iter [] scope Ψ := by
  intro A env κ τ s Q E R he H V hQ
  refine h A env κ τ s Q E R he H V fun κ1 τ1 σ1 xs rest it wr St h' tk' a b c d e f g hr back ⟨hl, F, step, fin⟩ => hQ κ1 τ1 σ1 xs rest it wr St h' tk' a b c d e f g hr back ?_
  refine ⟨fun i acc σ' => acc = (List.range i).map F ∧ σ' = σ1, ⟨rfl, rfl⟩, ?_, ?_⟩
  · rintro i y acc σ' hy ⟨rfl, rfl⟩
    refine wpA_name hst ⟨(Sub.refl _).cons hx, ?_⟩
    simp only [wpTs, if_true]
    refine wpE_mono (step i y hy) fun v σ' ⟨e1, e2⟩ => ⟨?_, ?_, e2⟩
    · have := (List.getElem?_eq_some_iff.mp hy).1
      simp only [List.length_map, List.length_range]; omega
    · rw [e1, map_range_snoc]
  · rintro acc σ' ⟨rfl, rfl⟩; exact fin

/-- each element by itself, made new, over lists that change -/
theorem compPre_fold {elt iter : Expr} {x : Str} {px : Pos} {scope : Scope} {Ψ : List AV → Store → Prop} (hst : storeOk (relS scope sc) (cellNames scope.names) x = true) (hx : (compRho scope ρ).lookup x = none)
    (h : wpI prog w hb n sc own ρ σ iter (.Name x px) fun xs σ1 rest => xs.length ≤ 1000000 ∧ ∃ J : Nat → List AV → Store → Prop, J 0 [] σ1 ∧ (∀ i y acc σ', xs[i]? = some y → acc.length = i → J i acc σ' → wpE prog w hb n (relS scope sc) (cellNames scope.names) ((x, y) :: compRho scope ρ) σ' elt fun v σ2 => J (i + 1) (acc ++ [v]) σ2) ∧
      ∀ acc σ', acc.length = xs.length → J xs.length acc σ' → Ψ acc (rest σ')) :
    CompPre prog w hb n sc own ρ σ elt (.Name x px) iter [] scope Ψ := by
  intro A env κ τ s Q E R he H V hQ
  refine h A env κ τ s Q E R he H V fun κ1 τ1 σ1 xs rest it wr St h' tk' a b c d e f g hr back ⟨hl, J, j0, step, fin⟩ => hQ κ1 τ1 σ1 xs rest it wr St h' tk' a b c d e f g hr back ?_
  refine ⟨fun i acc σ' => acc.length = i ∧ J i acc σ', ⟨rfl, j0⟩, ?_, ?_⟩
  · rintro i y acc σ' hy ⟨rfl, j⟩
    refine wpA_name hst ⟨(Sub.refl _).cons hx, ?_⟩
    simp only [wpTs, if_true]
    refine wpE_mono (step _ y acc σ' hy rfl j) fun v σ' j' => ⟨?_, by simp, j'⟩
    have := (List.getElem?_eq_some_iff.mp hy).1
    omega
  · rintro acc σ' ⟨hl, j⟩; exact fin acc σ' hl j

/-- the items that pass a test -/
theorem compPre_filter {elt iter c : Expr} {x : Str} {px : Pos} {scope : Scope} {Ψ : List AV → Store → Prop} (hst : storeOk (relS scope sc) (cellNames scope.names) x = true) (hx : (compRho scope ρ).lookup x = none)
    (h : wpI prog w hb n sc own ρ σ iter (.Name x px) fun xs σ1 rest => xs.length ≤ 1000000 ∧ ∃ (p : Nat → Bool) (f : Nat → AV), (∀ i y, xs[i]? = some y → wpT prog w hb n (relS scope sc) (cellNames scope.names) ((x, y) :: compRho scope ρ) σ1 c fun b σ2 => b = p i ∧ σ2 = σ1 ∧
        (p i = true → wpE prog w hb n (relS scope sc) (cellNames scope.names) ((x, y) :: compRho scope ρ) σ1 elt fun v σ' => v = f i ∧ σ' = σ1)) ∧ Ψ (((List.range xs.length).filter p).map f) (rest σ1)) :
    CompPre prog w hb n sc own ρ σ elt (.Name x px) iter [c] scope Ψ := by
  intro A env κ τ s Q E R he H V hQ
  refine h A env κ τ s Q E R he H V fun κ1 τ1 σ1 xs rest it wr St h' tk' a b c d e f g hr back ⟨hl, p, F, step, fin⟩ => hQ κ1 τ1 σ1 xs rest it wr St h' tk' a b c d e f g hr back ?_
  refine ⟨fun i acc σ' => acc = ((List.range i).filter p).map F ∧ σ' = σ1, ⟨rfl, rfl⟩, ?_, ?_⟩
  · rintro i y acc σ' hy ⟨rfl, rfl⟩
    refine wpA_name hst ⟨(Sub.refl _).cons hx, ?_⟩
    refine wpT_mono (step i y hy) fun b σ2 ⟨e1, e2, e3⟩ => ?_
    subst e1 e2
    cases hp : p i with
    | true =>
      simp only [if_true]
      refine wpE_mono (e3 hp) fun v σ' ⟨e1, e2⟩ => ⟨?_, ?_, e2⟩
      · have := (List.getElem?_eq_some_iff.mp hy).1
        have h2 := List.length_filter_le p (List.range i)
        simp only [List.length_map]
        rw [List.length_range] at h2; omega
      · rw [e1, List.range_succ, List.filter_append, List.map_append]; simp [hp]
    | false =>
      simp only [Bool.false_eq_true, if_false]
      refine ⟨?_, trivial⟩
      rw [List.range_succ, List.filter_append, List.map_append]; simp [hp]
  · rintro acc σ' ⟨rfl, rfl⟩; exact fin

/-- over enumerate -/
theorem compPre_enum {elt iter : Expr} {x y : Str} {px py tp : Pos} {k : Nat} {scope : Scope} {Ψ : List AV → Store → Prop} (hst : storeOk (relS scope sc) (cellNames scope.names) x = true) (hst' : storeOk (relS scope sc) (cellNames scope.names) y = true)
    (hx : (compRho scope ρ).lookup x = none) (hy : (compRho scope ρ).lookup y = none)
    (h : wpI prog w hb n sc own ρ σ iter (.Tuple [.Name x px, .Name y py] k tp) fun xs σ1 rest => ∃ ys, xs = enumAV ys ∧ ys.length ≤ 1000000 ∧ ∃ f : Nat → AV, (∀ i u, ys[i]? = some u → wpE prog w hb n (relS scope sc) (cellNames scope.names) ((y, u) :: (x, .int (i : Nat)) :: compRho scope ρ) σ1 elt fun v σ' => v = f i ∧ σ' = σ1) ∧ Ψ ((List.range ys.length).map f) (rest σ1)) :
    CompPre prog w hb n sc own ρ σ elt (.Tuple [.Name x px, .Name y py] k tp) iter [] scope Ψ := by
  intro A env κ τ s Q E R he H V hQ
  refine h A env κ τ s Q E R he H V fun κ1 τ1 σ1 xs rest it wr St h' tk' a b c d e f g hr back ⟨ys, hys, hl, F, step, fin⟩ => hQ κ1 τ1 σ1 xs rest it wr St h' tk' a b c d e f g hr back ?_
  subst hys
  have hlen : (enumAV ys).length = ys.length := by simp [enumAV]
  refine ⟨fun i acc σ' => acc = (List.range i).map F ∧ σ' = σ1, ⟨rfl, rfl⟩, ?_, ?_⟩
  · rintro i u acc σ' hu ⟨rfl, rfl⟩
    obtain ⟨u', hu', rfl⟩ := enumAV_get hu
    refine wpA_tuple rfl rfl ⟨rfl, wpA_name hst ⟨rfl, wpA_name hst' ⟨((Sub.refl _).cons hx).cons hy, ?_⟩⟩⟩
    simp only [wpTs, if_true]
    refine wpE_mono (step i u' hu') fun v σ' ⟨e1, e2⟩ => ⟨?_, ?_, e2⟩
    · have := (List.getElem?_eq_some_iff.mp hu').1
      simp only [List.length_map, List.length_range]; omega
    · rw [e1, map_range_snoc]
  · rintro acc σ' ⟨rfl, rfl⟩
    rw [hlen]; exact fin
end
end Mine

namespace Mine
open PySem PyProof.Rows
set_option maxRecDepth 100000

def fnParts (k : Nat) : Str × Arguments × List Stmt × Scope := match PySem.Challenge.pw_nn0253_01.main.body[k]? with
  | some (.FunctionDef n a b _ _ _ s _ _ _) => (n, a, b, s)
  | _ => (Str.ofString "", default, [], default)

abbrev fBody (k : Nat) : List Stmt := (fnParts k).2.2.1
abbrev fArgs (k : Nat) : Arguments := (fnParts k).2.1
abbrev fScope (k : Nat) : Scope := (fnParts k).2.2.2

def FnIs (hb : Heap) (mg : Str → Option Value) (k : Nat) : Prop := FnAt hb mg (fnParts k).1 (fArgs k) (fBody k) (fScope k)

/-- the functions of the text -/
def fnIdx : List Nat := [3, 5, 6, 7, 8, 9, 10, 11, 12, 14, 15, 17, 18, 19, 20, 21, 22, 23, 24, 25, 26, 27, 28]
structure Text (hb : Heap) (mg mb : Str → Option Value) : Prop extends Glo hb mg mb where
  fn : ∀ k ∈ fnIdx, FnIs hb mg k

theorem Text.at {hb : Heap} {mg mb : Str → Option Value} (T : Text hb mg mb) (k : Nat) (x : Str) (hx : (fnParts k).1 = x) (hk : fnIdx.contains k = true) : FnAt hb mg x (fArgs k) (fBody k) (fScope k) := by
  subst hx; exact T.fn k (by simpa using hk)

theorem binds1 {P : List Value → Prop} (h : ∀ a, P [a]) : ∀ vs : List Value, vs.length = 1 → P vs
  | [a], _ => h a
theorem binds2 {P : List Value → Prop} (h : ∀ a b, P [a, b]) : ∀ vs : List Value, vs.length = 2 → P vs
  | [a, b], _ => h a b
theorem binds3 {P : List Value → Prop} (h : ∀ a b c, P [a, b, c]) : ∀ vs : List Value, vs.length = 3 → P vs
  | [a, b, c], _ => h a b c
theorem binds5 {P : List Value → Prop} (h : ∀ a b c d e, P [a, b, c, d, e]) : ∀ vs : List Value, vs.length = 5 → P vs
  | [a, b, c, d, e], _ => h a b c d e

/-! ## Matrices as values -/
abbrev Mat := Nat → Nat → Int
def rowL (M : Mat) (i w : Nat) : List AV := (List.range w).map fun j => .int (M i j)
abbrev rowAV (M : Mat) (i w : Nat) : AV := .list (rowL M i w)
def colL (M : Mat) (j h : Nat) : List AV := (List.range h).map fun i => .int (M i j)
def matL (M : Mat) (h w : Nat) : List AV := (List.range h).map fun i => rowAV M i w
abbrev matAV (M : Mat) (h w : Nat) : AV := .list (matL M h w)

theorem map_range_get {α : Type} {f : Nat → α} {n i : Nat} (h : i < n) : ((List.range n).map f)[i]? = some (f i) := by
  rw [List.getElem?_map, List.getElem?_range h]; rfl
theorem rowL_get {M : Mat} {i w j : Nat} (h : j < w) : (rowL M i w)[j]? = some (.int (M i j)) := map_range_get h
theorem matL_get {M : Mat} {h w i : Nat} (hi : i < h) : (matL M h w)[i]? = some (rowAV M i w) := map_range_get hi
@[simp] theorem matL_len {M : Mat} {h w : Nat} : (matL M h w).length = h := by simp [matL]
@[simp] theorem rowL_len {M : Mat} {i w : Nat} : (rowL M i w).length = w := by simp [rowL]
theorem rngAV_len {a b : Int} : (rngAV a b).length = (b - a).toNat := by simp [rngAV]
theorem rngAV_get {a b : Int} {i : Nat} {x : AV} (h : (rngAV a b)[i]? = some x) : x = .int (a + (i : Nat)) ∧ a + (i : Nat) < b := by
  have hi : i < (b - a).toNat := by
    have := (List.getElem?_eq_some_iff.mp h).1
    rwa [rngAV_len] at this
  unfold rngAV at h
  rw [map_range_get hi] at h
  cases h
  exact ⟨rfl, by omega⟩

/-- one step through an expression, a test, a list of expressions, a plain statement -/
local macro_rules | `(tactic| walk_at "E") => `(tactic| first
  | with_reducible refine wpEs_nil ?_
  | ((with_reducible refine' wpEs_cons ?hs ?_); (case hs => kernel_rfl))
  | with_reducible refine wpE_int ?_
  | ((with_reducible refine' wpE_name ?hv ?hk ?_); (case hv => first | rfl | assumption); (case hk => kernel_rfl))
  | with_reducible refine wpE_none ?_
  | with_reducible refine wpE_bool ?_
  | with_reducible refine wpE_str ?_
  | with_reducible refine wpE_BinOp ?_
  | ((with_reducible refine' wpE_Compare ?hm ?_); (case hm => kernel_rfl))
  | with_reducible refine wpE_UnaryOp ?_
  | ((with_reducible refine' wpE_Sub ?hs ?_); (case hs => exact fun _ _ => rfl))
  | with_reducible refine wpT_Not ?_
  | ((with_reducible refine' wpT_Compare ?hm ?_); (case hm => kernel_rfl))
  | with_reducible refine v_add ?_
  | with_reducible refine v_sub ?_
  | with_reducible refine v_neg ?_
  | with_reducible refine v_eq ?_
  | with_reducible refine v_ne ?_
  | with_reducible refine v_lt ?_
  | with_reducible refine v_gt ?_
  | with_reducible refine v_ge ?_
  | with_reducible refine v_abs ?_
  | with_reducible refine v_max ?_
  | with_reducible refine v_min ?_
  | with_reducible refine v_range1 ?_
  | with_reducible refine v_range2 ?_
  | with_reducible refine t_bool ?_
  | with_reducible refine v_is_none ?_
  | with_reducible refine v_is_not_none ?_
  | ((with_reducible refine' wpE_callB (Text.toGlo (by assumption)) ?hk ?hd ?hb ?hs ?_); (case hk => kernel_rfl); (case hd => kernel_rfl); (case hb => rfl); (case hs => kernel_rfl))
  | ((with_reducible refine' wpE_callTy (Text.toGlo (by assumption)) ?hk ?hd ?hb ?hs ?_); (case hk => kernel_rfl); (case hd => kernel_rfl); (case hb => rfl); (case hs => kernel_rfl))
  | with_reducible refine wpSs_nil ?_
  | with_reducible refine wpSs_cons ?_
  | with_reducible refine wpS_Return ?_
  | with_reducible refine wpS_Continue ?_
  | ((with_reducible refine' wpS_Assign ?hn ?hs ?hw ?_); (case hn => kernel_rfl); (case hs => intro _ _; rfl); (case hw => intro _ _; rfl))
  | ((with_reducible refine' wpA_name ?hk ?_); (case hk => kernel_rfl))
  | with_reducible refine wpE_Tuple ?_
  | with_reducible refine wpA_sub ?_
  | ((with_reducible refine' wpT_value ?hq ?_); (case hq => exact fun _ _ => rfl)))
local macro_rules | `(tactic| walk_at "W") => `(tactic| repeat walk_at "E")

section
variable {prog : Program} {w : World} {hb : Heap} {mg mb : Str → Option Value} {n : Nat} {σ : Store}

theorem bind3 (pm code doc : Value) : ∀ vs : List Value, vs.length = 2 → bindArgs (Calls.docDef "need_shape" (fArgs 3) (fBody 3) (fScope 3) pm code doc) ⟨vs, []⟩ = pure ((["is_right", "text"] : List Str).zip vs) := binds2 fun a b => by kernel_rfl
theorem bind15 (pm code doc : Value) : ∀ vs : List Value, vs.length = 3 → bindArgs (Calls.docDef "kernel_of" (fArgs 15) (fBody 15) (fScope 15) pm code doc) ⟨vs, []⟩ = pure ((["s", "v", "width"] : List Str).zip vs) := binds3 fun a b c => by kernel_rfl

theorem need_shape_spec (T : Text hb mg mb) {t : Str} {Φ : AV → Store → Prop} (h : Φ .none σ) : wpF prog w hb mg (n + 1) σ "need_shape" [.bool true, .str t] Φ := by
  refine wpF_intro (["is_right", "text"] : List Str) T.toGlo (T.at 3 "need_shape" (by kernel_rfl) rfl) (by kernel_rfl) bind3 rfl ?_
  refine wpSs_cons ?_
  refine wpS_If' false ?_ (fun hB => nomatch hB) fun _ => ?_
  · repeat walk_at "E"
    exact ⟨rfl, rfl⟩
  · walk_at "E"
    walk_at "E"
    exact h

def kerCols (S : Mat) (h w : Nat) : List Nat := (List.range w).filter fun j => decide (h ≤ j) || (S j j == 0)
theorem kerCols_succ {S : Mat} {h i : Nat} : kerCols S h (i + 1) = kerCols S h i ++ (if (decide (h ≤ i) || (S i i == 0)) = true then [i] else []) := by
  unfold kerCols
  rw [List.range_succ, List.filter_append]
  congr 1
  cases q : decide (h ≤ i) || (S i i == 0) <;> simp [q]

theorem sput_sput {σ : Store} {a : Addr} {xs ys : List AV} : sput (sput σ a xs) a ys = sput σ a ys := by
  funext b; unfold sput; split <;> rfl

theorem kernel_of_spec (T : Text hb mg mb) {S V : Mat} {h m : Nat} (hh : h ≤ 10) (hm : m ≤ 10) {Φ : AV → Store → Prop} (hΦ : Φ (.list ((kerCols S h m).map fun j => .list (colL V j m))) σ) :
    wpF prog w hb mg (n + 1) σ "kernel_of" [matAV S h m, matAV V m m, .int m] Φ := by
  refine wpF_freeze (wpF_intro (["s", "v", "width"] : List Str) T.toGlo (T.at 15 "kernel_of" (by kernel_rfl) rfl) (by kernel_rfl) bind15 rfl ?_)
  refine wpSs_cons ?_
  walk_at "E"
  refine wpE_List_loc ?_
  walk_at "E"
  refine ⟨by decide, fun a ha => ?_⟩
  walk_at "E"
  walk_at "E"
  refine wpS_For (fun _ _ => rfl) (wpI_value ?_)
  repeat walk_at "E"
  refine it_rng (fun _ _ => rfl) (by omega) (by omega) (by omega) (by omega) ?_
  refine ⟨fun i ρ' σ' => ρ' = _ ∧ σ' = sput σ a ((kerCols S h i).map fun j => .list (colL V j m)), ⟨rfl, rfl⟩, ?_, ?_⟩
  · rintro i x ρ' σ' hx ⟨rfl, rfl⟩
    obtain ⟨rfl, hi⟩ := rngAV_get hx
    have hi' : i < m := by omega
    have e0 : (0 : Int) + (i : Int) = i := by omega
    rw [e0]
    walk_at "E"
    walk_at "E"
    refine wpS_If' (decide (h ≤ i) || (S i i == 0)) (wpT_Or' (decide (h ≤ i)) (S i i == 0) ?_ (fun hlt => ?_) ⟨rfl, rfl⟩) (fun hB => ?_) (fun hB => ?_)
    · repeat walk_at "E"
      refine v_len (by simp; omega) ?_
      repeat walk_at "E"
      refine ⟨?_, rfl⟩
      simp
    · have hlt' : i < h := by simpa using hlt
      repeat walk_at "E"
      refine ⟨trivial, v_item (by omega) (by simpa using matL_get hlt') (by omega) ?_⟩
      repeat walk_at "E"
      refine ⟨trivial, v_item (by omega) (by simpa using rowL_get hi') (by omega) ?_⟩
      repeat walk_at "E"
      exact ⟨rfl, rfl⟩
    · walk_at "E"
      refine wpS_Expr rfl (fun _ => rfl) (wpE_append (fun _ => rfl) rfl rfl ?_)
      walk_at "E"
      refine ⟨a, rfl, by rw [sput_self]; rfl, ?_⟩
      refine wpE_CompP (by kernel_rfl) (fun _ _ => rfl) (compPre_map (by kernel_rfl) (by rfl) (wpI_value ?_))
      walk_at "E"
      refine it_list (fun _ _ => rfl) ⟨by simp; omega, fun k => .int (V k i), fun k y hk => ?_, ?_⟩
      · have hk' : k < m := by have := (List.getElem?_eq_some_iff.mp hk).1; simpa using this
        rw [matL_get hk'] at hk; cases hk
        repeat walk_at "E"
        refine ⟨trivial, v_item (by omega) (by simpa using rowL_get hi') (by omega) ⟨rfl, rfl⟩⟩
      · refine ⟨_, sput_self, by simp; have := List.length_filter_le (fun j => decide (h ≤ j) || (S j j == 0)) (List.range i); simp at this; unfold kerCols; omega, ?_⟩
        repeat walk_at "E"
        refine ⟨_, (Sub.refl _).cons rfl, rfl, ?_⟩
        show sput (sput σ a _) a _ = _
        rw [sput_sput, kerCols_succ, if_pos hB, List.map_append]
        simp [colL]
    · repeat walk_at "E"
      refine ⟨_, (Sub.refl _).cons rfl, rfl, ?_⟩
      rw [kerCols_succ, if_neg (by simp [hB]), List.append_nil]
  · rintro ρ' σ' ⟨rfl, rfl⟩
    rw [rngAV_len]
    repeat walk_at "E"
    refine ⟨σ, .list ((kerCols S h m).map fun j => .list (colL V j m)), fun b xs e => ?_, ?_, hΦ⟩
    · show sput σ a _ b = _
      rw [sput_ne (by rintro rfl; rw [ha] at e; cases e)]; exact e
    · refine .loc (xs := (kerCols S h m).map fun j => .list (colL V j m)) ?_ ha (.same _)
      show sput σ a _ a = _
      rw [sput_self]
      simp
end

abbrev vecL (f : Nat → Int) (m : Nat) : List AV := (List.range m).map fun i => .int (f i)
/-- the product, the inner size is k -/
def mulTo (A B : Mat) (k : Nat) : Mat := fun i j => ((List.range k).map fun t => A i t * B t j).sum
/-- a column made of numbers -/
def colM (f : Nat → Int) : Mat := fun i _ => f i
def unitM : Mat := fun i j => if i = j then 1 else 0

section
variable {prog : Program} {w : World} {hb : Heap} {mg mb : Str → Option Value} {n : Nat} {σ : Store}

theorem comp_vec {sc : Scope} {own : List Str} {ρ : Rho} {elt iter : Expr} {x : Str} {px : Pos} {scope : Scope} {Ψ : List AV → Store → Prop} (m : Nat) (g f : Nat → AV) (hst : storeOk (relS scope sc) (cellNames scope.names) x = true) (hx : (compRho scope ρ).lookup x = none) (hm : m ≤ 1000)
    (hi : wpE prog w hb n sc own ρ σ iter fun v σ1 => v = .list ((List.range m).map g) ∧ σ1 = σ)
    (h1 : ∀ i, i < m → wpE prog w hb n (relS scope sc) (cellNames scope.names) ((x, g i) :: compRho scope ρ) σ elt fun v σ' => v = f i ∧ σ' = σ)
    (h2 : Ψ ((List.range m).map f) σ) : CompPre prog w hb n sc own ρ σ elt (.Name x px) iter [] scope Ψ := by
  refine compPre_map hst hx (wpI_value (wpE_mono hi fun v σ1 ⟨e1, e2⟩ => ?_))
  subst e1 e2
  refine it_list (fun _ _ => rfl) ⟨by simp; omega, f, fun i y hy => ?_, by simpa using h2⟩
  have hi : i < m := by have := (List.getElem?_eq_some_iff.mp hy).1; simpa using this
  rw [map_range_get hi] at hy; cases hy
  exact h1 i hi
theorem comp_rng {sc : Scope} {own : List Str} {ρ : Rho} {elt iter : Expr} {x : Str} {px : Pos} {scope : Scope} {Ψ : List AV → Store → Prop} (m : Nat) (f : Nat → AV) (hst : storeOk (relS scope sc) (cellNames scope.names) x = true) (hx : (compRho scope ρ).lookup x = none) (hm : m ≤ 1000)
    (hi : wpE prog w hb n sc own ρ σ iter fun v σ1 => v = .rng 0 m ∧ σ1 = σ)
    (h1 : ∀ i, i < m → wpE prog w hb n (relS scope sc) (cellNames scope.names) ((x, .int (i : Nat)) :: compRho scope ρ) σ elt fun v σ' => v = f i ∧ σ' = σ)
    (h2 : Ψ ((List.range m).map f) σ) : CompPre prog w hb n sc own ρ σ elt (.Name x px) iter [] scope Ψ := by
  refine compPre_map hst hx (wpI_value (wpE_mono hi fun v σ1 ⟨e1, e2⟩ => ?_))
  subst e1 e2
  refine it_rng (fun _ _ => rfl) (by omega) (by omega) (by omega) (by omega) ⟨by rw [rngAV_len]; omega, f, fun i y hy => ?_, ?_⟩
  · obtain ⟨rfl, hi⟩ := rngAV_get hy
    have := h1 i (by omega)
    rwa [show (0 : Int) + (i : Nat) = (i : Int) by omega]
  · rw [rngAV_len]
    simpa using h2

theorem v_vec {f : Nat → Int} {m i : Nat} {Φ : AV → Store → Prop} (hi : i < m) (hm : m ≤ 1000) (h : Φ (.int (f i)) σ) : wpV prog w hb n σ fItem [.list (vecL f m), .int i] Φ :=
  v_item (by omega) (by simpa using map_range_get (f := fun i => AV.int (f i)) hi) (by omega) h
theorem v_mat {f : Nat → AV} {m i : Nat} {Φ : AV → Store → Prop} (hi : i < m) (hm : m ≤ 1000) (h : Φ (f i) σ) : wpV prog w hb n σ fItem [.list ((List.range m).map f), .int i] Φ :=
  v_item (by omega) (by simpa using map_range_get (f := f) hi) (by omega) h
theorem v_lenR {f : Nat → AV} {m : Nat} {Φ : AV → Store → Prop} (hm : m ≤ 1000) (h : Φ (.int m) σ) : wpV prog w hb n σ (fCall (.builtin "len")) [.list ((List.range m).map f)] Φ :=
  v_len (by simp; omega) (by simpa using h)
theorem v_sumR {f : Nat → Int} {m : Nat} {Φ : AV → Store → Prop} (hm : m ≤ 1000) (h : Φ (.int ((List.range m).map f).sum) σ) : wpV prog w hb n σ (fCall (.builtin "sum")) [.list (vecL f m)] Φ := by
  have := v_sum (prog := prog) (w := w) (hb := hb) (n := n) (σ := σ) (Φ := Φ) (xs := (List.range m).map f) (by simp; omega) h
  rwa [List.map_map] at this

theorem bind6 (pm code doc : Value) : ∀ vs : List Value, vs.length = 2 → bindArgs (Calls.docDef "whole_mul" (fArgs 6) (fBody 6) (fScope 6) pm code doc) ⟨vs, []⟩ = pure ((["a", "b"] : List Str).zip vs) := binds2 fun a b => by kernel_rfl
theorem bind22 (pm code doc : Value) : ∀ vs : List Value, vs.length = 2 → bindArgs (Calls.docDef "_law_times" (fArgs 22) (fBody 22) (fScope 22) pm code doc) ⟨vs, []⟩ = pure ((["one", "two"] : List Str).zip vs) := binds2 fun a b => by kernel_rfl

theorem whole_mul_spec (T : Text hb mg mb) {A B : Mat} {h k m : Nat} (hh : h ≤ 10) (hk0 : 0 < k) (hk : k ≤ 10) (hm : m ≤ 10) (hmul : ∀ i t j, i < h → t < k → j < m → IntMulOk (A i t) (B t j)) {Φ : AV → Store → Prop} (hΦ : Φ (matAV (mulTo A B k) h m) σ) :
    wpF prog w hb mg (n + 1) σ "whole_mul" [matAV A h k, matAV B k m] Φ := by
  refine wpF_intro (["a", "b"] : List Str) T.toGlo (T.at 6 "whole_mul" (by kernel_rfl) rfl) (by kernel_rfl) bind6 rfl ?_
  refine wpSs_cons ?_
  walk_at "W"
  refine wpE_IfExp' true ?_ (fun _ => ?_) (fun e => by cases e)
  · walk_at "W"
    refine v_lenR (by omega) ?_
    walk_at "W"
    exact ⟨by simpa using hk0, rfl⟩
  walk_at "W"
  refine ⟨trivial, v_mat (i := 0) hk0 (by omega) ?_⟩
  walk_at "W"
  refine v_lenR (by omega) ?_
  walk_at "W"
  refine wpE_CompP (by kernel_rfl) (fun _ _ => rfl) (comp_vec h (fun i => rowAV A i k) (fun i => rowAV (mulTo A B k) i m) (by kernel_rfl) (by rfl) (by omega) ?_ (fun i hi => ?_) hΦ)
  · walk_at "W"
    exact ⟨rfl, rfl⟩
  refine wpE_CompP (by kernel_rfl) (fun _ _ => rfl) (comp_rng m (fun j => .int (mulTo A B k i j)) (by kernel_rfl) (by rfl) (by omega) ?_ (fun j hj => ?_) ⟨rfl, rfl⟩)
  · walk_at "W"
    exact ⟨rfl, rfl⟩
  walk_at "W"
  refine wpE_CompP (by kernel_rfl) (fun _ _ => rfl) (comp_rng k (fun t => .int (A i t * B t j)) (by kernel_rfl) (by rfl) (by omega) ?_ (fun t ht => ?_) ?_)
  · walk_at "W"
    refine v_lenR (by omega) ?_
    walk_at "W"
    exact ⟨rfl, rfl⟩
  rotate_left
  · walk_at "W"
    exact v_sumR (by omega) ⟨rfl, rfl⟩
  walk_at "W"
  refine ⟨trivial, v_mat ht (by omega) ?_⟩
  walk_at "W"
  refine ⟨trivial, v_mat ht (by omega) ?_⟩
  walk_at "W"
  exact ⟨trivial, v_mat hj (by omega) (v_mul (hmul i t j hi ht hj) ⟨rfl, rfl⟩)⟩

theorem law_times_spec (T : Text hb mg mb) {A B : Mat} {h k m : Nat} (hh : h ≤ 10) (hk0 : 0 < k) (hk : k ≤ 10) (hm : m ≤ 10) (hmul : ∀ i t j, i < h → t < k → j < m → IntMulOk (A i t) (B t j)) {Φ : AV → Store → Prop} (hΦ : Φ (matAV (mulTo A B k) h m) σ) :
    wpF prog w hb mg (n + 1) σ "_law_times" [matAV A h k, matAV B k m] Φ := by
  refine wpF_intro (["one", "two"] : List Str) T.toGlo (T.at 22 "_law_times" (by kernel_rfl) rfl) (by kernel_rfl) bind22 rfl ?_
  refine wpSs_cons ?_
  walk_at "W"
  refine wpE_IfExp' true ?_ (fun _ => ?_) (fun e => by cases e)
  · walk_at "W"
    refine wpE_List ?_
    walk_at "W"
    refine ⟨by decide, v_ne_nil (t_bool ⟨?_, rfl⟩)⟩
    cases k with
    | zero => omega
    | succ k => simp [matL, List.range_succ_eq_map]
  walk_at "W"
  refine ⟨trivial, v_mat (i := 0) hk0 (by omega) ?_⟩
  walk_at "W"
  refine v_lenR (by omega) ?_
  walk_at "W"
  refine wpE_CompP (by kernel_rfl) (fun _ _ => rfl) (comp_vec h (fun i => rowAV A i k) (fun i => rowAV (mulTo A B k) i m) (by kernel_rfl) (by rfl) (by omega) ?_ (fun i hi => ?_) hΦ)
  · walk_at "W"
    exact ⟨rfl, rfl⟩
  refine wpE_CompP (by kernel_rfl) (fun _ _ => rfl) (comp_rng m (fun j => .int (mulTo A B k i j)) (by kernel_rfl) (by rfl) (by omega) ?_ (fun j hj => ?_) ⟨rfl, rfl⟩)
  · walk_at "W"
    exact ⟨rfl, rfl⟩
  walk_at "W"
  refine wpE_CompP (by kernel_rfl) (fun _ _ => rfl) (comp_rng k (fun t => .int (A i t * B t j)) (by kernel_rfl) (by rfl) (by omega) ?_ (fun t ht => ?_) ?_)
  · walk_at "W"
    refine v_lenR (by omega) ?_
    walk_at "W"
    exact ⟨rfl, rfl⟩
  rotate_left
  · walk_at "W"
    exact v_sumR (by omega) ⟨rfl, rfl⟩
  walk_at "W"
  refine ⟨trivial, v_mat ht (by omega) ?_⟩
  walk_at "W"
  refine ⟨trivial, v_mat ht (by omega) ?_⟩
  walk_at "W"
  exact ⟨trivial, v_mat hj (by omega) (v_mul (hmul i t j hi ht hj) ⟨rfl, rfl⟩)⟩
end

/-! ## Matrices that change -/
structure MatIn (σ : Store) (a : Addr) (r : Nat → Addr) (M : Mat) (h w : Nat) : Prop where
  top : σ a = some ((List.range h).map fun i => .loc (r i))
  row : ∀ i, i < h → σ (r i) = some (rowL M i w)
  inj : ∀ i j, i < h → j < h → r i = r j → i = j
  ne : ∀ i, i < h → r i ≠ a

def Foot (a : Addr) (r : Nat → Addr) (h : Nat) (b : Addr) : Prop := b = a ∨ ∃ i, i < h ∧ b = r i

theorem MatIn.has {σ : Store} {a : Addr} {r : Nat → Addr} {M : Mat} {h w : Nat} (m : MatIn σ a r M h w) {b : Addr} (f : Foot a r h b) : ∃ xs, σ b = some xs := by
  rcases f with rfl | ⟨i, hi, rfl⟩
  · exact ⟨_, m.top⟩
  · exact ⟨_, m.row i hi⟩

theorem MatIn.same {σ σ' : Store} {a : Addr} {r : Nat → Addr} {M : Mat} {h w : Nat} (m : MatIn σ a r M h w) (e : ∀ b xs, Foot a r h b → σ b = some xs → σ' b = some xs) : MatIn σ' a r M h w :=
  ⟨e _ _ (.inl rfl) m.top, fun i hi => e _ _ (.inr ⟨i, hi, rfl⟩) (m.row i hi), m.inj, m.ne⟩

/-- a matrix was changed, all else stands -/
structure Upd (σ σ' : Store) (a : Addr) (r r' : Nat → Addr) (M' : Mat) (h w : Nat) : Prop where
  mat : MatIn σ' a r' M' h w
  keep : ∀ b xs, σ b = some xs → ¬ Foot a r h b → σ' b = some xs
  foot : ∀ b, Foot a r' h b → Foot a r h b ∨ σ b = none

theorem Upd.refl {σ : Store} {a : Addr} {r : Nat → Addr} {M : Mat} {h w : Nat} (m : MatIn σ a r M h w) : Upd σ σ a r r M h w := ⟨m, fun _ _ e _ => e, fun _ f => .inl f⟩

theorem Upd.trans {σ σ1 σ2 : Store} {a : Addr} {r r1 r2 : Nat → Addr} {M1 M2 : Mat} {h w : Nat} (x : Upd σ σ1 a r r1 M1 h w) (y : Upd σ1 σ2 a r1 r2 M2 h w) : Upd σ σ2 a r r2 M2 h w := by
  refine ⟨y.mat, fun b xs e f => y.keep b xs (x.keep b xs e f) fun g => ?_, fun b f => ?_⟩
  · rcases x.foot b g with q | q
    · exact f q
    · rw [q] at e; cases e
  · rcases y.foot b f with q | q
    · exact x.foot b q
    · cases e : σ b with
      | none => exact .inr rfl
      | some xs =>
        by_cases g : Foot a r h b
        · exact .inl g
        · have := x.keep b xs e g
          rw [q] at this; cases this

theorem map_range_set {α : Type} {f : Nat → α} {m i : Nat} {x : α} : ((List.range m).map f).set i x = (List.range m).map fun j => if j = i then x else f j := by
  apply List.ext_getElem?
  intro k
  rw [List.getElem?_set]
  by_cases q : i = k
  · subst q
    rw [if_pos rfl]
    by_cases hk : i < m
    · rw [map_range_get hk]; simp [hk]
    · have : ((List.range m).map fun j => if j = i then x else f j)[i]? = none := by rw [List.getElem?_eq_none]; simp; omega
      rw [this]; simp [hk]
  · rw [if_neg q]
    by_cases hk : k < m
    · rw [map_range_get hk, map_range_get hk, if_neg (Ne.symm q)]
    · rw [List.getElem?_eq_none (by simp; omega), List.getElem?_eq_none (by simp; omega)]

def swapN (i j : Nat) : Nat → Nat := fun k => if k = i then j else if k = j then i else k
theorem swapN_lt {i j k h : Nat} (hi : i < h) (hj : j < h) (hk : k < h) : swapN i j k < h := by unfold swapN; (repeat' split) <;> omega
theorem swapN_swapN {i j k : Nat} : swapN i j (swapN i j k) = k := by unfold swapN; (repeat' split) <;> omega

/-- rows built one behind the other -/
structure RowsIn (σ σ' : Store) (r : Nat → Addr) (M : Mat) (m w : Nat) : Prop where
  row : ∀ i, i < m → σ' (r i) = some (rowL M i w)
  inj : ∀ i j, i < m → j < m → r i = r j → i = j
  new : ∀ i, i < m → σ (r i) = none
  keep : ∀ b xs, σ b = some xs → σ' b = some xs

theorem RowsIn.snoc {σ σ' : Store} {r : Nat → Addr} {M : Mat} {m w : Nat} {a : Addr} (x : RowsIn σ σ' r M m w) (ha : σ' a = none) : RowsIn σ (sput σ' a (rowL M m w)) (fun i => if i = m then a else r i) M (m + 1) w := by
  have na : ∀ i, i < m → r i ≠ a := fun i hi e => by have := x.row i hi; rw [e, ha] at this; cases this
  refine ⟨fun i hi => ?_, fun i j hi hj e => ?_, fun i hi => ?_, fun b xs e => ?_⟩
  · split
    · subst i; exact sput_self
    · rw [sput_ne (na i (by omega))]; exact x.row i (by omega)
  · split at e <;> split at e
    · omega
    · exact absurd e.symm (na j (by omega))
    · exact absurd e (na i (by omega))
    · exact x.inj i j (by omega) (by omega) e
  · split
    · cases q : σ a with
      | none => rfl
      | some xs => rw [x.keep _ _ q] at ha; cases ha
    · exact x.new i (by omega)
  · have q : b ≠ a := by rintro rfl; rw [x.keep _ _ e] at ha; cases ha
    rw [sput_ne q]; exact x.keep b xs e

/-- a matrix was made -/
structure Made (σ σ' : Store) (a : Addr) (r : Nat → Addr) (M : Mat) (h w : Nat) : Prop where
  mat : MatIn σ' a r M h w
  new : ∀ b, Foot a r h b → σ b = none
  keep : ∀ b xs, σ b = some xs → σ' b = some xs

theorem RowsIn.made {σ σ' : Store} {r : Nat → Addr} {M : Mat} {h w : Nat} {a : Addr} (x : RowsIn σ σ' r M h w) (ha : σ' a = none) : Made σ (sput σ' a ((List.range h).map fun i => .loc (r i))) a r M h w := by
  have na : ∀ i, i < h → r i ≠ a := fun i hi e => by have := x.row i hi; rw [e, ha] at this; cases this
  refine ⟨⟨sput_self, fun i hi => by rw [sput_ne (na i hi)]; exact x.row i hi, x.inj, na⟩, fun b f => ?_, fun b xs e => ?_⟩
  · rcases f with rfl | ⟨i, hi, rfl⟩
    · cases q : σ b with
      | none => rfl
      | some xs => rw [x.keep _ _ q] at ha; cases ha
    · exact x.new i hi
  · have q : b ≠ a := by rintro rfl; rw [x.keep _ _ e] at ha; cases ha
    rw [sput_ne q]; exact x.keep b xs e

section
variable {prog : Program} {w : World} {hb : Heap} {mg mb : Str → Option Value} {n : Nat} {σ : Store}

theorem locs_snoc {r : Nat → Addr} {a : Addr} {i : Nat} : ((List.range i).map fun k => AV.loc (r k)) ++ [.loc a] = (List.range (i + 1)).map fun k => AV.loc (if k = i then a else r k) := by
  rw [List.range_succ, List.map_append]
  congr 1
  · apply List.map_congr_left
    intro k hk
    rw [List.mem_range] at hk
    rw [if_neg (by omega)]
  · simp

theorem rows_rng {sc : Scope} {own : List Str} {ρ : Rho} {elt iter : Expr} {x : Str} {px : Pos} {scope : Scope} {Ψ : List AV → Store → Prop} (m wd : Nat) (M : Mat) (hst : storeOk (relS scope sc) (cellNames scope.names) x = true) (hx : (compRho scope ρ).lookup x = none) (hm : m ≤ 1000)
    (hi : wpE prog w hb n sc own ρ σ iter fun v σ1 => v = .rng 0 m ∧ σ1 = σ)
    (h1 : ∀ i σ', i < m → wpE prog w hb n (relS scope sc) (cellNames scope.names) ((x, .int (i : Nat)) :: compRho scope ρ) σ' elt fun v σ2 => ∃ a, σ' a = none ∧ v = .loc a ∧ σ2 = sput σ' a (rowL M i wd))
    (h2 : ∀ r σ', RowsIn σ σ' r M m wd → Ψ ((List.range m).map fun i => .loc (r i)) σ') : CompPre prog w hb n sc own ρ σ elt (.Name x px) iter [] scope Ψ := by
  refine compPre_fold hst hx (wpI_value (wpE_mono hi fun v σ1 ⟨e1, e2⟩ => ?_))
  subst e1 e2
  refine it_rng (fun _ _ => rfl) (by omega) (by omega) (by omega) (by omega) ⟨by rw [rngAV_len]; omega, fun i acc σ' => ∃ r, acc = ((List.range i).map fun k => AV.loc (r k)) ∧ RowsIn σ1 σ' r M i wd, ⟨fun _ => default, rfl, ⟨fun i hi => by omega, fun i j hi => by omega, fun i hi => by omega, fun b xs e => e⟩⟩, ?_, ?_⟩
  · rintro i y acc σ' hy _ ⟨r, rfl, hr⟩
    obtain ⟨rfl, hi⟩ := rngAV_get hy
    rw [show (0 : Int) + (i : Nat) = (i : Int) by omega]
    refine wpE_mono (h1 i σ' (by omega)) fun v σ2 ⟨a, ha, e1, e2⟩ => ?_
    subst e1 e2
    exact ⟨_, locs_snoc, hr.snoc ha⟩
  · rintro acc σ' _ ⟨r, rfl, hr⟩
    rw [rngAV_len] at hr ⊢
    rw [show ((m : Int) - 0).toNat = m by omega] at hr ⊢
    exact h2 r σ' hr

theorem rows_vec {sc : Scope} {own : List Str} {ρ : Rho} {elt iter : Expr} {x : Str} {px : Pos} {scope : Scope} {Ψ : List AV → Store → Prop} (m wd : Nat) (g : Nat → AV) (M : Mat) (hst : storeOk (relS scope sc) (cellNames scope.names) x = true) (hx : (compRho scope ρ).lookup x = none) (hm : m ≤ 1000)
    (hi : wpE prog w hb n sc own ρ σ iter fun v σ1 => v = .list ((List.range m).map g) ∧ σ1 = σ)
    (h1 : ∀ i σ', i < m → wpE prog w hb n (relS scope sc) (cellNames scope.names) ((x, g i) :: compRho scope ρ) σ' elt fun v σ2 => ∃ a, σ' a = none ∧ v = .loc a ∧ σ2 = sput σ' a (rowL M i wd))
    (h2 : ∀ r σ', RowsIn σ σ' r M m wd → Ψ ((List.range m).map fun i => .loc (r i)) σ') : CompPre prog w hb n sc own ρ σ elt (.Name x px) iter [] scope Ψ := by
  refine compPre_fold hst hx (wpI_value (wpE_mono hi fun v σ1 ⟨e1, e2⟩ => ?_))
  subst e1 e2
  refine it_list (fun _ _ => rfl) ⟨by simp; omega, fun i acc σ' => ∃ r, acc = ((List.range i).map fun k => AV.loc (r k)) ∧ RowsIn σ1 σ' r M i wd, ⟨fun _ => default, rfl, ⟨fun i hi => by omega, fun i j hi => by omega, fun i hi => by omega, fun b xs e => e⟩⟩, ?_, ?_⟩
  · rintro i y acc σ' hy _ ⟨r, rfl, hr⟩
    have hi : i < m := by have := (List.getElem?_eq_some_iff.mp hy).1; simpa using this
    rw [map_range_get hi] at hy; cases hy
    refine wpE_mono (h1 i σ' (by omega)) fun v σ2 ⟨a, ha, e1, e2⟩ => ?_
    subst e1 e2
    exact ⟨_, locs_snoc, hr.snoc ha⟩
  · rintro acc σ' _ ⟨r, rfl, hr⟩
    simp only [List.length_map, List.length_range] at hr ⊢
    exact h2 r σ' hr

theorem bind5 (pm code doc : Value) : ∀ vs : List Value, vs.length = 1 → bindArgs (Calls.docDef "unit_rows" (fArgs 5) (fBody 5) (fScope 5) pm code doc) ⟨vs, []⟩ = pure ((["n"] : List Str).zip vs) := binds1 fun a => by kernel_rfl

theorem unit_rows_spec (T : Text hb mg mb) {m : Nat} (hm : m ≤ 10) {Φ : AV → Store → Prop} (hΦ : ∀ a r σ', Made σ σ' a r unitM m m → Φ (.loc a) σ') :
    wpF prog w hb mg (n + 1) σ "unit_rows" [.int m] Φ := by
  refine wpF_intro (["n"] : List Str) T.toGlo (T.at 5 "unit_rows" (by kernel_rfl) rfl) (by kernel_rfl) bind5 rfl ?_
  refine wpSs_cons ?_
  walk_at "W"
  refine wpE_Comp_loc (by kernel_rfl) (fun _ _ => rfl) (rows_rng m m unitM (by kernel_rfl) (by rfl) (by omega) ?_ (fun i σ' hi => ?_) ?_)
  · walk_at "W"
    exact ⟨rfl, rfl⟩
  · refine wpE_Comp_loc (by kernel_rfl) (fun _ _ => rfl) (comp_rng m (fun j => .int (unitM i j)) (by kernel_rfl) (by rfl) (by omega) ?_ (fun j hj => ?_) ?_)
    · walk_at "W"
      exact ⟨rfl, rfl⟩
    · refine wpE_IfExp' (i == j) ?_ (fun e => ?_) (fun e => ?_)
      · walk_at "W"
        refine ⟨?_, rfl⟩
        rw [Bool.eq_iff_iff]; simp; omega
      · walk_at "W"
        refine ⟨?_, rfl⟩
        unfold unitM; rw [if_pos (by simpa using e)]
      · walk_at "W"
        refine ⟨?_, rfl⟩
        unfold unitM; rw [if_neg (by simpa using e)]
    · exact fun a ha => ⟨a, ha, rfl, rfl⟩
  · intro r σ' hr a ha
    walk_at "W"
    exact hΦ a r _ (hr.made ha)
end

def swapR (i k : Nat) (M : Mat) : Mat := fun a b => M (swapN i k a) b
def swapC (i k : Nat) (M : Mat) : Mat := fun a b => M a (swapN i k b)

theorem MatIn.swapR {σ : Store} {a : Addr} {r : Nat → Addr} {M : Mat} {h w i k : Nat} (m : MatIn σ a r M h w) (hi : i < h) (hk : k < h) :
    Upd σ (sput σ a ((List.range h).map fun t => .loc (r (swapN i k t)))) a r (fun t => r (swapN i k t)) (swapR i k M) h w := by
  have inj : ∀ x y, x < h → y < h → r (swapN i k x) = r (swapN i k y) → x = y := fun x y hx hy e => by
    have := m.inj _ _ (swapN_lt hi hk hx) (swapN_lt hi hk hy) e
    rw [← swapN_swapN (i := i) (j := k) (k := x), this, swapN_swapN]
  refine ⟨⟨sput_self, fun t ht => ?_, inj, fun t ht => m.ne _ (swapN_lt hi hk ht)⟩, fun b xs e f => ?_, fun b f => ?_⟩
  · rw [sput_ne (m.ne _ (swapN_lt hi hk ht))]; exact m.row _ (swapN_lt hi hk ht)
  · rw [sput_ne (fun q => f (.inl q))]; exact e
  · rcases f with rfl | ⟨t, ht, rfl⟩
    · exact .inl (.inl rfl)
    · exact .inl (.inr ⟨_, swapN_lt hi hk ht, rfl⟩)

theorem rowL_congr {M M' : Mat} {i w : Nat} (e : ∀ j, j < w → M' i j = M i j) : rowL M' i w = rowL M i w := by
  unfold rowL
  apply List.map_congr_left
  intro j hj
  rw [e j (List.mem_range.mp hj)]

theorem MatIn.setRow {σ : Store} {a new : Addr} {r : Nat → Addr} {M M' : Mat} {h w i : Nat} (m : MatIn σ a r M h w) (hi : i < h) (hn : σ new = none) (e : ∀ k j, k ≠ i → M' k j = M k j) :
    Upd σ (sput (sput σ new (rowL M' i w)) a (((List.range h).map fun t => AV.loc (r t)).set i (.loc new))) a r (fun t => if t = i then new else r t) M' h w := by
  have na : new ≠ a := by rintro rfl; rw [m.top] at hn; cases hn
  have nr : ∀ t, t < h → new ≠ r t := by rintro t ht rfl; rw [m.row t ht] at hn; cases hn
  refine ⟨⟨?_, fun t ht => ?_, fun x y hx hy q => ?_, fun t ht => ?_⟩, fun b xs q f => ?_, fun b f => ?_⟩
  · rw [sput_self, map_range_set]
    congr 2
    funext t
    split <;> rfl
  · split
    · subst t; rw [sput_ne na, sput_self]
    · rename_i q
      rw [sput_ne (m.ne t ht), sput_ne (Ne.symm (nr t ht)), m.row t ht, rowL_congr (fun j _ => e t j q)]
  · split at q <;> split at q
    · omega
    · exact absurd q (nr y hy)
    · exact absurd q.symm (nr x hx)
    · exact m.inj x y hx hy q
  · split
    · exact na
    · exact m.ne t ht
  · rw [sput_ne (fun z => f (.inl z)), sput_ne (by rintro rfl; rw [q] at hn; cases hn)]; exact q
  · rcases f with rfl | ⟨t, ht, rfl⟩
    · exact .inl (.inl rfl)
    · show Foot a r h (if t = i then new else r t) ∨ σ (if t = i then new else r t) = none
      split
      · exact .inr hn
      · exact .inl (.inr ⟨t, ht, rfl⟩)

/-- the three matrices -/
structure St (σ : Store) (s u v : Addr) (rs ru rv : Nat → Addr) (S U V : Mat) (h w : Nat) : Prop where
  ms : MatIn σ s rs S h w
  mu : MatIn σ u ru U h h
  mv : MatIn σ v rv V w w
  su : ∀ b, Foot s rs h b → ¬ Foot u ru h b
  sv : ∀ b, Foot s rs h b → ¬ Foot v rv w b
  uv : ∀ b, Foot u ru h b → ¬ Foot v rv w b

theorem St.updS {σ σ' : Store} {s u v : Addr} {rs ru rv rs' : Nat → Addr} {S U V S' : Mat} {h w : Nat} (x : St σ s u v rs ru rv S U V h w) (y : Upd σ σ' s rs rs' S' h w) : St σ' s u v rs' ru rv S' U V h w := by
  have no : ∀ b {P : Prop}, (∃ xs, σ b = some xs) → σ b = none → P := fun b P ⟨xs, e⟩ q => by rw [q] at e; cases e
  refine ⟨y.mat, x.mu.same fun b xs f e => y.keep b xs e fun g => x.su b g f, x.mv.same fun b xs f e => y.keep b xs e fun g => x.sv b g f, fun b f g => ?_, fun b f g => ?_, x.uv⟩
  · rcases y.foot b f with q | q
    · exact x.su b q g
    · exact no b (x.mu.has g) q
  · rcases y.foot b f with q | q
    · exact x.sv b q g
    · exact no b (x.mv.has g) q
theorem St.updU {σ σ' : Store} {s u v : Addr} {rs ru rv ru' : Nat → Addr} {S U V U' : Mat} {h w : Nat} (x : St σ s u v rs ru rv S U V h w) (y : Upd σ σ' u ru ru' U' h h) : St σ' s u v rs ru' rv S U' V h w := by
  have no : ∀ b {P : Prop}, (∃ xs, σ b = some xs) → σ b = none → P := fun b P ⟨xs, e⟩ q => by rw [q] at e; cases e
  refine ⟨x.ms.same fun b xs f e => y.keep b xs e fun g => x.su b f g, y.mat, x.mv.same fun b xs f e => y.keep b xs e fun g => x.uv b g f, fun b f g => ?_, x.sv, fun b f g => ?_⟩
  · rcases y.foot b g with q | q
    · exact x.su b f q
    · exact no b (x.ms.has f) q
  · rcases y.foot b f with q | q
    · exact x.uv b q g
    · exact no b (x.mv.has g) q
theorem St.updV {σ σ' : Store} {s u v : Addr} {rs ru rv rv' : Nat → Addr} {S U V V' : Mat} {h w : Nat} (x : St σ s u v rs ru rv S U V h w) (y : Upd σ σ' v rv rv' V' w w) : St σ' s u v rs ru rv' S U V' h w := by
  have no : ∀ b {P : Prop}, (∃ xs, σ b = some xs) → σ b = none → P := fun b P ⟨xs, e⟩ q => by rw [q] at e; cases e
  refine ⟨x.ms.same fun b xs f e => y.keep b xs e fun g => x.sv b f g, x.mu.same fun b xs f e => y.keep b xs e fun g => x.uv b f g, y.mat, x.su, fun b f g => ?_, fun b f g => ?_⟩
  · rcases y.foot b g with q | q
    · exact x.sv b f q
    · exact no b (x.ms.has f) q
  · rcases y.foot b g with q | q
    · exact x.uv b f q
    · exact no b (x.mu.has f) q

theorem isS {σ : Store} {a : Addr} {xs : List AV} (h : σ a = some xs) : (σ a).isSome = true := by rw [h]; rfl
theorem serase_ne {σ : Store} {a b : Addr} (h : b ≠ a) : serase σ a b = σ b := if_neg h

section
variable {prog : Program} {w : World} {hb : Heap} {mg mb : Str → Option Value} {n : Nat} {sc : Scope} {own : List Str} {ρ : Rho} {σ : Store}

theorem for_rows {x : Str} {px pos : Pos} {iter : Expr} {body : List Stmt} {Φ : FL → Rho → Store → Prop} {a : Addr} {r : Nat → Addr} {M : Mat} {h wd : Nat} (M' : Mat) (m : MatIn σ a r M h wd) (hst : storeOk sc own x = true) (hx : ρ.lookup x = none)
    (hs : ∀ env x, foldedSetIterable iter env x = pure x) (hi : wpE prog w hb n sc own ρ σ iter fun v σ1 => v = .loc a ∧ σ1 = σ)
    (step : ∀ i σ', i < h → σ' (r i) = some (rowL M i wd) → wpSs prog w hb n sc own ((x, .loc (r i)) :: ρ) σ' body fun f ρ3 σ3 => f = .next ∧ ρ3 = (x, .loc (r i)) :: ρ ∧ σ3 = sput σ' (r i) (rowL M' i wd))
    (fin : ∀ σ', Upd σ σ' a r r M' h wd → Φ .next ρ σ') : wpS prog w hb n sc own ρ σ (.For (.Name x px) iter body [] pos) Φ := by
  refine wpS_For hs (wpI_value (wpE_mono hi fun v σ1 ⟨e1, e2⟩ => ?_))
  subst e1 e2
  refine it_loc (fun _ _ => rfl) m.top ⟨fun i ρ' σ' => ρ' = ρ ∧ (∀ k, k < i → k < h → σ' (r k) = some (rowL M' k wd)) ∧ (∀ k, i ≤ k → k < h → σ' (r k) = some (rowL M k wd)) ∧ ∀ b xs, σ1 b = some xs → ¬ Foot a r h b → σ' b = some xs, ⟨rfl, fun k hk => by omega, fun k _ hk => ?_, fun b xs e f => ?_⟩, ?_, ?_⟩
  · rw [serase_ne (m.ne k hk)]; exact m.row k hk
  · rw [serase_ne (fun q => f (.inl q))]; exact e
  · rintro i y ρ' σ' hy ⟨rfl, h1, h2, h3⟩
    have hi : i < h := by have := (List.getElem?_eq_some_iff.mp hy).1; simpa using this
    rw [map_range_get hi] at hy; cases hy
    refine wpA_name hst (wpSs_mono (step i σ' hi (h2 i (Nat.le_refl _) hi)) fun f ρ3 σ3 ⟨e1, e2, e3⟩ => ?_)
    subst e1 e2 e3
    refine ⟨ρ', (Sub.refl _).cons hx, rfl, fun k hk hk' => ?_, fun k hk hk' => ?_, fun b xs e f => ?_⟩
    · by_cases q : k = i
      · subst q; exact sput_self
      · rw [sput_ne (fun z => q (m.inj _ _ hk' hi z))]; exact h1 k (by omega) hk'
    · rw [sput_ne (fun z => by have := m.inj _ _ hk' hi z; omega)]; exact h2 k (by omega) hk'
    · rw [sput_ne (fun z => f (.inr ⟨i, hi, z⟩))]; exact h3 b xs e f
  · rintro ρ' σ' ⟨rfl, h1, h2, h3⟩
    simp only [List.length_map, List.length_range] at h1 h2
    refine fin _ ⟨⟨sput_self, fun k hk => ?_, m.inj, m.ne⟩, fun b xs e f => ?_, fun b f => .inl f⟩
    · show sput σ' a _ _ = _
      rw [sput_ne (m.ne k hk)]; exact h1 k hk hk
    · show sput σ' a _ _ = _
      rw [sput_ne (fun q => f (.inl q))]; exact h3 b xs e f

theorem for_two {x : Str} {px pos : Pos} {iter : Expr} {body : List Stmt} {Φ : FL → Rho → Store → Prop} (A B : AV) (hst : storeOk sc own x = true) (hx : ρ.lookup x = none)
    (hs : ∀ env x, foldedSetIterable iter env x = pure x) (hi : wpE prog w hb n sc own ρ σ iter fun v σ1 => v = .tup [A, B] ∧ σ1 = σ) (J : Store → Prop)
    (step0 : wpSs prog w hb n sc own ((x, A) :: ρ) σ body fun f ρ3 σ3 => f = .next ∧ Sub ((x, A) :: ρ) ρ3 ∧ J σ3)
    (step1 : ∀ σ1, J σ1 → wpSs prog w hb n sc own ((x, B) :: ρ) σ1 body fun f ρ3 σ3 => f = .next ∧ Sub ((x, B) :: ρ) ρ3 ∧ Φ .next ρ σ3) : wpS prog w hb n sc own ρ σ (.For (.Name x px) iter body [] pos) Φ := by
  refine wpS_For hs (wpI_value (wpE_mono hi fun v σ1 ⟨e1, e2⟩ => ?_))
  subst e1 e2
  refine it_tup (fun _ _ => rfl) ⟨fun i ρ' σ' => ρ' = ρ ∧ (match i with | 0 => σ' = σ1 | 1 => J σ' | _ => Φ .next ρ σ'), ⟨rfl, rfl⟩, ?_, ?_⟩
  · rintro i y ρ' σ' hy ⟨rfl, hj⟩
    match i with
    | 0 =>
      cases hy
      subst hj
      exact wpA_name hst (wpSs_mono step0 fun f ρ3 σ3 ⟨e1, e2, e3⟩ => by subst e1; exact ⟨ρ', ((Sub.refl _).cons hx).trans e2, rfl, e3⟩)
    | 1 =>
      cases hy
      exact wpA_name hst (wpSs_mono (step1 σ' hj) fun f ρ3 σ3 ⟨e1, e2, e3⟩ => by subst e1; exact ⟨ρ', ((Sub.refl _).cons hx).trans e2, rfl, e3⟩)
    | i + 2 => cases hy
  · rintro ρ' σ' ⟨rfl, hj⟩; exact hj

end

section
variable {prog : Program} {w : World} {hb : Heap} {mg mb : Str → Option Value} {n : Nat} {σ : Store}
theorem bind8 (pm code doc : Value) : ∀ vs : List Value, vs.length = 3 → bindArgs (Calls.docDef "swap_columns" (fArgs 8) (fBody 8) (fScope 8) pm code doc) ⟨vs, []⟩ = pure ((["a", "one", "other"] : List Str).zip vs) := binds3 fun a b c => by kernel_rfl
theorem bind9 (pm code doc : Value) : ∀ vs : List Value, vs.length = 5 → bindArgs (Calls.docDef "bring" (fArgs 9) (fBody 9) (fScope 9) pm code doc) ⟨vs, []⟩ = pure ((["s", "u", "v", "spot", "step"] : List Str).zip vs) := binds5 fun a b c d e => by kernel_rfl

theorem swap_set {f : Nat → AV} {m i k : Nat} : (((List.range m).map f).set i (f k)).set k (f i) = (List.range m).map fun t => f (swapN i k t) := by
  rw [map_range_set, map_range_set]
  congr 1
  funext t
  unfold swapN
  by_cases q1 : t = k <;> by_cases q2 : t = i <;> by_cases q3 : i = k <;> simp_all

theorem noSwaps {a1 i1 a2 i2 : Expr} {p1 p2 p p' : Pos} {k k' : Nat} {vs : List Expr} (env : Env) : swappedStores [.Tuple [.Subscript a1 i1 p1, .Subscript a2 i2 p2] k p] (.Tuple vs k' p') env = pure none := by
  unfold swappedStores
  dsimp only
  split
  · rfl
  · split <;> rfl

theorem v_locRow {a : Addr} {f : Nat → AV} {m i : Nat} {Φ : AV → Store → Prop} (ha : σ a = some ((List.range m).map f)) (hi : i < m) (hm : m ≤ 1000) (h : Φ (f i) σ) : wpV prog w hb n σ fItem [.loc a, .int i] Φ :=
  v_item_loc ha (by omega) (by simpa using map_range_get (f := f) hi) (by omega) h

theorem swap_columns_spec (T : Text hb mg mb) {a : Addr} {r : Nat → Addr} {M : Mat} {h wd j k : Nat} (m : MatIn σ a r M h wd) (hj : j < wd) (hk : k < wd) (hw : wd ≤ 10) {Φ : AV → Store → Prop} (hΦ : ∀ σ', Upd σ σ' a r r (swapC j k M) h wd → Φ .none σ') :
    wpF prog w hb mg (n + 1) σ "swap_columns" [.loc a, .int j, .int k] Φ := by
  refine wpF_intro (["a", "one", "other"] : List Str) T.toGlo (T.at 8 "swap_columns" (by kernel_rfl) rfl) (by kernel_rfl) bind8 rfl ?_
  refine wpSs_cons ?_
  refine for_rows (swapC j k M) m (by kernel_rfl) rfl (fun _ _ => rfl) ?_ (fun i σ' hi hr => ?_) (fun σ' u => ?_)
  · walk_at "W"
    exact ⟨rfl, rfl⟩
  · walk_at "W"
    refine wpS_Assign (by kernel_rfl) (fun _ _ => rfl) (fun _ _ => noSwaps _) ?_
    walk_at "W"
    refine ⟨isS hr, v_locRow hr hk (by omega) ?_⟩
    walk_at "W"
    refine ⟨isS hr, v_locRow hr hj (by omega) ?_⟩
    walk_at "W"
    refine ⟨by simp, ?_⟩
    refine wpA_tuple rfl rfl ⟨rfl, wpA_sub ?_⟩
    walk_at "W"
    refine ⟨_, _, _, rfl, rfl, hr, by omega, by simp; omega, by omega, ?_⟩
    refine ⟨rfl, wpA_sub ?_⟩
    walk_at "W"
    refine ⟨_, _, _, rfl, rfl, sput_self, by omega, by simp; omega, by omega, ?_⟩
    show wpSs _ _ _ _ _ _ _ _ _ _
    walk_at "W"
    refine ⟨rfl, rfl, ?_⟩
    rw [sput_sput]
    congr 1
    exact swap_set (f := fun t => AV.int (M i t))
  · walk_at "W"
    exact hΦ _ u

theorem bring_spec (T : Text hb mg mb) {s u v : Addr} {rs ru rv : Nat → Addr} {S U V : Mat} {h wd i j k : Nat} (st : St σ s u v rs ru rv S U V h wd) (hi : i < h) (hj : j < wd) (hk : k < h) (hk' : k < wd) (hh : h ≤ 10) (hw : wd ≤ 10) {Φ : AV → Store → Prop}
    (hΦ : ∀ rs' ru' σ', St σ' s u v rs' ru' rv (swapC j k (swapR i k S)) (swapR i k U) (swapC j k V) h wd → Φ .none σ') :
    wpF prog w hb mg (n + 2) σ "bring" [.loc s, .loc u, .loc v, .tup [.int i, .int j], .int k] Φ := by
  refine wpF_intro (["s", "u", "v", "spot", "step"] : List Str) T.toGlo (T.at 9 "bring" (by kernel_rfl) rfl) (by kernel_rfl) bind9 rfl ?_
  refine wpSs_cons ?_
  walk_at "W"
  refine wpA_tuple rfl rfl ⟨rfl, wpA_name (by kernel_rfl) ⟨rfl, wpA_name (by kernel_rfl) ?_⟩⟩
  show wpSs _ _ _ _ _ _ _ _ _ _
  walk_at "W"
  refine for_two (.loc s) (.loc u) (by kernel_rfl) rfl (fun _ _ => rfl) ?_ (fun σ1 => ∃ rs', St σ1 s u v rs' ru rv (swapR i k S) U V h wd) ?_ ?_
  · walk_at "W"
    exact ⟨by simp, rfl, rfl⟩
  · have m := st.ms
    walk_at "W"
    refine wpS_Assign (by kernel_rfl) (fun _ _ => rfl) (fun _ _ => noSwaps _) ?_
    walk_at "W"
    refine ⟨isS m.top, v_locRow m.top hk (by omega) ?_⟩
    walk_at "W"
    refine ⟨isS m.top, v_locRow m.top hi (by omega) ?_⟩
    walk_at "W"
    refine ⟨by simp, ?_⟩
    refine wpA_tuple rfl rfl ⟨rfl, wpA_sub ?_⟩
    walk_at "W"
    refine ⟨_, _, _, rfl, rfl, m.top, by omega, by simp; omega, by omega, ?_⟩
    refine ⟨rfl, wpA_sub ?_⟩
    walk_at "W"
    refine ⟨_, _, _, rfl, rfl, sput_self, by omega, by simp; omega, by omega, ?_⟩
    show wpSs _ _ _ _ _ _ _ _ _ _
    walk_at "W"
    have u1 := m.swapR hi hk
    rw [← swap_set (f := fun t => AV.loc (rs t))] at u1
    rw [sput_sput]
    exact ⟨rfl, .refl _, _, st.updS u1⟩
  · rintro σ1 ⟨rs', st⟩
    have m := st.mu
    walk_at "W"
    refine wpS_Assign (by kernel_rfl) (fun _ _ => rfl) (fun _ _ => noSwaps _) ?_
    walk_at "W"
    refine ⟨isS m.top, v_locRow m.top hk (by omega) ?_⟩
    walk_at "W"
    refine ⟨isS m.top, v_locRow m.top hi (by omega) ?_⟩
    walk_at "W"
    refine ⟨by simp, ?_⟩
    refine wpA_tuple rfl rfl ⟨rfl, wpA_sub ?_⟩
    walk_at "W"
    refine ⟨_, _, _, rfl, rfl, m.top, by omega, by simp; omega, by omega, ?_⟩
    refine ⟨rfl, wpA_sub ?_⟩
    walk_at "W"
    refine ⟨_, _, _, rfl, rfl, sput_self, by omega, by simp; omega, by omega, ?_⟩
    show wpSs _ _ _ _ _ _ _ _ _ _
    walk_at "W"
    refine ⟨rfl, .refl _, ?_⟩
    rw [sput_sput]
    have u2 := m.swapR hi hk
    rw [← swap_set (f := fun t => AV.loc (ru t))] at u2
    have st2 := st.updU u2
    show wpSs _ _ _ _ _ _ _ _ _ _
    walk_at "W"
    refine for_two (.loc s) (.loc v) (by kernel_rfl) rfl (fun _ _ => rfl) ?_ (fun σ1 => St σ1 s u v rs' (fun t => ru (swapN i k t)) rv (swapC j k (swapR i k S)) (swapR i k U) V h wd) ?_ ?_
    · walk_at "W"
      exact ⟨by simp, rfl, rfl⟩
    · walk_at "W"
      refine wpS_Expr rfl (fun _ => rfl) (wpE_callF T.toGlo (T.at 8 "swap_columns" (by kernel_rfl) rfl) (by kernel_rfl) (by kernel_rfl) (by kernel_rfl) ?_)
      walk_at "W"
      refine swap_columns_spec T st2.ms hj hk' hw fun σ' u => ?_
      show wpSs _ _ _ _ _ _ _ _ _ _
      walk_at "W"
      exact ⟨rfl, .refl _, st2.updS u⟩
    · intro σ1 st3
      walk_at "W"
      refine wpS_Expr rfl (fun _ => rfl) (wpE_callF T.toGlo (T.at 8 "swap_columns" (by kernel_rfl) rfl) (by kernel_rfl) (by kernel_rfl) (by kernel_rfl) ?_)
      walk_at "W"
      refine swap_columns_spec T st3.mv hj hk' hw fun σ' u => ?_
      show wpSs _ _ _ _ _ _ _ _ _ _
      walk_at "W"
      refine ⟨rfl, .refl _, ?_⟩
      walk_at "W"
      exact hΦ _ _ _ (st3.updV u)
end

/-- what least_spot has found among the cells P -/
def Best (S : Mat) (step : Nat) (P : Nat → Nat → Prop) : Option (Nat × Nat) → Prop
  | none => ∀ i j, P i j → S i j = 0
  | some (a, b) => P a b ∧ S a b ≠ 0 ∧ (∀ i j, P i j → S i j ≠ 0 → (S a b).natAbs ≤ (S i j).natAbs) ∧ (P step step → S step step ≠ 0 → (a = step ∧ b = step) ∨ (S a b).natAbs < (S step step).natAbs)

def spotAV : Option (Nat × Nat) → AV
  | none => .none
  | some (a, b) => .tup [.int (a : Nat), .int (b : Nat)]

/-- the cells before (i, j) -/
def Before (step w i j : Nat) (a b : Nat) : Prop := step ≤ a ∧ step ≤ b ∧ b < w ∧ (a < i ∨ (a = i ∧ b < j))

def lessB (S : Mat) (i j : Nat) : Option (Nat × Nat) → Bool
  | none => true
  | some (a, b) => decide ((S i j).natAbs < (S a b).natAbs)
abbrev Less (S : Mat) (i j : Nat) (f : Option (Nat × Nat)) : Prop := lessB S i j f = true

theorem Best.step {S : Mat} {step w i j : Nat} {f : Option (Nat × Nat)} (hi : step ≤ i) (hj : step ≤ j) (hw : j < w) (B : Best S step (Before step w i j) f) :
    Best S step (Before step w i (j + 1)) (if (S i j ≠ 0 ∧ Less S i j f) then some (i, j) else f) := by
  have P : ∀ a b, Before step w i (j + 1) a b ↔ Before step w i j a b ∨ (a = i ∧ b = j) := by intro a b; unfold Before; omega
  split
  · rename_i h
    refine ⟨(P _ _).mpr (.inr ⟨rfl, rfl⟩), h.1, fun a b q n => ?_, fun q n => ?_⟩
    · rcases (P _ _).mp q with q | ⟨rfl, rfl⟩
      · match f, B, h.2 with
        | none, B, _ => exact absurd (B a b q) n
        | some (c, d), B, h2 => exact Nat.le_of_lt (Nat.lt_of_lt_of_le (of_decide_eq_true h2) (B.2.2.1 a b q n))
      · exact Nat.le_refl _
    · rcases (P _ _).mp q with q | ⟨e1, e2⟩
      · match f, B, h.2 with
        | none, B, _ => exact absurd (B _ _ q) n
        | some (c, d), B, h2 => exact .inr (Nat.lt_of_lt_of_le (of_decide_eq_true h2) (B.2.2.1 _ _ q n))
      · exact .inl ⟨e1.symm, e2.symm⟩
  · rename_i h
    match f, B with
    | none, B =>
      intro a b q
      rcases (P _ _).mp q with q | ⟨rfl, rfl⟩
      · exact B a b q
      · by_cases n : S a b = 0
        · exact n
        · exact absurd ⟨n, rfl⟩ h
    | some (c, d), B =>
      refine ⟨(P _ _).mpr (.inl B.1), B.2.1, fun a b q n => ?_, fun q n => ?_⟩
      · rcases (P _ _).mp q with q | ⟨rfl, rfl⟩
        · exact B.2.2.1 a b q n
        · exact Nat.le_of_not_lt fun l => h ⟨n, decide_eq_true l⟩
      · rcases (P _ _).mp q with q | ⟨e1, e2⟩
        · exact B.2.2.2 q n
        · subst e1; subst e2
          have : (S c d).natAbs ≤ (S step step).natAbs := Nat.le_of_not_lt fun l => h ⟨n, decide_eq_true l⟩
          have hp := B.1
          unfold Before at hp
          omega

theorem Best.congr {S : Mat} {step : Nat} {P Q : Nat → Nat → Prop} {f : Option (Nat × Nat)} (e : ∀ a b, P a b ↔ Q a b) (B : Best S step P f) : Best S step Q f := by
  have : P = Q := by funext a b; exact propext (e a b)
  rw [← this]; exact B

noncomputable def AllIn : Rho → Rho → Prop
  | [], _ => True
  | (x, v) :: r, ρ => ρ.lookup x = some v ∧ AllIn r ρ
theorem Sub.ofL : ∀ {ρ0 ρ : Rho}, AllIn ρ0 ρ → Sub ρ0 ρ
  | [], _, _ => fun _ _ e => by cases e
  | (x, v) :: r, ρ, ⟨h1, h2⟩ => fun y u e => by
    rw [List.lookup_cons] at e
    cases q : y == x with
    | true => rw [q] at e; cases e; rw [beq_iff_eq.mp q]; exact h1
    | false => rw [q] at e; exact Sub.ofL h2 y u e

theorem abs_nat (x : Int) : (if x < 0 then -x else x) = (x.natAbs : Int) := by omega

section
variable {prog : Program} {w : World} {hb : Heap} {mg mb : Str → Option Value} {n : Nat} {σ : Store}
theorem bind7 (pm code doc : Value) : ∀ vs : List Value, vs.length = 3 → bindArgs (Calls.docDef "least_spot" (fArgs 7) (fBody 7) (fScope 7) pm code doc) ⟨vs, []⟩ = pure ((["a", "step", "width"] : List Str).zip vs) := binds3 fun a b c => by kernel_rfl
theorem bind11 (pm code doc : Value) : ∀ vs : List Value, vs.length = 3 → bindArgs (Calls.docDef "undivided_row" (fArgs 11) (fBody 11) (fScope 11) pm code doc) ⟨vs, []⟩ = pure ((["s", "step", "width"] : List Str).zip vs) := binds3 fun a b c => by kernel_rfl

theorem v_lenLoc {a : Addr} {f : Nat → AV} {m : Nat} {Φ : AV → Store → Prop} (ha : σ a = some ((List.range m).map f)) (hm : m ≤ 1000) (h : Φ (.int m) σ) : wpV prog w hb n σ (fCall (.builtin "len")) [.loc a] Φ :=
  v_len_loc ha (by simp; omega) (by simpa using h)

theorem it_rngS {a m : Nat} {tgt : Expr} {Φ : List AV → Store → (Store → Store) → Prop} (ht : plainTgt tgt) (ha : a ≤ 1000) (hm : m ≤ 1000) (h : Φ ((List.range (m - a)).map fun i => .int ((a + i : Nat) : Int)) σ id) : wpIt prog w hb σ (.rng a m) tgt Φ := by
  refine it_rng ht (by omega) (by omega) (by omega) (by omega) ?_
  have : rngAV a m = (List.range (m - a)).map fun i => .int ((a + i : Nat) : Int) := by
    unfold rngAV
    rw [show ((m : Int) - a).toNat = m - a by omega]
    apply List.map_congr_left
    intro i _
    congr 1
  rw [this]; exact h

theorem least_spot_spec (T : Text hb mg mb) {a : Addr} {r : Nat → Addr} {S : Mat} {h wd step : Nat} (m : MatIn σ a r S h wd) (hst : step ≤ 10) (hh : h ≤ 10) (hw : wd ≤ 10) {Φ : AV → Store → Prop}
    (hΦ : ∀ f, Best S step (fun a b => step ≤ a ∧ a < h ∧ step ≤ b ∧ b < wd) f → Φ (spotAV f) σ) :
    wpF prog w hb mg (n + 1) σ "least_spot" [.loc a, .int step, .int wd] Φ := by
  refine wpF_intro (["a", "step", "width"] : List Str) T.toGlo (T.at 7 "least_spot" (by kernel_rfl) rfl) (by kernel_rfl) bind7 rfl ?_
  refine wpSs_cons ?_
  walk_at "W"
  refine wpS_For (fun _ _ => rfl) (wpI_value ?_)
  walk_at "W"
  refine v_lenLoc m.top (by omega) ?_
  walk_at "W"
  let base : Rho := [(("a" : Str), AV.loc a), (("step" : Str), AV.int step), (("width" : Str), AV.int wd)]
  refine it_rngS (fun _ _ => rfl) (by omega) (by omega) ⟨fun i ρ' σ' => σ' = σ ∧ ∃ f, Best S step (Before step wd (step + i) step) f ∧ Sub ((("found" : Str), spotAV f) :: base) ρ', ⟨rfl, none, fun a b q => ?_, .refl _⟩, ?_, ?_⟩
  · unfold Before at q; omega
  · rintro i y ρ' σ' hy ⟨rfl, f, B, hρ⟩
    have hi : i < h - step := by have := (List.getElem?_eq_some_iff.mp hy).1; simpa using this
    rw [map_range_get hi] at hy; cases hy
    walk_at "E"
    refine wpSs_weak hρ.cons₂ ?_
    walk_at "W"
    refine wpS_For (fun _ _ => rfl) (wpI_value ?_)
    walk_at "W"
    refine it_rngS (fun _ _ => rfl) (by omega) (by omega) ⟨fun j ρ' σ'' => σ'' = σ' ∧ ∃ f, Best S step (Before step wd (step + i) (step + j)) f ∧ Sub ((("row" : Str), AV.int ((step + i : Nat) : Int)) :: (("found" : Str), spotAV f) :: base) ρ', ⟨rfl, f, B, .refl _⟩, ?_, ?_⟩
    · rintro j y ρ' σ2 hy ⟨rfl, f, B, hρ⟩
      have hj : j < wd - step := by have := (List.getElem?_eq_some_iff.mp hy).1; simpa using this
      rw [map_range_get hj] at hy; cases hy
      walk_at "E"
      refine wpSs_weak hρ.cons₂ ?_
      walk_at "W"
      refine ⟨isS m.top, v_locRow m.top (by omega) (by omega) ?_⟩
      walk_at "W"
      refine ⟨isS (m.row _ (by omega)), v_locRow (m.row (step + i) (by omega)) (by omega) (by omega) ?_⟩
      walk_at "W"
      rw [abs_nat]
      have Bn := B.step (i := step + i) (j := step + j) (by omega) (by omega) (by omega)
      refine wpS_If' (decide (S (step + i) (step + j) ≠ 0 ∧ Less S (step + i) (step + j) f)) (wpT_And' (decide (S (step + i) (step + j) ≠ 0)) (decide (Less S (step + i) (step + j) f)) ?_ (fun hn => ?_) ⟨by rw [Bool.decide_and], rfl⟩) (fun q => ?_) (fun q => ?_)
      · walk_at "W"
        refine ⟨?_, rfl⟩
        rw [decide_eq_decide]; omega
      · match f, B, hρ with
        | none, B, hρ =>
          refine wpT_Or' true true ?_ (fun q => by cases q) ⟨rfl, rfl⟩
          walk_at "W"
          exact ⟨rfl, rfl⟩
        | some (c, d), B, hρ =>
          have hc := B.1
          unfold Before at hc
          refine wpT_Or' false (decide ((S (step + i) (step + j)).natAbs < (S c d).natAbs)) ?_ (fun _ => ?_) ⟨by simp [Less, lessB], rfl⟩
          · walk_at "W"
            exact ⟨rfl, rfl⟩
          · walk_at "W"
            refine ⟨trivial, v_item_tup (k := 0) (by omega) rfl (by omega) ?_⟩
            refine ⟨isS m.top, v_locRow m.top (i := c) (by omega) (by omega) ?_⟩
            walk_at "W"
            refine ⟨trivial, v_item_tup (k := 1) (by omega) rfl (by omega) ?_⟩
            refine ⟨isS (m.row _ (by omega)), v_locRow (m.row c (by omega)) (by omega) (by omega) ?_⟩
            walk_at "W"
            refine ⟨?_, rfl⟩
            rw [decide_eq_decide, abs_nat]
            omega
      · walk_at "W"
        refine ⟨by simp, ?_⟩
        walk_at "W"
        rw [if_pos (by simpa using q)] at Bn
        refine ⟨_, .refl _, rfl, _, Bn, Sub.ofL ⟨rfl, rfl, rfl, rfl, rfl, trivial⟩⟩
      · walk_at "W"
        rw [if_neg (by simpa using q)] at Bn
        refine ⟨_, .refl _, rfl, _, Bn, Sub.ofL ⟨rfl, rfl, rfl, rfl, rfl, trivial⟩⟩
    · rintro ρ' σ2 ⟨rfl, f, B, hρ⟩
      walk_at "W"
      refine ⟨_, .refl _, rfl, f, B.congr ?_, ?_⟩
      · intro c d
        simp only [List.length_map, List.length_range]
        unfold Before; omega
      · exact Sub.trans (Sub.ofL ⟨rfl, rfl, rfl, rfl, trivial⟩) hρ
  · rintro ρ' σ2 ⟨rfl, f, B, hρ⟩
    refine wpSs_weak hρ ?_
    walk_at "W"
    refine hΦ f (B.congr ?_)
    intro c d
    simp only [List.length_map, List.length_range]
    unfold Before; omega
end

theorem fmod_facts (x : Int) {y : Int} (h : y ≠ 0) : (x.fmod y).natAbs < y.natAbs ∧ (0 < y → 0 ≤ x.fmod y) ∧ (y < 0 → x.fmod y ≤ 0) := by
  have e := Int.fmod_eq_emod (a := x) (b := y)
  have n := Int.emod_nonneg x h
  have l := Int.emod_lt x h
  have d : y ∣ x → x % y = 0 := fun d => Int.emod_eq_zero_of_dvd d
  have d' : x % y = 0 → y ∣ x := fun d => Int.dvd_of_emod_eq_zero d
  by_cases q : 0 ≤ y ∨ y ∣ x
  · rw [if_pos q] at e
    rcases q with q | q
    · omega
    · have := d q; omega
  · rw [if_neg q] at e
    have q1 : ¬ 0 ≤ y := fun z => q (.inl z)
    have q2 : ¬ y ∣ x := fun z => q (.inr z)
    have q3 : x % y ≠ 0 := fun z => q2 (d' z)
    omega
theorem fdiv_abs (x : Int) {y : Int} (h : y ≠ 0) : (x.fdiv y).natAbs ≤ x.natAbs := by
  have e := Int.mul_fdiv_add_fmod x y
  have f := (fmod_facts x h).1
  generalize x.fdiv y = q at *
  generalize x.fmod y = r at *
  have e2 : (y * q).natAbs = y.natAbs * q.natAbs := Int.natAbs_mul y q
  have e3 : (y * q).natAbs ≤ x.natAbs + r.natAbs := by omega
  rw [e2] at e3
  have hy : 1 ≤ y.natAbs := by omega
  rcases Nat.lt_or_ge x.natAbs q.natAbs with l | l
  · exfalso
    have h1 : y.natAbs * (x.natAbs + 1) ≤ y.natAbs * q.natAbs := Nat.mul_le_mul_left _ l
    rw [Nat.mul_add, Nat.mul_one] at h1
    have h2 : 1 * x.natAbs ≤ y.natAbs * x.natAbs := Nat.mul_le_mul_right _ hy
    omega
  · exact l
theorem bits_of {x : Int} {k : Nat} (h : x.natAbs < 2 ^ k) : Builtin.Int.intBits x ≤ k := by
  unfold Builtin.Int.intBits
  split
  · omega
  · rename_i q
    have : x ≠ 0 := by simpa using q
    have := (Nat.log2_lt (n := x.natAbs) (k := k) (by omega)).mpr h
    omega
theorem log_of {x : Int} {k : Nat} (h0 : x ≠ 0) (h : x.natAbs < 2 ^ k) : x.natAbs.log2 < k := (Nat.log2_lt (by omega)).mpr h

def elimR (S T : Mat) (k c : Nat) : Mat := fun i j => if k < i ∧ i < k + 1 + c then T i j - (S i k).fdiv (S k k) * T k j else T i j
def elimC (S T : Mat) (k c : Nat) : Mat := fun i j => if k < j ∧ j < k + 1 + c then T i j - (S k j).fdiv (S k k) * T i k else T i j
def doneR (S : Mat) (k c : Nat) : Bool := (List.range c).all fun t => elimR S S k (t + 1) (k + 1 + t) k == 0
def doneC (S : Mat) (k c : Nat) : Bool := (List.range c).all fun t => elimC S S k (t + 1) k (k + 1 + t) == 0

theorem elimR_zero {S T : Mat} {k : Nat} : elimR S T k 0 = T := by funext i j; unfold elimR; rw [if_neg (by omega)]
theorem elimC_zero {S T : Mat} {k : Nat} : elimC S T k 0 = T := by funext i j; unfold elimC; rw [if_neg (by omega)]
theorem doneR_succ {S : Mat} {k c : Nat} : doneR S k (c + 1) = (doneR S k c && (elimR S S k (c + 1) (k + 1 + c) k == 0)) := by
  unfold doneR; rw [List.range_succ, List.all_append]; simp
theorem doneC_succ {S : Mat} {k c : Nat} : doneC S k (c + 1) = (doneC S k c && (elimC S S k (c + 1) k (k + 1 + c) == 0)) := by
  unfold doneC; rw [List.range_succ, List.all_append]; simp
theorem elimR_same {S T : Mat} {k c i j : Nat} (h : ¬ (k < i ∧ i < k + 1 + c)) : elimR S T k c i j = T i j := if_neg h
theorem elimC_same {S T : Mat} {k c i j : Nat} (h : ¬ (k < j ∧ j < k + 1 + c)) : elimC S T k c i j = T i j := if_neg h
theorem elimR_new {S T : Mat} {k c j : Nat} : elimR S T k (c + 1) (k + 1 + c) j = T (k + 1 + c) j - (S (k + 1 + c) k).fdiv (S k k) * T k j := if_pos (by omega)
theorem elimC_new {S T : Mat} {k c i : Nat} : elimC S T k (c + 1) i (k + 1 + c) = T i (k + 1 + c) - (S k (k + 1 + c)).fdiv (S k k) * T i k := if_pos (by omega)
theorem elimR_old {S T : Mat} {k c i j : Nat} (h : i ≠ k + 1 + c) : elimR S T k (c + 1) i j = elimR S T k c i j := by
  unfold elimR
  by_cases q : k < i ∧ i < k + 1 + c
  · rw [if_pos (by omega), if_pos q]
  · rw [if_neg (by omega), if_neg q]
theorem elimR_step {S T : Mat} {k c j : Nat} : elimR S T k (c + 1) (k + 1 + c) j = elimR S T k c (k + 1 + c) j - (S (k + 1 + c) k).fdiv (S k k) * elimR S T k c k j := by
  rw [elimR_new, elimR_same (by omega), elimR_same (by omega)]
theorem elimC_step {S T : Mat} {k c i : Nat} : elimC S T k (c + 1) i (k + 1 + c) = elimC S T k c i (k + 1 + c) - (S k (k + 1 + c)).fdiv (S k k) * elimC S T k c i k := by
  rw [elimC_new, elimC_same (by omega), elimC_same (by omega)]
theorem elimC_old {S T : Mat} {k c i j : Nat} (h : j ≠ k + 1 + c) : elimC S T k (c + 1) i j = elimC S T k c i j := by
  unfold elimC
  by_cases q : k < j ∧ j < k + 1 + c
  · rw [if_pos (by omega), if_pos q]
  · rw [if_neg (by omega), if_neg q]

section
variable {prog : Program} {w : World} {hb : Heap} {mg mb : Str → Option Value} {n : Nat} {sc : Scope} {own : List Str} {ρ : Rho} {σ : Store}

/-- a row is made anew from the rows, entry by entry -/
theorem sput_serase {σ : Store} {a : Addr} {xs : List AV} (h : σ a = some xs) : sput (serase σ a) a xs = σ := by
  funext b
  unfold sput serase
  by_cases q : b = a
  · subst q; rw [if_pos rfl, h]
  · rw [if_neg q, if_neg q]

theorem comp_enum {elt e : Expr} {x y : Str} {p px py tp pos : Pos} {k : Nat} {scope : Scope} {Ψ : List AV → Store → Prop} {a : Addr} {m : Nat} (g f : Nat → AV) (G : Glo hb mg mb) (hk : sc.names.lookup ("enumerate" : Str) = some .globalImplicit) (hn : notStarred e = true)
    (hst : storeOk (relS scope sc) (cellNames scope.names) x = true) (hst' : storeOk (relS scope sc) (cellNames scope.names) y = true)
    (hx : (compRho scope ρ).lookup x = none) (hy : (compRho scope ρ).lookup y = none) (hm : m ≤ 1000) (ha : σ a = some ((List.range m).map g))
    (hi : wpE prog w hb n sc own ρ σ e fun v σ1 => v = .loc a ∧ σ1 = σ)
    (h1 : ∀ i, i < m → wpE prog w hb n (relS scope sc) (cellNames scope.names) ((y, g i) :: (x, .int (i : Nat)) :: compRho scope ρ) (serase σ a) elt fun v σ' => v = f i ∧ σ' = serase σ a)
    (h2 : Ψ ((List.range m).map f) σ) : CompPre prog w hb n sc own ρ σ elt (.Tuple [.Name x px, .Name y py] k tp) (.Call (.Name "enumerate" p) [e] [] pos) [] scope Ψ := by
  refine compPre_enum hst hst' hx hy (wpI_enum G hk hn (wpE_mono hi fun v σ1 ee => ?_))
  obtain ⟨e1, e2⟩ := ee
  subst e1 e2
  refine .inr ⟨a, _, rfl, ha, ?_⟩
  refine ⟨_, rfl, by simp; omega, f, fun i u hu => ?_, ?_⟩
  · have hi : i < m := by have := (List.getElem?_eq_some_iff.mp hu).1; simpa using this
    rw [map_range_get hi] at hu; cases hu
    exact h1 i hi
  · simp only [List.length_map, List.length_range]
    rw [sput_serase ha]
    exact h2

end

section
variable {prog : Program} {w : World} {hb : Heap} {mg mb : Str → Option Value} {n : Nat} {σ : Store}
theorem rowC_set {S T : Mat} {k c i wd : Nat} : (rowL (elimC S T k c) i wd).set ((k + 1 + c : Nat) : Int).toNat (.int (elimC S T k c i (k + 1 + c) - (S k (k + 1 + c)).fdiv (S k k) * elimC S T k c i k)) = rowL (elimC S T k (c + 1)) i wd := by
  unfold rowL
  rw [Int.toNat_natCast, map_range_set]
  apply List.map_congr_left
  intro j _
  split
  · subst j; rw [elimC_step]
  · rw [elimC_old (by assumption)]
theorem bind10 (pm code doc : Value) : ∀ vs : List Value, vs.length = 5 → bindArgs (Calls.docDef "clear_cross" (fArgs 10) (fBody 10) (fScope 10) pm code doc) ⟨vs, []⟩ = pure ((["s", "u", "v", "step", "width"] : List Str).zip vs) := binds5 fun a b c d e => by kernel_rfl

theorem clear_cross_spec (T : Text hb mg mb) {s u v : Addr} {rs ru rv : Nat → Addr} {S U V : Mat} {h wd k : Nat} (st : St σ s u v rs ru rv S U V h wd) (hk : k < h) (hk' : k < wd) (hh : h ≤ 10) (hw : wd ≤ 10) (h0 : S k k ≠ 0) (hB : ∀ i j, (S i j).natAbs < 2 ^ 62) {Φ : AV → Store → Prop}
    (hΦ : ∀ rs' ru' σ', St σ' s u v rs' ru' rv (elimC S (elimR S S k (h - (k + 1))) k (wd - (k + 1))) (elimR S U k (h - (k + 1))) (elimC S V k (wd - (k + 1))) h wd → Φ (.bool (doneR S k (h - (k + 1)) && doneC S k (wd - (k + 1)))) σ') :
    wpF prog w hb mg (n + 1) σ "clear_cross" [.loc s, .loc u, .loc v, .int k, .int wd] Φ := by
  refine wpF_intro (["s", "u", "v", "step", "width"] : List Str) T.toGlo (T.at 10 "clear_cross" (by kernel_rfl) rfl) (by kernel_rfl) bind10 rfl ?_
  have hq : ∀ i j {y : Int}, IntMulOk ((S i j).fdiv (S k k)) y := fun i j y => .of_left (Nat.le_trans (bits_of (k := 62) (Nat.lt_of_le_of_lt (fdiv_abs _ h0) (hB i j))) (by decide))
  have hd : (S k k).natAbs.log2 < 9000 := Nat.lt_trans (log_of h0 (hB k k)) (by decide)
  refine wpSs_cons ?_
  refine wpS_Assign_swap (names := ["lead", "is_done"]) (fun _ => rfl) (fun _ he => ?_) (by kernel_rfl) ?_
  · cases ‹Env›; cases he; kernel_rfl
  walk_at "W"
  refine ⟨isS st.ms.top, v_locRow st.ms.top hk (by omega) ?_⟩
  walk_at "W"
  refine ⟨isS (st.ms.row k hk), v_locRow (st.ms.row k hk) hk' (by omega) ?_⟩
  walk_at "W"
  refine ⟨rfl, by simp, ?_⟩
  walk_at "W"
  let base : Rho := [(("s" : Str), AV.loc s), (("u" : Str), AV.loc u), (("v" : Str), AV.loc v), (("step" : Str), AV.int k), (("width" : Str), AV.int wd), (("lead" : Str), AV.int (S k k))]
  refine wpS_For (fun _ _ => rfl) (wpI_value ?_)
  walk_at "W"
  refine v_lenLoc st.ms.top (by omega) ?_
  walk_at "W"
  refine it_rngS (a := k + 1) (fun _ _ => rfl) (by omega) (by omega) ⟨fun c ρ' σ' => (∃ rs' ru', St σ' s u v rs' ru' rv (elimR S S k c) (elimR S U k c) V h wd) ∧ Sub ((("is_done" : Str), .bool (doneR S k c)) :: base) ρ', ⟨⟨rs, ru, by rw [elimR_zero, elimR_zero]; exact st⟩, Sub.ofL ⟨rfl, rfl, rfl, rfl, rfl, rfl, rfl, trivial⟩⟩, ?_, ?_⟩
  · rintro c y ρ' σ' hy ⟨⟨rs', ru', st⟩, hρ⟩
    have hc : c < h - (k + 1) := by have := (List.getElem?_eq_some_iff.mp hy).1; simpa using this
    rw [map_range_get hc] at hy; cases hy
    walk_at "E"
    refine wpSs_weak hρ.cons₂ ?_
    walk_at "W"
    refine ⟨isS st.ms.top, v_locRow st.ms.top (by omega) (by omega) ?_⟩
    walk_at "W"
    refine ⟨isS (st.ms.row (k + 1 + c) (by omega)), v_locRow (st.ms.row (k + 1 + c) (by omega)) hk' (by omega) ?_⟩
    walk_at "W"
    refine v_floordiv h0 hd ?_
    rw [elimR_same (by omega)]
    walk_at "W"
    refine for_two (.loc s) (.loc u) (by kernel_rfl) rfl (fun _ _ => rfl) ?_ (fun σ1 => ∃ rs', St σ1 s u v rs' ru' rv (elimR S S k (c + 1)) (elimR S U k c) V h wd) ?_ ?_
    · walk_at "W"
      exact ⟨by simp, rfl, rfl⟩
    · generalize hσ1 : σ' = σ1 at *
      walk_at "W"
      have m := st.ms
      have nr : ∀ i, i < h → i ≠ k + 1 + c → rs' i ≠ rs' (k + 1 + c) := fun i hi q e => q (m.inj _ _ hi (by omega) e)
      refine wpE_Comp_loc (by kernel_rfl) (fun _ _ => rfl) (comp_enum (a := rs' (k + 1 + c)) (fun j => .int (elimR S S k c (k + 1 + c) j)) (fun j => .int (elimR S S k (c + 1) (k + 1 + c) j)) T.toGlo (by kernel_rfl) rfl (by kernel_rfl) (by kernel_rfl) rfl rfl (m := wd) (by omega) (m.row _ (by omega)) ?_ (fun j hj => ?_) (fun new hnew => ?_))
      · walk_at "W"
        exact ⟨isS m.top, v_locRow m.top (by omega) (by omega) ⟨rfl, rfl⟩⟩
      · walk_at "W"
        have top' := (serase_ne (σ := σ1) (a := rs' (k + 1 + c)) (Ne.symm (m.ne (k + 1 + c) (by omega)))).trans m.top
        have row' := (serase_ne (σ := σ1) (nr k hk (by omega))).trans (m.row k hk)
        refine ⟨isS top', v_locRow top' hk (by omega) ?_⟩
        walk_at "W"
        refine ⟨isS row', v_locRow row' hj (by omega) (v_mul (hq _ _) ?_)⟩
        walk_at "W"
        exact ⟨by rw [elimR_step], rfl⟩
      · have nA : s ≠ new := by rintro rfl; rw [m.top] at hnew; cases hnew
        refine wpA_sub ?_
        walk_at "W"
        refine ⟨_, _, _, rfl, rfl, (sput_ne nA).trans m.top, by omega, by simp; omega, by omega, ?_⟩
        walk_at "W"
        have u := m.setRow (i := k + 1 + c) (M' := elimR S S k (c + 1)) (by omega) hnew (fun i j q => elimR_old q)
        exact ⟨rfl, .refl _, _, st.updS u⟩
    · rintro σ1 ⟨rs', st⟩
      walk_at "W"
      have m := st.mu
      have nr : ∀ i, i < h → i ≠ k + 1 + c → ru' i ≠ ru' (k + 1 + c) := fun i hi q e => q (m.inj _ _ hi (by omega) e)
      refine wpE_Comp_loc (by kernel_rfl) (fun _ _ => rfl) (comp_enum (a := ru' (k + 1 + c)) (fun j => .int (elimR S U k c (k + 1 + c) j)) (fun j => .int (elimR S U k (c + 1) (k + 1 + c) j)) T.toGlo (by kernel_rfl) rfl (by kernel_rfl) (by kernel_rfl) rfl rfl (m := h) (by omega) (m.row _ (by omega)) ?_ (fun j hj => ?_) (fun new hnew => ?_))
      · walk_at "W"
        exact ⟨isS m.top, v_locRow m.top (by omega) (by omega) ⟨rfl, rfl⟩⟩
      · walk_at "W"
        have top' := (serase_ne (σ := σ1) (a := ru' (k + 1 + c)) (Ne.symm (m.ne (k + 1 + c) (by omega)))).trans m.top
        have row' := (serase_ne (σ := σ1) (nr k hk (by omega))).trans (m.row k hk)
        refine ⟨isS top', v_locRow top' hk (by omega) ?_⟩
        walk_at "W"
        refine ⟨isS row', v_locRow row' hj (by omega) (v_mul (hq _ _) ?_)⟩
        walk_at "W"
        exact ⟨by rw [elimR_step], rfl⟩
      · have nA : u ≠ new := by rintro rfl; rw [m.top] at hnew; cases hnew
        refine wpA_sub ?_
        walk_at "W"
        refine ⟨_, _, _, rfl, rfl, (sput_ne nA).trans m.top, by omega, by simp; omega, by omega, ?_⟩
        walk_at "W"
        have uu := m.setRow (i := k + 1 + c) (M' := elimR S U k (c + 1)) (by omega) hnew (fun i j q => elimR_old q)
        refine ⟨rfl, .refl _, ?_⟩
        have st2 := st.updU uu
        show wpSs _ _ _ _ _ _ _ _ _ _
        walk_at "W"
        refine wpE_And' (doneR S k c) (elimR S S k (c + 1) (k + 1 + c) k == 0) ?_ (fun _ => ?_) ?_
        · walk_at "W"
          exact ⟨rfl, rfl⟩
        · walk_at "W"
          refine ⟨isS st2.ms.top, v_locRow st2.ms.top (by omega) (by omega) ?_⟩
          walk_at "W"
          refine ⟨isS (st2.ms.row (k + 1 + c) (by omega)), v_locRow (st2.ms.row (k + 1 + c) (by omega)) hk' (by omega) ?_⟩
          walk_at "W"
          exact ⟨rfl, rfl⟩
        walk_at "W"
        refine ⟨_, .refl _, ⟨_, _, st2⟩, ?_⟩
        rw [doneR_succ]
        exact Sub.ofL ⟨rfl, rfl, rfl, rfl, rfl, rfl, rfl, trivial⟩
  · rintro ρ' σ' ⟨⟨rs', ru', st⟩, hρ⟩
    simp only [List.length_map, List.length_range] at st hρ
    generalize hS1 : elimR S S k (h - (k + 1)) = S1 at *
    generalize hU1 : elimR S U k (h - (k + 1)) = U1 at *
    generalize doneR S k (h - (k + 1)) = D at *
    have hS1k : ∀ j, S1 k j = S k j := fun j => by rw [← hS1]; exact elimR_same (by omega)
    refine wpSs_weak hρ ?_
    walk_at "W"
    refine wpS_For (fun _ _ => rfl) (wpI_value ?_)
    walk_at "W"
    refine it_rngS (a := k + 1) (fun _ _ => rfl) (by omega) (by omega) ⟨fun c ρ' σ' => St σ' s u v rs' ru' rv (elimC S S1 k c) U1 (elimC S V k c) h wd ∧ Sub ((("is_done" : Str), .bool (D && doneC S k c)) :: base) ρ', ⟨by rw [elimC_zero, elimC_zero]; exact st, ?_⟩, ?_, ?_⟩
    · rw [show (D && doneC S k 0) = D by simp [doneC]]; exact .refl _
    · rintro c y ρ' σ' hy ⟨st, hρ⟩
      have hc : c < wd - (k + 1) := by have := (List.getElem?_eq_some_iff.mp hy).1; simpa using this
      rw [map_range_get hc] at hy; cases hy
      walk_at "E"
      refine wpSs_weak hρ.cons₂ ?_
      walk_at "W"
      refine ⟨isS st.ms.top, v_locRow st.ms.top hk (by omega) ?_⟩
      walk_at "W"
      refine ⟨isS (st.ms.row k hk), v_locRow (st.ms.row k hk) (by omega) (by omega) ?_⟩
      walk_at "W"
      refine v_floordiv h0 hd ?_
      rw [elimC_same (by omega), hS1k]
      walk_at "W"
      refine for_two (.loc s) (.loc v) (by kernel_rfl) rfl (fun _ _ => rfl) ?_ (fun σ1 => St σ1 s u v rs' ru' rv (elimC S S1 k (c + 1)) U1 (elimC S V k c) h wd) ?_ ?_
      · walk_at "W"
        exact ⟨by simp, rfl, rfl⟩
      · walk_at "W"
        refine for_rows (elimC S S1 k (c + 1)) st.ms (by kernel_rfl) rfl (fun _ _ => rfl) ?_ (fun i σ2 hi hr => ?_) (fun σ2 uu => ?_)
        · walk_at "W"
          exact ⟨rfl, rfl⟩
        · walk_at "W"
          refine ⟨isS hr, v_locRow hr (by omega) (by omega) ?_⟩
          walk_at "W"
          refine ⟨isS hr, v_locRow hr hk' (by omega) (v_mul (hq _ _) ?_)⟩
          walk_at "W"
          refine ⟨_, _, _, rfl, rfl, hr, by omega, by simp; omega, by omega, ?_⟩
          walk_at "W"
          refine ⟨rfl, rfl, ?_⟩
          congr 1
          exact rowC_set
        · walk_at "W"
          exact ⟨rfl, .refl _, st.updS uu⟩
      · intro σ1 st
        walk_at "W"
        refine for_rows (elimC S V k (c + 1)) st.mv (by kernel_rfl) rfl (fun _ _ => rfl) ?_ (fun i σ2 hi hr => ?_) (fun σ2 uu => ?_)
        · walk_at "W"
          exact ⟨rfl, rfl⟩
        · walk_at "W"
          refine ⟨isS hr, v_locRow hr (by omega) (by omega) ?_⟩
          walk_at "W"
          refine ⟨isS hr, v_locRow hr hk' (by omega) (v_mul (hq _ _) ?_)⟩
          walk_at "W"
          refine ⟨_, _, _, rfl, rfl, hr, by omega, by simp; omega, by omega, ?_⟩
          walk_at "W"
          refine ⟨rfl, rfl, ?_⟩
          congr 1
          exact rowC_set
        · walk_at "W"
          refine ⟨rfl, .refl _, ?_⟩
          have st2 := st.updV uu
          show wpSs _ _ _ _ _ _ _ _ _ _
          walk_at "W"
          refine wpE_And' (D && doneC S k c) (elimC S S k (c + 1) k (k + 1 + c) == 0) ?_ (fun _ => ?_) ?_
          · walk_at "W"
            exact ⟨rfl, rfl⟩
          · walk_at "W"
            refine ⟨isS st2.ms.top, v_locRow st2.ms.top hk (by omega) ?_⟩
            walk_at "W"
            refine ⟨isS (st2.ms.row k hk), v_locRow (st2.ms.row k hk) (by omega) (by omega) ?_⟩
            walk_at "W"
            refine ⟨?_, rfl⟩
            rw [elimC_new, elimC_new, hS1k, hS1k]
          walk_at "W"
          refine ⟨_, .refl _, st2, ?_⟩
          rw [doneC_succ, ← Bool.and_assoc]
          exact Sub.ofL ⟨rfl, rfl, rfl, rfl, rfl, rfl, rfl, trivial⟩
    · rintro ρ' σ' ⟨st, hρ⟩
      simp only [List.length_map, List.length_range] at st hρ
      refine wpSs_weak hρ ?_
      walk_at "W"
      exact hΦ _ _ _ st
end

def undivAV : Option Nat → AV
  | none => .none
  | some i => .int (i : Nat)
/-- what undivided_row tells -/
def Undiv (S : Mat) (k h w : Nat) : Option Nat → Prop
  | none => ∀ i j, k < i → i < h → k < j → j < w → (S i j).fmod (S k k) = 0
  | some i => k < i ∧ i < h ∧ ∃ j, k < j ∧ j < w ∧ (S i j).fmod (S k k) ≠ 0

section
variable {prog : Program} {w : World} {hb : Heap} {mg mb : Str → Option Value} {n : Nat} {σ : Store}

theorem undivided_row_spec (T : Text hb mg mb) {s : Addr} {rs : Nat → Addr} {S : Mat} {h wd k : Nat} (m : MatIn σ s rs S h wd) (hk : k < h) (hk' : k < wd) (hh : h ≤ 10) (hw : wd ≤ 10) (h0 : S k k ≠ 0) {Φ : AV → Store → Prop}
    (hΦ : ∀ f, Undiv S k h wd f → Φ (undivAV f) σ) :
    wpF prog w hb mg (n + 1) σ "undivided_row" [.loc s, .int k, .int wd] Φ := by
  refine wpF_intro (["s", "step", "width"] : List Str) T.toGlo (T.at 11 "undivided_row" (by kernel_rfl) rfl) (by kernel_rfl) bind11 rfl ?_
  refine wpSs_cons ?_
  walk_at "W"
  refine wpS_For (fun _ _ => rfl) (wpI_value ?_)
  walk_at "W"
  refine v_lenLoc m.top (by omega) ?_
  walk_at "W"
  let base : Rho := [(("s" : Str), AV.loc s), (("step" : Str), AV.int k), (("width" : Str), AV.int wd)]
  refine it_rngS (a := k + 1) (fun _ _ => rfl) (by omega) (by omega) ⟨fun c ρ' σ' => σ' = σ ∧ (∀ i j, k < i → i < k + 1 + c → k < j → j < wd → (S i j).fmod (S k k) = 0) ∧ Sub base ρ', ⟨rfl, fun i j h1 h2 => by omega, .refl _⟩, ?_, ?_⟩
  · rintro c y ρ' σ' hy ⟨rfl, B, hρ⟩
    have hc : c < h - (k + 1) := by have := (List.getElem?_eq_some_iff.mp hy).1; simpa using this
    rw [map_range_get hc] at hy; cases hy
    walk_at "E"
    refine wpSs_weak hρ.cons₂ ?_
    walk_at "W"
    let p : Nat → Bool := fun t => decide ((S (k + 1 + c) (k + 1 + t)).fmod (S k k) ≠ 0)
    refine wpS_If' (!((List.range (wd - (k + 1))).filter p).isEmpty) ?_ (fun q => ?_) (fun q => ?_)
    · walk_at "W"
      refine wpE_CompP (by kernel_rfl) (fun _ _ => rfl) (compPre_filter (by kernel_rfl) (by rfl) (wpI_value ?_))
      walk_at "W"
      refine it_rngS (a := k + 1) (fun _ _ => rfl) (by omega) (by omega) ⟨by simp; omega, p, fun _ => .int 1, fun i y hy => ?_, ?_⟩
      · have hi : i < wd - (k + 1) := by have := (List.getElem?_eq_some_iff.mp hy).1; simpa using this
        rw [map_range_get hi] at hy; cases hy
        walk_at "W"
        refine ⟨isS m.top, v_locRow m.top (by omega) (by omega) ?_⟩
        walk_at "W"
        refine ⟨isS (m.row (k + 1 + c) (by omega)), v_locRow (m.row (k + 1 + c) (by omega)) (by omega) (by omega) ?_⟩
        walk_at "W"
        refine ⟨isS m.top, v_locRow m.top hk (by omega) ?_⟩
        walk_at "W"
        refine ⟨isS (m.row k hk), v_locRow (m.row k hk) hk' (by omega) (v_mod h0 ?_)⟩
        walk_at "W"
        refine ⟨Bool.eq_iff_iff.mpr (by simp [p]), rfl, fun _ => ?_⟩
        walk_at "W"
        exact ⟨rfl, rfl⟩
      · simp only [List.length_map, List.length_range]
        refine wpE_List ?_
        walk_at "W"
        refine ⟨by simp, v_ne_nil (t_bool ⟨by simp, rfl⟩)⟩
    · walk_at "W"
      rw [Bool.not_eq_true', List.isEmpty_eq_false_iff_exists_mem] at q
      obtain ⟨t, ht⟩ := q
      rw [List.mem_filter, List.mem_range] at ht
      exact hΦ (some (k + 1 + c)) ⟨by omega, by omega, k + 1 + t, by omega, by omega, by simpa [p] using ht.2⟩
    · walk_at "W"
      refine ⟨_, .refl _, rfl, fun i j h1 h2 h3 h4 => ?_, Sub.trans (Sub.ofL ⟨rfl, rfl, rfl, trivial⟩) (.refl _)⟩
      by_cases hi : i = k + 1 + c
      · subst hi
        rw [Bool.not_eq_false', List.isEmpty_iff, List.filter_eq_nil_iff] at q
        have := q (j - (k + 1)) (List.mem_range.mpr (by omega))
        simp only [p] at this
        rw [show k + 1 + (j - (k + 1)) = j by omega] at this
        simpa using this
      · exact B i j h1 (by omega) h3 h4
  · rintro ρ' σ' ⟨rfl, B, hρ⟩
    simp only [List.length_map, List.length_range] at B
    refine wpSs_weak hρ ?_
    walk_at "W"
    exact hΦ none fun i j h1 h2 h3 h4 => B i j h1 (by omega) h3 h4
end

/-! ## The algebra of the steps -/
def dl (i j : Nat) : Int := if i = j then 1 else 0
structure Alg (A S U V : Mat) : Prop where
  eq : ∀ i j, S i j = U i 0 * (A 0 0 * V 0 j + A 0 1 * V 1 j + A 0 2 * V 2 j) + U i 1 * (A 1 0 * V 0 j + A 1 1 * V 1 j + A 1 2 * V 2 j)
  ui : ∃ X : Mat, ∀ i j, i < 2 → j < 2 → X i 0 * U 0 j + X i 1 * U 1 j = dl i j
  vi : ∃ W : Mat, (∀ i j, i < 3 → j < 3 → W i 0 * V 0 j + W i 1 * V 1 j + W i 2 * V 2 j = dl i j) ∧ ∀ i j, i < 3 → j < 3 → V i 0 * W 0 j + V i 1 * W 1 j + V i 2 * W 2 j = dl i j

def rowAdd (i k : Nat) (q : Int) (M : Mat) : Mat := fun a b => if a = i then M i b + q * M k b else M a b
def colAdd (j k : Nat) (q : Int) (M : Mat) : Mat := fun a b => if b = j then M a j + q * M a k else M a b
def rowNeg (k : Nat) (M : Mat) : Mat := fun a b => if a = k then - M a b else M a b

theorem lt2 {i : Nat} (h : i < 2) : i = 0 ∨ i = 1 := by omega
theorem lt3 {i : Nat} (h : i < 3) : i = 0 ∨ i = 1 ∨ i = 2 := by omega

theorem Alg.rowAdd {A S U V : Mat} (h : Alg A S U V) {i k : Nat} (q : Int) (hi : i < 2) (hk : k < 2) (hn : i ≠ k) : Alg A (Mine.rowAdd i k q S) (Mine.rowAdd i k q U) V := by
  refine ⟨fun a b => ?_, ?_, h.vi⟩
  · unfold Mine.rowAdd
    have e1 := h.eq i b
    have e2 := h.eq k b
    have e3 := h.eq a b
    split <;> grind
  · obtain ⟨X, hX⟩ := h.ui
    refine ⟨fun a b => if b = k then X a k - q * X a i else X a b, fun a b ha hb => ?_⟩
    have e := hX a b ha hb
    rcases lt2 hi with rfl | rfl <;> rcases lt2 hk with rfl | rfl <;> simp_all [Mine.rowAdd] <;> grind

theorem Alg.rowNeg {A S U V : Mat} (h : Alg A S U V) {k : Nat} (hk : k < 2) : Alg A (Mine.rowNeg k S) (Mine.rowNeg k U) V := by
  refine ⟨fun a b => ?_, ?_, h.vi⟩
  · unfold Mine.rowNeg
    have e3 := h.eq a b
    split <;> grind
  · obtain ⟨X, hX⟩ := h.ui
    refine ⟨fun a b => if b = k then - X a b else X a b, fun a b ha hb => ?_⟩
    have e := hX a b ha hb
    rcases lt2 hk with rfl | rfl <;> simp_all [Mine.rowNeg] <;> grind

theorem Alg.swapR {A S U V : Mat} (h : Alg A S U V) {i k : Nat} (hi : i < 2) (hk : k < 2) : Alg A (Mine.swapR i k S) (Mine.swapR i k U) V := by
  refine ⟨fun a b => h.eq _ _, ?_, h.vi⟩
  obtain ⟨X, hX⟩ := h.ui
  refine ⟨fun a b => X a (swapN i k b), fun a b ha hb => ?_⟩
  have e := hX a b ha hb
  rcases lt2 hi with rfl | rfl <;> rcases lt2 hk with rfl | rfl <;> simp_all [Mine.swapR, swapN] <;> grind

theorem Alg.swapC {A S U V : Mat} (h : Alg A S U V) {i k : Nat} (hi : i < 3) (hk : k < 3) : Alg A (Mine.swapC i k S) U (Mine.swapC i k V) := by
  refine ⟨fun a b => h.eq _ _, h.ui, ?_⟩
  obtain ⟨W, h1, h2⟩ := h.vi
  refine ⟨fun a b => W (swapN i k a) b, fun a b ha hb => ?_, fun a b ha hb => ?_⟩
  · have e := h1 (swapN i k a) (swapN i k b) (swapN_lt hi hk ha) (swapN_lt hi hk hb)
    have : dl (swapN i k a) (swapN i k b) = dl a b := by
      unfold dl
      by_cases q : a = b
      · subst q; simp
      · rw [if_neg q, if_neg (fun z => q (by rw [← swapN_swapN (i := i) (j := k) (k := a), z, swapN_swapN]))]
    rw [← this]; exact e
  · have e := h2 a b ha hb
    rcases lt3 hi with rfl | rfl | rfl <;> rcases lt3 hk with rfl | rfl | rfl <;> simp_all [Mine.swapC, swapN] <;> grind

theorem Alg.colAdd {A S U V : Mat} (h : Alg A S U V) {j k : Nat} (q : Int) (hj : j < 3) (hk : k < 3) (hn : j ≠ k) : Alg A (Mine.colAdd j k q S) U (Mine.colAdd j k q V) := by
  refine ⟨fun a b => ?_, h.ui, ?_⟩
  · unfold Mine.colAdd
    have e1 := h.eq a j
    have e2 := h.eq a k
    have e3 := h.eq a b
    split <;> grind
  · obtain ⟨W, h1, h2⟩ := h.vi
    refine ⟨fun a b => if a = k then W k b - q * W j b else W a b, fun a b ha hb => ?_, fun a b ha hb => ?_⟩
    · unfold Mine.colAdd
      have d1 : ∀ i, dl i i = 1 := fun i => if_pos rfl
      have d0 : ∀ i j, i ≠ j → dl i j = 0 := fun i j h => if_neg h
      by_cases q1 : b = j
      · subst q1
        by_cases q2 : a = k
        · subst q2
          have e1 := h1 a b ha hb
          have e2 := h1 a a ha ha
          have e3 := h1 b b hb hb
          have e4 := h1 b a hb ha
          rw [d1] at e2 e3
          rw [d0 _ _ hn] at e4
          simp only [if_true]
          grind
        · have e1 := h1 a b ha hb
          have e2 := h1 a k ha hk
          rw [d0 _ _ q2] at e2
          simp only [if_neg q2, if_true]
          grind
      · by_cases q2 : a = k
        · subst q2
          have e1 := h1 a b ha hb
          have e3 := h1 j b hj hb
          rw [d0 _ _ (Ne.symm q1)] at e3
          simp only [if_neg q1, if_true]
          grind
        · simp only [if_neg q1, if_neg q2]
          exact h1 a b ha hb
    · have e := h2 a b ha hb
      rcases lt3 hj with rfl | rfl | rfl <;> rcases lt3 hk with rfl | rfl | rfl <;> simp_all [Mine.colAdd] <;> grind

theorem Alg.start (A : Mat) (hr : ∀ i j, 2 ≤ i → A i j = 0) (hc : ∀ i j, 3 ≤ j → A i j = 0) : Alg A A unitM unitM := by
  refine ⟨fun i j => ?_, ⟨unitM, fun i j hi hj => ?_⟩, unitM, fun i j hi hj => ?_, fun i j hi hj => ?_⟩
  · rcases Nat.lt_or_ge i 2 with h | h
    · rcases Nat.lt_or_ge j 3 with h' | h'
      · rcases lt2 h with rfl | rfl <;> rcases lt3 h' with rfl | rfl | rfl <;> simp [unitM]
      · rw [hc i j h']
        have e0 : unitM 0 j = 0 := if_neg (by omega)
        have e1 : unitM 1 j = 0 := if_neg (by omega)
        have e2 : unitM 2 j = 0 := if_neg (by omega)
        rw [e0, e1, e2]; simp
    · rw [hr i j h]
      have e0 : unitM i 0 = 0 := if_neg (by omega)
      have e1 : unitM i 1 = 0 := if_neg (by omega)
      rw [e0, e1]; simp
  · rcases lt2 hi with rfl | rfl <;> rcases lt2 hj with rfl | rfl <;> simp [unitM, dl]
  · rcases lt3 hi with rfl | rfl | rfl <;> rcases lt3 hj with rfl | rfl | rfl <;> simp [unitM, dl]
  · rcases lt3 hi with rfl | rfl | rfl <;> rcases lt3 hj with rfl | rfl | rfl <;> simp [unitM, dl]

/-! ## Euclid's steps keep this bound -/
def psi (x y v1 v2 : Int) : Nat := (if 0 ≤ x * y then 1 else 3) * (x.natAbs * v2.natAbs + y.natAbs * v1.natAbs)
theorem psi_swap (x y v1 v2 : Int) : psi y x v2 v1 = psi x y v1 v2 := by
  unfold psi; rw [Int.mul_comm y x, Nat.add_comm]
theorem psi_2 {x y v1 v2 : Int} (h : x ≠ 0) : v2.natAbs ≤ psi x y v1 v2 := by
  unfold psi
  have h1 : 1 * v2.natAbs ≤ x.natAbs * v2.natAbs := Nat.mul_le_mul_right _ (by omega)
  split <;> omega
theorem psi_1 {x y v1 v2 : Int} (h : y ≠ 0) : v1.natAbs ≤ psi x y v1 v2 := by rw [← psi_swap]; exact psi_2 h

theorem psi_turn {x y v1 v2 : Int} (hx : x ≠ 0) (hy : y = 0 ∨ x.natAbs ≤ y.natAbs) : psi x (y.fmod x) v1 (v2 - y.fdiv x * v1) ≤ psi x y v1 v2 := by
  obtain ⟨f1, f2, f3⟩ := fmod_facts y hx
  have e := Int.mul_fdiv_add_fmod y x
  generalize y.fmod x = r at *
  generalize y.fdiv x = q at *
  have hr : 0 ≤ x * r := by
    rcases Int.lt_or_lt_of_ne hx with h | h
    · exact Int.mul_nonneg_of_nonpos_of_nonpos (by omega) (f3 h)
    · exact Int.mul_nonneg (by omega) (f2 h)
  have a1 : (v2 - q * v1).natAbs ≤ v2.natAbs + q.natAbs * v1.natAbs := by
    have := Int.natAbs_sub_le v2 (q * v1)
    rwa [Int.natAbs_mul] at this
  have a2 : x.natAbs * (v2 - q * v1).natAbs ≤ x.natAbs * v2.natAbs + (y - r).natAbs * v1.natAbs := by
    have h1 := Nat.mul_le_mul_left x.natAbs a1
    rw [Nat.mul_add, ← Nat.mul_assoc] at h1
    rwa [show y - r = x * q by omega, Int.natAbs_mul]
  unfold psi
  rw [if_pos hr]
  have key : (y - r).natAbs + r.natAbs ≤ (if 0 ≤ x * y then 1 else 3) * y.natAbs := by
    split
    · rename_i hxy
      rcases Int.lt_or_lt_of_ne hx with h | h
      · have hy0 : y ≤ 0 := by
          rcases Int.lt_or_le 0 y with z | z
          · have := Int.mul_neg_of_neg_of_pos h z; omega
          · exact z
        have := f3 h
        have hq : x * q ≤ 0 := by
          rcases Int.lt_or_le q 0 with z | z
          · have : x * q ≥ -x := by
              have := Int.mul_nonneg_of_nonpos_of_nonpos (a := x) (b := q + 1) (by omega) (by omega)
              rw [Int.mul_add] at this
              omega
            omega
          · exact Int.mul_nonpos_of_nonpos_of_nonneg (by omega) z
        omega
      · have hy0 : 0 ≤ y := by
          rcases Int.lt_or_le y 0 with z | z
          · have := Int.mul_neg_of_pos_of_neg h z; omega
          · exact z
        have := f2 h
        have hq : 0 ≤ x * q := by
          rcases Int.lt_or_le q 0 with z | z
          · have : x * q ≤ -x := by
              have := Int.mul_le_mul_of_nonneg_left (a := q) (b := -1) (c := x) (by omega) (by omega)
              omega
            omega
          · exact Int.mul_nonneg (by omega) z
        omega
    · rename_i hxy
      have : y ≠ 0 := by rintro rfl; simp at hxy
      omega
  have h2 := Nat.mul_le_mul_right v1.natAbs key
  rw [Nat.add_mul] at h2
  have h3 : 1 ≤ (if 0 ≤ x * y then 1 else 3) := by split <;> omega
  revert h2 h3
  generalize (if 0 ≤ x * y then 1 else 3) = K
  intro h2 h3
  rw [Nat.mul_add K, ← Nat.mul_assoc K y.natAbs]
  have h4 : 1 * (x.natAbs * v2.natAbs) ≤ K * (x.natAbs * v2.natAbs) := Nat.mul_le_mul_right _ h3
  omega

structure Base (A : Mat) (h w : Nat) (S U V : Mat) : Prop where
  alg : Alg A S U V
  zr : ∀ i j, h ≤ i → S i j = 0
  zc : ∀ i j, w ≤ j → S i j = 0
  pu : ∀ i j, h ≤ i → j < h → U i j = 0
  pv : ∀ i j, w ≤ i → j < w → V i j = 0

theorem swapN_ge {a k i h : Nat} (ha : a < h) (hk : k < h) (hi : h ≤ i) : swapN a k i = i := by unfold swapN; rw [if_neg (by omega), if_neg (by omega)]

theorem Base.swapR {A : Mat} {h w : Nat} {S U V : Mat} (B : Base A h w S U V) {a k : Nat} (ha : a < h) (hk : k < h) (hh : h ≤ 2) : Base A h w (swapR a k S) (swapR a k U) V := by
  refine ⟨B.alg.swapR (by omega) (by omega), fun i j hi => ?_, fun i j hj => B.zc _ _ hj, fun i j hi hj => ?_, B.pv⟩
  · show S (swapN a k i) j = 0
    rw [swapN_ge ha hk hi]; exact B.zr _ _ hi
  · show U (swapN a k i) j = 0
    rw [swapN_ge ha hk hi]; exact B.pu _ _ hi hj
theorem Base.swapC {A : Mat} {h w : Nat} {S U V : Mat} (B : Base A h w S U V) {b k : Nat} (hb : b < w) (hk : k < w) (hw : w ≤ 3) : Base A h w (swapC b k S) U (swapC b k V) := by
  refine ⟨B.alg.swapC (by omega) (by omega), fun i j hi => B.zr _ _ hi, fun i j hj => ?_, B.pu, fun i j hi hj => B.pv _ _ hi (swapN_lt hb hk hj)⟩
  show S i (swapN b k j) = 0
  rw [swapN_ge hb hk hj]; exact B.zc _ _ hj

theorem elimR_01 {S T : Mat} : elimR S T 0 1 = rowAdd 1 0 (-(S 1 0).fdiv (S 0 0)) T := by
  funext i j
  unfold elimR rowAdd
  by_cases q : i = 1
  · subst q; rw [if_pos (by omega), if_pos rfl]; grind
  · rw [if_neg (by omega), if_neg q]
theorem elimC_01 {S T : Mat} : elimC S T 0 1 = colAdd 1 0 (-(S 0 1).fdiv (S 0 0)) T := by
  funext i j
  unfold elimC colAdd
  by_cases q : j = 1
  · subst q; rw [if_pos (by omega), if_pos rfl]; grind
  · rw [if_neg (by omega), if_neg q]
theorem elimC_11 {S T : Mat} : elimC S T 1 1 = colAdd 2 1 (-(S 1 2).fdiv (S 1 1)) T := by
  funext i j
  unfold elimC colAdd
  by_cases q : j = 2
  · subst q; rw [if_pos (by omega), if_pos rfl]; grind
  · rw [if_neg (by omega), if_neg q]
theorem elimC_02 {S T : Mat} : elimC S T 0 2 = colAdd 2 0 (-(S 0 2).fdiv (S 0 0)) (colAdd 1 0 (-(S 0 1).fdiv (S 0 0)) T) := by
  funext i j
  unfold elimC colAdd
  by_cases q : j = 1
  · subst q; rw [if_pos (by omega), if_neg (by omega), if_pos rfl]; grind
  · by_cases q2 : j = 2
    · subst q2; rw [if_pos (by omega), if_pos rfl]; simp; grind
    · rw [if_neg (by omega), if_neg q2, if_neg q]

theorem Alg.elimR {A S U V : Mat} (h : Alg A S U V) {k c : Nat} (hc : k + 1 + c ≤ 2) : Alg A (Mine.elimR S S k c) (Mine.elimR S U k c) V := by
  have : c = 0 ∨ (k = 0 ∧ c = 1) := by omega
  rcases this with rfl | ⟨rfl, rfl⟩
  · rw [elimR_zero, elimR_zero]; exact h
  · rw [elimR_01, elimR_01]; exact h.rowAdd _ (by omega) (by omega) (by omega)
theorem Alg.elimC {A S U V R : Mat} (h : Alg A S U V) {k c : Nat} (hc : k + 1 + c ≤ 3) : Alg A (Mine.elimC R S k c) U (Mine.elimC R V k c) := by
  have : c = 0 ∨ (k = 0 ∧ c = 1) ∨ (k = 0 ∧ c = 2) ∨ (k = 1 ∧ c = 1) := by omega
  rcases this with rfl | ⟨rfl, rfl⟩ | ⟨rfl, rfl⟩ | ⟨rfl, rfl⟩
  · rw [elimC_zero, elimC_zero]; exact h
  · rw [elimC_01, elimC_01]; exact h.colAdd _ (by omega) (by omega) (by omega)
  · rw [elimC_02, elimC_02]; exact (h.colAdd _ (by omega) (by omega) (by omega)).colAdd _ (by omega) (by omega) (by omega)
  · rw [elimC_11, elimC_11]; exact h.colAdd _ (by omega) (by omega) (by omega)

theorem Base.elimR {A : Mat} {h w : Nat} {S U V : Mat} (B : Base A h w S U V) {k c : Nat} (hc : k + 1 + c ≤ h) (hh : h ≤ 2) : Base A h w (elimR S S k c) (elimR S U k c) V := by
  refine ⟨B.alg.elimR (by omega), fun i j hi => ?_, fun i j hj => ?_, fun i j hi hj => ?_, B.pv⟩
  · rw [elimR_same (by omega)]; exact B.zr _ _ hi
  · unfold Mine.elimR; split
    · rw [B.zc _ _ hj, B.zc _ _ hj]; simp
    · exact B.zc _ _ hj
  · rw [elimR_same (by omega)]; exact B.pu _ _ hi hj
theorem Base.elimC {A : Mat} {h w : Nat} {S U V R : Mat} (B : Base A h w S U V) {k c : Nat} (hc : k + 1 + c ≤ w) (hw : w ≤ 3) : Base A h w (elimC R S k c) U (elimC R V k c) := by
  refine ⟨B.alg.elimC (by omega), fun i j hi => ?_, fun i j hj => ?_, B.pu, fun i j hi hj => ?_⟩
  · unfold Mine.elimC; split
    · rw [B.zr _ _ hi, B.zr _ _ hi]; simp
    · exact B.zr _ _ hi
  · rw [elimC_same (by omega)]; exact B.zc _ _ hj
  · unfold Mine.elimC; split
    · rw [B.pv _ _ hi hj, B.pv _ _ hi (by omega)]; simp
    · exact B.pv _ _ hi hj
theorem Base.rowAdd {A : Mat} {h w : Nat} {S U V : Mat} (B : Base A h w S U V) {i k : Nat} {q : Int} (hi : i < h) (hk : k < h) (hn : i ≠ k) (hh : h ≤ 2) : Base A h w (rowAdd i k q S) (rowAdd i k q U) V := by
  refine ⟨B.alg.rowAdd q (by omega) (by omega) hn, fun a b ha => ?_, fun a b hb => ?_, fun a b ha hb => ?_, B.pv⟩
  · unfold Mine.rowAdd; rw [if_neg (by omega)]; exact B.zr _ _ ha
  · unfold Mine.rowAdd; rw [B.zc _ _ hb, B.zc _ _ hb, B.zc _ _ hb]; simp
  · unfold Mine.rowAdd; rw [if_neg (by omega)]; exact B.pu _ _ ha hb
theorem Base.rowNeg {A : Mat} {h w : Nat} {S U V : Mat} (B : Base A h w S U V) {k : Nat} (hk : k < h) (hh : h ≤ 2) : Base A h w (rowNeg k S) (rowNeg k U) V := by
  refine ⟨B.alg.rowNeg (by omega), fun a b ha => ?_, fun a b hb => ?_, fun a b ha hb => ?_, B.pv⟩
  · unfold Mine.rowNeg; rw [if_neg (by omega)]; exact B.zr _ _ ha
  · unfold Mine.rowNeg; rw [B.zc _ _ hb]; simp
  · unfold Mine.rowNeg; rw [if_neg (by omega)]; exact B.pu _ _ ha hb

/-! ## What a clearing leaves -/
theorem fm (a b : Int) : a - a.fdiv b * b = a.fmod b := by rw [Int.fmod_def, Int.mul_comm]

theorem doneR_iff {S : Mat} {k c : Nat} : doneR S k c = true ↔ ∀ i, k < i → i < k + 1 + c → (S i k).fmod (S k k) = 0 := by
  unfold doneR
  rw [List.all_eq_true]
  constructor
  · intro h i h1 h2
    have := h (i - (k + 1)) (List.mem_range.mpr (by omega))
    rw [elimR_new, fm] at this
    rw [show k + 1 + (i - (k + 1)) = i by omega] at this
    simpa using this
  · intro h t ht
    rw [List.mem_range] at ht
    rw [elimR_new, fm, h _ (by omega) (by omega)]; rfl
theorem doneC_iff {S : Mat} {k c : Nat} : doneC S k c = true ↔ ∀ j, k < j → j < k + 1 + c → (S k j).fmod (S k k) = 0 := by
  unfold doneC
  rw [List.all_eq_true]
  constructor
  · intro h i h1 h2
    have := h (i - (k + 1)) (List.mem_range.mpr (by omega))
    rw [elimC_new, fm] at this
    rw [show k + 1 + (i - (k + 1)) = i by omega] at this
    simpa using this
  · intro h t ht
    rw [List.mem_range] at ht
    rw [elimC_new, fm, h _ (by omega) (by omega)]; rfl

/-- the matrix after clear_cross -/
abbrev clS (S : Mat) (k h w : Nat) : Mat := elimC S (elimR S S k (h - (k + 1))) k (w - (k + 1))

section
variable {S : Mat} {k h w : Nat} (zr : ∀ i j, h ≤ i → S i j = 0) (zc : ∀ i j, w ≤ j → S i j = 0) (hk : k < h) (hk' : k < w)
include zr zc hk hk'

theorem clS_kk : clS S k h w k k = S k k := by rw [clS, elimC_same (by omega), elimR_same (by omega)]
theorem clS_kj {j : Nat} (hj : k < j) : clS S k h w k j = (S k j).fmod (S k k) := by
  by_cases q : j < w
  · rw [clS, elimC, if_pos (by omega), elimR_same (by omega), elimR_same (by omega), fm]
  · rw [clS, elimC_same (by omega), elimR_same (by omega), zc _ _ (by omega)]; simp
theorem elimR_ik {i : Nat} (hi : k < i) : elimR S S k (h - (k + 1)) i k = (S i k).fmod (S k k) := by
  by_cases q : i < h
  · rw [elimR, if_pos (by omega), fm]
  · rw [elimR_same (by omega), zr _ _ (by omega)]; simp
theorem clS_ik {i : Nat} (hi : k < i) : clS S k h w i k = (S i k).fmod (S k k) := by
  rw [clS, elimC_same (by omega)]; exact elimR_ik zr zc hk hk' hi
theorem clS_ij {i j : Nat} (hi : k < i) (hj : k < j) : clS S k h w i j = S i j - (S i k).fdiv (S k k) * S k j - (S k j).fdiv (S k k) * (S i k).fmod (S k k) := by
  have e : elimR S S k (h - (k + 1)) i j = S i j - (S i k).fdiv (S k k) * S k j := by
    by_cases q : i < h
    · rw [elimR, if_pos (by omega)]
    · rw [elimR_same (by omega), zr _ _ (by omega), zr _ _ (by omega)]; simp
  by_cases q : j < w
  · rw [clS, elimC, if_pos (by omega), e, elimR_ik zr zc hk hk' hi]
  · rw [clS, elimC_same (by omega), e, zc k j (by omega)]; simp
theorem clS_old {i j : Nat} (hij : i < k ∨ j < k) (hz : ∀ i j, (i < k ∨ j < k) → i ≠ j → S i j = 0) : clS S k h w i j = S i j := by
  unfold clS elimC
  split
  · rename_i q
    have hi : i < k := by omega
    rw [elimR_same (by omega), elimR_same (by omega), hz i k (.inl hi) (by omega)]; simp
  · unfold elimR
    split
    · have hj : j < k := by omega
      rw [hz k j (.inr hj) (by omega)]; simp
    · rfl
theorem done_iff : (doneR S k (h - (k + 1)) && doneC S k (w - (k + 1))) = true ↔ (∀ i, k < i → clS S k h w i k = 0) ∧ ∀ j, k < j → clS S k h w k j = 0 := by
  rw [Bool.and_eq_true, doneR_iff, doneC_iff]
  constructor
  · rintro ⟨h1, h2⟩
    refine ⟨fun i hi => ?_, fun j hj => ?_⟩
    · rw [clS_ik zr zc hk hk' hi]
      by_cases q : i < h
      · exact h1 i hi (by omega)
      · rw [zr _ _ (by omega)]; simp
    · rw [clS_kj zr zc hk hk' hj]
      by_cases q : j < w
      · exact h2 j hj (by omega)
      · rw [zc _ _ (by omega)]; simp
  · rintro ⟨h1, h2⟩
    exact ⟨fun i hi _ => by rw [← clS_ik zr zc hk hk' hi]; exact h1 i hi, fun j hj _ => by rw [← clS_kj zr zc hk hk' hj]; exact h2 j hj⟩
end

abbrev BIG : Nat := 2 ^ 42

/-- where the loop stands at step 0 -/
structure Free (p L : Nat) (S : Mat) : Prop where
  p6 : p ≤ 6
  l36 : 36 ≤ L
  bd : ∀ i j, (S i j).natAbs ≤ L
  pot : L * 64 ^ p ≤ BIG
  less : (∃ i j, S i j ≠ 0) → ∃ i j, S i j ≠ 0 ∧ (S i j).natAbs ≤ p
  small : ∃ r, r < 2 ∧ ∀ j, (S r j).natAbs ≤ 36
structure Mixed (p L : Nat) (S : Mat) : Prop where
  p6 : p ≤ 6
  p1 : 1 ≤ p
  l36 : 36 ≤ L
  bd : ∀ i j, (S i j).natAbs ≤ L
  pot : L * 64 ^ (p - 1) ≤ BIG
  lead : (S 0 0).natAbs = p
  z10 : S 1 0 = 0
  same : ∀ j, 0 < j → S 1 j = S 0 j
  rem : ∃ j, 0 < j ∧ (S 0 j).fmod (S 0 0) ≠ 0
/-- after a clearing -/
structure After (q L : Nat) (S : Mat) : Prop where
  q6 : q ≤ 6
  q1 : 1 ≤ q
  l36 : 36 ≤ L
  bd : ∀ i j, (S i j).natAbs ≤ L
  pot : L * 64 ^ (q - 1) ≤ BIG
  lead : (S 0 0).natAbs = q
  r0 : ∀ j, 0 < j → (S 0 j).natAbs < q
  c0 : (S 1 0).natAbs < q

theorem Free.mono {p L : Nat} {S : Mat} (h : Free p L S) : L ≤ BIG := Nat.le_trans (Nat.le_mul_of_pos_right _ (Nat.pow_pos (by omega))) h.pot
theorem Mixed.big {p L : Nat} {S : Mat} (h : Mixed p L S) : L ≤ BIG := Nat.le_trans (Nat.le_mul_of_pos_right _ (Nat.pow_pos (by omega))) h.pot
theorem After.big {p L : Nat} {S : Mat} (h : After p L S) : L ≤ BIG := Nat.le_trans (Nat.le_mul_of_pos_right _ (Nat.pow_pos (by omega))) h.pot

theorem pow_step {q p L : Nat} (h1 : 1 ≤ q) (h2 : q ≤ p) (h : L * 64 ^ p ≤ BIG) : 64 * L * 64 ^ (q - 1) ≤ BIG := by
  have e : 64 * L * 64 ^ (q - 1) = L * 64 ^ q := by
    obtain ⟨r, rfl⟩ : ∃ r, q = r + 1 := ⟨q - 1, by omega⟩
    rw [Nat.add_sub_cancel, Nat.pow_succ, Nat.mul_comm 64 L, Nat.mul_assoc, Nat.mul_comm 64]
  rw [e]
  exact Nat.le_trans (Nat.mul_le_mul_left _ (Nat.pow_le_pow_right (by omega) h2)) h

/-- the entry that grows -/
theorem grow_entry {a b c l : Int} {X Y : Nat} (hl : l ≠ 0) (l6 : l.natAbs ≤ 6) (hY : a.natAbs * c.natAbs ≤ Y) (hb : b.natAbs + Y + c.natAbs * 6 ≤ X) :
    (b - a.fdiv l * c - c.fdiv l * a.fmod l).natAbs ≤ X := by
  have h1 := fdiv_abs a hl
  have h2 := fdiv_abs c hl
  have h3 := (fmod_facts a hl).1
  have e1 : (a.fdiv l * c).natAbs ≤ Y := by
    rw [Int.natAbs_mul]; exact Nat.le_trans (Nat.mul_le_mul_right _ h1) hY
  have e2 : (c.fdiv l * a.fmod l).natAbs ≤ c.natAbs * 6 := by
    rw [Int.natAbs_mul]; exact Nat.mul_le_mul h2 (by omega)
  have := Int.natAbs_sub_le (b - a.fdiv l * c) (c.fdiv l * a.fmod l)
  have := Int.natAbs_sub_le b (a.fdiv l * c)
  omega

/-- the cells from (k, k) on, of the padded matrix -/
structure Spot (S : Mat) (k a b : Nat) : Prop where
  ne : S a b ≠ 0
  least : ∀ i j, k ≤ i → k ≤ j → S i j ≠ 0 → (S a b).natAbs ≤ (S i j).natAbs
  first : S k k ≠ 0 → (a = k ∧ b = k) ∨ (S a b).natAbs < (S k k).natAbs

theorem bring_kk {S : Mat} {k a b : Nat} : swapC b k (swapR a k S) k k = S a b := by
  have e : ∀ a, swapN a k k = a := fun a => by unfold swapN; split <;> simp_all
  show S (swapN a k k) (swapN b k k) = S a b
  rw [e, e]

section
variable {S : Mat} {h w : Nat} (zr : ∀ i j, h ≤ i → S i j = 0) (zc : ∀ i j, w ≤ j → S i j = 0) (hk : 0 < h) (hk' : 0 < w)
include zr zc hk hk'

/-- a clearing of a matrix with a small row -/
theorem after_free {p L q : Nat} (hq : (S 0 0).natAbs = q) (h1 : 1 ≤ q) (hqp : q ≤ p) (p6 : p ≤ 6) (l36 : 36 ≤ L) (bd : ∀ i j, (S i j).natAbs ≤ L) (pot : L * 64 ^ p ≤ BIG) (small : ∃ r, r < 2 ∧ ∀ j, (S r j).natAbs ≤ 36) (hh : h ≤ 2) :
    After q (64 * L) (clS S 0 h w) := by
  have hl : S 0 0 ≠ 0 := by omega
  have f := fun x => (fmod_facts x hl).1
  have r0 : ∀ j, 0 < j → (clS S 0 h w 0 j).natAbs < q := fun j hj => by
    rw [clS_kj zr zc hk hk' hj, ← hq]; exact f _
  have c0 : ∀ i, 0 < i → (clS S 0 h w i 0).natAbs < q := fun i hi => by
    rw [clS_ik zr zc hk hk' hi, ← hq]; exact f _
  have l0 : (clS S 0 h w 0 0).natAbs = q := by rw [clS_kk zr zc hk hk']; exact hq
  refine ⟨by omega, h1, by omega, fun i j => ?_, pow_step h1 hqp pot, l0, r0, c0 1 (by omega)⟩
  rcases Nat.eq_zero_or_pos i with rfl | hi
  · rcases Nat.eq_zero_or_pos j with rfl | hj
    · omega
    · have := r0 j hj; omega
  · rcases Nat.eq_zero_or_pos j with rfl | hj
    · have := c0 i hi; omega
    · rw [clS_ij zr zc hk hk' hi hj]
      by_cases q1 : i = 1
      · subst q1
        obtain ⟨r, hr, sm⟩ := small
        have b1 := bd 1 j
        have b2 := bd 1 0
        have b3 := bd 0 j
        rcases lt2 hr with rfl | rfl
        · have s := sm j
          refine grow_entry (Y := L * 36) hl (by omega) (Nat.mul_le_mul b2 s) ?_
          omega
        · have s := sm 0
          have s2 := sm j
          refine grow_entry (Y := 36 * L) hl (by omega) (Nat.mul_le_mul s b3) ?_
          omega
      · rw [zr i j (by omega), zr i 0 (by omega)]; simp

/-- a clearing of a matrix whose other row is a multiple or small -/
theorem after_same {p L q : Nat} (hq : (S 0 0).natAbs = q) (h1 : 1 ≤ q) (hqp : q ≤ p) (p6 : p ≤ 6) (l36 : 36 ≤ L) (bd : ∀ i j, (S i j).natAbs ≤ L) (pot : L * 64 ^ (p - 1) ≤ BIG) (hh : h ≤ 2)
    (ot : ∀ j, 0 < j → (clS S 0 h w 1 j).natAbs ≤ L) : After q L (clS S 0 h w) := by
  have hl : S 0 0 ≠ 0 := by omega
  have f := fun x => (fmod_facts x hl).1
  have r0 : ∀ j, 0 < j → (clS S 0 h w 0 j).natAbs < q := fun j hj => by
    rw [clS_kj zr zc hk hk' hj, ← hq]; exact f _
  have c0 : ∀ i, 0 < i → (clS S 0 h w i 0).natAbs < q := fun i hi => by
    rw [clS_ik zr zc hk hk' hi, ← hq]; exact f _
  have l0 : (clS S 0 h w 0 0).natAbs = q := by rw [clS_kk zr zc hk hk']; exact hq
  refine ⟨by omega, h1, by omega, fun i j => ?_, Nat.le_trans (Nat.mul_le_mul_left _ (Nat.pow_le_pow_right (by omega) (by omega))) pot, l0, r0, c0 1 (by omega)⟩
  rcases Nat.eq_zero_or_pos i with rfl | hi
  · rcases Nat.eq_zero_or_pos j with rfl | hj
    · omega
    · have := r0 j hj; omega
  · rcases Nat.eq_zero_or_pos j with rfl | hj
    · have := c0 i hi; omega
    · by_cases q1 : i = 1
      · subst q1; exact ot j hj
      · rw [clS_ij zr zc hk hk' hi hj, zr i j (by omega), zr i 0 (by omega)]; simp
end

theorem Free.turn {p L h w a b : Nat} {S : Mat} (F : Free p L S) (zr : ∀ i j, h ≤ i → S i j = 0) (zc : ∀ i j, w ≤ j → S i j = 0) (hk : 0 < h) (hk' : 0 < w) (hh : h ≤ 2) (ha : a < h) (hb : b < w) (sp : Spot S 0 a b) :
    ∃ q, 1 ≤ q ∧ q ≤ p ∧ After q (64 * L) (clS (swapC b 0 (swapR a 0 S)) 0 h w) := by
  obtain ⟨i, j, n, le⟩ := F.less ⟨a, b, sp.ne⟩
  have hq : (S a b).natAbs ≤ p := Nat.le_trans (sp.least i j (Nat.zero_le _) (Nat.zero_le _) n) le
  have ne := sp.ne
  refine ⟨(S a b).natAbs, by omega, hq, after_free (p := p) (S := swapC b 0 (swapR a 0 S)) ?_ ?_ hk hk' (by rw [bring_kk]) (by omega) hq F.p6 F.l36 (fun i j => F.bd _ _) F.pot ?_ hh⟩
  · intro i j hi
    show S (swapN a 0 i) _ = 0
    rw [swapN_ge ha hk hi]; exact zr _ _ hi
  · intro i j hj
    show S _ (swapN b 0 j) = 0
    rw [swapN_ge hb hk' hj]; exact zc _ _ hj
  · obtain ⟨r, hr, sm⟩ := F.small
    refine ⟨swapN a 0 r, swapN_lt (by omega) (by omega) hr, fun j => ?_⟩
    show (S (swapN a 0 (swapN a 0 r)) _).natAbs ≤ 36
    rw [swapN_swapN]; exact sm _

theorem fdiv_self' {l : Int} (h : l ≠ 0) : l.fdiv l = 1 := Int.fdiv_self h

theorem Mixed.turn {p L h w a b : Nat} {S : Mat} (F : Mixed p L S) (zr : ∀ i j, h ≤ i → S i j = 0) (zc : ∀ i j, w ≤ j → S i j = 0) (hk : 0 < h) (hk' : 0 < w) (hh : h ≤ 2) (ha : a < h) (hb : b < w) (sp : Spot S 0 a b) :
    ∃ q, 1 ≤ q ∧ q ≤ p ∧ After q L (clS (swapC b 0 (swapR a 0 S)) 0 h w) ∧ (q < p ∨ ∃ j, 0 < j ∧ clS (swapC b 0 (swapR a 0 S)) 0 h w 0 j ≠ 0) := by
  have p1 := F.p1
  have lead := F.lead
  have h00 : S 0 0 ≠ 0 := by omega
  have ne := sp.ne
  have hzr : ∀ i j, h ≤ i → swapC b 0 (swapR a 0 S) i j = 0 := by
    intro i j hi
    show S (swapN a 0 i) _ = 0
    rw [swapN_ge ha hk hi]; exact zr _ _ hi
  have hzc : ∀ i j, w ≤ j → swapC b 0 (swapR a 0 S) i j = 0 := by
    intro i j hj
    show S _ (swapN b 0 j) = 0
    rw [swapN_ge hb hk' hj]; exact zc _ _ hj
  rcases sp.first h00 with ⟨rfl, rfl⟩ | hlt
  · have e0 : swapC 0 0 (swapR 0 0 S) = S := by
      funext i j
      have : ∀ k, swapN 0 0 k = k := fun k => by unfold swapN; split <;> simp_all
      show S (swapN 0 0 i) (swapN 0 0 j) = S i j
      rw [this, this]
    rw [e0]
    refine ⟨p, p1, Nat.le_refl _, after_same zr zc hk hk' lead p1 (Nat.le_refl p) F.p6 F.l36 F.bd F.pot hh (fun j hj => ?_), .inr ?_⟩
    · rw [clS_ij zr zc hk hk' (by omega) hj, F.z10]; simp; exact F.bd 1 j
    · obtain ⟨j, hj, hr⟩ := F.rem
      exact ⟨j, hj, by rw [clS_kj zr zc hk hk' hj]; exact hr⟩
  · refine ⟨(S a b).natAbs, by omega, by omega, after_same (p := p) hzr hzc hk hk' (by rw [bring_kk]) (by omega) (by omega) F.p6 F.l36 (fun i j => F.bd _ _) F.pot hh (fun j hj => ?_), .inl (by omega)⟩
    have hb0 : 0 < b := by
      rcases Nat.eq_zero_or_pos b with rfl | z
      · exfalso
        have : a = 0 ∨ a = 1 := by omega
        rcases this with rfl | rfl
        · omega
        · exact ne F.z10
      · exact z
    have h2 : h = 2 := by
      have : ∃ j, 0 < j ∧ S 0 j ≠ 0 := by
        obtain ⟨j, hj, hr⟩ := F.rem
        exact ⟨j, hj, fun z => hr (by rw [z]; simp)⟩
      obtain ⟨j, hj, hr⟩ := this
      rcases Nat.lt_or_ge 1 h with z | z
      · omega
      · exact absurd (by rw [← F.same j hj]; exact zr _ _ z) hr
    have row : ∀ j, 0 < j → S 0 j = S a j ∧ S 1 j = S a j := fun j hj => by
      have : a = 0 ∨ a = 1 := by omega
      have := F.same j hj
      rcases ‹a = 0 ∨ a = 1› with rfl | rfl <;> exact ⟨by omega, by omega⟩
    have e10 : swapC b 0 (swapR a 0 S) 1 0 = S a b := by
      show S (swapN a 0 1) (swapN b 0 0) = S a b
      have e1 : swapN b 0 0 = b := by unfold swapN; split <;> simp_all
      have e2 : swapN a 0 1 < 2 := swapN_lt (by omega) (by omega) (by omega)
      rw [e1]
      rcases lt2 e2 with z | z <;> rw [z]
      · exact (row b hb0).1
      · exact (row b hb0).2
    rw [clS_ij hzr hzc hk hk' (by omega) hj, bring_kk, e10, fdiv_self' ne]
    have e3 : (S a b).fmod (S a b) = 0 := Int.fmod_self
    rw [e3]
    simp only [Int.mul_zero, Int.sub_zero, Int.one_mul]
    show (S (swapN a 0 1) (swapN b 0 j) - S (swapN a 0 0) (swapN b 0 j)).natAbs ≤ L
    have l0 := F.bd 0 0
    rcases Nat.eq_zero_or_pos (swapN b 0 j) with z | z
    · rw [z]
      have z10 := F.z10
      have : a = 0 ∨ a = 1 := by omega
      rcases this with rfl | rfl
      · show (S 1 0 - S 0 0).natAbs ≤ L; omega
      · show (S 0 0 - S 1 0).natAbs ≤ L; omega
    · have r := row _ z
      have e2 : swapN a 0 1 < 2 := swapN_lt (by omega) (by omega) (by omega)
      have e3 : swapN a 0 0 < 2 := swapN_lt (by omega) (by omega) (by omega)
      have : ∀ t, t < 2 → S t (swapN b 0 j) = S a (swapN b 0 j) := fun t ht => by
        rcases lt2 ht with rfl | rfl
        · exact r.1
        · exact r.2
      rw [this _ e2, this _ e3]; simp

abbrev CAP : Nat := 2 ^ 800

structure Fin (A : Mat) (h w : Nat) (S U V : Mat) : Prop where
  base : Base A h w S U V
  diag : ∀ i j, i ≠ j → S i j = 0
  first : S 0 0 = 0 → S 1 1 = 0
  bs : ∀ i j, (S i j).natAbs ≤ BIG
  bu : ∀ i j, (U i j).natAbs ≤ CAP
  bv : ∀ i j, (V i j).natAbs ≤ CAP

/-- where the loop stands at step 1 -/
structure Low (m : Nat) (S V : Mat) : Prop where
  z0 : ∀ j, 0 < j → S 0 j = 0
  z1 : ∀ i, 0 < i → S i 0 = 0
  n0 : S 0 0 ≠ 0
  bs : ∀ i j, (S i j).natAbs ≤ BIG
  bv : ∀ i j, (V i j).natAbs ≤ CAP
  ps : ∀ a, psi (S 1 1) (S 1 2) (V a 1) (V a 2) ≤ CAP
  ms : (S 1 1 ≠ 0 ∧ (S 1 1).natAbs ≤ m) ∨ (S 1 2 ≠ 0 ∧ (S 1 2).natAbs ≤ m) ∨ (S 1 1 = 0 ∧ S 1 2 = 0)

inductive Good (A : Mat) (h w : Nat) : Nat → Nat → Mat → Mat → Mat → Prop
  | free {p L S U V} : Base A h w S U V → Free p L S → (∀ i j, (U i j).natAbs ≤ 2 ^ (44 * (14 - (2 * p + 2)))) → (∀ i j, (V i j).natAbs ≤ 2 ^ (44 * (14 - (2 * p + 2)))) → Good A h w (BIG + (2 * p + 2)) 0 S U V
  | mixed {p L S U V} : Base A h w S U V → Mixed p L S → (∀ i j, (U i j).natAbs ≤ 2 ^ (44 * (14 - (2 * p + 1)))) → (∀ i j, (V i j).natAbs ≤ 2 ^ (44 * (14 - (2 * p + 1)))) → Good A h w (BIG + (2 * p + 1)) 0 S U V
  | low {m S U V} : Base A h w S U V → Low m S V → (∀ i j, (U i j).natAbs ≤ CAP) → Good A h w m 1 S U V
  | fin {m S U V} : Fin A h w S U V → Good A h w m 2 S U V

theorem elimR_bd {S T : Mat} {k c B : Nat} (h0 : S k k ≠ 0) (hS : ∀ i j, (S i j).natAbs ≤ BIG) (hT : ∀ i j, (T i j).natAbs ≤ B) (i j : Nat) : (elimR S T k c i j).natAbs ≤ B * 2 ^ 43 := by
  have h1 := hT i j
  unfold elimR
  split
  · have h2 := Int.natAbs_sub_le (T i j) ((S i k).fdiv (S k k) * T k j)
    have h3 : ((S i k).fdiv (S k k) * T k j).natAbs ≤ BIG * B := by
      rw [Int.natAbs_mul]; exact Nat.mul_le_mul (Nat.le_trans (fdiv_abs _ h0) (hS _ _)) (hT _ _)
    have h4 : BIG * B + B ≤ B * 2 ^ 43 := by
      have : BIG * B = B * 2 ^ 42 := Nat.mul_comm _ _
      omega
    omega
  · omega
theorem elimC_bd {S T : Mat} {k c B : Nat} (h0 : S k k ≠ 0) (hS : ∀ i j, (S i j).natAbs ≤ BIG) (hT : ∀ i j, (T i j).natAbs ≤ B) (i j : Nat) : (elimC S T k c i j).natAbs ≤ B * 2 ^ 43 := by
  have h1 := hT i j
  unfold elimC
  split
  · have h2 := Int.natAbs_sub_le (T i j) ((S k j).fdiv (S k k) * T i k)
    have h3 : ((S k j).fdiv (S k k) * T i k).natAbs ≤ BIG * B := by
      rw [Int.natAbs_mul]; exact Nat.mul_le_mul (Nat.le_trans (fdiv_abs _ h0) (hS _ _)) (hT _ _)
    have h4 : BIG * B + B ≤ B * 2 ^ 43 := by
      have : BIG * B = B * 2 ^ 42 := Nat.mul_comm _ _
      omega
    omega
  · omega

theorem grow_pow {e e' : Nat} (h : e' < e) (he : e ≤ 14) : 2 ^ (44 * (14 - e)) * 2 ^ 44 ≤ 2 ^ (44 * (14 - e')) := by
  rw [← Nat.pow_add]
  exact Nat.pow_le_pow_right (by omega) (by omega)
theorem pow_cap {e : Nat} (he : e ≤ 14) : 2 ^ (44 * (14 - e)) * 2 ^ 44 ≤ 2 ^ 660 := by
  rw [← Nat.pow_add]
  exact Nat.pow_le_pow_right (by omega) (by omega)
theorem cap_lt : (2 ^ 660 : Nat) ≤ CAP := Nat.pow_le_pow_right (by omega) (by omega)

theorem pow_c (a b c : Nat) (h : a + b + 3 ≤ c) : 6 * (2 ^ a * 2 ^ b) ≤ 2 ^ c := by
  have h1 : 6 * (2 ^ a * 2 ^ b) ≤ 2 ^ 3 * (2 ^ a * 2 ^ b) := Nat.mul_le_mul_right _ (by omega)
  rw [← Nat.pow_add, ← Nat.pow_add] at h1
  rw [← Nat.pow_add]
  exact Nat.le_trans h1 (Nat.pow_le_pow_right (by omega) (by omega))
theorem psi_start' {x y v1 v2 : Int} {Q P C : Nat} (c : 6 * (Q * P) ≤ C) (hx : x.natAbs ≤ Q) (hy : y.natAbs ≤ Q) (h1 : v1.natAbs ≤ P) (h2 : v2.natAbs ≤ P) : psi x y v1 v2 ≤ C := by
  have a := Nat.mul_le_mul hx h2
  have b := Nat.mul_le_mul hy h1
  unfold psi
  revert a b c
  generalize Q * P = R
  intro a b c
  split <;> omega
theorem psi_start {x y v1 v2 : Int} (hx : x.natAbs ≤ BIG) (hy : y.natAbs ≤ BIG) (h1 : v1.natAbs ≤ 2 ^ 660) (h2 : v2.natAbs ≤ 2 ^ 660) : psi x y v1 v2 ≤ CAP :=
  psi_start' (pow_c 42 660 800 (by omega)) hx hy h1 h2

theorem Low.neg {m : Nat} {S V : Mat} (h : Low m S V) : Low m (rowNeg 0 S) V := by
  have e0 : ∀ j, rowNeg 0 S 0 j = - S 0 j := fun j => if_pos rfl
  have e1 : ∀ i j, 0 < i → rowNeg 0 S i j = S i j := fun i j hi => if_neg (by omega)
  refine ⟨fun j hj => by rw [e0, h.z0 j hj]; rfl, fun i hi => by rw [e1 _ _ hi]; exact h.z1 i hi, by rw [e0]; have := h.n0; omega, fun i j => ?_, h.bv, fun a => ?_, ?_⟩
  · have := h.bs i j
    unfold rowNeg
    split <;> omega
  · rw [e1 _ _ (by omega), e1 _ _ (by omega)]; exact h.ps a
  · rw [e1 _ _ (by omega), e1 _ _ (by omega)]; exact h.ms

/-- what is to be shown of a turn -/
structure TurnOk (A : Mat) (h w m k : Nat) (S1 U1 V1 : Mat) : Prop where
  ne : S1 k k ≠ 0
  bs : ∀ i j, (S1 i j).natAbs ≤ BIG
  ne2 : clS S1 k h w k k ≠ 0
  again : (doneR S1 k (h - (k + 1)) && doneC S1 k (w - (k + 1))) = false → ∃ m', m' < m ∧ Good A h w m' k (clS S1 k h w) (elimR S1 U1 k (h - (k + 1))) (elimC S1 V1 k (w - (k + 1)))
  add : (doneR S1 k (h - (k + 1)) && doneC S1 k (w - (k + 1))) = true → ∀ r, Undiv (clS S1 k h w) k h w (some r) → ∃ m', m' < m ∧ Good A h w m' k (rowAdd k r 1 (clS S1 k h w)) (rowAdd k r 1 (elimR S1 U1 k (h - (k + 1)))) (elimC S1 V1 k (w - (k + 1)))
  next : (doneR S1 k (h - (k + 1)) && doneC S1 k (w - (k + 1))) = true → clS S1 k h w k k ≥ 0 → ∃ m', m' < m ∧ Good A h w m' (k + 1) (clS S1 k h w) (elimR S1 U1 k (h - (k + 1))) (elimC S1 V1 k (w - (k + 1)))
  neg : (doneR S1 k (h - (k + 1)) && doneC S1 k (w - (k + 1))) = true → ∃ m', m' < m ∧ Good A h w m' (k + 1) (rowNeg k (clS S1 k h w)) (rowNeg k (elimR S1 U1 k (h - (k + 1)))) (elimC S1 V1 k (w - (k + 1)))

/-- from a clearing at step 0 on -/
theorem After.ok {A : Mat} {h w e q L : Nat} {S1 U1 V1 : Mat} (hh0 : 0 < h) (hh : h ≤ 2) (hw0 : 0 < w) (hw : w ≤ 3) (B : Base A h w S1 U1 V1) (bs : ∀ i j, (S1 i j).natAbs ≤ BIG) (ne : S1 0 0 ≠ 0)
    (he : e ≤ 14) (bu : ∀ i j, (U1 i j).natAbs ≤ 2 ^ (44 * (14 - e))) (bv : ∀ i j, (V1 i j).natAbs ≤ 2 ^ (44 * (14 - e))) (F : After q L (clS S1 0 h w))
    (m1 : 2 * (q - 1) + 2 < e) (m2 : (doneR S1 0 (h - 1) && doneC S1 0 (w - 1)) = true → 2 * q + 1 < e) : TurnOk A h w (BIG + e) 0 S1 U1 V1 := by
  have B2 : Base A h w (clS S1 0 h w) (elimR S1 U1 0 (h - (0 + 1))) (elimC S1 V1 0 (w - (0 + 1))) := (B.elimR (by omega) hh).elimC (by omega) hw
  have bu2 := fun i j => elimR_bd (c := h - (0 + 1)) ne bs bu i j
  have bv2 := fun i j => elimC_bd (c := w - (0 + 1)) ne bs bv i j
  have dn := done_iff B.zr B.zc hh0 hw0
  have q1 := F.q1
  have q6 := F.q6
  have z36 := F.l36
  have big := F.big
  have lead := F.lead
  have ne2 : clS S1 0 h w 0 0 ≠ 0 := by omega
  have cl := cap_lt
  have pc := pow_cap he
  have bu3 : ∀ i j, (elimR S1 U1 0 (h - (0 + 1)) i j).natAbs ≤ CAP := fun i j => by have := bu2 i j; omega
  have low : (doneR S1 0 (h - (0 + 1)) && doneC S1 0 (w - (0 + 1))) = true → Low BIG (clS S1 0 h w) (elimC S1 V1 0 (w - (0 + 1))) := by
    intro d
    obtain ⟨c, r0⟩ := dn.mp d
    have bv3 : ∀ i j, (elimC S1 V1 0 (w - (0 + 1)) i j).natAbs ≤ 2 ^ 660 := fun i j => by have := bv2 i j; omega
    refine ⟨r0, c, ne2, fun i j => Nat.le_trans (F.bd _ _) big, fun i j => Nat.le_trans (bv3 i j) cl, fun a => ?_, ?_⟩
    · exact psi_start (Nat.le_trans (F.bd _ _) big) (Nat.le_trans (F.bd _ _) big) (bv3 _ _) (bv3 _ _)
    · have b1 := F.bd 1 1
      have b2 := F.bd 1 2
      omega
  refine ⟨ne, bs, ne2, fun d => ?_, fun d r hr => ?_, fun d _ => ?_, fun d => ?_⟩
  · have nz : ∃ i j, clS S1 0 h w i j ≠ 0 ∧ (clS S1 0 h w i j).natAbs < q := by
      apply Classical.byContradiction
      intro no
      have no' : ∀ i j, (clS S1 0 h w i j).natAbs < q → clS S1 0 h w i j = 0 := fun i j l => Classical.byContradiction fun n => no ⟨i, j, n, l⟩
      have : (doneR S1 0 (h - (0 + 1)) && doneC S1 0 (w - (0 + 1))) = true := dn.mpr ⟨fun i hi => by
        by_cases z : i = 1
        · subst z; exact no' _ _ F.c0
        · exact B2.zr _ _ (by omega), fun j hj => no' _ _ (F.r0 j hj)⟩
      rw [this] at d; cases d
    obtain ⟨i, j, n, l⟩ := nz
    refine ⟨BIG + (2 * (q - 1) + 2), by omega, .free (L := L) B2 ⟨by omega, z36, F.bd, F.pot, fun _ => ⟨i, j, n, by omega⟩, 0, by omega, fun j => ?_⟩ (fun i j => ?_) (fun i j => ?_)⟩
    · rcases Nat.eq_zero_or_pos j with rfl | hj
      · omega
      · have := F.r0 j hj; omega
    · have := bu2 i j; have := grow_pow m1 he; omega
    · have := bv2 i j; have := grow_pow m1 he; omega
  · obtain ⟨c, r0⟩ := dn.mp d
    obtain ⟨h1, h2, j, h3, h4, h5⟩ := hr
    have hr1 : r = 1 := by omega
    subst hr1
    have m2' := m2 d
    have e0 : ∀ j, rowAdd 0 1 1 (clS S1 0 h w) 0 j = clS S1 0 h w 0 j + clS S1 0 h w 1 j := fun j => by unfold rowAdd; rw [if_pos rfl, Int.one_mul]
    have e1 : ∀ i j, 0 < i → rowAdd 0 1 1 (clS S1 0 h w) i j = clS S1 0 h w i j := fun i j hi => if_neg (by omega)
    refine ⟨BIG + (2 * q + 1), by omega, .mixed (L := L) (B2.rowAdd (by omega) (by omega) (by omega) hh) ⟨q6, q1, z36, fun i j => ?_, F.pot, ?_, ?_, fun j hj => ?_, j, h3, ?_⟩ (fun i j => ?_) (fun i j => ?_)⟩
    · rcases Nat.eq_zero_or_pos i with rfl | hi
      · rw [e0]
        rcases Nat.eq_zero_or_pos j with rfl | hj
        · rw [c 1 (by omega), Int.add_zero]; exact F.bd _ _
        · rw [r0 j hj, Int.zero_add]; exact F.bd _ _
      · rw [e1 _ _ hi]; exact F.bd _ _
    · rw [e0, c 1 (by omega), Int.add_zero]; exact lead
    · rw [e1 _ _ (by omega)]; exact c 1 (by omega)
    · rw [e0, e1 _ _ (by omega), r0 j hj, Int.zero_add]
    · rw [e0, e0, c 1 (by omega), Int.add_zero, r0 j h3, Int.zero_add]; exact h5
    · have g := grow_pow m2' he
      have b1 := bu2 i j
      have b2 := bu2 0 j
      have b3 := bu2 1 j
      unfold rowAdd
      split
      · subst i; rw [Int.one_mul]; omega
      · omega
    · have := bv2 i j; have := grow_pow m2' he; omega
  · exact ⟨BIG, by omega, .low B2 (low d) bu3⟩
  · refine ⟨BIG, by omega, .low (B2.rowNeg hh0 hh) (low d).neg fun i j => ?_⟩
    have := bu3 i j
    unfold rowNeg
    split <;> omega

theorem best_spot {S : Mat} {k h w a b : Nat} (zr : ∀ i j, h ≤ i → S i j = 0) (zc : ∀ i j, w ≤ j → S i j = 0) (hk : k < h) (hk' : k < w) (B : Best S k (fun i j => k ≤ i ∧ i < h ∧ k ≤ j ∧ j < w) (some (a, b))) : Spot S k a b ∧ k ≤ a ∧ a < h ∧ k ≤ b ∧ b < w := by
  refine ⟨⟨B.2.1, fun i j h1 h2 n => ?_, fun n => B.2.2.2 ⟨Nat.le_refl _, hk, Nat.le_refl _, hk'⟩ n⟩, B.1⟩
  refine B.2.2.1 i j ⟨h1, ?_, h2, ?_⟩ n
  · exact Nat.lt_of_not_le fun z => n (zr _ _ z)
  · exact Nat.lt_of_not_le fun z => n (zc _ _ z)
theorem best_none {S : Mat} {k h w : Nat} (zr : ∀ i j, h ≤ i → S i j = 0) (zc : ∀ i j, w ≤ j → S i j = 0) (B : Best S k (fun i j => k ≤ i ∧ i < h ∧ k ≤ j ∧ j < w) none) : ∀ i j, k ≤ i → k ≤ j → S i j = 0 := by
  intro i j h1 h2
  by_cases a : i < h
  · by_cases b : j < w
    · exact B i j ⟨h1, a, h2, b⟩
    · exact zc _ _ (by omega)
  · exact zr _ _ (by omega)

theorem Good.base {A : Mat} {h w m k : Nat} {S U V : Mat} (G : Good A h w m k S U V) : Base A h w S U V := by
  cases G with
  | free b _ _ _ => exact b
  | mixed b _ _ _ => exact b
  | low b _ _ => exact b
  | fin f => exact f.base
theorem Good.bs {A : Mat} {h w m k : Nat} {S U V : Mat} (G : Good A h w m k S U V) : ∀ i j, (S i j).natAbs ≤ BIG := by
  cases G with
  | free _ f _ _ => exact fun i j => Nat.le_trans (f.bd i j) f.mono
  | mixed _ f _ _ => exact fun i j => Nat.le_trans (f.bd i j) f.big
  | low _ f _ => exact f.bs
  | fin f => exact f.bs

theorem Base.bring' {A : Mat} {h w k a b : Nat} {S U V : Mat} (B : Base A h w S U V) (ha : a < h) (hb : b < w) (hk : k < h) (hk' : k < w) (hh : h ≤ 2) (hw : w ≤ 3) : Base A h w (Mine.swapC b k (Mine.swapR a k S)) (Mine.swapR a k U) (Mine.swapC b k V) := (B.swapR ha hk hh).swapC hb hk' hw

theorem Good.turn0 {A : Mat} {h w m a b : Nat} {S U V : Mat} (G : Good A h w m 0 S U V) (hh0 : 0 < h) (hh : h ≤ 2) (hw0 : 0 < w) (hw : w ≤ 3) (ha : a < h) (hb : b < w) (sp : Spot S 0 a b) :
    TurnOk A h w m 0 (swapC b 0 (swapR a 0 S)) (swapR a 0 U) (swapC b 0 V) := by
  have ne : swapC b 0 (swapR a 0 S) 0 0 ≠ 0 := by rw [bring_kk]; exact sp.ne
  cases G with
  | @free p L _ _ _ B F bu bv =>
    obtain ⟨q, q1, q2, F2⟩ := F.turn B.zr B.zc hh0 hw0 hh ha hb sp
    have := F.p6
    exact After.ok hh0 hh hw0 hw (B.bring' ha hb hh0 hw0 hh hw) (fun i j => Nat.le_trans (F.bd _ _) F.mono) ne (by omega) (fun i j => bu _ _) (fun i j => bv _ _) F2 (by omega) (fun _ => by omega)
  | @mixed p L _ _ _ B F bu bv =>
    obtain ⟨q, q1, q2, F2, lt⟩ := F.turn B.zr B.zc hh0 hw0 hh ha hb sp
    have := F.p6
    have B1 := B.bring' ha hb hh0 hw0 hh hw
    refine After.ok hh0 hh hw0 hw B1 (fun i j => Nat.le_trans (F.bd _ _) F.big) ne (by omega) (fun i j => bu _ _) (fun i j => bv _ _) F2 (by omega) (fun d => ?_)
    have z := ((done_iff B1.zr B1.zc hh0 hw0).mp d).2
    rcases lt with lt | ⟨j, hj, n⟩
    · omega
    · exact absurd (z j hj) n

theorem swapN_self (a k : Nat) : swapN a a k = k := by unfold swapN; split <;> simp_all

theorem Good.turn1 {A : Mat} {h w m a b : Nat} {S U V : Mat} (G : Good A h w m 1 S U V) (hh0 : 1 < h) (hh : h ≤ 2) (hw0 : 1 < w) (hw : w ≤ 3) (ha0 : 1 ≤ a) (ha : a < h) (hb0 : 1 ≤ b) (hb : b < w) (sp : Spot S 1 a b) :
    TurnOk A h w m 1 (swapC b 1 (swapR a 1 S)) (swapR a 1 U) (swapC b 1 V) := by
  have ne : swapC b 1 (swapR a 1 S) 1 1 ≠ 0 := by rw [bring_kk]; exact sp.ne
  have ha1 : a = 1 := by omega
  have hh2 : h = 2 := by omega
  subst ha1 hh2
  cases G with
  | @low _ _ _ _ B F bu =>
    have B1 := B.bring' ha hb hh0 hw0 hh hw
    have eU : swapR 1 1 U = U := by funext i j; show U (swapN 1 1 i) j = U i j; rw [swapN_self]
    have eS : ∀ i j, swapC b 1 (swapR 1 1 S) i j = S i (swapN b 1 j) := fun i j => by show S (swapN 1 1 i) (swapN b 1 j) = _; rw [swapN_self]
    have s0 : swapN b 1 0 = 0 := by unfold swapN; rw [if_neg (by omega), if_neg (by omega)]
    have sp0 : ∀ j, 0 < j → 0 < swapN b 1 j := fun j hj => by unfold swapN; (repeat' split) <;> omega
    rw [eU] at B1 ⊢
    generalize hS1 : swapC b 1 (swapR 1 1 S) = S1 at *
    have bs : ∀ i j, (S1 i j).natAbs ≤ BIG := fun i j => by rw [eS]; exact F.bs _ _
    have z0 : ∀ j, 0 < j → S1 0 j = 0 := fun j hj => by rw [eS]; exact F.z0 _ (sp0 j hj)
    have z1 : ∀ i, 0 < i → S1 i 0 = 0 := fun i hi => by rw [eS, s0]; exact F.z1 i hi
    have n0 : S1 0 0 ≠ 0 := by rw [eS, s0]; exact F.n0
    -- the pivot is the smaller of the two
    have le : S1 1 2 = 0 ∨ (S1 1 1).natAbs ≤ (S1 1 2).natAbs := by
      by_cases q : S1 1 2 = 0
      · exact .inl q
      · refine .inr ?_
        have e11 : S1 1 1 = S 1 b := by rw [← hS1, bring_kk]
        rw [e11]
        rw [eS] at q ⊢
        exact sp.least 1 _ (by omega) (sp0 2 (by omega)) q
    have psw : ∀ r, psi (S1 1 1) (S1 1 2) (swapC b 1 V r 1) (swapC b 1 V r 2) ≤ CAP := by
      intro r
      rw [eS, eS]
      show psi (S 1 (swapN b 1 1)) (S 1 (swapN b 1 2)) (V r (swapN b 1 1)) (V r (swapN b 1 2)) ≤ CAP
      have : b = 1 ∨ b = 2 := by omega
      rcases this with rfl | rfl
      · rw [swapN_self, swapN_self]; exact F.ps r
      · show psi (S 1 2) (S 1 1) (V r 2) (V r 1) ≤ CAP
        rw [psi_swap]; exact F.ps r
    have lm : (S1 1 1).natAbs ≤ m := by
      have e11 : S1 1 1 = S 1 b := by rw [← hS1, bring_kk]
      have l1 := fun n => sp.least 1 1 (by omega) (by omega) n
      have l2 := fun n => sp.least 1 2 (by omega) (by omega) n
      rw [e11]
      rcases F.ms with ⟨n, l⟩ | ⟨n, l⟩ | ⟨n1, n2⟩
      · exact Nat.le_trans (l1 n) l
      · exact Nat.le_trans (l2 n) l
      · exfalso
        have : b = 1 ∨ b = 2 := by omega
        rcases this with rfl | rfl
        · exact sp.ne n1
        · exact sp.ne n2
    have vb : ∀ i j, (swapC b 1 V i j).natAbs ≤ CAP := fun i j => F.bv _ _
    generalize hV1 : swapC b 1 V = V1 at *
    have B2 : Base A 2 w (clS S1 1 2 w) (elimR S1 U 1 (2 - (1 + 1))) (elimC S1 V1 1 (w - (1 + 1))) := (B1.elimR (by omega) hh).elimC (by omega) hw
    have eU2 : elimR S1 U 1 (2 - (1 + 1)) = U := elimR_zero
    rw [eU2] at B2
    have dn := done_iff B1.zr B1.zc hh0 hw0
    have hz : ∀ i j, (i < 1 ∨ j < 1) → i ≠ j → S1 i j = 0 := fun i j h1 h2 => by
      rcases Nat.eq_zero_or_pos i with rfl | hi
      · exact z0 j (by omega)
      · have : j = 0 := by omega
        subst this; exact z1 i hi
    have k11 : clS S1 1 2 w 1 1 = S1 1 1 := clS_kk B1.zr B1.zc hh0 hw0
    have k12 : clS S1 1 2 w 1 2 = (S1 1 2).fmod (S1 1 1) := clS_kj B1.zr B1.zc hh0 hw0 (by omega)
    have kold : ∀ i j, (i < 1 ∨ j < 1) → clS S1 1 2 w i j = S1 i j := fun i j hij => clS_old B1.zr B1.zc hh0 hw0 hij hz
    have ne2 : clS S1 1 2 w 1 1 ≠ 0 := by rw [k11]; exact ne
    have f12 := (fmod_facts (S1 1 2) ne).1
    have bs2 : ∀ i j, (clS S1 1 2 w i j).natAbs ≤ BIG := by
      intro i j
      by_cases h1 : i < 1 ∨ j < 1
      · rw [kold i j h1]; exact bs i j
      · by_cases h2 : i = 1
        · subst h2
          by_cases h3 : j = 1
          · subst h3; rw [k11]; exact bs _ _
          · by_cases h4 : j = 2
            · subst h4; rw [k12]; have := bs 1 1; omega
            · rw [B2.zc _ _ (by omega)]; simp
        · rw [B2.zr _ _ (by omega)]; simp
    have v1 : ∀ r j, j ≠ 2 → elimC S1 V1 1 (w - (1 + 1)) r j = V1 r j := fun r j hj => elimC_same (by omega)
    have v2 : ∀ r, elimC S1 V1 1 (w - (1 + 1)) r 2 = V1 r 2 - (S1 1 2).fdiv (S1 1 1) * V1 r 1 := fun r => by
      by_cases q : w = 3
      · subst q; exact if_pos (by omega)
      · rw [elimC_same (by omega), B1.zc 1 2 (by omega)]; simp
    have ps2 : ∀ r, psi (clS S1 1 2 w 1 1) (clS S1 1 2 w 1 2) (elimC S1 V1 1 (w - (1 + 1)) r 1) (elimC S1 V1 1 (w - (1 + 1)) r 2) ≤ CAP := fun r => by
      rw [k11, k12, v1 r 1 (by omega), v2]
      exact Nat.le_trans (psi_turn ne le) (psw r)
    have vb2 : ∀ i j, (elimC S1 V1 1 (w - (1 + 1)) i j).natAbs ≤ CAP := fun i j => by
      by_cases q : j = 2
      · subst q
        exact Nat.le_trans (psi_2 ne2) (ps2 i)
      · rw [v1 i j q]; exact vb i j
    have fin : clS S1 1 2 w 1 2 = 0 → Fin A 2 w (clS S1 1 2 w) U (elimC S1 V1 1 (w - (1 + 1))) := fun z => by
      refine ⟨B2, fun i j hij => ?_, fun q => ?_, bs2, bu, vb2⟩
      · by_cases h1 : i < 1 ∨ j < 1
        · rw [kold i j h1]; exact hz i j h1 hij
        · by_cases h2 : i = 1
          · subst h2
            by_cases h4 : j = 2
            · subst h4; exact z
            · exact B2.zc _ _ (by omega)
          · exact B2.zr _ _ (by omega)
      · rw [kold 0 0 (.inl (by omega))] at q; exact absurd q n0
    refine ⟨ne, bs, ne2, fun d => ?_, fun d r hr => ?_, fun d _ => ?_, fun d => ?_⟩
    · have n12 : clS S1 1 2 w 1 2 ≠ 0 := fun z => by
        have : (doneR S1 1 (2 - (1 + 1)) && doneC S1 1 (w - (1 + 1))) = true := dn.mpr ⟨fun i hi => B2.zr _ _ (by omega), fun j hj => by
          by_cases q : j = 2
          · subst q; exact z
          · exact B2.zc _ _ (by omega)⟩
        rw [this] at d; cases d
      refine ⟨(clS S1 1 2 w 1 2).natAbs, by rw [k12]; omega, ?_⟩
      rw [eU2]
      refine .low B2 ⟨fun j hj => ?_, fun i hi => ?_, ?_, bs2, vb2, ps2, .inr (.inl ⟨n12, Nat.le_refl _⟩)⟩ bu
      · rw [kold 0 j (.inl (by omega))]; exact z0 j hj
      · rw [kold i 0 (.inr (by omega))]; exact z1 i hi
      · rw [kold 0 0 (.inl (by omega))]; exact n0
    · obtain ⟨h1, h2, _⟩ := hr
      omega
    · have := (dn.mp d).2 2 (by omega)
      rw [eU2]
      exact ⟨0, by omega, .fin (fin this)⟩
    · have F2 := fin ((dn.mp d).2 2 (by omega))
      rw [eU2]
      have nb := F2.base.rowNeg (k := 1) (by omega) hh
      refine ⟨0, by omega, .fin ⟨nb, fun i j hij => ?_, fun q => ?_, fun i j => ?_, fun i j => ?_, vb2⟩⟩
      · have := F2.diag i j hij
        unfold rowNeg; split <;> omega
      · have e : rowNeg 1 (clS S1 1 2 w) 0 0 = clS S1 1 2 w 0 0 := if_neg (by omega)
        rw [e, kold 0 0 (.inl (by omega))] at q; exact absurd q n0
      · have := bs2 i j
        unfold rowNeg; split <;> omega
      · have := bu i j
        unfold rowNeg; split <;> omega

theorem Good.turn {A : Mat} {h w m k a b : Nat} {S U V : Mat} (G : Good A h w m k S U V) (hh : h ≤ 2) (hw : w ≤ 3) (hk : k < h) (hk' : k < w) (ha0 : k ≤ a) (ha : a < h) (hb0 : k ≤ b) (hb : b < w) (sp : Spot S k a b) :
    TurnOk A h w m k (swapC b k (swapR a k S)) (swapR a k U) (swapC b k V) := by
  have : k = 0 ∨ k = 1 := by omega
  rcases this with rfl | rfl
  · exact G.turn0 hk hh hk' hw ha hb sp
  · exact G.turn1 hk hh hk' hw ha0 ha hb0 hb sp

theorem Low.diag {m : Nat} {S V : Mat} (h : Low m S V) (z : S 1 2 = 0) (zr : ∀ i j, 2 ≤ i → S i j = 0) (zc : ∀ i j, 3 ≤ j → S i j = 0) : ∀ i j, i ≠ j → S i j = 0 := by
  intro i j hij
  rcases Nat.eq_zero_or_pos i with rfl | hi
  · exact h.z0 j (by omega)
  · rcases Nat.eq_zero_or_pos j with rfl | hj
    · exact h.z1 i hi
    · by_cases q : i = 1
      · subst q
        by_cases q2 : j = 2
        · subst q2; exact z
        · exact zc _ _ (by omega)
      · exact zr _ _ (by omega)

theorem Good.none {A : Mat} {h w m k : Nat} {S U V : Mat} (G : Good A h w m k S U V) (hh : h ≤ 2) (hw : w ≤ 3) (hk : k < h) (hk' : k < w) (B : ∀ i j, k ≤ i → k ≤ j → S i j = 0) : Fin A h w S U V := by
  have b := G.base
  have bs := G.bs
  have zr : ∀ i j, 2 ≤ i → S i j = 0 := fun i j hi => b.zr _ _ (by omega)
  have zc : ∀ i j, 3 ≤ j → S i j = 0 := fun i j hj => b.zc _ _ (by omega)
  have pc : ∀ e, 2 ^ (44 * (14 - e)) ≤ CAP := fun e => Nat.pow_le_pow_right (by omega) (by omega)
  cases G with
  | free _ F bu bv => exact ⟨b, fun i j _ => B i j (by omega) (by omega), fun _ => B 1 1 (by omega) (by omega), bs, fun i j => Nat.le_trans (bu i j) (pc _), fun i j => Nat.le_trans (bv i j) (pc _)⟩
  | mixed _ F bu bv => exact ⟨b, fun i j _ => B i j (by omega) (by omega), fun _ => B 1 1 (by omega) (by omega), bs, fun i j => Nat.le_trans (bu i j) (pc _), fun i j => Nat.le_trans (bv i j) (pc _)⟩
  | low _ F bu => exact ⟨b, F.diag (B 1 2 (by omega) (by omega)) zr zc, fun _ => B 1 1 (by omega) (by omega), bs, bu, F.bv⟩
  | fin F => omega

theorem Good.last {A : Mat} {h w m k : Nat} {S U V : Mat} (G : Good A h w m k S U V) (hh0 : 0 < h) (hh : h ≤ 2) (hw0 : 0 < w) (hw : w ≤ 3) (hk : ¬ (k < h ∧ k < w)) : Fin A h w S U V := by
  have b := G.base
  have bs := G.bs
  have zr : ∀ i j, 2 ≤ i → S i j = 0 := fun i j hi => b.zr _ _ (by omega)
  have zc : ∀ i j, 3 ≤ j → S i j = 0 := fun i j hj => b.zc _ _ (by omega)
  cases G with
  | free _ F bu bv => omega
  | mixed _ F bu bv => omega
  | low _ F bu =>
    have z : ∀ j, 0 < j → S 1 j = 0 := fun j hj => by
      by_cases q : h = 1
      · exact b.zr _ _ (by omega)
      · exact b.zc _ _ (by omega)
    exact ⟨b, F.diag (z 2 (by omega)) zr zc, fun _ => z 1 (by omega), bs, bu, F.bv⟩
  | fin F => exact F

/-- what the law's matrices are like -/
structure Start (A : Mat) (h w : Nat) : Prop where
  zr : ∀ i j, h ≤ i → A i j = 0
  zc : ∀ i j, w ≤ j → A i j = 0
  bd : ∀ i j, (A i j).natAbs ≤ 36
  less : (∃ i j, A i j ≠ 0) → ∃ i j, A i j ≠ 0 ∧ (A i j).natAbs ≤ 6

theorem Start.good {A : Mat} {h w : Nat} (s : Start A h w) (hh : h ≤ 2) (hw : w ≤ 3) : Good A h w (BIG + 14) 0 A unitM unitM := by
  have u : ∀ i j, (unitM i j).natAbs ≤ 1 := fun i j => by unfold unitM; split <;> simp
  refine .free (p := 6) (L := 36) ⟨Alg.start A (fun i j hi => s.zr _ _ (by omega)) (fun i j hj => s.zc _ _ (by omega)), s.zr, s.zc, fun i j hi hj => if_neg (by omega), fun i j hi hj => if_neg (by omega)⟩ ⟨by omega, by omega, s.bd, by decide, s.less, 0, by omega, fun j => s.bd 0 j⟩ ?_ ?_
  · intro i j; have := u i j; simpa using this
  · intro i j; have := u i j; simpa using this

theorem St.made {σ σ1 σ2 σ3 : Store} {s u v : Addr} {rs ru rv : Nat → Addr} {S U V : Mat} {h w : Nat} (a : Made σ σ1 s rs S h w) (b : Made σ1 σ2 u ru U h h) (c : Made σ2 σ3 v rv V w w) : St σ3 s u v rs ru rv S U V h w := by
  have no : ∀ {σ : Store} {b} {P : Prop}, (∃ xs, σ b = some xs) → σ b = none → P := fun ⟨xs, e⟩ q => by rw [q] at e; cases e
  have k13 : ∀ b' xs, σ1 b' = some xs → σ2 b' = some xs := b.keep
  refine ⟨a.mat.same fun x xs _ e => c.keep _ _ (b.keep _ _ e), b.mat.same fun x xs _ e => c.keep _ _ e, c.mat, fun x f g => ?_, fun x f g => ?_, fun x f g => ?_⟩
  · exact no (a.mat.has f) (b.new x g)
  · obtain ⟨xs, e⟩ := a.mat.has f
    exact no ⟨xs, b.keep _ _ e⟩ (c.new x g)
  · exact no (b.mat.has f) (c.new x g)

theorem Ress.map {σ σ0 : Store} {α : Type} {f g : α → AV} : ∀ (l : List α), (∀ x ∈ l, Res σ σ0 (f x) (g x)) → Ress σ σ0 (l.map f) (l.map g)
  | [], _ => .nil
  | x :: l, h => .cons (h x (List.mem_cons_self ..)) (Ress.map l fun y hy => h y (List.mem_cons_of_mem _ hy))

theorem MatIn.res {σ σ0 : Store} {a : Addr} {r : Nat → Addr} {M : Mat} {h w : Nat} (m : MatIn σ a r M h w) (h0 : ∀ b, Foot a r h b → σ0 b = none) : Res σ σ0 (.loc a) (matAV M h w) := by
  refine .loc m.top (h0 _ (.inl rfl)) (Ress.map _ fun i hi => ?_)
  have hi' : i < h := List.mem_range.mp hi
  exact .loc (m.row i hi') (h0 _ (.inr ⟨i, hi', rfl⟩)) (Ress.same _)

abbrev noStore : Store := fun _ => none
theorem St.res {σ : Store} {s u v : Addr} {rs ru rv : Nat → Addr} {S U V : Mat} {h w : Nat} (x : St σ s u v rs ru rv S U V h w) : Res σ noStore (.tup [.loc s, .loc u, .loc v]) (.tup [matAV S h w, matAV U h h, matAV V w w]) :=
  .tup (.cons (x.ms.res fun _ _ => rfl) (.cons (x.mu.res fun _ _ => rfl) (.cons (x.mv.res fun _ _ => rfl) .nil)))

section
variable {prog : Program} {w : World} {hb : Heap} {mg mb : Str → Option Value} {n : Nat} {sc : Scope} {own : List Str} {ρ : Rho} {σ : Store}
theorem comp_loc {elt e : Expr} {x : Str} {px : Pos} {scope : Scope} {Ψ : List AV → Store → Prop} {a : Addr} {m : Nat} (g f : Nat → AV)
    (hst : storeOk (relS scope sc) (cellNames scope.names) x = true) (hx : (compRho scope ρ).lookup x = none) (hm : m ≤ 1000) (ha : σ a = some ((List.range m).map g))
    (hi : wpE prog w hb n sc own ρ σ e fun v σ1 => v = .loc a ∧ σ1 = σ)
    (h1 : ∀ i, i < m → wpE prog w hb n (relS scope sc) (cellNames scope.names) ((x, g i) :: compRho scope ρ) (serase σ a) elt fun v σ' => v = f i ∧ σ' = serase σ a)
    (h2 : Ψ ((List.range m).map f) σ) : CompPre prog w hb n sc own ρ σ elt (.Name x px) e [] scope Ψ := by
  refine compPre_map hst hx (wpI_value (wpE_mono hi fun v σ1 ee => ?_))
  obtain ⟨e1, e2⟩ := ee
  subst e1 e2
  refine it_loc (fun _ _ => rfl) ha ⟨by simp; omega, f, fun i u hu => ?_, ?_⟩
  · have hi : i < m := by have := (List.getElem?_eq_some_iff.mp hu).1; simpa using this
    rw [map_range_get hi] at hu; cases hu
    exact h1 i hi
  · simp only [List.length_map, List.length_range]
    rw [sput_serase ha]
    exact h2
end

section
variable {prog : Program} {w : World} {hb : Heap} {mg mb : Str → Option Value} {n : Nat} {σ : Store}
theorem bind12 (pm code doc : Value) : ∀ vs : List Value, vs.length = 2 → bindArgs (Calls.docDef "smith_form" (fArgs 12) (fBody 12) (fScope 12) pm code doc) ⟨vs, []⟩ = pure ((["a", "width"] : List Str).zip vs) := binds2 fun a b => by kernel_rfl

theorem smith_form_spec (T : Text hb mg mb) {A : Mat} {h wd : Nat} (hA : Start A h wd) (hh0 : 0 < h) (hh : h ≤ 2) (hw0 : 0 < wd) (hw : wd ≤ 3) {Φ : AV → Store → Prop}
    (hΦ : ∀ S U V, Fin A h wd S U V → Φ (.tup [matAV S h wd, matAV U h h, matAV V wd wd]) noStore) :
    wpF prog w hb mg (n + 3) σ "smith_form" [matAV A h wd, .int wd] Φ := by
  refine wpF_freeze (wpF_intro (["a", "width"] : List Str) T.toGlo (T.at 12 "smith_form" (by kernel_rfl) rfl) (by kernel_rfl) bind12 rfl ?_)
  refine wpSs_cons ?_
  refine wpS_Assign_swap (names := ["s", "u", "v"]) (fun _ => rfl) (fun _ he => ?_) (by kernel_rfl) ?_
  · cases ‹Env›; cases he; kernel_rfl
  refine wpEs_cons (by kernel_rfl) ?_
  refine wpE_Comp_loc (by kernel_rfl) (fun _ _ => rfl) (rows_vec h wd (fun i => rowAV A i wd) A (by kernel_rfl) (by rfl) (by omega) ?_ (fun i σ' hi => ?_) (fun rs σ1 hr s hs => ?_))
  · walk_at "W"
    exact ⟨rfl, rfl⟩
  · walk_at "W"
    exact v_list (by simp; omega) fun a ha => ⟨a, ha, rfl, rfl⟩
  have m1 := hr.made hs
  walk_at "W"
  refine wpE_callF T.toGlo (T.at 5 "unit_rows" (by kernel_rfl) rfl) (by kernel_rfl) (by kernel_rfl) (by kernel_rfl) ?_
  walk_at "W"
  refine v_lenR (by omega) ?_
  walk_at "W"
  refine unit_rows_spec T (by omega) fun u ru σ2 m2 => ?_
  walk_at "W"
  refine wpE_callF T.toGlo (T.at 5 "unit_rows" (by kernel_rfl) rfl) (by kernel_rfl) (by kernel_rfl) (by kernel_rfl) ?_
  walk_at "W"
  refine unit_rows_spec T (by omega) fun v rv σ3 m3 => ?_
  have st := St.made m1 m2 m3
  clear m1 m2 m3 hs hr
  walk_at "W"
  refine ⟨rfl, by simp, ?_⟩
  walk_at "W"
  let base : Rho := [(("s" : Str), AV.loc s), (("u" : Str), AV.loc u), (("v" : Str), AV.loc v), (("width" : Str), AV.int wd)]
  refine wpS_weak (ρ0 := (("step" : Str), .int (0 : Nat)) :: base) (Sub.ofL ⟨rfl, rfl, rfl, rfl, rfl, trivial⟩) ?_
  refine wpS_While (fun m ρ' σ' => ∃ rs ru rv S U V, ∃ k : Nat, St σ' s u v rs ru rv S U V h wd ∧ Good A h wd m k S U V ∧ ρ' = ((("step" : Str), .int k) :: base)) (BIG + 14) ⟨rs, ru, rv, A, unitM, unitM, 0, st, hA.good hh hw, rfl⟩ ?_
  rintro m ρ' σ' ⟨rs, ru, rv, S, U, V, k, st, G, rfl⟩
  walk_at "W"
  refine v_lenLoc st.ms.top (by omega) ?_
  walk_at "W"
  by_cases hk : k < h ∧ k < wd
  rotate_left
  · rw [show decide ((k : Int) < min (h : Int) wd) = false by rw [decide_eq_false_iff_not]; omega]
    simp only [Bool.false_eq_true, if_false]
    walk_at "W"
    refine ⟨by simp, ?_⟩
    exact ⟨noStore, _, fun _ _ e => (by cases e), st.res, hΦ _ _ _ (G.last hh0 hh hw0 hw hk)⟩
  rw [show decide ((k : Int) < min (h : Int) wd) = true by rw [decide_eq_true_iff]; omega]
  simp only [if_true]
  obtain ⟨hk, hk'⟩ := hk
  walk_at "W"
  refine wpE_callF T.toGlo (T.at 7 "least_spot" (by kernel_rfl) rfl) (by kernel_rfl) (by kernel_rfl) (by kernel_rfl) ?_
  walk_at "W"
  refine least_spot_spec T st.ms (by omega) (by omega) (by omega) fun f hf => ?_
  match f, hf with
  | none, hf =>
    walk_at "W"
    refine wpS_If' true ?_ (fun _ => ?_) (fun q => by cases q)
    · walk_at "W"
      exact ⟨rfl, rfl⟩
    · walk_at "W"
      refine ⟨by simp, ?_⟩
      exact ⟨noStore, _, fun _ _ e => (by cases e), st.res, hΦ _ _ _ (G.none hh hw hk hk' (best_none G.base.zr G.base.zc hf))⟩
  | some (a, b), hf =>
    obtain ⟨sp, ha0, ha, hb0, hb'⟩ := best_spot G.base.zr G.base.zc hk hk' hf
    have tk := G.turn hh hw hk hk' ha0 ha hb0 hb' sp
    walk_at "W"
    refine wpS_If' false ?_ (fun q => by cases q) (fun _ => ?_)
    · walk_at "W"
      exact ⟨rfl, rfl⟩
    walk_at "W"
    refine wpS_Expr rfl (fun _ => rfl) (wpE_callF T.toGlo (T.at 9 "bring" (by kernel_rfl) rfl) (by kernel_rfl) (by kernel_rfl) (by kernel_rfl) ?_)
    walk_at "W"
    refine bring_spec T st ha hb' hk hk' (by omega) (by omega) fun rs ru σ' st => ?_
    generalize swapC b k (swapR a k S) = S1 at *
    generalize swapR a k U = U1 at *
    generalize swapC b k V = V1 at *
    walk_at "W"
    refine wpS_If ?_
    walk_at "W"
    refine wpE_callF T.toGlo (T.at 10 "clear_cross" (by kernel_rfl) rfl) (by kernel_rfl) (by kernel_rfl) (by kernel_rfl) ?_
    walk_at "W"
    refine clear_cross_spec T st hk hk' (by omega) (by omega) tk.ne (fun i j => Nat.lt_of_le_of_lt (tk.bs i j) (by decide)) fun rs ru σ' st => ?_
    have ne2 := tk.ne2
    have t1 := tk.again
    have t2 := tk.add
    have t3 := tk.next
    have t4 := tk.neg
    clear tk
    unfold clS at *
    generalize hS2 : elimC S1 (elimR S1 S1 k (h - (k + 1))) k (wd - (k + 1)) = S2 at *
    generalize elimR S1 U1 k (h - (k + 1)) = U2 at *
    generalize elimC S1 V1 k (wd - (k + 1)) = V2 at *
    generalize (doneR S1 k (h - (k + 1)) && doneC S1 k (wd - (k + 1))) = d at *
    walk_at "W"
    cases d with
    | false =>
      simp only [Bool.not_false, if_true]
      walk_at "W"
      obtain ⟨m', lt, G'⟩ := t1 rfl
      exact ⟨m', ((("step" : Str), .int k) :: base), lt, Sub.ofL ⟨rfl, rfl, rfl, rfl, rfl, trivial⟩, rs, ru, rv, S2, U2, V2, k, st, G', rfl⟩
    | true =>
      simp only [Bool.not_true, Bool.false_eq_true, if_false]
      walk_at "W"
      refine wpE_callF T.toGlo (T.at 11 "undivided_row" (by kernel_rfl) rfl) (by kernel_rfl) (by kernel_rfl) (by kernel_rfl) ?_
      walk_at "W"
      refine undivided_row_spec T st.ms hk hk' (by omega) (by omega) ne2 fun f hf => ?_
      match f, hf with
      | some i0, hf =>
        obtain ⟨m', lt, G'⟩ := t2 rfl i0 hf
        have hi0 := hf.2.1
        have hik := hf.1
        walk_at "W"
        refine wpS_If' true ?_ (fun _ => ?_) (fun q => by cases q)
        · walk_at "W"
          exact ⟨rfl, rfl⟩
        walk_at "W"
        refine for_two (.loc s) (.loc u) (by kernel_rfl) rfl (fun _ _ => rfl) ?_ (fun σ1 => ∃ rs', St σ1 s u v rs' ru rv (rowAdd k i0 1 S2) U2 V2 h wd) ?_ ?_
        · walk_at "W"
          exact ⟨by simp, rfl, rfl⟩
        · generalize hσ1 : σ' = σ1 at *
          walk_at "W"
          have m := st.ms
          have nr : rs i0 ≠ rs k := fun q => (by omega : i0 ≠ k) (m.inj _ _ hi0 hk q)
          refine wpE_Comp_loc (by kernel_rfl) (fun _ _ => rfl) (comp_enum (a := rs k) (fun j => .int (S2 k j)) (fun j => .int (rowAdd k i0 1 (S2) k j)) T.toGlo (by kernel_rfl) rfl (by kernel_rfl) (by kernel_rfl) rfl rfl (m := wd) (by omega) (m.row _ hk) ?_ (fun j hj => ?_) (fun new hnew => ?_))
          · walk_at "W"
            exact ⟨isS m.top, v_locRow m.top hk (by omega) ⟨rfl, rfl⟩⟩
          · walk_at "W"
            have top' := (serase_ne (σ := σ1) (a := rs k) (Ne.symm (m.ne k hk))).trans m.top
            have row' := (serase_ne (σ := σ1) nr).trans (m.row i0 hi0)
            refine ⟨isS top', v_locRow top' hi0 (by omega) ?_⟩
            walk_at "W"
            refine ⟨isS row', v_locRow row' hj (by omega) ?_⟩
            walk_at "W"
            exact ⟨by unfold rowAdd; rw [if_pos rfl, Int.one_mul], rfl⟩
          · have nA : s ≠ new := by rintro rfl; rw [m.top] at hnew; cases hnew
            refine wpA_sub ?_
            walk_at "W"
            refine ⟨_, _, _, rfl, rfl, (sput_ne nA).trans m.top, by omega, by simp; omega, by omega, ?_⟩
            walk_at "W"
            have uu := m.setRow (i := k) (M' := rowAdd k i0 1 (S2)) hk hnew (fun i j q => if_neg q)
            exact ⟨rfl, .refl _, _, st.updS uu⟩
        · rintro σ1 ⟨rs', st⟩
          walk_at "W"
          have m := st.mu
          have nr : ru i0 ≠ ru k := fun q => (by omega : i0 ≠ k) (m.inj _ _ hi0 hk q)
          refine wpE_Comp_loc (by kernel_rfl) (fun _ _ => rfl) (comp_enum (a := ru k) (fun j => .int (U2 k j)) (fun j => .int (rowAdd k i0 1 (U2) k j)) T.toGlo (by kernel_rfl) rfl (by kernel_rfl) (by kernel_rfl) rfl rfl (m := h) (by omega) (m.row _ hk) ?_ (fun j hj => ?_) (fun new hnew => ?_))
          · walk_at "W"
            exact ⟨isS m.top, v_locRow m.top hk (by omega) ⟨rfl, rfl⟩⟩
          · walk_at "W"
            have top' := (serase_ne (σ := σ1) (a := ru k) (Ne.symm (m.ne k hk))).trans m.top
            have row' := (serase_ne (σ := σ1) nr).trans (m.row i0 hi0)
            refine ⟨isS top', v_locRow top' hi0 (by omega) ?_⟩
            walk_at "W"
            refine ⟨isS row', v_locRow row' hj (by omega) ?_⟩
            walk_at "W"
            exact ⟨by unfold rowAdd; rw [if_pos rfl, Int.one_mul], rfl⟩
          · have nA : u ≠ new := by rintro rfl; rw [m.top] at hnew; cases hnew
            refine wpA_sub ?_
            walk_at "W"
            refine ⟨_, _, _, rfl, rfl, (sput_ne nA).trans m.top, by omega, by simp; omega, by omega, ?_⟩
            walk_at "W"
            have uu := m.setRow (i := k) (M' := rowAdd k i0 1 (U2)) hk hnew (fun i j q => if_neg q)
            refine ⟨rfl, .refl _, ?_⟩
            have st2 := st.updU uu
            show wpSs _ _ _ _ _ _ _ _ _ _
            walk_at "W"
            exact ⟨m', ((("step" : Str), .int k) :: base), lt, Sub.ofL ⟨rfl, rfl, rfl, rfl, rfl, trivial⟩, rs', _, rv, _, _, V2, k, st2, G', rfl⟩
      | none, hf =>
        walk_at "W"
        refine wpS_If' false ?_ (fun q => by cases q) (fun _ => ?_)
        · walk_at "W"
          exact ⟨rfl, rfl⟩
        walk_at "W"
        refine wpS_If' (decide (S2 k k < 0)) ?_ (fun q => ?_) (fun q => ?_)
        · walk_at "W"
          refine ⟨isS st.ms.top, v_locRow st.ms.top hk (by omega) ?_⟩
          walk_at "W"
          refine ⟨isS (st.ms.row k hk), v_locRow (st.ms.row k hk) hk' (by omega) ?_⟩
          walk_at "W"
          exact ⟨rfl, rfl⟩
        · obtain ⟨m', lt, G'⟩ := t4 rfl
          walk_at "W"
          refine for_two (.loc s) (.loc u) (by kernel_rfl) rfl (fun _ _ => rfl) ?_ (fun σ1 => ∃ rs', St σ1 s u v rs' ru rv (rowNeg k S2) U2 V2 h wd) ?_ ?_
          · walk_at "W"
            exact ⟨by simp, rfl, rfl⟩
          · generalize hσ1 : σ' = σ1 at *
            walk_at "W"
            have m := st.ms
            refine wpE_Comp_loc (by kernel_rfl) (fun _ _ => rfl) (comp_loc (a := rs k) (m := wd) (fun j => .int (S2 k j)) (fun j => .int (rowNeg k (S2) k j)) (by kernel_rfl) rfl (by omega) (m.row _ hk) ?_ (fun j hj => ?_) (fun new hnew => ?_))
            · walk_at "W"
              exact ⟨isS m.top, v_locRow m.top hk (by omega) ⟨rfl, rfl⟩⟩
            · walk_at "W"
              exact ⟨by unfold rowNeg; rw [if_pos rfl], rfl⟩
            · have nA : s ≠ new := by rintro rfl; rw [m.top] at hnew; cases hnew
              refine wpA_sub ?_
              walk_at "W"
              refine ⟨_, _, _, rfl, rfl, (sput_ne nA).trans m.top, by omega, by simp; omega, by omega, ?_⟩
              walk_at "W"
              have uu := m.setRow (i := k) (M' := rowNeg k (S2)) hk hnew (fun i j q => if_neg q)
              exact ⟨rfl, .refl _, _, st.updS uu⟩
          · rintro σ1 ⟨rs', st⟩
            walk_at "W"
            have m := st.mu
            refine wpE_Comp_loc (by kernel_rfl) (fun _ _ => rfl) (comp_loc (a := ru k) (m := h) (fun j => .int (U2 k j)) (fun j => .int (rowNeg k (U2) k j)) (by kernel_rfl) rfl (by omega) (m.row _ hk) ?_ (fun j hj => ?_) (fun new hnew => ?_))
            · walk_at "W"
              exact ⟨isS m.top, v_locRow m.top hk (by omega) ⟨rfl, rfl⟩⟩
            · walk_at "W"
              exact ⟨by unfold rowNeg; rw [if_pos rfl], rfl⟩
            · have nA : u ≠ new := by rintro rfl; rw [m.top] at hnew; cases hnew
              refine wpA_sub ?_
              walk_at "W"
              refine ⟨_, _, _, rfl, rfl, (sput_ne nA).trans m.top, by omega, by simp; omega, by omega, ?_⟩
              walk_at "W"
              have uu := m.setRow (i := k) (M' := rowNeg k (U2)) hk hnew (fun i j q => if_neg q)
              refine ⟨rfl, .refl _, ?_⟩
              have st2 := st.updU uu
              show wpSs _ _ _ _ _ _ _ _ _ _
              walk_at "W"
              exact ⟨m', ((("step" : Str), .int ((k + 1 : Nat) : Int)) :: base), lt, Sub.ofL ⟨rfl, rfl, rfl, rfl, rfl, trivial⟩, rs', _, rv, _, _, V2, k + 1, st2, G', rfl⟩
        · obtain ⟨m', lt, G'⟩ := t3 rfl (by have := of_decide_eq_false q; omega)
          walk_at "W"
          exact ⟨m', ((("step" : Str), .int ((k + 1 : Nat) : Int)) :: base), lt, Sub.ofL ⟨rfl, rfl, rfl, rfl, rfl, trivial⟩, rs, ru, rv, S2, U2, V2, k + 1, st, G', rfl⟩
end

/-- what the rows want, told to the diagonal -/
def tt (U : Mat) (b : Nat → Int) (h i : Nat) : Int := if i < h then mulTo U (colM b) h i 0 else 0
def sol (S U : Mat) (b : Nat → Int) (h i : Nat) : Int := if S i i ≠ 0 then (tt U b h i).fdiv (S i i) else 0
abbrev kerAV (S V : Mat) (h w : Nat) : AV := .list ((kerCols S h w).map fun j => .list (colL V j w))

theorem sum_abs {B : Nat} : ∀ {l : List Int}, (∀ x ∈ l, x.natAbs ≤ B) → l.sum.natAbs ≤ l.length * B
  | [], _ => by simp
  | x :: l, h => by
    have h1 := h x (List.mem_cons_self ..)
    have h2 := sum_abs (l := l) fun y hy => h y (List.mem_cons_of_mem _ hy)
    rw [List.sum_cons, List.length_cons, Nat.add_mul]
    omega
theorem mulTo_abs {A B : Mat} {k i j X Y : Nat} (ha : ∀ t, (A i t).natAbs ≤ X) (hb : ∀ t, (B t j).natAbs ≤ Y) : (mulTo A B k i j).natAbs ≤ k * (X * Y) := by
  have := sum_abs (B := X * Y) (l := (List.range k).map fun t => A i t * B t j) (by
    intro x hx
    rw [List.mem_map] at hx
    obtain ⟨t, _, rfl⟩ := hx
    rw [Int.natAbs_mul]; exact Nat.mul_le_mul (ha t) (hb t))
  rw [List.length_map, List.length_range] at this
  exact this

theorem pow_c2 (a b c k : Nat) (hk : k ≤ 2) (h : a + b + 2 ≤ c) : k * (2 ^ a * 2 ^ b) < 2 ^ c := by
  have h1 : k * (2 ^ a * 2 ^ b) ≤ 2 ^ 1 * (2 ^ a * 2 ^ b) := Nat.mul_le_mul_right _ (by omega)
  rw [← Nat.pow_add, ← Nat.pow_add] at h1
  rw [← Nat.pow_add]
  exact Nat.lt_of_le_of_lt h1 (Nat.pow_lt_pow_right (by omega) (by omega))

theorem tt_bound {A : Mat} {h w : Nat} {S U V : Mat} (F : Fin A h w S U V) {b : Nat → Int} (hh : h ≤ 2) (hb : ∀ i, (b i).natAbs ≤ 2 ^ 40) (i : Nat) : (tt U b h i).natAbs < 2 ^ 900 := by
  unfold tt
  split
  · exact Nat.lt_of_le_of_lt (mulTo_abs (F.bu i) fun t => hb t) (pow_c2 800 40 900 h hh (by omega))
  · exact Nat.pow_pos (by omega)
theorem sol_bound {A : Mat} {h w : Nat} {S U V : Mat} (F : Fin A h w S U V) {b : Nat → Int} (hh : h ≤ 2) (hb : ∀ i, (b i).natAbs ≤ 2 ^ 40) (i : Nat) : (sol S U b h i).natAbs < 2 ^ 900 := by
  unfold sol
  split
  · rename_i q
    exact Nat.lt_of_le_of_lt (fdiv_abs _ q) (tt_bound F hh hb i)
  · exact Nat.pow_pos (by omega)

theorem bits_le {x : Int} {k m : Nat} (h : x.natAbs < 2 ^ k) (hk : k ≤ m) : Builtin.Int.intBits x ≤ m := Nat.le_trans (bits_of h) hk

section
variable {prog : Program} {w : World} {hb : Heap} {mg mb : Str → Option Value} {n : Nat} {σ : Store}
theorem bind14 (pm code doc : Value) : ∀ vs : List Value, vs.length = 3 → bindArgs (Calls.docDef "whole_solutions" (fArgs 14) (fBody 14) (fScope 14) pm code doc) ⟨vs, []⟩ = pure ((["a", "b", "width"] : List Str).zip vs) := binds3 fun a b c => by kernel_rfl

theorem replicate_map {x : AV} {m : Nat} : List.replicate m x = (List.range m).map fun _ => x := by
  apply List.ext_getElem?
  intro k
  by_cases h : k < m
  · rw [map_range_get h]; simp [h]
  · rw [List.getElem?_eq_none (by simp; omega), List.getElem?_eq_none (by simp; omega)]

theorem whole_solutions_spec (T : Text hb mg mb) {A : Mat} {h wd : Nat} {b : Nat → Int} (hA : Start A h wd) (hh0 : 0 < h) (hh : h ≤ 2) (hw0 : 0 < wd) (hw : wd ≤ 3) (hb' : ∀ i, (b i).natAbs ≤ 2 ^ 40) {Φ : AV → Store → Prop}
    (hno : ∀ S U V i, Fin A h wd S U V → i < max h wd → (S i i = 0 ∧ tt U b h i ≠ 0) ∨ (S i i ≠ 0 ∧ (tt U b h i).fmod (S i i) ≠ 0) → Φ (.tup [.none, kerAV S V h wd]) noStore)
    (hyes : ∀ S U V, Fin A h wd S U V → (∀ i, i < max h wd → (S i i = 0 → tt U b h i = 0) ∧ (S i i ≠ 0 → (tt U b h i).fmod (S i i) = 0)) → Φ (.tup [.list (vecL (fun i => mulTo V (colM (sol S U b h)) wd i 0) wd), kerAV S V h wd]) noStore) :
    wpF prog w hb mg (n + 4) σ "whole_solutions" [matAV A h wd, .list (vecL b h), .int wd] Φ := by
  refine wpF_freeze (wpF_intro (["a", "b", "width"] : List Str) T.toGlo (T.at 14 "whole_solutions" (by kernel_rfl) rfl) (by kernel_rfl) bind14 rfl ?_)
  refine wpSs_cons ?_
  refine wpS_Expr rfl (fun _ => rfl) (wpE_callF T.toGlo (T.at 3 "need_shape" (by kernel_rfl) rfl) (by kernel_rfl) (by kernel_rfl) (by kernel_rfl) ?_)
  walk_at "W"
  refine v_lenR (by omega) ?_
  walk_at "W"
  refine v_lenR (by omega) ?_
  walk_at "W"
  rw [show ((h : Int) == h) = true by simp]
  refine need_shape_spec T ?_
  walk_at "W"
  refine wpE_callF T.toGlo (T.at 12 "smith_form" (by kernel_rfl) rfl) (by kernel_rfl) (by kernel_rfl) (by kernel_rfl) ?_
  walk_at "W"
  refine smith_form_spec T hA hh0 hh hw0 hw fun S U V F => ?_
  refine wpA_tuple rfl rfl ⟨rfl, wpA_name (by kernel_rfl) ⟨rfl, wpA_name (by kernel_rfl) ⟨rfl, wpA_name (by kernel_rfl) ?_⟩⟩⟩
  show wpSs _ _ _ _ _ _ _ _ _ _
  walk_at "W"
  refine wpE_callF T.toGlo (T.at 6 "whole_mul" (by kernel_rfl) rfl) (by kernel_rfl) (by kernel_rfl) (by kernel_rfl) ?_
  walk_at "W"
  refine wpE_CompP (by kernel_rfl) (fun _ _ => rfl) (comp_vec h (fun i => .int (b i)) (fun i => rowAV (colM b) i 1) (by kernel_rfl) (by rfl) (by omega) ?_ (fun i hi => ?_) ?_)
  · walk_at "W"
    exact ⟨rfl, rfl⟩
  · refine wpE_List ?_
    walk_at "W"
    exact ⟨by simp, rfl, rfl⟩
  walk_at "W"
  refine whole_mul_spec T (k := h) (m := 1) (by omega) hh0 (by omega) (by omega) (fun i t j _ _ _ => .of_right (bits_le (k := 41) (Nat.lt_of_le_of_lt (hb' t) (by decide)) (by omega))) ?_
  walk_at "W"
  let told : Mat := mulTo U (colM b) h
  refine wpS_Assign_swap (names := ["found", "free"]) (fun _ => rfl) (fun _ he => ?_) (by kernel_rfl) ?_
  · cases ‹Env›; cases he; kernel_rfl
  walk_at "W"
  refine wpE_List ?_
  walk_at "W"
  refine ⟨by simp, ?_⟩
  walk_at "W"
  refine v_mul_list (by omega) (by omega) rfl fun a ha => ?_
  walk_at "W"
  refine wpE_List ?_
  walk_at "W"
  refine ⟨by simp, ?_⟩
  walk_at "W"
  refine ⟨rfl, by simp, ?_⟩
  show wpSs _ _ _ _ _ _ _ _ _ _
  walk_at "W"
  rw [show List.replicate (wd : Int).toNat (List.getD [AV.int 0] 0 .none) = vecL (fun i => if i < 0 then sol S U b h i else 0) wd by rw [Int.toNat_natCast, replicate_map]; rfl]
  let base : Rho := [(("a" : Str), matAV A h wd), (("width" : Str), AV.int wd), (("s" : Str), matAV S h wd), (("v" : Str), matAV V wd wd), (("told" : Str), matAV told h 1), (("found" : Str), AV.loc a)]
  refine wpS_weak (ρ0 := base) (Sub.ofL ⟨rfl, rfl, rfl, rfl, rfl, rfl, trivial⟩) ?_
  refine wpS_For (fun _ _ => rfl) (wpI_value ?_)
  walk_at "W"
  refine v_lenR (by omega) ?_
  walk_at "W"
  rw [show max (h : Int) wd = ((max h wd : Nat) : Int) by omega]
  refine it_rngS (a := 0) (fun _ _ => rfl) (by omega) (by omega) ⟨fun c ρ' σ' => ρ' = base ∧ σ' = sput noStore a (vecL (fun i => if i < c then sol S U b h i else 0) wd) ∧ ∀ i, i < c → (S i i = 0 → tt U b h i = 0) ∧ (S i i ≠ 0 → (tt U b h i).fmod (S i i) = 0), ⟨rfl, rfl, fun i hi => by omega⟩, ?_, ?_⟩
  · rintro c y ρ' σ' hy ⟨rfl, hσ, hok⟩
    have hc : c < max h wd := by have := (List.getElem?_eq_some_iff.mp hy).1; simpa using this
    rw [map_range_get (by omega)] at hy; cases hy
    rw [show 0 + c = c by omega]
    walk_at "W"
    refine wpE_mono (Φ := fun v σ1 => v = .int (S c c) ∧ σ1 = σ') ?_ (fun v σ1 ⟨e1, e2⟩ => ?_)
    · refine wpE_IfExp' (decide (c < min h wd)) ?_ (fun q => ?_) (fun q => ?_)
      · walk_at "W"
        refine v_lenR (by omega) ?_
        walk_at "W"
        exact ⟨by rw [decide_eq_decide]; omega, rfl⟩
      · have := of_decide_eq_true q
        walk_at "W"
        refine ⟨trivial, v_mat (m := h) (i := c) (by omega) (by omega) ?_⟩
        walk_at "W"
        exact ⟨trivial, v_vec (m := wd) (i := c) (by omega) (by omega) ⟨rfl, rfl⟩⟩
      · have := of_decide_eq_false q
        walk_at "W"
        refine ⟨?_, rfl⟩
        congr 1
        by_cases z : c < h
        · exact (F.base.zc _ _ (by omega)).symm
        · exact (F.base.zr _ _ (by omega)).symm
    subst e1
    rw [e2]
    walk_at "W"
    refine wpE_mono (Φ := fun v σ1 => v = .int (tt U b h c) ∧ σ1 = σ') ?_ (fun v σ1 ⟨e1, e2⟩ => ?_)
    · refine wpE_IfExp' (decide (c < h)) ?_ (fun q => ?_) (fun q => ?_)
      · walk_at "W"
        refine v_lenR (by omega) ?_
        walk_at "W"
        exact ⟨by rw [decide_eq_decide]; omega, rfl⟩
      · have := of_decide_eq_true q
        walk_at "W"
        refine ⟨trivial, v_mat (m := h) (i := c) (by omega) (by omega) ?_⟩
        walk_at "W"
        refine ⟨trivial, v_vec (m := 1) (i := 0) (by omega) (by omega) ⟨?_, rfl⟩⟩
        unfold tt; rw [if_pos this]
      · have := of_decide_eq_false q
        walk_at "W"
        refine ⟨?_, rfl⟩
        unfold tt; rw [if_neg this]
    subst e1
    rw [e2]
    walk_at "W"
    refine wpS_If' ((S c c == 0 && tt U b h c != 0) || (S c c != 0 && (tt U b h c).fmod (S c c) != 0)) (wpT_Or' _ _ (wpT_And' (S c c == 0) (tt U b h c != 0) ?_ (fun _ => ?_) ⟨rfl, rfl⟩) (fun _ => wpT_And' (S c c != 0) ((tt U b h c).fmod (S c c) != 0) ?_ (fun q => ?_) ⟨rfl, rfl⟩) ⟨rfl, rfl⟩) (fun q => ?_) (fun q => ?_)
    · walk_at "W"
      exact ⟨rfl, rfl⟩
    · walk_at "W"
      exact ⟨rfl, rfl⟩
    · walk_at "W"
      exact ⟨rfl, rfl⟩
    · walk_at "W"
      refine v_mod (by simpa using q) ?_
      walk_at "W"
      exact ⟨rfl, rfl⟩
    · walk_at "W"
      refine wpE_callF T.toGlo (T.at 15 "kernel_of" (by kernel_rfl) rfl) (by kernel_rfl) (by kernel_rfl) (by kernel_rfl) ?_
      walk_at "W"
      refine kernel_of_spec T (by omega) (by omega) ?_
      walk_at "W"
      refine ⟨by simp, noStore, _, fun _ _ e => (by cases e), .same _, hno S U V c F hc ?_⟩
      simpa using q
    · walk_at "W"
      have hok' : ∀ i, i < c + 1 → (S i i = 0 → tt U b h i = 0) ∧ (S i i ≠ 0 → (tt U b h i).fmod (S i i) = 0) := by
        intro i hi
        by_cases z : i = c
        · subst z
          rw [Bool.or_eq_false_iff, Bool.and_eq_false_iff, Bool.and_eq_false_iff] at q
          simp at q
          exact ⟨fun e => q.1.resolve_left (fun n => n e), fun n => q.2.resolve_left n⟩
        · exact hok i (by omega)
      refine wpS_If' (S c c != 0) ?_ (fun q2 => ?_) (fun q2 => ?_)
      · walk_at "W"
        exact ⟨rfl, rfl⟩
      · have ne : S c c ≠ 0 := by simpa using q2
        have hcw : c < wd := Nat.lt_of_not_le fun z => ne (F.base.zc _ _ z)
        walk_at "W"
        refine v_floordiv ne (Nat.lt_trans (log_of (k := 43) ne (Nat.lt_of_le_of_lt (F.bs c c) (by decide))) (by decide)) ?_
        walk_at "W"
        refine ⟨_, _, _, rfl, rfl, (by rw [hσ]; exact sput_self), by omega, by simp; omega, by omega, ?_⟩
        walk_at "W"
        refine ⟨base, Sub.ofL ⟨rfl, rfl, rfl, rfl, rfl, rfl, trivial⟩, rfl, ?_, hok'⟩
        rw [hσ, sput_sput]
        congr 1
        rw [Int.toNat_natCast, map_range_set]
        apply List.map_congr_left
        intro i _
        show (if i = c then _ else AV.int (if i < c then sol S U b h i else 0)) = AV.int (if i < c + 1 then sol S U b h i else 0)
        by_cases z : i = c
        · subst z; rw [if_pos rfl, if_pos (by omega)]; unfold sol; rw [if_pos ne]
        · rw [if_neg z]; congr 1
          by_cases z2 : i < c
          · rw [if_pos z2, if_pos (by omega)]
          · rw [if_neg z2, if_neg (by omega)]
      · have ne : S c c = 0 := by simpa using q2
        walk_at "W"
        refine ⟨base, Sub.ofL ⟨rfl, rfl, rfl, rfl, rfl, rfl, trivial⟩, rfl, ?_, hok'⟩
        show σ' = _
        rw [hσ]
        congr 1
        apply List.map_congr_left
        intro i _
        show AV.int (if i < c then sol S U b h i else 0) = AV.int (if i < c + 1 then sol S U b h i else 0)
        by_cases z : i = c
        · subst z; rw [if_neg (by omega), if_pos (by omega)]; unfold sol; rw [if_neg (by simpa using ne)]
        · congr 1
          by_cases z2 : i < c
          · rw [if_pos z2, if_pos (by omega)]
          · rw [if_neg z2, if_neg (by omega)]
  · rintro ρ' σ' ⟨rfl, rfl, hok⟩
    simp only [List.length_map, List.length_range] at hok
    simp only [List.length_map, List.length_range]
    have hv : (vecL (fun i => if i < max h wd - 0 then sol S U b h i else 0) wd) = vecL (sol S U b h) wd := by
      apply List.map_congr_left
      intro i hi
      rw [List.mem_range] at hi
      show AV.int (if i < max h wd - 0 then sol S U b h i else 0) = _
      rw [if_pos (by omega)]
    rw [hv]
    walk_at "W"
    refine wpE_CompP (by kernel_rfl) (fun _ _ => rfl) (comp_vec wd (fun i => rowAV (mulTo V (colM (sol S U b h)) wd) i 1) (fun i => .int (mulTo V (colM (sol S U b h)) wd i 0)) (by kernel_rfl) (by rfl) (by omega) ?_ (fun i hi => ?_) ?_)
    · refine wpE_callF T.toGlo (T.at 6 "whole_mul" (by kernel_rfl) rfl) (by kernel_rfl) (by kernel_rfl) (by kernel_rfl) ?_
      walk_at "W"
      refine wpE_CompP (by kernel_rfl) (fun _ _ => rfl) (comp_loc (a := a) (m := wd) (fun i => .int (sol S U b h i)) (fun i => rowAV (colM (sol S U b h)) i 1) (by kernel_rfl) (by rfl) (by omega) sput_self ?_ (fun i hi => ?_) ?_)
      · walk_at "W"
        exact ⟨rfl, rfl⟩
      · refine wpE_List ?_
        walk_at "W"
        exact ⟨by simp, rfl, rfl⟩
      walk_at "W"
      refine whole_mul_spec T (k := wd) (m := 1) (by omega) hw0 (by omega) (by omega) (fun i t j _ _ _ => .of_bits (bits_le (k := 801) (Nat.lt_of_le_of_lt (F.bv _ _) (Nat.pow_lt_pow_right (by omega) (by omega))) ?_) (bits_le (k := 900) (sol_bound F hh hb' _) ?_)) ⟨rfl, rfl⟩
      · decide
      · decide
    · walk_at "W"
      exact ⟨trivial, v_vec (m := 1) (i := 0) (by omega) (by omega) ⟨rfl, rfl⟩⟩
    · walk_at "W"
      refine wpE_callF T.toGlo (T.at 15 "kernel_of" (by kernel_rfl) rfl) (by kernel_rfl) (by kernel_rfl) (by kernel_rfl) ?_
      walk_at "W"
      refine kernel_of_spec T (by omega) (by omega) ?_
      walk_at "W"
      exact ⟨by simp, noStore, _, fun _ _ e => (by cases e), .same _, hyes S U V F (fun i hi => hok i (by omega))⟩
end

/-- the box that the numbers are taken from -/
structure BoxIn (σ : Store) (a l : Addr) : Prop where
  ne : l ≠ a
  box : ∃ v : Int, σ a = some [.loc l, .int v]
  nums : ∃ xs : List Int, σ l = some (xs.map .int) ∧ xs.length ≤ 1000

/-- the numbers, and zeros around them -/
def padM (N : Mat) (h w : Nat) : Mat := fun x y => if x < h ∧ y < w then N x y else 0
structure Nice (N : Mat) (h w : Nat) : Prop where
  bd : ∀ i j, (N i j).natAbs ≤ 36
  less : ∀ i j, i < h → j < w → N i j ≠ 0 → ∃ i j, i < h ∧ j < w ∧ N i j ≠ 0 ∧ (N i j).natAbs ≤ 6
theorem padM_mat {N : Mat} {h w : Nat} : matAV (padM N h w) h w = .list (matL N h w) := by
  show AV.list _ = AV.list _
  congr 1
  apply List.map_congr_left
  intro i hi
  show AV.list _ = AV.list _
  congr 1
  apply List.map_congr_left
  intro j hj
  rw [List.mem_range] at hi hj
  unfold padM; rw [if_pos ⟨hi, hj⟩]
theorem padM_start {N : Mat} {h w : Nat} (n : Nice N h w) : Start (padM N h w) h w := by
  refine ⟨fun i j hi => if_neg (by omega), fun i j hj => if_neg (by omega), fun i j => ?_, fun ⟨i, j, hij⟩ => ?_⟩
  · unfold padM; split
    · exact n.bd i j
    · simp
  · unfold padM at hij
    split at hij
    · rename_i q
      obtain ⟨i', j', h1, h2, h3, h4⟩ := n.less i j q.1 q.2 hij
      refine ⟨i', j', ?_⟩
      unfold padM; rw [if_pos ⟨h1, h2⟩]; exact ⟨h3, h4⟩
    · exact absurd rfl hij
theorem nice_small {N : Mat} {h w : Nat} (b : ∀ i j, (N i j).natAbs ≤ 6) : Nice N h w := ⟨fun i j => Nat.le_trans (b i j) (by omega), fun i j h1 h2 h3 => ⟨i, j, h1, h2, h3, b i j⟩⟩
theorem nice_mul {M : Mat} {w : Nat} {z : Int} (b : ∀ i j, (M i j).natAbs ≤ 6) (hz : z.natAbs ≤ 6) : Nice (fun x y => if x = 1 then z * M 0 y else M x y) 2 w := by
  refine ⟨fun i j => ?_, fun i j h1 h2 h3 => ?_⟩
  · split
    · rw [Int.natAbs_mul]; exact Nat.mul_le_mul hz (b 0 j)
    · exact Nat.le_trans (b i j) (by omega)
  · refine ⟨0, j, by omega, h2, ?_, ?_⟩
    · rw [if_neg (by omega)]
      split at h3
      · intro e; rw [e] at h3; simp at h3
      · have : i = 0 := by omega
        subst this; exact h3
    · rw [if_neg (by omega)]; exact b 0 j

/-- only the box has changed -/
def Only (σ σ' : Store) (a l : Addr) : Prop := ∀ b, b ≠ a → b ≠ l → σ' b = σ b
theorem Only.refl (σ : Store) (a l : Addr) : Only σ σ a l := fun _ _ _ => rfl
theorem Only.trans {σ1 σ2 σ3 : Store} {a l : Addr} (x : Only σ1 σ2 a l) (y : Only σ2 σ3 a l) : Only σ1 σ3 a l := fun b h1 h2 => (y b h1 h2).trans (x b h1 h2)

section
variable {prog : Program} {w : World} {hb : Heap} {mg mb : Str → Option Value} {n : Nat} {σ : Store}
theorem bind17 (pm code doc : Value) : ∀ vs : List Value, vs.length = 2 → bindArgs (Calls.docDef "_law_take" (fArgs 17) (fBody 17) (fScope 17) pm code doc) ⟨vs, []⟩ = pure ((["box", "wide"] : List Str).zip vs) := binds2 fun a b => by kernel_rfl
theorem bind18 (pm code doc : Value) : ∀ vs : List Value, vs.length = 1 → bindArgs (Calls.docDef "_law_box" (fArgs 18) (fBody 18) (fScope 18) pm code doc) ⟨vs, []⟩ = pure ((["script"] : List Str).zip vs) := binds1 fun a => by kernel_rfl
theorem bind19 (pm code doc : Value) : ∀ vs : List Value, vs.length = 1 → bindArgs (Calls.docDef "_law_whole" (fArgs 19) (fBody 19) (fScope 19) pm code doc) ⟨vs, []⟩ = pure ((["box"] : List Str).zip vs) := binds1 fun a => by kernel_rfl
theorem bind20 (pm code doc : Value) : ∀ vs : List Value, vs.length = 3 → bindArgs (Calls.docDef "_law_grid" (fArgs 20) (fBody 20) (fScope 20) pm code doc) ⟨vs, []⟩ = pure ((["box", "high", "wide"] : List Str).zip vs) := binds3 fun a b c => by kernel_rfl

theorem law_take_spec (T : Text hb mg mb) {a l : Addr} (B : BoxIn σ a l) {m : Int} (hm : 0 < m) {Φ : AV → Store → Prop}
    (hΦ : ∀ r σ', 0 ≤ r → r < m → BoxIn σ' a l → Only σ σ' a l → Φ (.int r) σ') :
    wpF prog w hb mg (n + 1) σ "_law_take" [.loc a, .int m] Φ := by
  refine wpF_intro (["box", "wide"] : List Str) T.toGlo (T.at 17 "_law_take" (by kernel_rfl) rfl) (by kernel_rfl) bind17 rfl ?_
  obtain ⟨ne, ⟨v, hv⟩, xs, hx, hl⟩ := B
  have fin : ∀ x : Int, 0 ≤ x.fmod m ∧ x.fmod m < m := fun x => ⟨Int.fmod_nonneg_of_pos x hm, Int.fmod_lt_of_pos x hm⟩
  refine wpSs_cons ?_
  refine wpS_If' (decide (0 < xs.length)) ?_ (fun q => ?_) (fun q => ?_)
  · walk_at "W"
    refine ⟨isS hv, v_item_loc hv (by omega) rfl (by omega) ?_⟩
    walk_at "W"
    refine v_len_loc hx (by simp; omega) ?_
    walk_at "W"
    exact ⟨by rw [decide_eq_decide]; simp, rfl⟩
  · cases xs with
    | nil => simp at q
    | cons x xs =>
      walk_at "W"
      refine wpE_pop (fun _ => rfl) rfl rfl ?_
      walk_at "W"
      refine ⟨isS hv, v_item_loc hv (by omega) rfl (by omega) ?_⟩
      refine ⟨l, rfl, isS hx, ?_⟩
      walk_at "W"
      refine ⟨_, _, rfl, hx, by simp at hl ⊢; omega, ?_⟩
      walk_at "W"
      refine v_mod (by omega) ?_
      walk_at "W"
      refine hΦ _ _ (fin x).1 (fin x).2 ⟨ne, ⟨v, by rw [sput_ne (Ne.symm ne)]; exact hv⟩, xs, sput_self, by simp at hl ⊢; omega⟩ fun b h1 h2 => sput_ne h2
  · walk_at "W"
    refine ⟨isS hv, v_item_loc hv (by omega) rfl (by omega) ?_⟩
    walk_at "W"
    refine v_mul (.of_right (by decide)) ?_
    walk_at "W"
    refine v_mod (by omega) ?_
    refine wpA_sub ?_
    walk_at "W"
    refine ⟨_, _, _, rfl, rfl, hv, by omega, by simp, by omega, ?_⟩
    show wpSs _ _ _ _ _ _ _ _ _ _
    walk_at "W"
    refine ⟨isS sput_self, v_item_loc sput_self (by omega) rfl (by omega) ?_⟩
    walk_at "W"
    refine v_floordiv (by omega) (by decide) ?_
    walk_at "W"
    refine v_mod (by omega) ?_
    walk_at "W"
    refine hΦ _ _ (fin _).1 (fin _).2 ⟨ne, ⟨_, sput_self⟩, xs, by rw [sput_ne ne]; exact hx, hl⟩ fun b h1 h2 => sput_ne h1

theorem law_box_spec (T : Text hb mg mb) {zs : List Int} (hl : zs.length ≤ 1000) {Φ : AV → Store → Prop}
    (hΦ : ∀ a l σ', BoxIn σ' a l → Φ (.loc a) σ') :
    wpF prog w hb mg (n + 1) σ "_law_box" [.wlist (zs.map .int)] Φ := by
  refine wpF_intro (["script"] : List Str) T.toGlo (T.at 18 "_law_box" (by kernel_rfl) rfl) (by kernel_rfl) bind18 rfl ?_
  refine wpSs_cons ?_
  walk_at "W"
  refine wpS_For (fun _ _ => rfl) (wpI_value ?_)
  refine wpE_cutTo (fun _ _ => rfl) ?_
  walk_at "W"
  refine ⟨_, _, .inr rfl, rfl, by omega, by simp; omega, ?_⟩
  refine it_list (fun _ _ => rfl) ⟨fun i ρ' σ' => σ' = σ ∧ ∃ v : Int, ρ' = [(("stirred" : Str), .int v), (("script" : Str), .wlist (zs.map .int))], ⟨rfl, _, rfl⟩, ?_, ?_⟩
  · rintro i x ρ' σ' hx ⟨rfl, v, rfl⟩
    have : ∃ z : Int, x = .int z := by
      have h1 := List.mem_of_getElem? hx
      have h2 := List.mem_of_mem_take h1
      rw [List.mem_map] at h2
      obtain ⟨z, _, rfl⟩ := h2
      exact ⟨z, rfl⟩
    obtain ⟨z, rfl⟩ := this
    walk_at "W"
    refine v_mul (.of_right (by decide)) ?_
    walk_at "W"
    refine v_mod (by omega) ?_
    walk_at "W"
    exact ⟨_, Sub.ofL (ρ0 := [(("stirred" : Str), .int _), (("script" : Str), .wlist (zs.map .int))]) ⟨rfl, rfl, trivial⟩, rfl, _, rfl⟩
  · rintro ρ' σ' ⟨rfl, v, rfl⟩
    walk_at "W"
    refine wpE_List_loc ?_
    walk_at "W"
    refine wpE_cutTo (fun _ _ => rfl) ?_
    walk_at "W"
    refine ⟨_, _, .inr rfl, rfl, by omega, by simp; omega, ?_⟩
    walk_at "W"
    refine v_list (by simp; omega) fun l hl' => ?_
    walk_at "W"
    refine ⟨by simp, fun a ha => ?_⟩
    walk_at "W"
    have ne : l ≠ a := by rintro rfl; rw [sput_self] at ha; cases ha
    refine hΦ a l _ ⟨ne, ⟨v, sput_self⟩, zs.take 24, ?_, by simp; omega⟩
    rw [sput_ne ne, sput_self, List.map_take]
    rfl

theorem law_whole_spec (T : Text hb mg mb) {a l : Addr} (B : BoxIn σ a l) {Φ : AV → Store → Prop}
    (hΦ : ∀ (z : Int) σ', z.natAbs ≤ 6 → BoxIn σ' a l → Only σ σ' a l → Φ (.int z) σ') :
    wpF prog w hb mg (n + 2) σ "_law_whole" [.loc a] Φ := by
  refine wpF_intro (["box"] : List Str) T.toGlo (T.at 19 "_law_whole" (by kernel_rfl) rfl) (by kernel_rfl) bind19 rfl ?_
  refine wpSs_cons ?_
  walk_at "W"
  refine wpE_List ?_
  walk_at "W"
  refine ⟨by simp, ?_⟩
  refine wpE_callF T.toGlo (T.at 17 "_law_take" (by kernel_rfl) rfl) (by kernel_rfl) (by kernel_rfl) (by kernel_rfl) ?_
  walk_at "W"
  refine law_take_spec T B (by omega) fun r σ' h0 h1 B' O => ⟨trivial, ?_⟩
  have : ∃ z : Int, z.natAbs ≤ 6 ∧ ([0, 1, -1, 2, -2, 3, -3, 4, 0, 1, 6, -5] : List Int)[r.toNat]? = some z := by
    have : r = 0 ∨ r = 1 ∨ r = 2 ∨ r = 3 ∨ r = 4 ∨ r = 5 ∨ r = 6 ∨ r = 7 ∨ r = 8 ∨ r = 9 ∨ r = 10 ∨ r = 11 := by omega
    rcases this with rfl | rfl | rfl | rfl | rfl | rfl | rfl | rfl | rfl | rfl | rfl | rfl <;> exact ⟨_, by decide, rfl⟩
  obtain ⟨z, hz, he⟩ := this
  refine v_item (x := .int z) h0 ?_ (by omega) ?_
  · have := congrArg (Option.map AV.int) he
    rw [← List.getElem?_map] at this
    exact this
  walk_at "W"
  exact hΦ z σ' hz B' O

theorem law_grid_spec (T : Text hb mg mb) {a l : Addr} (B : BoxIn σ a l) {h wd : Nat} (hh0 : 0 < h) (hh : h ≤ 2) (hw0 : 0 < wd) (hw : wd ≤ 3) {Φ : AV → Store → Prop}
    (hΦ : ∀ A σ', Start A h wd → BoxIn σ' a l → Φ (matAV A h wd) σ') :
    wpF prog w hb mg (n + 3) σ "_law_grid" [.loc a, .int h, .int wd] Φ := by
  refine wpF_freeze (wpF_intro (["box", "high", "wide"] : List Str) T.toGlo (T.at 20 "_law_grid" (by kernel_rfl) rfl) (by kernel_rfl) bind20 rfl ?_)
  refine wpSs_cons ?_
  refine wpS_Assign_comp_loc (fun env he => by cases env; cases he; kernel_rfl) (by kernel_rfl) (by kernel_rfl) (fun _ _ => rfl) (compPre_fold (by kernel_rfl) (by rfl) (wpI_value ?_))
  walk_at "W"
  refine it_rngS (a := 0) (fun _ _ => rfl) (by omega) (by omega) ⟨by simp; omega, fun i acc σ' => ∃ M : Mat, acc = matL M i wd ∧ (∀ x y, (M x y).natAbs ≤ 6) ∧ BoxIn σ' a l, ⟨fun _ _ => 0, rfl, by simp, B⟩, ?_, ?_⟩
  · rintro i y acc σ' hy hl ⟨M, rfl, hM, B⟩
    refine wpE_CompP (by kernel_rfl) (fun _ _ => rfl) (compPre_fold (by kernel_rfl) (by rfl) (wpI_value ?_))
    walk_at "W"
    refine it_rngS (a := 0) (fun _ _ => rfl) (by omega) (by omega) ⟨by simp; omega, fun j acc σ' => ∃ f : Nat → Int, acc = vecL f j ∧ (∀ x, (f x).natAbs ≤ 6) ∧ BoxIn σ' a l, ⟨fun _ => 0, rfl, by simp, B⟩, ?_, ?_⟩
    · rintro j y2 acc2 σ2 hy2 hl2 ⟨f, rfl, hf, B⟩
      refine wpE_callF T.toGlo (T.at 19 "_law_whole" (by kernel_rfl) rfl) (by kernel_rfl) (by kernel_rfl) (by kernel_rfl) ?_
      walk_at "W"
      refine law_whole_spec T B fun z σ3 hz B' _ => ⟨fun x => if x = j then z else f x, ?_, fun x => ?_, B'⟩
      · show vecL f j ++ [AV.int z] = (List.range (j + 1)).map fun x => AV.int (if x = j then z else f x)
        rw [List.range_succ, List.map_append]
        congr 1
        · apply List.map_congr_left
          intro x hx
          rw [List.mem_range] at hx
          show _ = AV.int (if x = j then z else f x)
          rw [if_neg (by omega)]
        · simp
      · dsimp only; split
        · exact hz
        · exact hf x
    · rintro acc2 σ2 hl2 ⟨f, rfl, hf, B⟩
      simp only [List.length_map, List.length_range]
      refine ⟨fun x y => if x = i then f y else M x y, ?_, fun x y => ?_, B⟩
      · rw [matL, matL, List.range_succ, List.map_append]
        congr 1
        · apply List.map_congr_left
          intro x hx
          rw [List.mem_range] at hx
          show rowAV M x wd = .list ((List.range wd).map fun y => .int (if x = i then f y else M x y))
          simp only [if_neg (show x ≠ i by omega)]
          rfl
        · simp [rowAV, rowL]
      · dsimp only; split
        · exact hf y
        · exact hM x y
  · rintro acc σ' hl ⟨M, rfl, hM, B⟩ g hg
    simp only [List.length_map, List.length_range, Nat.sub_zero] at hg ⊢
    have hg : σ' g = none := hg
    show wpSs _ _ _ _ _ _ _ _ _ _
    have hga : a ≠ g := by rintro rfl; obtain ⟨v, e⟩ := B.box; rw [e] at hg; cases hg
    have hgl : l ≠ g := by rintro rfl; obtain ⟨v, e, _⟩ := B.nums; rw [e] at hg; cases hg
    have bx : ∀ {σ1 σ2 : Store}, BoxIn σ1 a l → (∀ b, b ≠ g → σ2 b = σ1 b) → BoxIn σ2 a l := fun B e => ⟨B.ne, by rw [e a hga]; exact B.box, by rw [e l hgl]; exact B.nums⟩
    have hfin : ∀ N σ2, σ2 g = some (matL N h wd) → BoxIn σ2 a l → Nice N h wd → ∃ (σ0 : Store) (u : AV), (∀ b xs, σ0 b = some xs → σ2 b = some xs) ∧ Res σ2 σ0 (.loc g) u ∧ Φ u σ0 := by
      intro N σ2 h2 B2 hN
      refine ⟨serase σ2 g, matAV (padM N h wd) h wd, fun b xs e => ?_, ?_, hΦ _ _ (padM_start hN) (bx B2 fun b hb => serase_ne hb)⟩
      · by_cases q : b = g
        · subst q; simp [serase] at e
        · rwa [serase_ne q] at e
      · rw [padM_mat]
        exact .loc h2 (by simp [serase]) (Ress.same _)
    have B1 : BoxIn (sput σ' g (matL M h wd)) a l := bx B fun b hb => sput_ne hb
    walk_at "W"
    refine wpS_If (wpT_And ?_)
    walk_at "W"
    have : h = 1 ∨ h = 2 := by omega
    rcases this with rfl | rfl
    · rw [show decide (((1 : Nat) : Int) > 1) = false from rfl]
      simp only [Bool.false_eq_true, if_false]
      walk_at "W"
      exact hfin M _ sput_self B1 (nice_small hM)
    rw [show decide (((2 : Nat) : Int) > 1) = true from rfl]
    simp only [if_true]
    walk_at "W"
    refine wpE_callF T.toGlo (T.at 17 "_law_take" (by kernel_rfl) rfl) (by kernel_rfl) (by kernel_rfl) (by kernel_rfl) ?_
    walk_at "W"
    refine law_take_spec T B1 (by omega) fun r σ2 h0 h1 B2 O => ?_
    have g2 : σ2 g = some (matL M 2 wd) := by rw [O g (Ne.symm hga) (Ne.symm hgl)]; exact sput_self
    walk_at "W"
    by_cases hr : r = 0
    · rw [show (r == 0) = true by simp [hr]]
      simp only [if_true]
      walk_at "W"
      refine wpE_callF T.toGlo (T.at 19 "_law_whole" (by kernel_rfl) rfl) (by kernel_rfl) (by kernel_rfl) (by kernel_rfl) ?_
      walk_at "W"
      refine law_whole_spec T B2 fun z σ3 hz B3 O => ?_
      have g3 : σ3 g = some (matL M 2 wd) := by rw [O g (Ne.symm hga) (Ne.symm hgl)]; exact g2
      walk_at "W"
      refine wpE_CompP (by kernel_rfl) (fun _ _ => rfl) (comp_vec wd (fun y => .int (M 0 y)) (fun y => .int (z * M 0 y)) (by kernel_rfl) (by rfl) (by omega) ?_ (fun i hi => ?_) ?_)
      · walk_at "W"
        rw [show ((2 : Nat) : Int) - 2 = ((0 : Nat) : Int) from rfl]
        exact ⟨isS g3, v_locRow g3 (by omega) (by omega) ⟨rfl, rfl⟩⟩
      · walk_at "W"
        exact v_mul (.of_left (bits_le (k := 3) (Nat.lt_of_le_of_lt hz (by decide)) (by omega))) ⟨rfl, rfl⟩
      · refine wpA_sub ?_
        walk_at "W"
        refine ⟨_, _, _, rfl, rfl, g3, by omega, by simp, by omega, ?_⟩
        walk_at "W"
        refine hfin (fun x y => if x = 1 then z * M 0 y else M x y) _ ?_ (bx B3 fun b hb => sput_ne hb) (nice_mul hM hz)
        rw [sput_self]
        rfl
    · rw [show (r == 0) = false by simp [hr]]
      simp only [Bool.false_eq_true, if_false]
      walk_at "W"
      exact hfin M _ g2 B2 (nice_small hM)
end

def sgn (j : Nat) : Int := 1 - 2 * (j : Int).fmod 2
def minor (G : Mat) (j : Nat) : Mat := fun x y => G (x + 1) (if y < j then y else y + 1)
noncomputable def detN : Nat → Mat → Int
  | 0, _ => 1
  | s + 1, G => ((List.range (s + 1)).map fun j => if G 0 j ≠ 0 then sgn j * G 0 j * detN s (minor G j) else 0).sum

theorem sgn_abs (j : Nat) : (sgn j).natAbs = 1 := by
  unfold sgn
  have := Int.fmod_eq_emod (a := (j : Int)) (b := 2)
  rw [if_pos (.inl (by omega))] at this
  omega

theorem detN_bd {B : Nat} (hB : 1 ≤ B) : ∀ (s : Nat) (G : Mat), s ≤ 3 → (∀ i j, (G i j).natAbs ≤ B) → (detN s G).natAbs ≤ (4 * B) ^ s
  | 0, _, _, _ => by simp [detN]
  | s + 1, G, hs, h => by
    have := sum_abs (B := B * (4 * B) ^ s) (l := (List.range (s + 1)).map fun j => if G 0 j ≠ 0 then sgn j * G 0 j * detN s (minor G j) else 0) (by
      intro x hx
      rw [List.mem_map] at hx
      obtain ⟨j, _, rfl⟩ := hx
      split
      · rw [Int.natAbs_mul, Int.natAbs_mul, sgn_abs, Nat.one_mul]
        exact Nat.mul_le_mul (h 0 j) (detN_bd hB s _ (by omega) fun i j => h _ _)
      · simp)
    rw [List.length_map, List.length_range] at this
    refine Nat.le_trans this ?_
    rw [Nat.pow_succ, Nat.mul_comm ((4 * B) ^ s), Nat.mul_assoc 4 B]
    exact Nat.mul_le_mul_right _ (by omega)

theorem det_bits (k s m : Nat) (hs : s ≤ 3) {x : Int} (h : x.natAbs ≤ (4 * 2 ^ k) ^ s) (hm : 3 * (2 + k) + 1 ≤ m) : Builtin.Int.intBits x ≤ m := by
  have e : 4 * 2 ^ k = 2 ^ (2 + k) := by rw [Nat.pow_add]
  rw [e, ← Nat.pow_mul] at h
  have h2 : (2 + k) * s ≤ 3 * (2 + k) := by rw [Nat.mul_comm 3]; exact Nat.mul_le_mul_left _ hs
  have h3 : 2 ^ ((2 + k) * s) < 2 ^ (3 * (2 + k) + 1) := Nat.pow_lt_pow_right (by omega) (by omega)
  exact bits_le (Nat.lt_of_le_of_lt h h3) hm
theorem sg_bits (k m : Nat) {j : Nat} {x : Int} (h : x.natAbs ≤ 2 ^ k) (hm : k + 1 ≤ m) : Builtin.Int.intBits (sgn j * x) ≤ m := by
  refine bits_le (k := k + 1) ?_ hm
  rw [Int.natAbs_mul, sgn_abs, Nat.one_mul]
  exact Nat.lt_of_le_of_lt h (Nat.pow_lt_pow_right (by omega) (by omega))
theorem drop_one {α : Type} {f : Nat → α} {s : Nat} : ((List.range (s + 1)).map f).drop 1 = (List.range s).map fun x => f (x + 1) := by
  rw [List.range_succ_eq_map, List.map_cons, List.drop_one, List.tail_cons, List.map_map]
  rfl
theorem cut_row {G : Mat} {x j s : Nat} (hj : j < s + 1) : (rowL G (x + 1) (s + 1)).take j ++ (rowL G (x + 1) (s + 1)).drop (j + 1) = rowL (minor G j) x s := by
  apply List.ext_getElem?
  intro k
  unfold rowL minor
  rw [List.getElem?_append]
  have hl : (List.take j (List.map (fun j => AV.int (G (x + 1) j)) (List.range (s + 1)))).length = j := by simp; omega
  rw [hl]
  by_cases hk : k < j
  · rw [if_pos hk, List.getElem?_take, if_pos hk, map_range_get (by omega), map_range_get (by omega), if_pos hk]
  · rw [if_neg hk, List.getElem?_drop]
    by_cases hk2 : k < s
    · rw [map_range_get (by omega), map_range_get hk2, if_neg hk]
      congr 3; omega
    · rw [List.getElem?_eq_none (by simp; omega), List.getElem?_eq_none (by simp; omega)]

section
variable {prog : Program} {w : World} {hb : Heap} {mg mb : Str → Option Value} {n : Nat} {σ : Store}
theorem bind21 (pm code doc : Value) : ∀ vs : List Value, vs.length = 1 → bindArgs (Calls.docDef "_law_det" (fArgs 21) (fBody 21) (fScope 21) pm code doc) ⟨vs, []⟩ = pure ((["grid"] : List Str).zip vs) := binds1 fun a => by kernel_rfl

theorem sum_snoc {f : Nat → Int} {i : Nat} : ((List.range (i + 1)).map f).sum = ((List.range i).map f).sum + f i := by
  rw [List.range_succ, List.map_append, List.sum_append]; simp

theorem law_det_spec (T : Text hb mg mb) : ∀ (s : Nat) (G : Mat) (n : Nat) (σ : Store) {Φ : AV → Store → Prop}, s ≤ 3 → (∀ i j, (G i j).natAbs ≤ 2 ^ 1000) → Φ (.int (detN s G)) σ →
    wpF prog w hb mg (n + s + 1) σ "_law_det" [matAV G s s] Φ := by
  intro s
  induction s with
  | zero =>
    intro G n σ Φ hs hG hΦ
    refine wpF_intro (["grid"] : List Str) T.toGlo (T.at 21 "_law_det" (by kernel_rfl) rfl) (by kernel_rfl) bind21 rfl ?_
    refine wpSs_cons ?_
    refine wpS_If' true ?_ (fun _ => ?_) (fun q => by cases q)
    · walk_at "W"
      refine wpE_List ?_
      walk_at "W"
      exact ⟨by simp, v_eq_nil (t_bool ⟨rfl, rfl⟩)⟩
    · walk_at "W"
      exact hΦ
  | succ s ih =>
    intro G n σ Φ hs hG hΦ
    refine wpF_intro (["grid"] : List Str) T.toGlo (T.at 21 "_law_det" (by kernel_rfl) rfl) (by kernel_rfl) bind21 rfl ?_
    refine wpSs_cons ?_
    refine wpS_If' false ?_ (fun q => by cases q) (fun _ => ?_)
    · walk_at "W"
      refine wpE_List ?_
      walk_at "W"
      refine ⟨by simp, v_eq_nil (t_bool ⟨?_, rfl⟩)⟩
      simp [matL, List.range_succ_eq_map]
    walk_at "W"
    let base : Rho := [(("grid" : Str), matAV G (s + 1) (s + 1))]
    let F : Nat → Int := fun j => if G 0 j ≠ 0 then sgn j * G 0 j * detN s (minor G j) else 0
    refine wpS_For (fun _ _ => rfl) (wpI_enum T.toGlo (by kernel_rfl) rfl ?_)
    walk_at "W"
    refine ⟨trivial, v_mat (i := 0) (by omega) (by omega) ?_⟩
    refine .inl ⟨_, rfl, fun i ρ' σ' => ρ' = (("worth" : Str), .int ((List.range i).map F).sum) :: base ∧ σ' = σ, ⟨rfl, rfl⟩, ?_, ?_⟩
    · rintro j y ρ' σ' hy ⟨rfl, hσ⟩
      obtain ⟨y', hy', rfl⟩ := enumAV_get hy
      have hj : j < s + 1 := by have := (List.getElem?_eq_some_iff.mp hy').1; simpa using this
      rw [rowL_get hj] at hy'; cases hy'
      refine wpA_tuple rfl rfl ⟨rfl, wpA_name (by kernel_rfl) ⟨rfl, wpA_name (by kernel_rfl) ?_⟩⟩
      show wpSs _ _ _ _ _ _ _ _ _ _
      walk_at "W"
      refine wpS_If' (G 0 j != 0) ?_ (fun q => ?_) (fun q => ?_)
      · walk_at "W"
        exact ⟨rfl, rfl⟩
      · have ne : G 0 j ≠ 0 := by simpa using q
        walk_at "E"
        refine wpS_Assign_comp (fun env he => by cases env; cases he; kernel_rfl) (by kernel_rfl) (by kernel_rfl) (fun _ _ => rfl) (comp_vec s (fun x => rowAV G (x + 1) (s + 1)) (fun x => rowAV (minor G j) x s) (by kernel_rfl) (by rfl) (by omega) ?_ (fun i hi => ?_) ?_)
        · refine wpE_cutFrom (fun _ _ => rfl) ?_
          walk_at "W"
          refine ⟨_, _, rfl, rfl, by omega, by simp; omega, by simp; omega, ?_, rfl⟩
          exact congrArg AV.list drop_one
        · walk_at "W"
          refine wpE_cutTo (fun _ _ => rfl) ?_
          walk_at "W"
          refine ⟨_, _, .inl rfl, rfl, by omega, by simp; omega, ?_⟩
          refine wpE_cutFrom (fun _ _ => rfl) ?_
          walk_at "W"
          refine ⟨_, _, rfl, rfl, by omega, by simp; omega, by simp; omega, ?_⟩
          refine v_add_list (by simp; omega) ⟨?_, rfl⟩
          exact congrArg AV.list (cut_row hj)
        · show wpSs _ _ _ _ _ _ _ _ _ _
          walk_at "W"
          refine v_mod (by omega) ?_
          refine v_mul (.of_left (by decide)) ?_
          walk_at "W"
          refine v_mul (.of_left (bits_le (k := 1) (by have := sgn_abs j; unfold sgn at this; omega) (by omega))) ?_
          refine wpE_callF T.toGlo (T.at 21 "_law_det" (by kernel_rfl) rfl) (by kernel_rfl) (by kernel_rfl) (by kernel_rfl) ?_
          walk_at "W"
          refine ih (minor G j) n _ (by omega) (fun i k => hG _ _) ?_
          refine v_mul (.of_bits (sg_bits 1000 _ (j := j) (hG 0 j) (by decide)) (det_bits 1000 s _ (by omega) (detN_bd (Nat.pow_pos (by omega)) s _ (by omega) fun i k => hG _ _) (by decide))) ?_
          walk_at "W"
          refine ⟨(("worth" : Str), .int ((List.range (j + 1)).map F).sum) :: base, ?_, rfl, hσ⟩
          rw [sum_snoc]
          have : F j = (1 - 2 * (j : Int).fmod 2) * G 0 j * detN s (minor G j) := if_pos ne
          rw [this]
          exact Sub.ofL ⟨rfl, rfl, trivial⟩
      · have ne : G 0 j = 0 := by simpa using q
        walk_at "W"
        refine ⟨(("worth" : Str), .int ((List.range (j + 1)).map F).sum) :: base, ?_, rfl, hσ⟩
        rw [sum_snoc]
        have : F j = 0 := if_neg (by simpa using ne)
        rw [this, Int.add_zero]
        exact Sub.ofL ⟨rfl, rfl, trivial⟩
    · rintro ρ' σ' ⟨rfl, rfl⟩
      walk_at "W"
      have : (enumAV (rowL G 0 (s + 1))).length = s + 1 := by simp [enumAV]
      rw [this]
      exact hΦ
end

noncomputable def choices : Nat → Nat → List (List Nat)
  | _, 0 => [[]]
  | 0, _ + 1 => []
  | m + 1, s + 1 => choices m (s + 1) ++ (choices m s).map (· ++ [m])
theorem choices_none : ∀ {m s : Nat}, m < s → choices m s = []
  | _, 0, h => by omega
  | 0, s + 1, _ => rfl
  | m + 1, s + 1, h => by
    show choices m (s + 1) ++ (choices m s).map _ = []
    rw [choices_none (by omega), choices_none (by omega)]; rfl
theorem choices_mem : ∀ {m s : Nat} {l : List Nat}, l ∈ choices m s → l.length = s ∧ ∀ i ∈ l, i < m
  | _, 0, l, h => by
    have : l = [] := by cases ‹Nat› <;> simpa [choices] using h
    subst this; exact ⟨rfl, fun i hi => by cases hi⟩
  | 0, s + 1, l, h => by cases h
  | m + 1, s + 1, l, h => by
    rcases List.mem_append.mp h with h | h
    · obtain ⟨e1, e2⟩ := choices_mem h
      exact ⟨e1, fun i hi => by have := e2 i hi; omega⟩
    · rw [List.mem_map] at h
      obtain ⟨l', h', rfl⟩ := h
      obtain ⟨e1, e2⟩ := choices_mem h'
      refine ⟨by simp [e1], fun i hi => ?_⟩
      rcases List.mem_append.mp hi with hi | hi
      · have := e2 i hi; omega
      · simp at hi; omega
theorem choices_len {m s : Nat} (hm : m ≤ 3) (hs : s ≤ 3) : (choices m s).length ≤ 10 := by
  have : (m = 0 ∨ m = 1 ∨ m = 2 ∨ m = 3) ∧ (s = 0 ∨ s = 1 ∨ s = 2 ∨ s = 3) := by omega
  rcases this with ⟨rfl | rfl | rfl | rfl, rfl | rfl | rfl | rfl⟩ <;> decide

abbrev natsAV (l : List Nat) : AV := .list (l.map fun (i : Nat) => .int (i : Int))

section
variable {prog : Program} {w : World} {hb : Heap} {mg mb : Str → Option Value} {n : Nat} {sc : Scope} {own : List Str} {ρ : Rho} {σ : Store}
/-- a comprehension over a list at hand, each item by itself -/
theorem comp_each {α : Type} {elt iter : Expr} {x : Str} {px : Pos} {scope : Scope} {Ψ : List AV → Store → Prop} (l : List α) (g f : α → AV) (hst : storeOk (relS scope sc) (cellNames scope.names) x = true) (hx : (compRho scope ρ).lookup x = none) (hm : l.length ≤ 1000)
    (hi : wpE prog w hb n sc own ρ σ iter fun v σ1 => v = .list (l.map g) ∧ σ1 = σ)
    (h1 : ∀ i, i ∈ l → wpE prog w hb n (relS scope sc) (cellNames scope.names) ((x, g i) :: compRho scope ρ) σ elt fun v σ' => v = f i ∧ σ' = σ)
    (h2 : Ψ (l.map f) σ) : CompPre prog w hb n sc own ρ σ elt (.Name x px) iter [] scope Ψ := by
  refine compPre_fold hst hx (wpI_value (wpE_mono hi fun v σ1 ee => ?_))
  obtain ⟨e1, e2⟩ := ee
  subst e1 e2
  refine it_list (fun _ _ => rfl) ⟨by simp; omega, fun i acc σ' => acc = (l.take i).map f ∧ σ' = σ1, ⟨by simp, rfl⟩, ?_, ?_⟩
  · rintro i y acc σ' hy _ ⟨rfl, rfl⟩
    rw [List.getElem?_map] at hy
    cases hq : l[i]? with
    | none => rw [hq] at hy; cases hy
    | some a =>
      rw [hq] at hy; cases hy
      refine wpE_mono (h1 a (List.mem_of_getElem? hq)) fun v σ2 ⟨e1, e2⟩ => ?_
      subst e1
      refine ⟨?_, e2⟩
      rw [List.take_add_one, hq, List.map_append]; rfl
  · rintro acc σ' _ ⟨rfl, rfl⟩
    simp only [List.length_map, List.take_length]
    exact h2
end

section
variable {prog : Program} {w : World} {hb : Heap} {mg mb : Str → Option Value} {n : Nat} {σ : Store}
theorem bind24 (pm code doc : Value) : ∀ vs : List Value, vs.length = 2 → bindArgs (Calls.docDef "_law_choices" (fArgs 24) (fBody 24) (fScope 24) pm code doc) ⟨vs, []⟩ = pure ((["many", "size"] : List Str).zip vs) := binds2 fun a b => by kernel_rfl
theorem bind25 (pm code doc : Value) : ∀ vs : List Value, vs.length = 1 → bindArgs (Calls.docDef "_law_divisor" (fArgs 25) (fBody 25) (fScope 25) pm code doc) ⟨vs, []⟩ = pure ((["numbers"] : List Str).zip vs) := binds1 fun a => by kernel_rfl

theorem law_choices_spec (T : Text hb mg mb) : ∀ (s m : Nat) (n : Nat) (σ : Store) {Φ : AV → Store → Prop}, s ≤ 3 → m ≤ 3 → Φ (.list ((choices m s).map natsAV)) σ →
    wpF prog w hb mg (n + s + 1) σ "_law_choices" [.int m, .int s] Φ := by
  intro s
  induction s with
  | zero =>
    intro m n σ Φ hs hm hΦ
    refine wpF_intro (["many", "size"] : List Str) T.toGlo (T.at 24 "_law_choices" (by kernel_rfl) rfl) (by kernel_rfl) bind24 rfl ?_
    refine wpSs_cons ?_
    refine wpS_If' true ?_ (fun _ => ?_) (fun q => by cases q)
    · walk_at "W"
      exact ⟨rfl, rfl⟩
    · walk_at "W"
      refine wpE_List ?_
      refine wpEs_cons (by kernel_rfl) (wpE_List ?_)
      walk_at "W"
      refine ⟨by simp, ?_⟩
      walk_at "W"
      refine ⟨by simp, ?_⟩
      walk_at "W"
      have : choices m 0 = [[]] := by cases m <;> rfl
      rw [this] at hΦ; exact hΦ
  | succ s ih =>
    intro m n σ Φ hs hm hΦ
    refine wpF_intro (["many", "size"] : List Str) T.toGlo (T.at 24 "_law_choices" (by kernel_rfl) rfl) (by kernel_rfl) bind24 rfl ?_
    refine wpSs_cons ?_
    refine wpS_If' false ?_ (fun q => by cases q) (fun _ => ?_)
    · walk_at "W"
      refine ⟨?_, rfl⟩
      rw [beq_eq_false_iff_ne]; omega
    walk_at "W"
    refine wpE_List ?_
    walk_at "W"
    refine ⟨by simp, ?_⟩
    walk_at "W"
    let base : Rho := [(("many" : Str), .int m), (("size" : Str), .int ((s + 1 : Nat) : Int))]
    refine wpS_weak (ρ0 := (("ways" : Str), .list []) :: base) (Sub.ofL ⟨rfl, rfl, rfl, trivial⟩) ?_
    refine wpS_For (fun _ _ => rfl) (wpI_value ?_)
    walk_at "W"
    rw [show ((s + 1 : Nat) : Int) - 1 = ((s : Nat) : Int) by omega]
    refine it_rngS (a := s) (fun _ _ => rfl) (by omega) (by omega) ⟨fun c ρ' σ' => ρ' = (("ways" : Str), .list ((choices (s + c) (s + 1)).map natsAV)) :: base ∧ σ' = σ, ⟨by rw [choices_none (by omega)]; rfl, rfl⟩, ?_, ?_⟩
    · rintro c y ρ' σ' hy ⟨rfl, rfl⟩
      have hc : c < m - s := by have := (List.getElem?_eq_some_iff.mp hy).1; simpa using this
      rw [map_range_get hc] at hy; cases hy
      have l1 : (choices (s + c) s).length ≤ 10 := choices_len (by omega) (by omega)
      have l2 : (choices (s + c) (s + 1)).length ≤ 10 := choices_len (by omega) (by omega)
      walk_at "W"
      refine wpE_CompP (by kernel_rfl) (fun _ _ => rfl) (comp_each (choices (s + c) s) natsAV (fun l => natsAV (l ++ [s + c])) (by kernel_rfl) (by rfl) (by omega) ?_ (fun l hl => ?_) ?_)
      · refine wpE_callF T.toGlo (T.at 24 "_law_choices" (by kernel_rfl) rfl) (by kernel_rfl) (by kernel_rfl) (by kernel_rfl) ?_
        walk_at "W"
        rw [show ((s + 1 : Nat) : Int) - 1 = ((s : Nat) : Int) by omega]
        exact ih (s + c) n _ (by omega) (by omega) ⟨rfl, rfl⟩
      · walk_at "W"
        refine wpE_List ?_
        walk_at "W"
        refine ⟨by simp, ?_⟩
        have := (choices_mem hl).1
        refine v_add_list (by simp; omega) ⟨?_, rfl⟩
        simp [natsAV]
      · refine v_add_list (by simp; omega) ?_
        walk_at "W"
        refine ⟨(("ways" : Str), .list ((choices (s + (c + 1)) (s + 1)).map natsAV)) :: base, ?_, rfl, rfl⟩
        have : (choices (s + (c + 1)) (s + 1)).map natsAV = (choices (s + c) (s + 1)).map natsAV ++ (choices (s + c) s).map (fun l => natsAV (l ++ [s + c])) := by
          show (choices (s + c) (s + 1) ++ (choices (s + c) s).map (· ++ [s + c])).map natsAV = _
          rw [List.map_append, List.map_map]; rfl
        rw [this]
        exact Sub.ofL ⟨rfl, rfl, rfl, trivial⟩
    · rintro ρ' σ' ⟨rfl, rfl⟩
      simp only [List.length_map, List.length_range]
      walk_at "W"
      by_cases q : s ≤ m
      · rw [show s + (m - s) = m by omega]; exact hΦ
      · rw [choices_none (by omega)]
        rw [choices_none (by omega)] at hΦ; exact hΦ

theorem law_divisor_spec (T : Text hb mg mb) {zs : List Int} {Φ : AV → Store → Prop} (hΦ : ∀ g : Nat, (∀ z ∈ zs, (g : Int) ∣ z) → Φ (.int g) σ) :
    wpF prog w hb mg (n + 1) σ "_law_divisor" [.list (zs.map .int)] Φ := by
  refine wpF_intro (["numbers"] : List Str) T.toGlo (T.at 25 "_law_divisor" (by kernel_rfl) rfl) (by kernel_rfl) bind25 rfl ?_
  refine wpSs_cons ?_
  walk_at "W"
  let base : Rho := [(("numbers" : Str), .list (zs.map .int))]
  refine wpS_For (fun _ _ => rfl) (wpI_value ?_)
  walk_at "W"
  refine it_list (fun _ _ => rfl) ⟨fun i ρ' σ' => σ' = σ ∧ ∃ a : Int, ρ' = (("worth" : Str), .int a) :: base ∧ ∀ z ∈ zs.take i, a ∣ z, ⟨rfl, 0, rfl, by simp⟩, ?_, ?_⟩
  · rintro i y ρ' σ' hy ⟨rfl, a, rfl, ha⟩
    rw [List.getElem?_map] at hy
    cases hq : zs[i]? with
    | none => rw [hq] at hy; cases hy
    | some z =>
      rw [hq] at hy; cases hy
      walk_at "E"
      refine wpSs_cons ?_
      refine wpS_weak (ρ0 := (("worth" : Str), .int a) :: (("one" : Str), .int z) :: base) (Sub.ofL ⟨rfl, rfl, rfl, trivial⟩) ?_
      refine wpS_While (fun k ρ' σ1 => σ1 = σ' ∧ ∃ a b : Int, ρ' = (("worth" : Str), .int a) :: (("one" : Str), .int b) :: base ∧ k = b.natAbs ∧ ∀ d : Int, d ∣ a → d ∣ b → ∀ z ∈ zs.take (i + 1), d ∣ z) z.natAbs ?_ ?_
      · refine ⟨rfl, a, z, rfl, rfl, fun d h1 h2 x hx => ?_⟩
        rw [List.take_add_one, hq, List.mem_append] at hx
        rcases hx with hx | hx
        · exact Int.dvd_trans h1 (ha x hx)
        · simp at hx; subst hx; exact h2
      · rintro k ρ' σ1 ⟨rfl, a, b, rfl, rfl, hd⟩
        walk_at "W"
        by_cases hb' : b = 0
        · rw [show (b != 0) = false by simp [hb']]
          simp only [Bool.false_eq_true, if_false]
          walk_at "W"
          refine ⟨(("worth" : Str), .int a) :: base, Sub.ofL ⟨rfl, rfl, trivial⟩, rfl, a, rfl, hd a (Int.dvd_refl a) (by rw [hb']; exact Int.dvd_zero a)⟩
        · rw [show (b != 0) = true by simp [hb']]
          simp only [if_true]
          refine wpSs_cons ?_
          refine wpS_Assign_swap (names := ["worth", "one"]) (fun _ => rfl) (fun _ he => ?_) (by kernel_rfl) ?_
          · cases ‹Env›; cases he; kernel_rfl
          walk_at "W"
          refine v_mod hb' ?_
          walk_at "W"
          refine ⟨rfl, by simp, ?_⟩
          walk_at "W"
          refine ⟨(a.fmod b).natAbs, (("worth" : Str), .int b) :: (("one" : Str), .int (a.fmod b)) :: base, (fmod_facts a hb').1, Sub.ofL ⟨rfl, rfl, rfl, trivial⟩, rfl, b, a.fmod b, rfl, rfl, fun d h1 h2 => hd d ?_ h1⟩
          have e := Int.mul_fdiv_add_fmod a b
          rw [← e]
          exact Int.dvd_add (Int.dvd_mul_of_dvd_left h1) h2
  · rintro ρ' σ' ⟨rfl, a, rfl, ha⟩
    simp only [List.length_map, List.take_length] at ha
    walk_at "W"
    rw [abs_nat]
    exact hΦ a.natAbs fun z hz => Int.natAbs_dvd.mpr (ha z hz)
end

def subM (G : Mat) (L P : List Nat) : Mat := fun x y => G (L.getD x 0) (P.getD y 0)
noncomputable def partsM (G : Mat) (h w s : Nat) : List Mat := (choices h s).flatMap fun L => (choices w s).map fun P => subM G L P

theorem map_getD {α β : Type} (l : List α) (d : α) (f : α → β) : l.map f = (List.range l.length).map fun x => f (l.getD x d) := by
  apply List.ext_getElem?
  intro k
  by_cases h : k < l.length
  · rw [map_range_get h, List.getElem?_map]
    rw [List.getElem?_eq_getElem h]
    simp [List.getD, List.getElem?_eq_getElem h]
  · rw [List.getElem?_eq_none (by simp; omega), List.getElem?_eq_none (by simp; omega)]

theorem sub_mat {G : Mat} {L P : List Nat} : AV.list (L.map fun i => .list (P.map fun j => .int (G i j))) = matAV (subM G L P) L.length P.length := by
  rw [map_getD L 0]
  show AV.list _ = AV.list _
  congr 1
  apply List.map_congr_left
  intro x _
  show AV.list _ = AV.list _
  rw [map_getD P 0]
  rfl

theorem flat_congr {α β : Type} {f g : α → List β} : ∀ {l : List α}, (∀ a ∈ l, f a = g a) → l.flatMap f = l.flatMap g
  | [], _ => rfl
  | a :: l, h => by
    rw [List.flatMap_cons, List.flatMap_cons, h a (List.mem_cons_self ..), flat_congr (l := l) fun b hb => h b (List.mem_cons_of_mem _ hb)]
theorem flat_len {α β : Type} {B : Nat} {f : α → List β} : ∀ {l : List α}, (∀ a ∈ l, (f a).length ≤ B) → (l.flatMap f).length ≤ l.length * B
  | [], _ => by simp
  | a :: l, h => by
    have h1 := h a (List.mem_cons_self ..)
    have h2 := flat_len (l := l) fun b hb => h b (List.mem_cons_of_mem _ hb)
    rw [List.flatMap_cons, List.length_append, List.length_cons, Nat.add_mul]
    omega

section
variable {prog : Program} {w : World} {hb : Heap} {mg mb : Str → Option Value} {n : Nat} {sc : Scope} {own : List Str} {ρ : Rho} {σ : Store}
theorem comp_filt {α : Type} {elt iter c : Expr} {x : Str} {px : Pos} {scope : Scope} {Ψ : List AV → Store → Prop} (l : List α) (g : α → AV) (p : α → Bool) (f : α → AV) (hst : storeOk (relS scope sc) (cellNames scope.names) x = true) (hx : (compRho scope ρ).lookup x = none) (hm : l.length ≤ 1000)
    (hi : wpE prog w hb n sc own ρ σ iter fun v σ1 => v = .list (l.map g) ∧ σ1 = σ)
    (h1 : ∀ i, i ∈ l → wpT prog w hb n (relS scope sc) (cellNames scope.names) ((x, g i) :: compRho scope ρ) σ c fun b σ' => b = p i ∧ σ' = σ)
    (h2 : ∀ i, i ∈ l → p i = true → wpE prog w hb n (relS scope sc) (cellNames scope.names) ((x, g i) :: compRho scope ρ) σ elt fun v σ' => v = f i ∧ σ' = σ)
    (h3 : Ψ ((l.filter p).map f) σ) : CompPre prog w hb n sc own ρ σ elt (.Name x px) iter [c] scope Ψ := by
  refine wpI_value (wpE_mono hi fun v σ1 ee => ?_)
  obtain ⟨e1, e2⟩ := ee
  subst e1 e2
  refine it_list (fun _ _ => rfl) ⟨fun i acc σ' => acc = ((l.take i).filter p).map f ∧ σ' = σ1, ⟨by simp, rfl⟩, ?_, ?_⟩
  · rintro i y acc σ' hy ⟨rfl, rfl⟩
    rw [List.getElem?_map] at hy
    cases hq : l[i]? with
    | none => rw [hq] at hy; cases hy
    | some a =>
      rw [hq] at hy; cases hy
      have hil := (List.getElem?_eq_some_iff.mp hq).1
      refine wpA_name hst ⟨(Sub.refl _).cons hx, ?_⟩
      refine wpT_mono (h1 a (List.mem_of_getElem? hq)) fun b σ2 ⟨e1, e2⟩ => ?_
      subst e1 e2
      have hl : (((l.take i).filter p).map f).length ≤ 1000000 := by
        rw [List.length_map]
        have := List.length_filter_le p (l.take i)
        have : (l.take i).length ≤ l.length := by simp; omega
        omega
      cases hp : p a with
      | true =>
        simp only [if_true]
        refine wpE_mono (h2 a (List.mem_of_getElem? hq) hp) fun v σ3 ⟨e1, e2⟩ => ⟨hl, ?_, e2⟩
        rw [List.take_add_one, hq, List.filter_append, List.map_append, e1]; simp [hp]
      | false =>
        simp only [Bool.false_eq_true, if_false]
        refine ⟨?_, trivial⟩
        rw [List.take_add_one, hq, List.filter_append, List.map_append]; simp [hp]
  · rintro acc σ' ⟨rfl, rfl⟩
    simp only [List.length_map, List.take_length]
    exact h3

theorem comp2_each {α β : Type} {elt i0 i1 : Expr} {x y : Str} {px py : Pos} {scope : Scope} {Ψ : List AV → Store → Prop} (l : List α) (g : α → AV) (l2 : List β) (g2 : β → AV) (f : α → β → AV)
    (hst : storeOk (relS scope sc) (cellNames scope.names) x = true) (hx : (compRho scope ρ).lookup x = none) (hst' : storeOk (relS scope sc) (cellNames scope.names) y = true) (hy : ∀ a : α, ((x, g a) :: compRho scope ρ).lookup y = none)
    (hl : l.length ≤ 100) (hl2 : l2.length ≤ 100)
    (hi : wpE prog w hb n sc own ρ σ i0 fun v σ1 => v = .list (l.map g) ∧ σ1 = σ)
    (h1 : ∀ a, a ∈ l → wpE prog w hb n (relS scope sc) (cellNames scope.names) ((x, g a) :: compRho scope ρ) σ i1 fun v σ' => (v = .list (l2.map g2) ∨ v = .tup (l2.map g2)) ∧ σ' = σ)
    (h2 : ∀ a b, a ∈ l → b ∈ l2 → wpE prog w hb n (relS scope sc) (cellNames scope.names) ((y, g2 b) :: (x, g a) :: compRho scope ρ) σ elt fun v σ' => v = f a b ∧ σ' = σ)
    (h3 : Ψ (l.flatMap fun a => l2.map (f a)) σ) : CompPre2 prog w hb n sc own ρ σ elt (.Name x px) i0 (.Name y py) i1 [] scope Ψ := by
  refine wpI_value (wpE_mono hi fun v σ1 ee => ?_)
  obtain ⟨e1, e2⟩ := ee
  subst e1 e2
  have len : ∀ i, ((l.take i).flatMap fun a => l2.map (f a)).length ≤ 10000 := fun i => by
    have := flat_len (B := 100) (f := fun a => l2.map (f a)) (l := l.take i) (fun a _ => by simpa using hl2)
    have : (l.take i).length ≤ l.length := by simp; omega
    omega
  refine it_list (fun _ _ => rfl) ⟨fun i acc σ' => acc = ((l.take i).flatMap fun a => l2.map (f a)) ∧ σ' = σ1, ⟨by simp, rfl⟩, ?_, ?_⟩
  · rintro i v acc σ' hv ⟨rfl, rfl⟩
    rw [List.getElem?_map] at hv
    cases hq : l[i]? with
    | none => rw [hq] at hv; cases hv
    | some a =>
      rw [hq] at hv; cases hv
      have ha := List.mem_of_getElem? hq
      refine wpA_name hst ⟨(Sub.refl _).cons hx, ?_⟩
      refine wpE_mono (h1 a ha) fun v σ2 ⟨e1, e2⟩ => ?_
      subst e2
      refine ⟨_, e1, fun j acc' σ' => acc' = ((l.take i).flatMap fun a => l2.map (f a)) ++ (l2.take j).map (f a) ∧ σ' = σ2, ⟨by simp, rfl⟩, ?_, ?_⟩
      · rintro j u acc' σ' hu ⟨rfl, rfl⟩
        rw [List.getElem?_map] at hu
        cases hq2 : l2[j]? with
        | none => rw [hq2] at hu; cases hu
        | some b =>
          rw [hq2] at hu; cases hu
          refine wpA_name hst' ⟨(Sub.refl _).cons (hy a), ?_⟩
          simp only [wpTs, if_true]
          refine wpE_mono (h2 a b ha (List.mem_of_getElem? hq2)) fun v σ3 ⟨e1, e2⟩ => ⟨?_, ?_, e2⟩
          · have := len i
            have : (l2.take j).length ≤ l2.length := by simp; omega
            simp only [List.length_append, List.length_map]; omega
          · rw [List.take_add_one (l := l2), hq2, List.map_append, e1]; simp
      · rintro acc' σ' ⟨rfl, rfl⟩
        simp only [List.length_map, List.take_length]
        refine ⟨?_, trivial⟩
        rw [List.take_add_one (l := l), hq, List.flatMap_append]; simp
  · rintro acc σ' ⟨rfl, rfl⟩
    simp only [List.length_map, List.take_length]
    exact h3
end

section
variable {prog : Program} {w : World} {hb : Heap} {mg mb : Str → Option Value} {n : Nat} {σ : Store}
theorem bind23 (pm code doc : Value) : ∀ vs : List Value, vs.length = 3 → bindArgs (Calls.docDef "_law_parts" (fArgs 23) (fBody 23) (fScope 23) pm code doc) ⟨vs, []⟩ = pure ((["grid", "size", "wide"] : List Str).zip vs) := binds3 fun a b c => by kernel_rfl
theorem bind26 (pm code doc : Value) : ∀ vs : List Value, vs.length = 2 → bindArgs (Calls.docDef "_law_rank" (fArgs 26) (fBody 26) (fScope 26) pm code doc) ⟨vs, []⟩ = pure ((["grid", "wide"] : List Str).zip vs) := binds2 fun a b => by kernel_rfl
theorem bind27 (pm code doc : Value) : ∀ vs : List Value, vs.length = 1 → bindArgs (Calls.docDef "_law_near" (fArgs 27) (fBody 27) (fScope 27) pm code doc) ⟨vs, []⟩ = pure ((["wide"] : List Str).zip vs) := binds1 fun a => by kernel_rfl

theorem law_parts_spec (T : Text hb mg mb) {G : Mat} {h wd s : Nat} (hh : h ≤ 3) (hw : wd ≤ 3) (hs : s ≤ 3) {Φ : AV → Store → Prop} (hΦ : Φ (.list ((partsM G h wd s).map fun M => matAV M s s)) σ) :
    wpF prog w hb mg (n + 5) σ "_law_parts" [matAV G h wd, .int s, .int wd] Φ := by
  refine wpF_intro (["grid", "size", "wide"] : List Str) T.toGlo (T.at 23 "_law_parts" (by kernel_rfl) rfl) (by kernel_rfl) bind23 rfl ?_
  refine wpSs_cons ?_
  walk_at "W"
  refine wpE_Comp2 (by kernel_rfl) (fun _ _ => rfl) (fun _ _ => rfl) (fun _ _ => rfl) (comp2_each (choices h s) natsAV (choices wd s) natsAV (fun L P => .list (L.map fun i => .list (P.map fun j => .int (G i j)))) (by kernel_rfl) (by rfl) (by kernel_rfl) (fun _ => by rfl) (Nat.le_trans (choices_len hh hs) (by omega)) (Nat.le_trans (choices_len hw hs) (by omega)) ?_ (fun L hL => ?_) (fun L P hL hP => ?_) ?_)
  · refine wpE_callF T.toGlo (T.at 24 "_law_choices" (by kernel_rfl) rfl) (by kernel_rfl) (by kernel_rfl) (by kernel_rfl) ?_
    walk_at "W"
    refine v_lenR (by omega) ?_
    walk_at "W"
    exact wpF_le (law_choices_spec T s h 0 _ hs hh ⟨rfl, rfl⟩) (by omega)
  · refine wpE_callF T.toGlo (T.at 24 "_law_choices" (by kernel_rfl) rfl) (by kernel_rfl) (by kernel_rfl) (by kernel_rfl) ?_
    walk_at "W"
    exact wpF_le (law_choices_spec T s wd 0 _ hs hw ⟨.inl rfl, rfl⟩) (by omega)
  · obtain ⟨l1, m1⟩ := choices_mem hL
    obtain ⟨l2, m2⟩ := choices_mem hP
    refine wpE_CompP (by kernel_rfl) (fun _ _ => rfl) (comp_each L (fun (i : Nat) => .int (i : Int)) (fun i => .list (P.map fun j => .int (G i j))) (by kernel_rfl) (by rfl) (by omega) ?_ (fun i hi => ?_) ⟨rfl, rfl⟩)
    · walk_at "W"
      exact ⟨rfl, rfl⟩
    refine wpE_CompP (by kernel_rfl) (fun _ _ => rfl) (comp_each P (fun (j : Nat) => .int (j : Int)) (fun j => .int (G i j)) (by kernel_rfl) (by rfl) (by omega) ?_ (fun j hj => ?_) ⟨rfl, rfl⟩)
    · walk_at "W"
      exact ⟨rfl, rfl⟩
    walk_at "W"
    refine ⟨trivial, v_mat (m1 i hi) (by omega) ?_⟩
    walk_at "W"
    exact ⟨trivial, v_vec (m2 j hj) (by omega) ⟨rfl, rfl⟩⟩
  · walk_at "W"
    have : ((choices h s).flatMap fun L => (choices wd s).map fun P => AV.list (L.map fun i => .list (P.map fun j => .int (G i j)))) = (partsM G h wd s).map fun M => matAV M s s := by
      unfold partsM
      rw [List.map_flatMap]
      refine flat_congr fun L hL => ?_
      rw [List.map_map]
      apply List.map_congr_left
      intro P hP
      rw [sub_mat, (choices_mem hL).1, (choices_mem hP).1]
      rfl
    rw [this]; exact hΦ

theorem parts_len {G : Mat} {h wd s : Nat} (hh : h ≤ 3) (hw : wd ≤ 3) (hs : s ≤ 3) : (partsM G h wd s).length ≤ 100 := by
  have := flat_len (B := 10) (f := fun L => (choices wd s).map fun P => subM G L P) (l := choices h s) (fun a _ => by simpa using choices_len hw hs)
  have := choices_len hh hs
  unfold partsM; omega
theorem parts_mem {G : Mat} {h wd s : Nat} {M : Mat} (hM : M ∈ partsM G h wd s) : ∃ L P, L ∈ choices h s ∧ P ∈ choices wd s ∧ M = subM G L P := by
  unfold partsM at hM
  rw [List.mem_flatMap] at hM
  obtain ⟨L, hL, hM⟩ := hM
  rw [List.mem_map] at hM
  obtain ⟨P, hP, rfl⟩ := hM
  exact ⟨L, P, hL, hP, rfl⟩

/-- what _law_rank tells -/
structure RankIs (G : Mat) (h w r : Nat) : Prop where
  le : r ≤ min h w
  above : ∀ s, r < s → s ≤ min h w → ∀ M ∈ partsM G h w s, detN s M = 0
  here : r = 0 ∨ ∃ M ∈ partsM G h w r, detN r M ≠ 0

theorem law_rank_spec (T : Text hb mg mb) {G : Mat} {h wd : Nat} (hh : h ≤ 3) (hw : wd ≤ 3) (hG : ∀ i j, (G i j).natAbs ≤ 2 ^ 1000) {Φ : AV → Store → Prop} (hΦ : ∀ r, RankIs G h wd r → Φ (.int (r : Nat)) σ) :
    wpF prog w hb mg (n + 6) σ "_law_rank" [matAV G h wd, .int wd] Φ := by
  refine wpF_intro (["grid", "wide"] : List Str) T.toGlo (T.at 26 "_law_rank" (by kernel_rfl) rfl) (by kernel_rfl) bind26 rfl ?_
  refine wpSs_cons ?_
  walk_at "W"
  refine v_lenR (by omega) ?_
  walk_at "W"
  rw [show min (h : Int) wd = ((min h wd : Nat) : Int) by omega]
  let base : Rho := [(("grid" : Str), matAV G h wd), (("wide" : Str), .int wd)]
  refine wpS_While (fun k ρ' σ' => σ' = σ ∧ ρ' = (("size" : Str), .int (k : Nat)) :: base ∧ k ≤ min h wd ∧ ∀ s, k < s → s ≤ min h wd → ∀ M ∈ partsM G h wd s, detN s M = 0) (min h wd) ⟨rfl, rfl, Nat.le_refl _, fun s h1 h2 => by omega⟩ ?_
  rintro k ρ' σ' ⟨rfl, rfl, hk, hab⟩
  have hdone : (k = 0 ∨ ∃ M ∈ partsM G h wd k, detN k M ≠ 0) → RankIs G h wd k := fun q => ⟨hk, hab, q⟩
  by_cases hk0 : k = 0
  · subst hk0
    refine wpT_And' false true ?_ (fun q => by cases q) ?_
    · walk_at "W"
      exact ⟨rfl, rfl⟩
    · simp only [Bool.false_and, Bool.false_eq_true, if_false]
      walk_at "W"
      exact hΦ 0 (hdone (.inl rfl))
  · let p : Mat → Bool := fun M => detN k M != 0
    refine wpT_And' true ((partsM G h wd k).filter p).isEmpty ?_ (fun _ => ?_) ?_
    · walk_at "W"
      refine ⟨?_, rfl⟩
      rw [decide_eq_true_iff]; omega
    · walk_at "W"
      refine wpE_CompP (by kernel_rfl) (fun _ _ => rfl) (comp_filt (partsM G h wd k) (fun M => matAV M k k) p (fun _ => .int 1) (by kernel_rfl) (by rfl) (Nat.le_trans (parts_len hh hw (by omega)) (by omega)) ?_ (fun M hM => ?_) (fun M hM _ => ?_) ?_)
      · refine wpE_callF T.toGlo (T.at 23 "_law_parts" (by kernel_rfl) rfl) (by kernel_rfl) (by kernel_rfl) (by kernel_rfl) ?_
        walk_at "W"
        exact law_parts_spec T hh hw (by omega) ⟨rfl, rfl⟩
      · walk_at "W"
        refine wpE_callF T.toGlo (T.at 21 "_law_det" (by kernel_rfl) rfl) (by kernel_rfl) (by kernel_rfl) (by kernel_rfl) ?_
        walk_at "W"
        obtain ⟨L, P, _, _, rfl⟩ := parts_mem hM
        refine wpF_le (law_det_spec T k _ 0 _ (by omega) (fun i j => hG _ _) ?_) (by omega)
        walk_at "W"
        exact ⟨rfl, rfl⟩
      · walk_at "W"
        exact ⟨rfl, rfl⟩
      · refine wpE_List ?_
        walk_at "W"
        exact ⟨by simp, v_eq_nil (t_bool ⟨by simp, rfl⟩)⟩
    · rw [Bool.true_and]
      cases hq : ((partsM G h wd k).filter p).isEmpty with
      | true =>
        simp only [if_true]
        walk_at "W"
        rw [show (k : Int) - 1 = ((k - 1 : Nat) : Int) by omega]
        refine ⟨k - 1, (("size" : Str), .int ((k - 1 : Nat) : Int)) :: base, by omega, Sub.ofL ⟨rfl, rfl, rfl, trivial⟩, rfl, rfl, by omega, fun s h1 h2 M hM => ?_⟩
        by_cases hs : s = k
        · subst hs
          rw [List.isEmpty_iff, List.filter_eq_nil_iff] at hq
          have := hq M hM
          simpa [p] using this
        · exact hab s (by omega) h2 M hM
      | false =>
        simp only [Bool.false_eq_true, if_false]
        walk_at "W"
        refine hΦ k (hdone (.inr ?_))
        rw [List.isEmpty_eq_false_iff_exists_mem] at hq
        obtain ⟨M, hM⟩ := hq
        rw [List.mem_filter] at hM
        exact ⟨M, hM.1, by simpa [p] using hM.2⟩

theorem law_near_spec (T : Text hb mg mb) {wd : Nat} (hw : wd ≤ 3) {Φ : AV → Store → Prop} (hΦ : ∀ ws : List (List Int), ws.length ≤ 100 → (∀ l ∈ ws, l.length = wd ∧ ∀ z ∈ l, z.natAbs ≤ 2) → Φ (.list (ws.map fun l => .list (l.map .int))) σ) :
    wpF prog w hb mg (n + 1) σ "_law_near" [.int wd] Φ := by
  refine wpF_intro (["wide"] : List Str) T.toGlo (T.at 27 "_law_near" (by kernel_rfl) rfl) (by kernel_rfl) bind27 rfl ?_
  refine wpSs_cons ?_
  walk_at "W"
  refine wpE_List ?_
  refine wpEs_cons (by kernel_rfl) (wpE_List ?_)
  walk_at "W"
  refine ⟨by simp, ?_⟩
  walk_at "W"
  refine ⟨by simp, ?_⟩
  walk_at "W"
  let base : Rho := [(("wide" : Str), .int wd)]
  refine wpS_For (fun _ _ => rfl) (wpI_value ?_)
  walk_at "W"
  refine it_rngS (a := 0) (fun _ _ => rfl) (by omega) (by omega) ⟨fun c ρ' σ' => σ' = σ ∧ ∃ ws : List (List Int), ρ' = (("ways" : Str), .list (ws.map fun l => .list (l.map .int))) :: base ∧ ws.length = 4 ^ c ∧ ∀ l ∈ ws, l.length = c ∧ ∀ z ∈ l, z.natAbs ≤ 2, ⟨rfl, [[]], rfl, rfl, by simp⟩, ?_, ?_⟩
  · rintro c y ρ' σ' hy ⟨rfl, ws, rfl, hl, hws⟩
    have hc : c < wd := by have := (List.getElem?_eq_some_iff.mp hy).1; simpa using this
    rw [map_range_get (by omega)] at hy; cases hy
    have hl' : ws.length ≤ 16 := by
      have : c = 0 ∨ c = 1 ∨ c = 2 := by omega
      rcases this with rfl | rfl | rfl <;> omega
    walk_at "E"
    refine wpSs_cons ?_
    refine wpS_Assign_comp2 (fun env he => by cases env; cases he; kernel_rfl) (by kernel_rfl) (by kernel_rfl) (fun _ _ => rfl) (fun _ _ => rfl) (fun _ _ => rfl) (comp2_each ws (fun l => .list (l.map .int)) ([0, 1, -1, 2] : List Int) .int (fun l z => .list ((l ++ [z]).map .int)) (by kernel_rfl) (by rfl) (by kernel_rfl) (fun _ => by rfl) (by omega) (by simp) ?_ (fun l hl => ?_) (fun l z hl hz => ?_) ?_)
    · walk_at "W"
      exact ⟨rfl, rfl⟩
    · walk_at "W"
      exact ⟨by simp, .inr rfl, rfl⟩
    · walk_at "W"
      refine wpE_List ?_
      walk_at "W"
      refine ⟨by simp, ?_⟩
      have := (hws l hl).1
      refine v_add_list (by simp; omega) ⟨?_, rfl⟩
      simp
    · show wpSs _ _ _ _ _ _ _ _ _ _
      walk_at "W"
      refine ⟨(("ways" : Str), .list ((ws.flatMap fun l => ([0, 1, -1, 2] : List Int).map fun z => l ++ [z]).map fun l => .list (l.map .int))) :: base, ?_, rfl, _, rfl, ?_, fun l hl => ?_⟩
      · rw [List.map_flatMap]
        exact Sub.ofL ⟨rfl, rfl, trivial⟩
      · rw [Nat.pow_succ, ← hl]
        clear hl hws hl'
        induction ws with
        | nil => rfl
        | cons a ws ih => rw [List.flatMap_cons, List.length_append, ih]; simp; omega
      · rw [List.mem_flatMap] at hl
        obtain ⟨l', h1, h2⟩ := hl
        rw [List.mem_map] at h2
        obtain ⟨z, h3, rfl⟩ := h2
        refine ⟨by simp [(hws l' h1).1], fun x hx => ?_⟩
        rcases List.mem_append.mp hx with hx | hx
        · exact (hws l' h1).2 x hx
        · simp at hx h3; omega
  · rintro ρ' σ' ⟨rfl, ws, rfl, hl, hws⟩
    simp only [List.length_map, List.length_range, Nat.sub_zero] at hl hws
    walk_at "W"
    refine hΦ ws ?_ hws
    have : wd = 0 ∨ wd = 1 ∨ wd = 2 ∨ wd = 3 := by omega
    rcases this with rfl | rfl | rfl | rfl <;> omega
end

/-! ## Sums written out -/
theorem mul_row {A : Mat} {w : Nat} (hw0 : 0 < w) (hw : w ≤ 3) {x : Nat → Int} {i : Nat} (h : ∀ j, w ≤ j → A i j * x j = 0) : mulTo A (colM x) w i 0 = A i 0 * x 0 + A i 1 * x 1 + A i 2 * x 2 := by
  have : w = 1 ∨ w = 2 ∨ w = 3 := by omega
  rcases this with rfl | rfl | rfl
  · have h1 := h 1 (by omega)
    have h2 := h 2 (by omega)
    simp [mulTo, colM, List.range_succ]; omega
  · have h2 := h 2 (by omega)
    simp [mulTo, colM, List.range_succ]; omega
  · simp [mulTo, colM, List.range_succ]; omega
theorem mul_row2 {A : Mat} {h : Nat} (hh0 : 0 < h) (hh : h ≤ 2) {b : Nat → Int} {i : Nat} : mulTo A (colM b) h i 0 = A i 0 * b 0 + A i 1 * (if 1 < h then b 1 else 0) := by
  have : h = 1 ∨ h = 2 := by omega
  rcases this with rfl | rfl
  · simp [mulTo, colM, List.range_succ]
  · simp [mulTo, colM, List.range_succ]

theorem row_id (u0 u1 a00 a01 a02 a10 a11 a12 v00 v01 v02 v10 v11 v12 v20 v21 v22 y0 y1 y2 : Int) :
    (u0 * (a00 * v00 + a01 * v10 + a02 * v20) + u1 * (a10 * v00 + a11 * v10 + a12 * v20)) * y0 + (u0 * (a00 * v01 + a01 * v11 + a02 * v21) + u1 * (a10 * v01 + a11 * v11 + a12 * v21)) * y1 + (u0 * (a00 * v02 + a01 * v12 + a02 * v22) + u1 * (a10 * v02 + a11 * v12 + a12 * v22)) * y2
      = u0 * (a00 * (v00 * y0 + v01 * y1 + v02 * y2) + a01 * (v10 * y0 + v11 * y1 + v12 * y2) + a02 * (v20 * y0 + v21 * y1 + v22 * y2)) + u1 * (a10 * (v00 * y0 + v01 * y1 + v02 * y2) + a11 * (v10 * y0 + v11 * y1 + v12 * y2) + a12 * (v20 * y0 + v21 * y1 + v22 * y2)) := by grind

section
variable {A S U V : Mat} {h w : Nat}

/-- S y = U (A (V y)) -/
theorem Alg.apply (al : Alg A S U V) (k : Nat) (y : Nat → Int) : S k 0 * y 0 + S k 1 * y 1 + S k 2 * y 2 =
    U k 0 * (A 0 0 * (V 0 0 * y 0 + V 0 1 * y 1 + V 0 2 * y 2) + A 0 1 * (V 1 0 * y 0 + V 1 1 * y 1 + V 1 2 * y 2) + A 0 2 * (V 2 0 * y 0 + V 2 1 * y 1 + V 2 2 * y 2)) +
    U k 1 * (A 1 0 * (V 0 0 * y 0 + V 0 1 * y 1 + V 0 2 * y 2) + A 1 1 * (V 1 0 * y 0 + V 1 1 * y 1 + V 1 2 * y 2) + A 1 2 * (V 2 0 * y 0 + V 2 1 * y 1 + V 2 2 * y 2)) := by
  rw [al.eq k 0, al.eq k 1, al.eq k 2]
  exact row_id ..

theorem col_id (x0 x1 u00 u01 u10 u11 r0 r1 : Int) : (x0 * u00 + x1 * u10) * r0 + (x0 * u01 + x1 * u11) * r1 = x0 * (u00 * r0 + u01 * r1) + x1 * (u10 * r0 + u11 * r1) := by grind

/-- U is one to one -/
theorem Alg.uone (al : Alg A S U V) {r0 r1 c0 c1 : Int} (h0 : U 0 0 * r0 + U 0 1 * r1 = U 0 0 * c0 + U 0 1 * c1) (h1 : U 1 0 * r0 + U 1 1 * r1 = U 1 0 * c0 + U 1 1 * c1) : r0 = c0 ∧ r1 = c1 := by
  obtain ⟨X, hX⟩ := al.ui
  have key : ∀ i, i < 2 → dl i 0 * r0 + dl i 1 * r1 = dl i 0 * c0 + dl i 1 * c1 := fun i hi => by
    rw [← hX i 0 hi (by omega), ← hX i 1 hi (by omega), col_id, col_id, h0, h1]
  have k0 := key 0 (by omega)
  have k1 := key 1 (by omega)
  simp [dl] at k0 k1
  exact ⟨k0, k1⟩

theorem tt_eq (F : Fin A h w S U V) (hh0 : 0 < h) (hh : h ≤ 2) {b : Nat → Int} {i : Nat} (hi : i < 2) : tt U b h i = U i 0 * b 0 + U i 1 * (if 1 < h then b 1 else 0) := by
  unfold tt
  split
  · exact mul_row2 hh0 hh
  · have : h = 1 := by omega
    subst this
    rw [F.base.pu i 0 (by omega) (by omega)]; simp

theorem diag_row (F : Fin A h w S U V) {k : Nat} (hk : k < 2) (y : Nat → Int) : S k 0 * y 0 + S k 1 * y 1 + S k 2 * y 2 = S k k * y k := by
  rcases lt2 hk with rfl | rfl
  · rw [F.diag 0 1 (by omega), F.diag 0 2 (by omega)]; simp
  · rw [F.diag 1 0 (by omega), F.diag 1 2 (by omega)]; simp

theorem Fin.found (F : Fin A h w S U V) (hA : Start A h w) (hh0 : 0 < h) (hh : h ≤ 2) (hw0 : 0 < w) (hw : w ≤ 3) {b : Nat → Int} (ok : ∀ i, i < max h w → (S i i = 0 → tt U b h i = 0) ∧ (S i i ≠ 0 → (tt U b h i).fmod (S i i) = 0)) :
    ∀ i, i < h → mulTo A (colM fun i => mulTo V (colM (sol S U b h)) w i 0) w i 0 = b i := by
  have ys : ∀ k, k < 2 → S k k * sol S U b h k = tt U b h k := fun k hk => by
    unfold sol
    by_cases q : S k k = 0
    · rw [if_neg (by simpa using q), q, Int.zero_mul]
      by_cases z : k < max h w
      · exact ((ok k z).1 q).symm
      · unfold tt; rw [if_neg (by omega)]
    · rw [if_pos q]
      by_cases z : k < max h w
      · have := (ok k z).2 q
        have e := Int.mul_fdiv_add_fmod (tt U b h k) (S k k)
        rw [this] at e; omega
      · exact absurd (F.base.zr k k (by omega)) q
  have x_eq : ∀ i, mulTo V (colM (sol S U b h)) w i 0 = V i 0 * sol S U b h 0 + V i 1 * sol S U b h 1 + V i 2 * sol S U b h 2 := fun i => mul_row hw0 hw fun j hj => by
    have : sol S U b h j = 0 := if_neg (by simpa using F.base.zc j j hj)
    rw [this, Int.mul_zero]
  have rows : ∀ i, mulTo A (colM fun i => mulTo V (colM (sol S U b h)) w i 0) w i 0 = A i 0 * (V 0 0 * sol S U b h 0 + V 0 1 * sol S U b h 1 + V 0 2 * sol S U b h 2) + A i 1 * (V 1 0 * sol S U b h 0 + V 1 1 * sol S U b h 1 + V 1 2 * sol S U b h 2) + A i 2 * (V 2 0 * sol S U b h 0 + V 2 1 * sol S U b h 1 + V 2 2 * sol S U b h 2) := fun i => by
    rw [mul_row hw0 hw (fun j hj => by rw [hA.zc i j hj, Int.zero_mul]), x_eq, x_eq, x_eq]
  have two := F.base.alg.uone (r0 := mulTo A (colM fun i => mulTo V (colM (sol S U b h)) w i 0) w 0 0) (r1 := mulTo A (colM fun i => mulTo V (colM (sol S U b h)) w i 0) w 1 0) (c0 := b 0) (c1 := if 1 < h then b 1 else 0)
    (by rw [← tt_eq F hh0 hh (by omega), ← ys 0 (by omega), ← diag_row F (by omega), F.base.alg.apply, rows, rows])
    (by rw [← tt_eq F hh0 hh (by omega), ← ys 1 (by omega), ← diag_row F (by omega), F.base.alg.apply, rows, rows])
  intro i hi
  rcases lt2 (show i < 2 by omega) with rfl | rfl
  · exact two.1
  · rw [two.2, if_pos hi]

theorem inv_id (v0 v1 v2 w00 w01 w02 w10 w11 w12 w20 w21 w22 x0 x1 x2 : Int) : v0 * (w00 * x0 + w01 * x1 + w02 * x2) + v1 * (w10 * x0 + w11 * x1 + w12 * x2) + v2 * (w20 * x0 + w21 * x1 + w22 * x2) = (v0 * w00 + v1 * w10 + v2 * w20) * x0 + (v0 * w01 + v1 * w11 + v2 * w21) * x1 + (v0 * w02 + v1 * w12 + v2 * w22) * x2 := by grind

theorem Fin.never (F : Fin A h w S U V) (hA : Start A h w) (hh0 : 0 < h) (hh : h ≤ 2) (hw0 : 0 < w) (hw : w ≤ 3) {b x : Nat → Int} {i : Nat} (hi : i < max h w) (bad : (S i i = 0 ∧ tt U b h i ≠ 0) ∨ (S i i ≠ 0 ∧ (tt U b h i).fmod (S i i) ≠ 0))
    (hx : ∀ i, i < h → mulTo A (colM x) w i 0 = b i) : False := by
  obtain ⟨W, _, h2⟩ := F.base.alg.vi
  let y : Nat → Int := fun j => W j 0 * x 0 + W j 1 * x 1 + W j 2 * x 2
  have vy : ∀ i, i < 3 → V i 0 * y 0 + V i 1 * y 1 + V i 2 * y 2 = x i := fun i hi => by
    show V i 0 * (W 0 0 * x 0 + W 0 1 * x 1 + W 0 2 * x 2) + V i 1 * (W 1 0 * x 0 + W 1 1 * x 1 + W 1 2 * x 2) + V i 2 * (W 2 0 * x 0 + W 2 1 * x 1 + W 2 2 * x 2) = x i
    rw [inv_id, h2 i 0 hi (by omega), h2 i 1 hi (by omega), h2 i 2 hi (by omega)]
    rcases lt3 hi with rfl | rfl | rfl <;> simp [dl]
  have r0 : A 0 0 * x 0 + A 0 1 * x 1 + A 0 2 * x 2 = b 0 := by rw [← mul_row hw0 hw (fun j hj => by rw [hA.zc 0 j hj, Int.zero_mul])]; exact hx 0 hh0
  have r1 : A 1 0 * x 0 + A 1 1 * x 1 + A 1 2 * x 2 = if 1 < h then b 1 else 0 := by
    split
    · rw [← mul_row hw0 hw (fun j hj => by rw [hA.zc 1 j hj, Int.zero_mul])]; exact hx 1 (by assumption)
    · rw [hA.zr 1 0 (by omega), hA.zr 1 1 (by omega), hA.zr 1 2 (by omega)]; simp
  have key : ∀ k, k < 2 → S k k * y k = tt U b h k := fun k hk => by
    rw [← diag_row F hk, F.base.alg.apply, vy 0 (by omega), vy 1 (by omega), vy 2 (by omega), r0, r1, tt_eq F hh0 hh hk]
  by_cases hi2 : i < 2
  · have e := key i hi2
    rcases bad with ⟨z, n⟩ | ⟨z, n⟩
    · rw [z, Int.zero_mul] at e; exact n e.symm
    · rw [← e] at n
      exact n (Int.mul_fmod_right _ _)
  · have z1 : S i i = 0 := F.base.zr i i (by omega)
    have z2 : tt U b h i = 0 := if_neg (by omega)
    rcases bad with ⟨_, n⟩ | ⟨n, _⟩
    · exact n z2
    · exact n z1

theorem ker_mem {j : Nat} : j ∈ kerCols S h w ↔ j < w ∧ (h ≤ j ∨ S j j = 0) := by
  unfold kerCols; rw [List.mem_filter, List.mem_range]; simp

theorem Fin.kernel (F : Fin A h w S U V) (hA : Start A h w) (hh0 : 0 < h) (hh : h ≤ 2) (hw0 : 0 < w) (hw : w ≤ 3) {j : Nat} (hj : j ∈ kerCols S h w) : ∀ i, i < h → mulTo A (colM fun i => V i j) w i 0 = 0 := by
  obtain ⟨hjw, hz⟩ := ker_mem.mp hj
  have z : ∀ k, S k j = 0 := fun k => by
    by_cases q : k = j
    · subst q
      rcases hz with q | q
      · exact F.base.zr _ _ q
      · exact q
    · exact F.diag _ _ q
  have two := F.base.alg.uone (r0 := A 0 0 * V 0 j + A 0 1 * V 1 j + A 0 2 * V 2 j) (r1 := A 1 0 * V 0 j + A 1 1 * V 1 j + A 1 2 * V 2 j) (c0 := 0) (c1 := 0)
    (by rw [← F.base.alg.eq, z]; simp) (by rw [← F.base.alg.eq, z]; simp)
  intro i hi
  rw [mul_row hw0 hw (fun j hj => by rw [hA.zc i j hj, Int.zero_mul])]
  rcases lt2 (show i < 2 by omega) with rfl | rfl
  · exact two.1
  · exact two.2

theorem mem_parts {G : Mat} {s : Nat} {L P : List Nat} (hL : L ∈ choices h s) (hP : P ∈ choices w s) : subM G L P ∈ partsM G h w s := by
  unfold partsM
  rw [List.mem_flatMap]
  exact ⟨L, hL, List.mem_map_of_mem hP⟩
theorem one_choice {m i : Nat} (hm : m ≤ 3) (hi : i < m) : [i] ∈ choices m 1 := by
  have : (m = 1 ∧ i = 0) ∨ (m = 2 ∧ i = 0) ∨ (m = 2 ∧ i = 1) ∨ (m = 3 ∧ i = 0) ∨ (m = 3 ∧ i = 1) ∨ (m = 3 ∧ i = 2) := by omega
  rcases this with ⟨rfl, rfl⟩ | ⟨rfl, rfl⟩ | ⟨rfl, rfl⟩ | ⟨rfl, rfl⟩ | ⟨rfl, rfl⟩ | ⟨rfl, rfl⟩ <;> decide
theorem two_choice {m i j : Nat} (hm : m ≤ 3) (hi : i < j) (hj : j < m) : [i, j] ∈ choices m 2 := by
  have : (m = 2 ∧ i = 0 ∧ j = 1) ∨ (m = 3 ∧ i = 0 ∧ j = 1) ∨ (m = 3 ∧ i = 0 ∧ j = 2) ∨ (m = 3 ∧ i = 1 ∧ j = 2) := by omega
  rcases this with ⟨rfl, rfl, rfl⟩ | ⟨rfl, rfl, rfl⟩ | ⟨rfl, rfl, rfl⟩ | ⟨rfl, rfl, rfl⟩ <;> decide

theorem detN_succ (s : Nat) (G : Mat) : detN (s + 1) G = ((List.range (s + 1)).map fun j => sgn j * G 0 j * detN s (minor G j)).sum := by
  show ((List.range (s + 1)).map fun j => if G 0 j ≠ 0 then sgn j * G 0 j * detN s (minor G j) else 0).sum = _
  congr 1
  apply List.map_congr_left
  intro j _
  by_cases q : G 0 j = 0
  · rw [if_neg (by simpa using q), q]; simp
  · rw [if_pos q]
theorem sgn0 : sgn 0 = 1 := by decide
theorem sgn1 : sgn 1 = -1 := by decide
theorem sgn2 : sgn 2 = 1 := by decide
theorem det1 (G : Mat) : detN 1 G = G 0 0 := by
  rw [detN_succ]; simp [List.range_succ, sgn0, detN]
theorem det2 (G : Mat) : detN 2 G = G 0 0 * G 1 1 - G 0 1 * G 1 0 := by
  rw [detN_succ]; simp [List.range_succ, sgn0, sgn1, det1, minor]; grind
theorem det3 (G : Mat) : detN 3 G = G 0 0 * (G 1 1 * G 2 2 - G 1 2 * G 2 1) - G 0 1 * (G 1 0 * G 2 2 - G 1 2 * G 2 0) + G 0 2 * (G 1 0 * G 2 1 - G 1 1 * G 2 0) := by
  rw [detN_succ]; simp [List.range_succ, sgn0, sgn1, sgn2, det2, minor]; grind
theorem det_zero {s : Nat} {G : Mat} (h : ∀ j, G 0 j = 0) : detN (s + 1) G = 0 := by
  rw [detN_succ]
  have : ((List.range (s + 1)).map fun j => sgn j * G 0 j * detN s (minor G j)) = (List.range (s + 1)).map fun _ => (0 : Int) := by
    apply List.map_congr_left
    intro j _
    rw [h j]; simp
  rw [this]
  have : ∀ l : List Nat, (l.map fun _ => (0 : Int)).sum = 0 := fun l => by induction l <;> simp_all
  exact this _

/-- A from its form -/
theorem back (F : Fin A h w S U V) : ∃ X W : Mat, ∀ i j, i < 2 → j < 3 → A i j = X i 0 * (S 0 0 * W 0 j) + X i 1 * (S 1 1 * W 1 j) := by
  obtain ⟨X, hX⟩ := F.base.alg.ui
  obtain ⟨W, _, h2⟩ := F.base.alg.vi
  refine ⟨X, W, fun i j hi hj => ?_⟩
  have key : ∀ k, k < 2 → S k k * W k j = U k 0 * A 0 j + U k 1 * A 1 j := fun k hk => by
    have e := F.base.alg.apply k fun l => W l j
    rw [← diag_row F hk fun l => W l j, e, h2 0 j (by omega) hj, h2 1 j (by omega) hj, h2 2 j (by omega) hj]
    rcases lt3 hj with rfl | rfl | rfl <;> simp [dl]
  rw [key 0 (by omega), key 1 (by omega), ← col_id, hX i 0 hi (by omega), hX i 1 hi (by omega)]
  rcases lt2 hi with rfl | rfl <;> simp [dl]

theorem cb_id (u00 u01 u10 u11 a00 a01 a02 a10 a11 a12 p0 p1 p2 q0 q1 q2 : Int) :
    (u00 * (a00 * p0 + a01 * p1 + a02 * p2) + u01 * (a10 * p0 + a11 * p1 + a12 * p2)) * (u10 * (a00 * q0 + a01 * q1 + a02 * q2) + u11 * (a10 * q0 + a11 * q1 + a12 * q2)) - (u00 * (a00 * q0 + a01 * q1 + a02 * q2) + u01 * (a10 * q0 + a11 * q1 + a12 * q2)) * (u10 * (a00 * p0 + a01 * p1 + a02 * p2) + u11 * (a10 * p0 + a11 * p1 + a12 * p2))
      = (u00 * u11 - u01 * u10) * ((a00 * a11 - a01 * a10) * (p0 * q1 - p1 * q0) + (a00 * a12 - a02 * a10) * (p0 * q2 - p2 * q0) + (a01 * a12 - a02 * a11) * (p1 * q2 - p2 * q1)) := by grind

theorem Fin.rank (F : Fin A h w S U V) (hA : Start A h w) (hh0 : 0 < h) (hh : h ≤ 2) (hw0 : 0 < w) (hw : w ≤ 3) {r : Nat} (R : RankIs A h w r) :
    (S 0 0 = 0 → r = 0) ∧ (S 0 0 ≠ 0 → S 1 1 = 0 → r = 1) ∧ (S 1 1 ≠ 0 → r = 2) := by
  have le := R.le
  obtain ⟨X, W, ab⟩ := back F
  have az : ∀ i j, (2 ≤ i ∨ 3 ≤ j) → A i j = 0 := fun i j q => by
    rcases q with q | q
    · exact hA.zr _ _ (by omega)
    · exact hA.zc _ _ (by omega)
  have rge1 : S 0 0 ≠ 0 → 1 ≤ r := fun n => by
    rcases Nat.eq_zero_or_pos r with rfl | q
    · exfalso
      have z : ∀ i j, A i j = 0 := fun i j => by
        by_cases hi : i < h
        · by_cases hj : j < w
          · have := R.above 1 (by omega) (by omega) _ (mem_parts (one_choice (by omega) hi) (one_choice hw hj))
            rw [det1] at this
            simpa [subM] using this
          · exact hA.zc _ _ (by omega)
        · exact hA.zr _ _ (by omega)
      apply n
      rw [F.base.alg.eq]; simp [z]
    · exact q
  refine ⟨fun z0 => ?_, fun n0 z1 => ?_, fun n1 => ?_⟩
  · have z : ∀ i j, A i j = 0 := fun i j => by
      by_cases q : i < 2 ∧ j < 3
      · rw [ab i j q.1 q.2, z0, F.first z0]; simp
      · exact az i j (by omega)
    rcases R.here with q | ⟨M, hM, n⟩
    · exact q
    · cases r with
      | zero => rfl
      | succ r =>
        obtain ⟨L, P, _, _, rfl⟩ := parts_mem hM
        exact absurd (det_zero (G := subM A L P) fun j => z _ _) n
  · have r1 := rge1 n0
    by_cases q : r = 2
    · exfalso
      subst q
      rcases R.here with q | ⟨M, hM, n⟩
      · cases q
      · obtain ⟨L, P, hL, hP, rfl⟩ := parts_mem hM
        rw [det2] at n
        obtain ⟨l1, m1⟩ := choices_mem hL
        obtain ⟨l2, m2⟩ := choices_mem hP
        have gl : ∀ t, t < 2 → L.getD t 0 < 2 := fun t ht => by
          have ht' : t < L.length := by omega
          have := m1 _ (List.getElem_mem ht')
          rw [List.getD_eq_getElem?_getD, List.getElem?_eq_getElem ht']; simp; omega
        have gp : ∀ t, t < 2 → P.getD t 0 < 3 := fun t ht => by
          have ht' : t < P.length := by omega
          have := m2 _ (List.getElem_mem ht')
          rw [List.getD_eq_getElem?_getD, List.getElem?_eq_getElem ht']; simp; omega
        apply n
        show A (L.getD 0 0) (P.getD 0 0) * A (L.getD 1 0) (P.getD 1 0) - A (L.getD 0 0) (P.getD 1 0) * A (L.getD 1 0) (P.getD 0 0) = 0
        rw [ab _ _ (gl 0 (by omega)) (gp 0 (by omega)), ab _ _ (gl 1 (by omega)) (gp 1 (by omega)), ab _ _ (gl 0 (by omega)) (gp 1 (by omega)), ab _ _ (gl 1 (by omega)) (gp 0 (by omega)), z1]
        grind
    · omega
  · have n0 : S 0 0 ≠ 0 := fun z => n1 (F.first z)
    have hw2 : 2 ≤ w := Nat.le_of_not_lt fun q => n1 (F.base.zc _ _ (by omega))
    have hh2 : h = 2 := by
      have : ¬ h ≤ 1 := fun q => n1 (F.base.zr _ _ q)
      omega
    have r1 := rge1 n0
    by_cases q : r = 1
    · exfalso
      subst q
      have mz : ∀ p q, p < q → A 0 p * A 1 q - A 0 q * A 1 p = 0 := fun p q hpq => by
        by_cases hq : q < w
        · have := R.above 2 (by omega) (by omega) _ (mem_parts (two_choice (i := 0) (j := 1) (by omega) (by omega) (by omega)) (two_choice hw hpq hq))
          rw [det2] at this
          simpa [subM] using this
        · rw [hA.zc 1 q (by omega), hA.zc 0 q (by omega)]; simp
      have e : S 0 0 * S 1 1 - S 0 1 * S 1 0 = 0 := by
        rw [F.base.alg.eq 0 0, F.base.alg.eq 1 1, F.base.alg.eq 0 1, F.base.alg.eq 1 0, cb_id, mz 0 1 (by omega), mz 0 2 (by omega), mz 1 2 (by omega)]
        simp
      rw [F.diag 0 1 (by omega), Int.zero_mul, Int.sub_zero] at e
      rcases Int.mul_eq_zero.mp e with z | z
      · exact n0 z
      · exact n1 z
    · omega

theorem Fin.count (F : Fin A h w S U V) (hA : Start A h w) (hh0 : 0 < h) (hh : h ≤ 2) (hw0 : 0 < w) (hw : w ≤ 3) {r : Nat} (R : RankIs A h w r) : ((kerCols S h w).length : Int) = w - r := by
  obtain ⟨k0, k1, k2⟩ := F.rank hA hh0 hh hw0 hw R
  have e : h = 1 ∨ h = 2 := by omega
  have e2 : w = 1 ∨ w = 2 ∨ w = 3 := by omega
  by_cases z0 : S 0 0 = 0
  · have z1 := F.first z0
    rw [k0 z0]
    rcases e with rfl | rfl <;> rcases e2 with rfl | rfl | rfl <;> simp [kerCols, List.range_succ, z0, z1]
  · by_cases z1 : S 1 1 = 0
    · rw [k1 z0 z1]
      rcases e with rfl | rfl <;> rcases e2 with rfl | rfl | rfl <;> simp [kerCols, List.range_succ, z0, z1]
    · rw [k2 z1]
      have hw2 : ¬ w ≤ 1 := fun q => z1 (F.base.zc _ _ q)
      have hh2 : ¬ h ≤ 1 := fun q => z1 (F.base.zr _ _ q)
      rcases e with rfl | rfl <;> rcases e2 with rfl | rfl | rfl <;> first | omega | simp [kerCols, List.range_succ, z0, z1]

theorem two_id (w00 w01 w02 w10 w11 w12 p0 p1 p2 q0 q1 q2 : Int) : (w00 * p0 + w01 * p1 + w02 * p2) * (w10 * q0 + w11 * q1 + w12 * q2) - (w00 * q0 + w01 * q1 + w02 * q2) * (w10 * p0 + w11 * p1 + w12 * p2)
    = (w00 * w11 - w01 * w10) * (p0 * q1 - p1 * q0) + (w00 * w12 - w02 * w10) * (p0 * q2 - p2 * q0) + (w01 * w12 - w02 * w11) * (p1 * q2 - p2 * q1) := by grind
theorem three_id (w00 w01 w02 w10 w11 w12 w20 w21 w22 p0 p1 p2 q0 q1 q2 r0 r1 r2 : Int) :
    (w00 * p0 + w01 * p1 + w02 * p2) * ((w10 * q0 + w11 * q1 + w12 * q2) * (w20 * r0 + w21 * r1 + w22 * r2) - (w10 * r0 + w11 * r1 + w12 * r2) * (w20 * q0 + w21 * q1 + w22 * q2)) - (w00 * q0 + w01 * q1 + w02 * q2) * ((w10 * p0 + w11 * p1 + w12 * p2) * (w20 * r0 + w21 * r1 + w22 * r2) - (w10 * r0 + w11 * r1 + w12 * r2) * (w20 * p0 + w21 * p1 + w22 * p2)) + (w00 * r0 + w01 * r1 + w02 * r2) * ((w10 * p0 + w11 * p1 + w12 * p2) * (w20 * q0 + w21 * q1 + w22 * q2) - (w10 * q0 + w11 * q1 + w12 * q2) * (w20 * p0 + w21 * p1 + w22 * p2))
      = (w00 * (w11 * w22 - w12 * w21) - w01 * (w10 * w22 - w12 * w20) + w02 * (w10 * w21 - w11 * w20)) * (p0 * (q1 * r2 - q2 * r1) - p1 * (q0 * r2 - q2 * r0) + p2 * (q0 * r1 - q1 * r0)) := by grind

theorem Fin.unit (F : Fin A h w S U V) (hA : Start A h w) (hh0 : 0 < h) (hh : h ≤ 2) (hw0 : 0 < w) (hw : w ≤ 3) {g c : Nat} (hc : (kerCols S h w).length = c) (h0 : 0 < c)
    (hd : ∀ M ∈ partsM (fun x y => V y ((kerCols S h w).getD x 0)) c w c, (g : Int) ∣ detN c M) : g = 1 := by
  obtain ⟨W, h1, _⟩ := F.base.alg.vi
  have d1 : ∀ i, dl i i = 1 := fun i => if_pos rfl
  have dn : ∀ i j, i ≠ j → dl i j = 0 := fun i j h => if_neg h
  have fin : (g : Int) ∣ 1 → g = 1 := fun q => by
    have := Int.natAbs_dvd_natAbs.mpr q
    simpa using this
  have pw : (kerCols S h w).Pairwise (· < ·) := List.Pairwise.filter _ List.pairwise_lt_range
  have mem : ∀ j ∈ kerCols S h w, j < w := fun j hj => (ker_mem.mp hj).1
  have lenw : (kerCols S h w).length ≤ w := by
    have := List.length_filter_le (fun j => decide (h ≤ j) || (S j j == 0)) (List.range w)
    rw [List.length_range] at this
    exact this
  generalize kerCols S h w = cols at *
  apply fin
  match cols, hc with
  | [], hc => simp at hc; omega
  | [p], hc =>
    simp at hc
    subst hc
    have hp : p < w := mem p (by simp)
    have dv : ∀ l, (g : Int) ∣ V l p := fun l => by
      by_cases hl : l < w
      · have := hd _ (mem_parts (h := 1) (w := w) (s := 1) (L := [0]) (P := [l]) (by decide) (one_choice hw hl))
        rw [det1] at this
        simpa [subM] using this
      · rw [F.base.pv l p (by omega) hp]; exact Int.dvd_zero _
    rw [← d1 p, ← h1 p p (by omega) (by omega)]
    exact Int.dvd_add (Int.dvd_add (Int.dvd_mul_of_dvd_right (dv 0)) (Int.dvd_mul_of_dvd_right (dv 1))) (Int.dvd_mul_of_dvd_right (dv 2))
  | [p, q], hc =>
    simp at hc
    subst hc
    have hpq : p < q := by simpa using pw
    have hp : p < w := mem p (by simp)
    have hq : q < w := mem q (by simp)
    have dv : ∀ k l, k < l → (g : Int) ∣ V k p * V l q - V l p * V k q := fun k l hkl => by
      by_cases hl : l < w
      · have := hd _ (mem_parts (h := 2) (w := w) (s := 2) (L := [0, 1]) (P := [k, l]) (by decide) (two_choice hw hkl hl))
        rw [det2] at this
        simpa [subM] using this
      · rw [F.base.pv l p (by omega) hp, F.base.pv l q (by omega) hq]; simp
    have e := two_id (W p 0) (W p 1) (W p 2) (W q 0) (W q 1) (W q 2) (V 0 p) (V 1 p) (V 2 p) (V 0 q) (V 1 q) (V 2 q)
    rw [h1 p p (by omega) (by omega), h1 q q (by omega) (by omega), h1 p q (by omega) (by omega), h1 q p (by omega) (by omega), d1, d1, dn p q (by omega)] at e
    have e' : (1 : Int) = 1 * 1 - 0 * dl q p := by simp
    rw [e', e]
    exact Int.dvd_add (Int.dvd_add (Int.dvd_mul_of_dvd_right (dv 0 1 (by omega))) (Int.dvd_mul_of_dvd_right (dv 0 2 (by omega)))) (Int.dvd_mul_of_dvd_right (dv 1 2 (by omega)))
  | [p, q, r], hc =>
    simp at hc
    subst hc
    have hw3 : w = 3 := by simp at lenw; omega
    subst hw3
    simp at pw
    have hp : p < 3 := mem p (by simp)
    have hq : q < 3 := mem q (by simp)
    have hr : r < 3 := mem r (by simp)
    have dv := hd _ (mem_parts (h := 3) (w := 3) (s := 3) (L := [0, 1, 2]) (P := [0, 1, 2]) (by decide) (by decide))
    rw [det3] at dv
    simp [subM] at dv
    have e := three_id (W p 0) (W p 1) (W p 2) (W q 0) (W q 1) (W q 2) (W r 0) (W r 1) (W r 2) (V 0 p) (V 1 p) (V 2 p) (V 0 q) (V 1 q) (V 2 q) (V 0 r) (V 1 r) (V 2 r)
    rw [h1 p p (by omega) (by omega), h1 q q (by omega) (by omega), h1 r r (by omega) (by omega), h1 p q (by omega) (by omega), h1 q p (by omega) (by omega), h1 p r (by omega) (by omega), h1 r p (by omega) (by omega), h1 q r (by omega) (by omega), h1 r q (by omega) (by omega), d1, d1, d1, dn p q (by omega), dn p r (by omega), dn q r (by omega)] at e
    have e' : (1 : Int) = 1 * (1 * 1 - 0 * dl r q) - 0 * (dl q p * 1 - 0 * dl r p) + 0 * (dl q p * dl r q - 1 * dl r p) := by simp
    rw [e', e]
    exact Int.dvd_mul_of_dvd_right dv
  | _ :: _ :: _ :: _ :: _, hc => simp at lenw; omega
end

section
variable {prog : Program} {w : World} {hb : Heap} {mg mb : Str → Option Value} {n : Nat} {σ : Store}
theorem v_eq_vec {f g : Nat → Int} {m : Nat} {Φ : AV → Store → Prop} (h : Φ (.bool (decide ((List.range m).map f = (List.range m).map g))) σ) : wpV prog w hb n σ (fCmp .Eq) [.list (vecL f m), .list (vecL g m)] Φ := by
  have := v_eq_ints (prog := prog) (w := w) (hb := hb) (n := n) (σ := σ) (Φ := Φ) h
  rwa [List.map_map, List.map_map] at this
theorem v_ne_vec {f g : Nat → Int} {m : Nat} {Φ : AV → Store → Prop} (h : Φ (.bool (!decide ((List.range m).map f = (List.range m).map g))) σ) : wpV prog w hb n σ (fCmp .NotEq) [.list (vecL f m), .list (vecL g m)] Φ := by
  have := v_ne_ints (prog := prog) (w := w) (hb := hb) (n := n) (σ := σ) (Φ := Φ) h
  rwa [List.map_map, List.map_map] at this
theorem vec_eq {f g : Nat → Int} {m : Nat} : (List.range m).map f = (List.range m).map g ↔ ∀ i, i < m → f i = g i := by
  constructor
  · intro e i hi
    have := congrArg (fun l => l[i]?) e
    rw [map_range_get hi, map_range_get hi] at this
    exact Option.some.inj this
  · intro e
    apply List.map_congr_left
    intro i hi
    exact e i (List.mem_range.mp hi)
theorem col_mat {l : List Int} : AV.list (l.map fun z => .list [.int z]) = matAV (colM fun i => l.getD i 0) l.length 1 := by
  rw [map_getD l 0]; rfl

theorem bind28 (pm code doc : Value) : ∀ vs : List Value, vs.length = 1 → bindArgs (Calls.docDef "law" (fArgs 28) (fBody 28) (fScope 28) pm code doc) ⟨vs, []⟩ = pure ((["script"] : List Str).zip vs) := binds1 fun a => by kernel_rfl


theorem times_col (T : Text hb mg mb) {A : Mat} {h wd : Nat} (hA : Start A h wd) (hh : h ≤ 2) (hw0 : 0 < wd) (hw : wd ≤ 3) {x : Nat → Int} {Φ : AV → Store → Prop} (hΦ : Φ (matAV (mulTo A (colM x) wd) h 1) σ) :
    wpF prog w hb mg (n + 1) σ "_law_times" [matAV A h wd, matAV (colM x) wd 1] Φ :=
  law_times_spec T (by omega) hw0 (by omega) (by omega) (fun i t j _ _ _ => .of_left (bits_le (k := 6) (Nat.lt_of_le_of_lt (hA.bd i t) (by decide)) (by omega))) hΦ

theorem rest_spec {A : Mat} {h wd : Nat} (T : Text hb mg mb) (hA : Start A h wd) (hh0 : 0 < h) (hh : h ≤ 2) (hw0 : 0 < wd) (hw : wd ≤ 3) {b : Nat → Int} {pl : Bool} (hb' : ∀ i, (b i).natAbs ≤ 2 ^ 40) (hpl : pl = true → ∃ p : Nat → Int, ∀ i, i < h → mulTo A (colM p) wd i 0 = b i) :
    wpSs prog w hb (n + 6) (fScope 28) (cellNames (fScope 28).names) [(("grid" : Str), matAV A h wd), (("goal" : Str), .list (vecL b h)), (("is_planted" : Str), .bool pl), (("wide" : Str), .int wd)] σ ((fBody 28).drop 5) fun f _ _ => (match f with | .ret v => v | _ => .none) = .bool true := by
  have hAb : ∀ i j, (A i j).natAbs ≤ 2 ^ 1000 := fun i j => Nat.le_trans (hA.bd i j) (Nat.le_trans (by decide : 36 ≤ 2 ^ 6) (Nat.pow_le_pow_right (by omega) (by omega)))
  have tailOk : ∀ {S U V : Mat} (F : Fin A h wd S U V) (v : AV), wpSs prog w hb (n + 6) (fScope 28) (cellNames (fScope 28).names) [(("free" : Str), kerAV S V h wd), (("found" : Str), v), (("grid" : Str), matAV A h wd), (("wide" : Str), .int wd)] noStore ((fBody 28).drop 7) fun f _ _ => (match f with | .ret v => v | _ => .none) = .bool true := by
    intro S U V F v
    have kl : (kerCols S h wd).length ≤ 3 := by
      have := List.length_filter_le (fun j => decide (h ≤ j) || (S j j == 0)) (List.range wd)
      rw [List.length_range] at this
      unfold kerCols; omega
    have hVb : ∀ i j, (V i j).natAbs ≤ 2 ^ 1000 := fun i j => Nat.le_trans (F.bv i j) (Nat.pow_le_pow_right (by omega) (by omega))
    refine wpSs_cons ?_
    refine wpS_If' false ?_ (fun q => by cases q) (fun _ => ?_)
    · walk_at "W"
      refine v_len (by simp; omega) ?_
      walk_at "W"
      refine wpE_callF T.toGlo (T.at 26 "_law_rank" (by kernel_rfl) rfl) (by kernel_rfl) (by kernel_rfl) (by kernel_rfl) ?_
      walk_at "W"
      refine law_rank_spec T (by omega) hw hAb fun r R => ?_
      walk_at "W"
      refine ⟨?_, rfl⟩
      have := F.count hA hh0 hh hw0 hw R
      simpa using this
    walk_at "W"
    refine wpS_For (fun _ _ => rfl) (wpI_value ?_)
    walk_at "W"
    refine it_list (fun _ _ => rfl) ⟨fun i ρ' σ' => ρ' = [(("free" : Str), kerAV S V h wd), (("found" : Str), v), (("grid" : Str), matAV A h wd), (("wide" : Str), .int wd)] ∧ σ' = noStore, ⟨rfl, rfl⟩, ?_, ?_⟩
    · rintro i y ρ' σ' hy ⟨rfl, rfl⟩
      rw [List.getElem?_map] at hy
      cases hq : (kerCols S h wd)[i]? with
      | none => rw [hq] at hy; cases hy
      | some j =>
        rw [hq] at hy; cases hy
        have hj := List.mem_of_getElem? hq
        have kz := F.kernel hA hh0 hh hw0 hw hj
        walk_at "W"
        refine wpS_If' false ?_ (fun q => by cases q) (fun _ => ?_)
        · walk_at "W"
          refine wpE_CompP (by kernel_rfl) (fun _ _ => rfl) (comp_filt (List.range h) (fun i => rowAV (mulTo A (colM fun i => V i j) wd) i 1) (fun _ => false) (fun _ => .none) (by kernel_rfl) (by rfl) (by simp; omega) ?_ (fun i hi => ?_) (fun i hi q => by cases q) ?_)
          · refine wpE_callF T.toGlo (T.at 22 "_law_times" (by kernel_rfl) rfl) (by kernel_rfl) (by kernel_rfl) (by kernel_rfl) ?_
            walk_at "W"
            refine wpE_CompP (by kernel_rfl) (fun _ _ => rfl) (comp_vec wd (fun i => .int (V i j)) (fun i => rowAV (colM fun i => V i j) i 1) (by kernel_rfl) (by rfl) (by omega) ?_ (fun i hi => ?_) ?_)
            · walk_at "W"
              exact ⟨rfl, rfl⟩
            · refine wpE_List ?_
              walk_at "W"
              exact ⟨by simp, rfl, rfl⟩
            walk_at "W"
            exact times_col T hA hh hw0 hw ⟨rfl, rfl⟩
          · walk_at "W"
            refine wpE_List ?_
            walk_at "W"
            refine ⟨by simp, ?_⟩
            refine v_ne_ints (xs := [mulTo A (colM fun i => V i j) wd i 0]) (ys := [0]) (t_bool ⟨?_, rfl⟩)
            rw [kz i (List.mem_range.mp hi)]; rfl
          · refine wpE_List ?_
            walk_at "W"
            refine ⟨by simp, v_ne_nil (t_bool ⟨?_, rfl⟩)⟩
            simp
        · walk_at "W"
          exact ⟨_, (Sub.refl _).cons rfl, rfl, rfl⟩
    · rintro ρ' σ' ⟨rfl, rfl⟩
      walk_at "W"
      refine wpE_Or ?_
      walk_at "W"
      refine wpE_List ?_
      walk_at "W"
      refine ⟨by simp, v_eq_nil (t_bool ?_)⟩
      cases hq : ((kerCols S h wd).map fun j => AV.list (colL V j wd)).isEmpty with
      | true => simp
      | false =>
        simp only [Bool.false_eq_true, if_false]
        have hc : 0 < (kerCols S h wd).length := by
          rcases Nat.eq_zero_or_pos (kerCols S h wd).length with z | z
          · rw [List.length_eq_zero_iff] at z
            rw [z] at hq; cases hq
          · exact z
        generalize hcl : (kerCols S h wd).length = c at *
        have hk : kerAV S V h wd = matAV (fun x y => V y ((kerCols S h wd).getD x 0)) c wd := by
          rw [kerAV, map_getD (kerCols S h wd) 0, hcl]; rfl
        rw [hk]
        walk_at "W"
        refine wpE_callF T.toGlo (T.at 25 "_law_divisor" (by kernel_rfl) rfl) (by kernel_rfl) (by kernel_rfl) (by kernel_rfl) ?_
        walk_at "W"
        refine wpE_CompP (by kernel_rfl) (fun _ _ => rfl) (comp_each (partsM (fun x y => V y ((kerCols S h wd).getD x 0)) c wd c) (fun M => matAV M c c) (fun M => .int (detN c M)) (by kernel_rfl) (by rfl) (Nat.le_trans (parts_len kl hw kl) (by omega)) ?_ (fun M hM => ?_) ?_)
        · refine wpE_callF T.toGlo (T.at 23 "_law_parts" (by kernel_rfl) rfl) (by kernel_rfl) (by kernel_rfl) (by kernel_rfl) ?_
          walk_at "W"
          refine v_lenR (by omega) ?_
          walk_at "W"
          exact wpF_le (law_parts_spec (n := 0) T kl hw kl ⟨rfl, rfl⟩) (by omega)
        · obtain ⟨L, P, _, _, rfl⟩ := parts_mem hM
          refine wpE_callF T.toGlo (T.at 21 "_law_det" (by kernel_rfl) rfl) (by kernel_rfl) (by kernel_rfl) (by kernel_rfl) ?_
          walk_at "W"
          exact wpF_le (law_det_spec T c _ 0 _ kl (fun i j => hVb _ _) ⟨rfl, rfl⟩) (by omega)
        walk_at "W"
        have e : ((partsM (fun x y => V y ((kerCols S h wd).getD x 0)) c wd c).map fun M => AV.int (detN c M)) = ((partsM (fun x y => V y ((kerCols S h wd).getD x 0)) c wd c).map fun M => detN c M).map .int := by rw [List.map_map]; rfl
        rw [e]
        refine law_divisor_spec T fun g hg => ?_
        walk_at "W"
        have := F.unit hA hh0 hh hw0 hw hcl hc fun M hM => hg _ (List.mem_map_of_mem hM)
        subst this
        rfl
  refine wpSs_cons ?_
  walk_at "W"
  refine wpE_callF T.toGlo (T.at 14 "whole_solutions" (by kernel_rfl) rfl) (by kernel_rfl) (by kernel_rfl) (by kernel_rfl) ?_
  walk_at "W"
  refine wpF_le (whole_solutions_spec (n := 0) T hA hh0 hh hw0 hw hb' (fun S U V i F hi bad => ?_) (fun S U V F ok => ?_)) (by omega)
  · have never := fun {x : Nat → Int} (hx : ∀ i, i < h → mulTo A (colM x) wd i 0 = b i) => F.never hA hh0 hh hw0 hw hi bad hx
    refine wpA_tuple rfl rfl ⟨rfl, wpA_name (by kernel_rfl) ⟨rfl, wpA_name (by kernel_rfl) ?_⟩⟩
    show wpSs _ _ _ _ _ _ _ _ _ _
    walk_at "W"
    refine wpS_If' true ?_ (fun _ => ?_) (fun q => by cases q)
    · walk_at "W"
      exact ⟨rfl, rfl⟩
    walk_at "W"
    cases pl with
    | true => obtain ⟨p, hp⟩ := hpl rfl; exact (never hp).elim
    | false =>
      refine wpS_If' false ?_ (fun q => by cases q) (fun _ => ?_)
      · walk_at "W"
        exact ⟨rfl, rfl⟩
      walk_at "W"
      refine wpS_For (fun _ _ => rfl) (wpI_value ?_)
      refine wpE_callF T.toGlo (T.at 27 "_law_near" (by kernel_rfl) rfl) (by kernel_rfl) (by kernel_rfl) (by kernel_rfl) ?_
      walk_at "W"
      refine wpF_le (law_near_spec (n := 0) T hw fun ws hlen hws => ?_) (by omega)
      refine it_list (fun _ _ => rfl) ⟨fun i ρ' σ' => ρ' = _ ∧ σ' = noStore, ⟨rfl, rfl⟩, ?_, ?_⟩
      · rintro i y ρ' σ' hy ⟨rfl, rfl⟩
        rw [List.getElem?_map] at hy
        cases hq : ws[i]? with
        | none => rw [hq] at hy; cases hy
        | some l =>
          rw [hq] at hy; cases hy
          have hl := (hws l (List.mem_of_getElem? hq)).1
          walk_at "W"
          refine wpS_If' false ?_ (fun q => by cases q) (fun _ => ?_)
          · walk_at "W"
            refine wpE_CompP (by kernel_rfl) (fun _ _ => rfl) (comp_vec h (fun i => rowAV (mulTo A (colM fun i => l.getD i 0) wd) i 1) (fun i => .int (mulTo A (colM fun i => l.getD i 0) wd i 0)) (by kernel_rfl) (by rfl) (by omega) ?_ (fun i hi => ?_) ?_)
            · refine wpE_callF T.toGlo (T.at 22 "_law_times" (by kernel_rfl) rfl) (by kernel_rfl) (by kernel_rfl) (by kernel_rfl) ?_
              walk_at "W"
              refine wpE_CompP (by kernel_rfl) (fun _ _ => rfl) (comp_each l .int (fun z => .list [.int z]) (by kernel_rfl) (by rfl) (by omega) ?_ (fun z hz => ?_) ?_)
              · walk_at "W"
                exact ⟨rfl, rfl⟩
              · refine wpE_List ?_
                walk_at "W"
                exact ⟨by simp, rfl, rfl⟩
              rw [col_mat, hl]
              walk_at "W"
              exact times_col T hA hh hw0 hw ⟨rfl, rfl⟩
            · walk_at "W"
              exact ⟨trivial, v_vec (m := 1) (i := 0) (by omega) (by omega) ⟨rfl, rfl⟩⟩
            · walk_at "W"
              refine v_eq_vec (t_bool ⟨?_, rfl⟩)
              rw [decide_eq_false_iff_not, vec_eq]
              exact fun e => never e
          · walk_at "W"
            exact ⟨_, (Sub.refl _).cons rfl, rfl, rfl⟩
      · rintro ρ' σ' ⟨rfl, rfl⟩
        refine wpSs_nil ?_
        refine wpSs_weak ?_ (tailOk F .none)
        exact Sub.ofL ⟨rfl, rfl, rfl, rfl, trivial⟩
  · have fnd := F.found hA hh0 hh hw0 hw ok
    refine wpA_tuple rfl rfl ⟨rfl, wpA_name (by kernel_rfl) ⟨rfl, wpA_name (by kernel_rfl) ?_⟩⟩
    show wpSs _ _ _ _ _ _ _ _ _ _
    walk_at "W"
    refine wpS_If' false ?_ (fun q => by cases q) (fun _ => ?_)
    · walk_at "W"
      exact ⟨rfl, rfl⟩
    walk_at "W"
    refine wpS_If' false ?_ (fun q => by cases q) (fun _ => ?_)
    · walk_at "W"
      refine wpE_CompP (by kernel_rfl) (fun _ _ => rfl) (comp_vec h (fun i => rowAV (mulTo A (colM fun i => mulTo V (colM (sol S U b h)) wd i 0) wd) i 1) (fun i => .int (mulTo A (colM fun i => mulTo V (colM (sol S U b h)) wd i 0) wd i 0)) (by kernel_rfl) (by rfl) (by omega) ?_ (fun i hi => ?_) ?_)
      · refine wpE_callF T.toGlo (T.at 22 "_law_times" (by kernel_rfl) rfl) (by kernel_rfl) (by kernel_rfl) (by kernel_rfl) ?_
        walk_at "W"
        refine wpE_CompP (by kernel_rfl) (fun _ _ => rfl) (comp_vec wd (fun i => .int (mulTo V (colM (sol S U b h)) wd i 0)) (fun i => rowAV (colM fun i => mulTo V (colM (sol S U b h)) wd i 0) i 1) (by kernel_rfl) (by rfl) (by omega) ?_ (fun i hi => ?_) ?_)
        · walk_at "W"
          exact ⟨rfl, rfl⟩
        · refine wpE_List ?_
          walk_at "W"
          exact ⟨by simp, rfl, rfl⟩
        walk_at "W"
        exact times_col T hA hh hw0 hw ⟨rfl, rfl⟩
      · walk_at "W"
        exact ⟨trivial, v_vec (m := 1) (i := 0) (by omega) (by omega) ⟨rfl, rfl⟩⟩
      · walk_at "W"
        refine v_ne_vec (t_bool ⟨?_, rfl⟩)
        rw [Bool.not_eq_false', decide_eq_true_iff, vec_eq]
        exact fnd
    · refine wpSs_nil (wpSs_nil ?_)
      refine wpSs_weak ?_ (tailOk F (.list (vecL (fun i => mulTo V (colM (sol S U b h)) wd i 0) wd)))
      exact Sub.ofL ⟨rfl, rfl, rfl, rfl, trivial⟩

theorem law_spec (T : Text hb mg mb) {zs : List Int} (hl : zs.length ≤ 1000) :
    wpF prog w hb mg (n + 7) σ "law" [.wlist (zs.map .int)] fun v _ => v = .bool true := by
  refine wpF_intro (["script"] : List Str) T.toGlo (T.at 28 "law" (by kernel_rfl) rfl) (by kernel_rfl) bind28 rfl ?_
  refine wpSs_cons ?_
  walk_at "W"
  refine wpE_callF T.toGlo (T.at 18 "_law_box" (by kernel_rfl) rfl) (by kernel_rfl) (by kernel_rfl) (by kernel_rfl) ?_
  walk_at "W"
  refine law_box_spec T hl fun a l σ1 B => ?_
  walk_at "W"
  refine wpS_Assign_swap (names := ["high", "wide"]) (fun _ => rfl) (fun _ he => ?_) (by kernel_rfl) ?_
  · cases ‹Env›; cases he; kernel_rfl
  walk_at "W"
  refine wpE_callF T.toGlo (T.at 17 "_law_take" (by kernel_rfl) rfl) (by kernel_rfl) (by kernel_rfl) (by kernel_rfl) ?_
  walk_at "W"
  refine law_take_spec T B (by omega) fun r1 σ2 h0 h1 B _ => ?_
  walk_at "W"
  refine wpE_callF T.toGlo (T.at 17 "_law_take" (by kernel_rfl) rfl) (by kernel_rfl) (by kernel_rfl) (by kernel_rfl) ?_
  walk_at "W"
  refine law_take_spec T B (by omega) fun r2 σ3 h2 h3 B _ => ?_
  walk_at "W"
  refine ⟨rfl, by simp, ?_⟩
  obtain ⟨h, rh, hh0, hh⟩ : ∃ h : Nat, 1 + r1 = (h : Int) ∧ 0 < h ∧ h ≤ 2 := ⟨(1 + r1).toNat, by omega, by omega, by omega⟩
  obtain ⟨wd, rw', hw0, hw⟩ : ∃ h : Nat, 1 + r2 = (h : Int) ∧ 0 < h ∧ h ≤ 3 := ⟨(1 + r2).toNat, by omega, by omega, by omega⟩
  rw [rh, rw']
  clear rh rw' h0 h1 h2 h3
  walk_at "W"
  refine wpE_callF T.toGlo (T.at 20 "_law_grid" (by kernel_rfl) rfl) (by kernel_rfl) (by kernel_rfl) (by kernel_rfl) ?_
  walk_at "W"
  refine law_grid_spec T B hh0 hh hw0 hw fun A σ4 hA B => ?_
  have hmulA : ∀ i t {y : Int}, IntMulOk (A i t) y := fun i t y => .of_left (bits_le (k := 6) (Nat.lt_of_le_of_lt (hA.bd i t) (by decide)) (by omega))
  walk_at "W"
  refine wpS_Assign_swap (names := ["goal", "is_planted"]) (fun _ => rfl) (fun _ he => ?_) (by kernel_rfl) ?_
  · cases ‹Env›; cases he; kernel_rfl
  refine wpEs_cons (by kernel_rfl) ?_
  refine wpE_CompP (by kernel_rfl) (fun _ _ => rfl) (compPre_fold (by kernel_rfl) (by rfl) (wpI_value ?_))
  walk_at "W"
  refine it_rngS (a := 0) (fun _ _ => rfl) (by omega) (by omega) ⟨by simp; omega, fun j acc σ' => ∃ f : Nat → Int, acc = vecL f j ∧ (∀ x, (f x).natAbs ≤ 6) ∧ BoxIn σ' a l, ⟨fun _ => 0, rfl, by simp, B⟩, ?_, ?_⟩
  · rintro j y2 acc2 σ2 hy2 hl2 ⟨f, rfl, hf, B⟩
    refine wpE_callF T.toGlo (T.at 19 "_law_whole" (by kernel_rfl) rfl) (by kernel_rfl) (by kernel_rfl) (by kernel_rfl) ?_
    walk_at "W"
    refine wpF_le (law_whole_spec (n := 0) T B fun z σ3 hz B' _ => ⟨fun x => if x = j then z else f x, ?_, fun x => ?_, B'⟩) (by omega)
    · show vecL f j ++ [AV.int z] = (List.range (j + 1)).map fun x => AV.int (if x = j then z else f x)
      rw [List.range_succ, List.map_append]
      congr 1
      · apply List.map_congr_left
        intro x hx
        rw [List.mem_range] at hx
        show _ = AV.int (if x = j then z else f x)
        rw [if_neg (by omega)]
      · simp
    · show (if x = j then z else f x).natAbs ≤ 6
      split
      · exact hz
      · exact hf x
  rintro acc σ5 _ ⟨b0, rfl, hb0, B⟩
  simp only [List.length_map, List.length_range, Nat.sub_zero]
  walk_at "W"
  refine wpE_callF T.toGlo (T.at 17 "_law_take" (by kernel_rfl) rfl) (by kernel_rfl) (by kernel_rfl) (by kernel_rfl) ?_
  walk_at "W"
  refine law_take_spec T B (by omega) fun r3 σ6 _ _ B _ => ?_
  walk_at "W"
  refine ⟨rfl, by simp, ?_⟩
  show wpSs _ _ _ _ _ _ _ _ _ _
  walk_at "W"
  refine wpS_If ?_
  walk_at "W"
  by_cases hr : r3 = 0
  · rw [show (r3 == 0) = true by simp [hr]]
    simp only [if_true]
    refine wpSs_cons ?_
    refine wpS_Assign_comp (fun env he => by cases env; cases he; kernel_rfl) (by kernel_rfl) (by kernel_rfl) (fun _ _ => rfl) (compPre_fold (by kernel_rfl) (by rfl) (wpI_value ?_))
    walk_at "W"
    refine it_rngS (a := 0) (fun _ _ => rfl) (by omega) (by omega) ⟨by simp; omega, fun j acc σ' => ∃ f : Nat → Int, acc = ((List.range j).map fun i => rowAV (colM f) i 1) ∧ (∀ x, (f x).natAbs ≤ 6) ∧ BoxIn σ' a l, ⟨fun _ => 0, rfl, by simp, B⟩, ?_, ?_⟩
    · rintro j y2 acc2 σ2 hy2 hl2 ⟨f, rfl, hf, B⟩
      refine wpE_List (wpEs_cons (by kernel_rfl) ?_)
      refine wpE_callF T.toGlo (T.at 19 "_law_whole" (by kernel_rfl) rfl) (by kernel_rfl) (by kernel_rfl) (by kernel_rfl) ?_
      walk_at "W"
      refine wpF_le (law_whole_spec (n := 0) T B fun z σ3 hz B' _ => ?_) (by omega)
      walk_at "W"
      refine ⟨by simp, fun x => if x = j then z else f x, ?_, fun x => ?_, B'⟩
      · rw [List.range_succ, List.map_append]
        congr 1
        · apply List.map_congr_left
          intro x hx
          rw [List.mem_range] at hx
          show AV.list [.int (f x)] = AV.list [.int (if x = j then z else f x)]
          rw [if_neg (by omega)]
        · show [AV.list [.int z]] = [AV.list [.int (if j = j then z else f j)]]
          rw [if_pos rfl]
      · show (if x = j then z else f x).natAbs ≤ 6
        split
        · exact hz
        · exact hf x
    · rintro acc σ7 _ ⟨p, rfl, hp, B⟩
      simp only [List.length_map, List.length_range, Nat.sub_zero]
      show wpSs _ _ _ _ _ _ _ _ _ _
      refine wpSs_cons ?_
      refine wpS_Assign_comp (fun env he => by cases env; cases he; kernel_rfl) (by kernel_rfl) (by kernel_rfl) (fun _ _ => rfl) (comp_vec h (fun i => rowAV (mulTo A (colM p) wd) i 1) (fun i => .int (mulTo A (colM p) wd i 0)) (by kernel_rfl) (by rfl) (by omega) ?_ (fun i hi => ?_) ?_)
      · refine wpE_callF T.toGlo (T.at 22 "_law_times" (by kernel_rfl) rfl) (by kernel_rfl) (by kernel_rfl) (by kernel_rfl) ?_
        walk_at "W"
        exact wpF_le (times_col (n := 0) T hA hh hw0 hw ⟨rfl, rfl⟩) (by omega)
      · walk_at "W"
        exact ⟨trivial, v_vec (m := 1) (i := 0) (by omega) (by omega) ⟨rfl, rfl⟩⟩
      · show wpSs _ _ _ _ _ _ _ _ _ _
        refine wpSs_nil ?_
        refine wpSs_weak ?_ (rest_spec T hA hh0 hh hw0 hw (b := fun i => mulTo A (colM p) wd i 0) (pl := true) (fun i => ?_) (fun _ => ⟨p, fun i hi => rfl⟩))
        · exact Sub.ofL ⟨rfl, rfl, rfl, rfl, trivial⟩
        · have := mulTo_abs (A := A) (B := colM p) (k := wd) (i := i) (j := 0) (X := 36) (Y := 6) (fun t => hA.bd i t) (fun t => hp t)
          have e : wd * (36 * 6) ≤ 3 * (36 * 6) := Nat.mul_le_mul_right _ hw
          exact Nat.le_trans this (Nat.le_trans e (by decide))
  · rw [show (r3 == 0) = false by simp [hr]]
    simp only [Bool.false_eq_true, if_false]
    refine wpSs_nil ?_
    refine wpSs_weak ?_ (rest_spec T hA hh0 hh hw0 hw (b := b0) (pl := false) (fun i => Nat.le_trans (hb0 i) (by decide)) (fun q => by cases q))
    exact Sub.ofL ⟨rfl, rfl, rfl, rfl, trivial⟩
end

def bltNames : List Str := bltOf.map (·.1)
def freeOk (p : Program) (loose : List Str) : Bool :=
  bltNames.all fun x => !(startupNames.contains x) && !(loose.contains x) && !(((recsOf p).map (·.name)).contains x) && !(((litsOf p).map (·.1)).contains x) && !(((clssOf p loose).map (·.name)).contains x)

theorem lk_mem {α : Type} {x : Str} {v : α} : ∀ {l : List (Str × α)}, l.lookup x = some v → (x, v) ∈ l
  | [], h => by cases h
  | (y, u) :: r, h => by
    rw [List.lookup_cons] at h
    cases q : x == y with
    | true => rw [q] at h; cases h; rw [beq_iff_eq.mp q]; exact List.mem_cons_self ..
    | false => rw [q] at h; exact List.mem_cons_of_mem _ (lk_mem h)
theorem boot_ok : ∀ p ∈ bltOf, bootBuiltins p.1 = some p.2 := by
  intro p hp
  simp only [bltOf, List.mem_cons, List.not_mem_nil, or_false] at hp
  rcases hp with rfl | rfl | rfl | rfl | rfl | rfl | rfl | rfl <;> kernel_rfl
theorem text_of_top {p : Program} {loose : List Str} {mean : ExcName → Option Value} {mg mb : Str → Option Value} {h : Heap} (T : Top p loose mean mg mb h)
    (hf : (recsOf p).map (fun d => (d.name, d.params, d.body, d.scope)) = fnIdx.map fnParts) (hfree : freeOk p loose = true) : Text h mg mb := by
  refine { g := T.g, b := T.b, nolimit := T.nolimit, blt := fun x v hv => ?_, fn := fun k hk => ?_ }
  · have hm := lk_mem hv
    have hx : x ∈ bltNames := List.mem_map_of_mem (f := (·.1)) hm
    have := List.all_eq_true.mp hfree x hx
    simp only [Bool.and_eq_true, Bool.not_eq_true', List.contains_eq_mem, decide_eq_false_iff_not] at this
    obtain ⟨⟨⟨⟨a, b⟩, c⟩, d⟩, e⟩ := this
    refine ⟨T.free x a b c d e, ?_⟩
    have hn : x ≠ ("__name__" : Str) := by
      rintro rfl
      have : (bltOf.lookup ("__name__" : Str)).isSome = false := by kernel_rfl
      rw [hv] at this; cases this
    rw [T.builtins x hn]
    exact boot_ok _ hm
  · have hm : fnParts k ∈ (recsOf p).map (fun d => (d.name, d.params, d.body, d.scope)) := by rw [hf]; exact List.mem_map_of_mem hk
    rw [List.mem_map] at hm
    obtain ⟨d, hd, e⟩ := hm
    obtain ⟨a, o, pm, code, doc, h1, h2, h3, h4⟩ := T.fn d hd
    unfold FnIs fBody fArgs fScope
    rw [← e]
    exact ⟨a, o, pm, code, doc, h1, h2, h3, h4⟩

theorem ints_VRs {κ : Part} : ∀ {items : List Value} {zs : List Int}, IntsAre items zs → VRs κ (zs.map .int) items
  | _, _, .nil => .nil
  | _, _, .cons n t r => .cons (.int n t) (ints_VRs r)

theorem law_call {prog : Program} {w : World} {mg mb : Str → Option Value} {s : Shared} (T : Text s.heap mg mb) {zs : List Int} (hl : zs.length ≤ 1000) {fa L : Addr} {items : List Value} (hmg : mg "law" = some (.ref fa)) (hL : s.heap.IsList L items.toArray) (hI : IntsAre items zs)
    {A : Around} (R : Room 7 A) {Q E : Value → Shared → Prop} (hQ : ∀ h' tk', (∀ b o, s.heap.get? b = some o → h'.get? b = some o) → Q (.bool true) { s with heap := h', toks := tk' }) : wpAny (model prog w) A (call (.ref fa) [.ref L] []) Q E s := by
  obtain ⟨o, e1, e2, m, e3⟩ := hL
  have := law_spec (prog := prog) (w := w) (n := 0) (σ := noStore) T hl fa hmg A (fun a => s.heap.get? a) (fun _ => none) s [.ref L] Q E R ⟨fun a o e => e, fun a o e => e, fun a o (e : none = some o) => (by cases e), fun a o (e : none = some o) => (by cases e), fun a xs (e : none = some xs) => (by cases e)⟩
    (.cons (.wlist e1 e2 e3 (ints_VRs hI)) .nil) (fun κ' v v' σ' h' tk' le H r hv => by
      subst hv
      cases r
      exact hQ h' tk' fun b o e => H.k b o (le b o e))
  exact this

end Mine
open PySem PySem.W PyProof.Rows
set_option maxRecDepth 100000 in
set_option maxHeartbeats 8000000 in
theorem PySem.Challenge.cw_nn0253_01_holds : PySem.Challenge.rw_nn0253_01.Holds := by
  w_on; (refine holds_law (by kernel_rfl) fun said => ?_); o_head Hook.none; (case hw => w_witness2)
  w_strict (
    intro w s₀ s₁ mg mb G Y fa o pm cd doc dV kV ho hd hcd hD hmg hg args vals as hpre hlay hrd hwl hlo
    refine Ground.open G ?_
    intro T B D TE TW
    try (refine guard_noD D (by decide +kernel) ?_; clear D)
    have TX : Mine.Text s₁.heap mg mb := Mine.text_of_top T (by kernel_rfl) (by kernel_rfl)
    wrow_args hpre hlay hrd hwl hlo
    refine Mine.law_call TX ?_ hmg (by assumption) (by assumption) ⟨rfl, by decide, by decide⟩ ?_; rotate_left
    · intro h' tk' hk
      refine GoodW.toG ⟨.inl ⟨_, .bool true, [], rfl, fun _ => rfl, .bool true, ?_, fun _ => ⟨List.nodup_nil, fun a ha => by cases ha⟩⟩, hk, rfl, hg⟩
      first | rfl | kernel_rfl | decide
    · omega)
