import PyProof.Rows.All
import Wide.All
import OpenK.AllK
import Wide.FinOn
import PySem.Challenge.RW_xm0406_01
set_option Elab.async false
set_option linter.all false
section
open PySem PySem.Calls PyProof.Rows
namespace Mine
/-- abstract values -/
inductive V where
  | unb
  | int (i : Int)
  | bool (b : Bool)
  | none
  | raw (v : Value)
  | hdl (a : Addr)
  | li (vs : List V)
  | tup (vs : List V)
abbrev Loc := List (Str × V)
abbrev Sto := List (Addr × List V)
mutual
def Rep (h : Heap) (S : List Addr) : V → Value → Prop
  | .unb, _ => True
  | .int i, v => ∃ t, v = .int i t
  | .bool b, v => v = .bool b
  | .none, v => v = .none
  | .raw r, v => v = r
  | .hdl a, v => v = .ref a
  | .li vs, v => ∃ a vals, v = .ref a ∧ a ∉ S ∧ h.IsList a (List.toArray vals) ∧ RepL h S vs vals
  | .tup vs, v => ∃ a vals, v = .ref a ∧ a ∉ S ∧ IsTup h a (List.toArray vals) ∧ RepL h S vs vals
def RepL (h : Heap) (S : List Addr) : List V → List Value → Prop
  | [], [] => True
  | x :: xs, v :: vs => Rep h S x v ∧ RepL h S xs vs
  | [], _ :: _ => False
  | _ :: _, [] => False
end
theorem RepL.length {h : Heap} {S : List Addr} : ∀ {xs : List V} {vs : List Value}, RepL h S xs vs → xs.length = vs.length
  | [], [], _ => rfl
  | _ :: _, _ :: _, ⟨_, r⟩ => congrArg (· + 1) (RepL.length r)
theorem RepL.get {h : Heap} {S : List Addr} : ∀ {xs : List V} {vs : List Value}, RepL h S xs vs → ∀ {i : Nat} {x : V}, xs[i]? = some x → ∃ v, vs[i]? = some v ∧ Rep h S x v
  | _ :: _, v :: _, ⟨r, _⟩, 0, _, e => ⟨v, rfl, by cases e; exact r⟩
  | _ :: _, _ :: _, ⟨_, r⟩, i + 1, _, e => r.get (i := i) e
theorem RepL.append {h : Heap} {S : List Addr} : ∀ {xs ys : List V} {vs ws : List Value}, RepL h S xs vs → RepL h S ys ws → RepL h S (xs ++ ys) (vs ++ ws)
  | [], _, [], _, _, q => q
  | _ :: _, _, _ :: _, _, ⟨r, r'⟩, q => ⟨r, r'.append q⟩
theorem RepL.drop {h : Heap} {S : List Addr} : ∀ (k : Nat) {xs : List V} {vs : List Value}, RepL h S xs vs → RepL h S (xs.drop k) (vs.drop k)
  | 0, _, _, r => r
  | _ + 1, [], [], r => r
  | k + 1, _ :: _, _ :: _, ⟨_, r⟩ => r.drop k
theorem RepL.take {h : Heap} {S : List Addr} : ∀ (k : Nat) {xs : List V} {vs : List Value}, RepL h S xs vs → RepL h S (xs.take k) (vs.take k)
  | 0, _, _, _ => trivial
  | _ + 1, [], [], r => r
  | k + 1, _ :: _, _ :: _, ⟨q, r⟩ => ⟨q, r.take k⟩
theorem RepL.reverse {h : Heap} {S : List Addr} : ∀ {xs : List V} {vs : List Value}, RepL h S xs vs → RepL h S xs.reverse vs.reverse
  | [], [], _ => trivial
  | x :: xs, v :: vs, ⟨q, r⟩ => by
    rw [List.reverse_cons, List.reverse_cons]
    exact r.reverse.append ⟨q, trivial⟩
theorem RepL.set {h : Heap} {S : List Addr} {x : V} {v : Value} (q : Rep h S x v) : ∀ (k : Nat) {xs : List V} {vs : List Value}, RepL h S xs vs → RepL h S (xs.set k x) (vs.set k v)
  | _, [], [], r => r
  | 0, _ :: _, _ :: _, ⟨_, r⟩ => ⟨q, r⟩
  | k + 1, _ :: _, _ :: _, ⟨q', r⟩ => ⟨q', r.set q k⟩
theorem RepL.replicate {h : Heap} {S : List Addr} {x : V} {v : Value} (q : Rep h S x v) : ∀ (n : Nat), RepL h S (List.replicate n x) (List.replicate n v)
  | 0 => trivial
  | n + 1 => ⟨q, RepL.replicate q n⟩
mutual
theorem Rep.mono {h h' : Heap} {S S' : List Addr} (hp : ∀ b o, b ∉ S → h.get? b = some o → h'.get? b = some o ∧ b ∉ S') :
    ∀ {x : V} {v : Value}, Rep h S x v → Rep h' S' x v
  | .unb, _, _ => by simp only [Rep]
  | .int _, _, r => by simp only [Rep] at r ⊢; exact r
  | .bool _, _, r => by simp only [Rep] at r ⊢; exact r
  | .none, _, r => by simp only [Rep] at r ⊢; exact r
  | .raw _, _, r => by simp only [Rep] at r ⊢; exact r
  | .hdl _, _, r => by simp only [Rep] at r ⊢; exact r
  | .li vs, _, r => by
    simp only [Rep] at r ⊢
    obtain ⟨a, vals, e, ha, ⟨o, ho, q⟩, r'⟩ := r
    have := hp a o ha ho
    exact ⟨a, vals, e, this.2, ⟨o, this.1, q⟩, RepL.mono hp r'⟩
  | .tup vs, _, r => by
    simp only [Rep] at r ⊢
    obtain ⟨a, vals, e, ha, ⟨o, ho, q⟩, r'⟩ := r
    have := hp a o ha ho
    exact ⟨a, vals, e, this.2, ⟨o, this.1, q⟩, RepL.mono hp r'⟩
theorem RepL.mono {h h' : Heap} {S S' : List Addr} (hp : ∀ b o, b ∉ S → h.get? b = some o → h'.get? b = some o ∧ b ∉ S') :
    ∀ {xs : List V} {vs : List Value}, RepL h S xs vs → RepL h' S' xs vs
  | [], [], _ => by simp only [RepL]
  | x :: xs, v :: vs, r => by
    simp only [RepL] at r ⊢
    exact ⟨Rep.mono hp r.1, RepL.mono hp r.2⟩
end
/-- a plain list object -/
def PL (h : Heap) (a : Addr) (items : List Value) : Prop := ∃ k, h.get? a = some { cls := .type "list", dict := none, data := .seq items.toArray k, slots := #[] }
theorem PL.isList {h : Heap} {a : Addr} {items : List Value} (p : PL h a items) : h.IsList a items.toArray := let ⟨k, e⟩ := p; ⟨_, e, rfl, k, rfl⟩
theorem PL.live {h : Heap} {a : Addr} {items : List Value} (p : PL h a items) : ∃ o, h.get? a = some o := let ⟨_, e⟩ := p; ⟨_, e⟩
set_option genInjectivity false in
set_option genSizeOf false in
structure Wd where
  prog : Program
  w : World
  hw : Heap
  mg : Str → Option Value
  mb : Str → Option Value
  g : hw.Ns mainGlobals mg
  b : hw.Ns builtinsNs mb
  nolimit : hw.NoLimit
def Wd.fn (W : Wd) (x : Str) : Value := (W.mg x).getD .none
def Wd.Res (W : Wd) (x : Str) (v : Value) : Prop := W.mg x = some v ∨ (W.mg x = none ∧ W.mb x = some v)
abbrev Wd.M (W : Wd) : Model := model W.prog W.w
set_option genInjectivity false in
set_option genSizeOf false in
structure Cx where
  W : Wd
  A : Around
  env : Env
  locs : List Str
  gn : List Str
  X : List Addr
  room : Nat
  hk : env.scope.kind = .function
  hglob : env.globals = mainGlobals
  hbns : env.builtins = builtinsNs
  hh : A.handled = none
  hlocs : ∀ x ∈ locs, env.kindOf x = some .local
  hnd : locs.Nodup
  hgn : ∀ x ∈ gn, env.kindOf x = some .globalImplicit
  hdbg : ∀ x ∈ locs ++ gn, (x == ("__debug__" : Str)) = false
  hLw : W.hw.get? env.locals = none
  hroom : A.depth + room < recursionLimit
  hunits : A.units + 4 * room + 80 < cLine
abbrev Cx.L (C : Cx) : Addr := C.env.locals
def keysOf (σ : Sto) : List Addr := σ.map (·.1)
def Cx.S (C : Cx) (σ : Sto) (P : List Addr) : List Addr := C.L :: (keysOf σ ++ P)
structure Rel (C : Cx) (P : List Addr) (s : Shared) (ρ : Loc) (σ : Sto) : Prop where
  ns : ∃ m, s.heap.Ns C.L m ∧ ∀ x X, (x, X) ∈ ρ → X = .unb ∨ ∃ v, m x = some v ∧ Rep s.heap (C.S σ P) X v
  keys : ρ.map (·.1) = C.locs
  hw : ∀ b o, C.W.hw.get? b = some o → s.heap.get? b = some o
  own : ∀ a vs, (a, vs) ∈ σ → ∃ vals, PL s.heap a vals ∧ RepL s.heap (C.S σ P) vs vals ∧ (a ∈ P → a ∈ C.X) ∧ a ≠ C.L ∧ C.W.hw.get? a = none
  nd : (keysOf σ).Nodup
  live : ∀ a ∈ P, ∃ o, s.heap.get? a = some o
  LP : C.L ∉ P
  XP : ∀ a ∈ C.X, a ∈ P
structure Fut (C : Cx) (s : Shared) (σ : Sto) (s' : Shared) (σ' : Sto) : Prop where
  shape : ∃ h tk, s' = { s with heap := h, toks := tk }
  pres : ∀ b o, b ≠ C.L → b ∉ keysOf σ → s.heap.get? b = some o → s'.heap.get? b = some o
  fresh : ∀ a ∈ keysOf σ', a ∈ keysOf σ ∨ s.heap.get? a = none
  Lk : ∀ o, s.heap.get? C.L = some o → ∃ o', s'.heap.get? C.L = some o'
theorem Fut.refl (C : Cx) (s : Shared) (σ : Sto) : Fut C s σ s σ := ⟨⟨s.heap, s.toks, rfl⟩, fun _ _ _ _ e => e, fun _ h => .inl h, fun o e => ⟨o, e⟩⟩
theorem Fut.trans {C : Cx} {s s₁ s₂ : Shared} {σ σ₁ σ₂ : Sto} (a : Fut C s σ s₁ σ₁) (b : Fut C s₁ σ₁ s₂ σ₂) : Fut C s σ s₂ σ₂ := by
  obtain ⟨h₁, t₁, e₁⟩ := a.shape
  obtain ⟨h₂, t₂, e₂⟩ := b.shape
  refine ⟨⟨h₂, t₂, by rw [e₂, e₁]⟩, fun x o hL hσ e => ?_, fun x hx => ?_, fun o e => ?_⟩
  · have e1 := a.pres x o hL hσ e
    refine b.pres x o hL (fun hm => ?_) e1
    rcases a.fresh x hm with q | q
    · exact hσ q
    · rw [q] at e; cases e
  · rcases b.fresh x hx with q | q
    · exact a.fresh x q
    · by_cases hm : x ∈ keysOf σ
      · exact .inl hm
      · refine .inr ?_
        cases e : s.heap.get? x with
        | none => rfl
        | some o =>
          by_cases hL : x = C.L
          · subst hL
            obtain ⟨o', e'⟩ := a.Lk o e
            rw [e'] at q; cases q
          · rw [a.pres x o hL hm e] at q; cases q
  · obtain ⟨o', e'⟩ := a.Lk o e
    exact b.Lk o' e'
theorem Fut.rep {C : Cx} {P : List Addr} {s s' : Shared} {σ σ' : Sto} (f : Fut C s σ s' σ') {X : V} {v : Value} (r : Rep s.heap (C.S σ P) X v) : Rep s'.heap (C.S σ' P) X v :=
  r.mono fun b o hb e => by
    have h1 : b ≠ C.L := fun q => hb (by rw [q]; exact .head _)
    have h2 : b ∉ keysOf σ := fun q => hb (.tail _ (List.mem_append_left _ q))
    refine ⟨f.pres b o h1 h2 e, fun q => ?_⟩
    rcases List.mem_cons.mp q with q | q
    · exact h1 q
    · rcases List.mem_append.mp q with q | q
      · rcases f.fresh b q with q | q
        · exact h2 q
        · rw [q] at e; cases e
      · exact hb (.tail _ (List.mem_append_right _ q))
theorem Fut.repL {C : Cx} {P : List Addr} {s s' : Shared} {σ σ' : Sto} (f : Fut C s σ s' σ') {X : List V} {v : List Value} (r : RepL s.heap (C.S σ P) X v) : RepL s'.heap (C.S σ' P) X v :=
  r.mono fun b o hb e => by
    have h1 : b ≠ C.L := fun q => hb (by rw [q]; exact .head _)
    have h2 : b ∉ keysOf σ := fun q => hb (.tail _ (List.mem_append_left _ q))
    refine ⟨f.pres b o h1 h2 e, fun q => ?_⟩
    rcases List.mem_cons.mp q with q | q
    · exact h1 q
    · rcases List.mem_append.mp q with q | q
      · rcases f.fresh b q with q | q
        · exact h2 q
        · rw [q] at e; cases e
      · exact hb (.tail _ (List.mem_append_right _ q))
theorem Rel.Llive {C : Cx} {P : List Addr} {s : Shared} {ρ : Loc} {σ : Sto} (R : Rel C P s ρ σ) : ∃ o, s.heap.get? C.L = some o := by
  obtain ⟨m, ⟨o, _, _, e, _⟩, _⟩ := R.ns
  exact ⟨o, e⟩
/-- the heap grows: nothing that stood is turned -/
theorem grow_rel {C : Cx} {P : List Addr} {s : Shared} {ρ : Loc} {σ : Sto} (R : Rel C P s ρ σ) {h' : Heap} {tk : Nat} (hg : ∀ b o, s.heap.get? b = some o → h'.get? b = some o) :
    Rel C P { s with heap := h', toks := tk } ρ σ ∧ Fut C s σ { s with heap := h', toks := tk } σ := by
  have hm : ∀ {X : V} {v : Value}, Rep s.heap (C.S σ P) X v → Rep h' (C.S σ P) X v := fun r => r.mono fun b o hb e => ⟨hg b o e, hb⟩
  have hmL : ∀ {X : List V} {v : List Value}, RepL s.heap (C.S σ P) X v → RepL h' (C.S σ P) X v := fun r => r.mono fun b o hb e => ⟨hg b o e, hb⟩
  obtain ⟨m, hn, hv⟩ := R.ns
  refine ⟨⟨⟨m, hn.keeps hg, fun x X hx => (hv x X hx).imp id fun ⟨v, e, r⟩ => ⟨v, e, hm r⟩⟩, R.keys, fun b o e => hg b o (R.hw b o e), fun a vs ha => ?_, R.nd, fun a ha => ?_, R.LP, R.XP⟩,
    ⟨⟨h', tk, rfl⟩, fun b o _ _ e => hg b o e, fun a h => .inl h, fun o e => ⟨o, hg _ o e⟩⟩⟩
  · obtain ⟨vals, ⟨k, e⟩, r, q⟩ := R.own a vs ha
    exact ⟨vals, ⟨k, hg _ _ e⟩, hmL r, q⟩
  · obtain ⟨o, e⟩ := R.live a ha
    exact ⟨o, hg a o e⟩
theorem toks_rel {C : Cx} {P : List Addr} {s : Shared} {ρ : Loc} {σ : Sto} (R : Rel C P s ρ σ) {tk : Nat} :
    Rel C P { s with toks := tk } ρ σ ∧ Fut C s σ { s with toks := tk } σ := grow_rel (h' := s.heap) R fun _ _ e => e
/-- a fresh address is in no set -/
theorem fresh_none (h : Heap) : h.get? h.objs.size = none := by
  cases e : h.get? h.objs.size with
  | none => rfl
  | some o => exact absurd (Heap.lt_size e) (Nat.lt_irrefl _)
theorem Rel.notin {C : Cx} {P : List Addr} {s : Shared} {ρ : Loc} {σ : Sto} (R : Rel C P s ρ σ) {a : Addr} (h : s.heap.get? a = none) : a ∉ C.S σ P := fun q => by
  rcases List.mem_cons.mp q with q | q
  · obtain ⟨o, e⟩ := R.Llive
    rw [← q, h] at e; cases e
  · rcases List.mem_append.mp q with q | q
    · obtain ⟨⟨b, vs⟩, hb, rfl⟩ := List.mem_map.mp q
      obtain ⟨_, ⟨_, e⟩, _⟩ := R.own b vs hb
      rw [h] at e; cases e
    · obtain ⟨o, e⟩ := R.live a q
      rw [h] at e; cases e
def Post (C : Cx) (P : List Addr) (s : Shared) (ρ : Loc) (σ : Sto) (K : V → Sto → Prop) : Value → Shared → Prop :=
  fun v s' => ∃ X σ', Rel C P s' ρ σ' ∧ Fut C s σ s' σ' ∧ Rep s'.heap (C.S σ' P) X v ∧ K X σ'
def PostL (C : Cx) (P : List Addr) (s : Shared) (ρ : Loc) (σ : Sto) (K : List V → Sto → Prop) : List Value → Shared → Prop :=
  fun v s' => ∃ X σ', Rel C P s' ρ σ' ∧ Fut C s σ s' σ' ∧ RepL s'.heap (C.S σ' P) X v ∧ K X σ'
def PostB (C : Cx) (P : List Addr) (s : Shared) (ρ : Loc) (σ : Sto) (K : Bool → Sto → Prop) : Bool → Shared → Prop :=
  fun b s' => ∃ σ', Rel C P s' ρ σ' ∧ Fut C s σ s' σ' ∧ K b σ'
def NoE : Value → Shared → Prop := fun _ _ => False
/-- an expression -/
def EE (C : Cx) (e : Expr) (ρ : Loc) (σ : Sto) (K : V → Sto → Prop) : Prop :=
  ∀ P s, Rel C P s ρ σ → wpAny C.W.M C.A (eval e C.env) (Post C P s ρ σ K) NoE s
/-- arguments -/
def EA (C : Cx) (pos : Pos) (es : List Expr) (ρ : Loc) (σ : Sto) (K : List V → Sto → Prop) : Prop :=
  ∀ P s, Rel C P s ρ σ → wpAny C.W.M C.A (spliced (backTo pos (starEach es C.env))) (PostL C P s ρ σ K) NoE s
/-- a test -/
def TT (C : Cx) (e : Expr) (ρ : Loc) (σ : Sto) (K : Bool → Sto → Prop) : Prop :=
  ∀ P s, Rel C P s ρ σ → wpAny C.W.M C.A (isTrue e C.env (eval e C.env)) (PostB C P s ρ σ K) NoE s
/-- an operation on values -/
def OP (C : Cx) (t : Value → Value → Sem Value) (a b : V) (ρ : Loc) (σ : Sto) (K : V → Sto → Prop) : Prop :=
  ∀ P s v u, Rel C P s ρ σ → Rep s.heap (C.S σ P) a v → Rep s.heap (C.S σ P) b u → wpAny C.W.M C.A (t v u) (Post C P s ρ σ K) NoE s
theorem Post.fut {C : Cx} {P : List Addr} {s s₁ : Shared} {ρ : Loc} {σ σ₁ : Sto} {K : V → Sto → Prop} (f : Fut C s σ s₁ σ₁) {v : Value} {s' : Shared} (h : Post C P s₁ ρ σ₁ K v s') : Post C P s ρ σ K v s' :=
  let ⟨X, σ', R, g, r, k⟩ := h; ⟨X, σ', R, f.trans g, r, k⟩
theorem PostB.fut {C : Cx} {P : List Addr} {s s₁ : Shared} {ρ : Loc} {σ σ₁ : Sto} {K : Bool → Sto → Prop} (f : Fut C s σ s₁ σ₁) {v : Bool} {s' : Shared} (h : PostB C P s₁ ρ σ₁ K v s') : PostB C P s ρ σ K v s' :=
  let ⟨σ', R, g, k⟩ := h; ⟨σ', R, f.trans g, k⟩
theorem Post.elim {C : Cx} {P : List Addr} {s : Shared} {ρ : Loc} {σ : Sto} {K : V → Sto → Prop} {v : Value} {s' : Shared} {G : Prop} (h : Post C P s ρ σ K v s') (k : ∀ X σ', Rel C P s' ρ σ' → Fut C s σ s' σ' → Rep s'.heap (C.S σ' P) X v → K X σ' → G) : G :=
  let ⟨X, σ', a, b, c, d⟩ := h; k X σ' a b c d
theorem PostL.elim {C : Cx} {P : List Addr} {s : Shared} {ρ : Loc} {σ : Sto} {K : List V → Sto → Prop} {v : List Value} {s' : Shared} {G : Prop} (h : PostL C P s ρ σ K v s') (k : ∀ X σ', Rel C P s' ρ σ' → Fut C s σ s' σ' → RepL s'.heap (C.S σ' P) X v → K X σ' → G) : G :=
  let ⟨X, σ', a, b, c, d⟩ := h; k X σ' a b c d
/-- chaining -/
theorem wp_fut {C : Cx} {P : List Addr} {s s₁ : Shared} {ρ : Loc} {σ σ₁ : Sto} {K : V → Sto → Prop} {t : Sem Value} (f : Fut C s σ s₁ σ₁) (h : wpAny C.W.M C.A t (Post C P s₁ ρ σ₁ K) NoE s₁) :
    wpAny C.W.M C.A t (Post C P s ρ σ K) NoE s₁ := wpAny_mono h (fun _ _ x => x.fut f) fun _ _ x => x
section
variable {C : Cx} {ρ : Loc} {σ : Sto} {K : V → Sto → Prop}
/-- a value comes back, the tokens move -/
theorem post_toks {P : List Addr} {s : Shared} {X : V} {v : Value} {tk : Nat} (R : Rel C P s ρ σ) (r : Rep s.heap (C.S σ P) X v) (k : K X σ) : Post C P s ρ σ K v { s with toks := tk } :=
  ⟨X, σ, (toks_rel R).1, (toks_rel R).2, r, k⟩
theorem post_same {P : List Addr} {s : Shared} {X : V} {v : Value} (R : Rel C P s ρ σ) (r : Rep s.heap (C.S σ P) X v) (k : K X σ) : Post C P s ρ σ K v s :=
  ⟨X, σ, R, .refl .., r, k⟩
theorem post_grow {P : List Addr} {s : Shared} {X : V} {v : Value} {h' : Heap} {tk : Nat} (R : Rel C P s ρ σ) (hg : ∀ b o, s.heap.get? b = some o → h'.get? b = some o) (r : Rep h' (C.S σ P) X v) (k : K X σ) : Post C P s ρ σ K v { s with heap := h', toks := tk } :=
  ⟨X, σ, (grow_rel R hg).1, (grow_rel R hg).2, r, k⟩
theorem EE_int {i : Int} {k : Nat} {pos : Pos} (h : K (.int i) σ) : EE C (.Constant (.int i) k pos) ρ σ K := fun _ _ R =>
  wpAny_Constant_int (post_toks R (by simp only [Rep]; exact ⟨_, rfl⟩) h)
theorem EE_bool {b : Bool} {k : Nat} {pos : Pos} (h : K (.bool b) σ) : EE C (.Constant (.bool b) k pos) ρ σ K := fun _ _ R =>
  wpAny_Constant_bool (post_same R (by simp only [Rep]) h)
theorem EE_var {x : Str} {pos : Pos} {X : V} (hx : (x, X) ∈ ρ) (hu : X ≠ .unb) (h : K X σ) : EE C (.Name x pos) ρ σ K := fun P s R => by
  obtain ⟨m, hn, hv⟩ := R.ns
  have hl : x ∈ C.locs := by rw [← R.keys]; exact List.mem_map_of_mem hx
  rcases hv x X hx with e | ⟨v, e, r⟩
  · exact absurd e hu
  · exact wpAny_Name (wpAny_loadName_local C.hk (C.hlocs x hl) hn e (post_same R r h)) (C.hdbg x (List.mem_append_left _ hl))
theorem EE_glob {x : Str} {pos : Pos} {v : Value} (hx : x ∈ C.gn) (hr : C.W.Res x v) (h : K (.raw v) σ) : EE C (.Name x pos) ρ σ K := fun P s R => by
  refine Name_function_global C.hk (C.hgn x hx) ?_ (C.hdbg x (List.mem_append_right _ hx))
  have hg : s.heap.Ns C.env.globals C.W.mg := by rw [C.hglob]; exact C.W.g.keeps R.hw
  have hb : s.heap.Ns C.env.builtins C.W.mb := by rw [C.hbns]; exact C.W.b.keeps R.hw
  have q := post_same (K := K) R (X := .raw v) (v := v) (by simp only [Rep]) h
  rcases hr with e | ⟨e, e'⟩
  · exact loadGlobal_global hg e q
  · exact loadGlobal_builtin hg e hb e' q
theorem EE_bin {l r : Expr} {op : Operator} {pos : Pos} (h : EE C l ρ σ fun a σ₁ => EE C r ρ σ₁ fun b σ₂ => OP C (binaryOp op) a b ρ σ₂ K) : EE C (.BinOp l op r pos) ρ σ K := fun P s R => by
  refine wpAny_BinOp (wpAny_mono (h P s R) (fun v s₁ h₁ => ?_) fun _ _ x => x)
  refine Post.elim h₁ fun a σ₁ R₁ f₁ r₁ k₁ => ?_
  refine wpAny_mono (k₁ P s₁ R₁) (fun u s₂ h₂ => ?_) fun _ _ x => x
  refine Post.elim h₂ fun b σ₂ R₂ f₂ r₂ k₂ => ?_
  exact wp_fut (f₁.trans f₂) (k₂ P s₂ v u R₂ (f₂.rep r₁) r₂)
theorem EE_cmp {l r : Expr} {op : CmpOp} {pos : Pos} (h : EE C l ρ σ fun a σ₁ => EE C r ρ σ₁ fun b σ₂ => OP C (compareOp op) a b ρ σ₂ K)
    (hm : behindInMarks op r = false := by with_unfolding_all rfl) : EE C (.Compare l [op] [r] pos) ρ σ K := fun P s R => by
  refine wpAny_Compare1 (wpAny_mono (h P s R) (fun v s₁ h₁ => ?_) fun _ _ x => x) hm
  refine Post.elim h₁ fun a σ₁ R₁ f₁ r₁ k₁ => ?_
  refine wpAny_mono (k₁ P s₁ R₁) (fun u s₂ h₂ => ?_) fun _ _ x => x
  refine Post.elim h₂ fun b σ₂ R₂ f₂ r₂ k₂ => ?_
  exact wp_fut (f₁.trans f₂) (k₂ P s₂ v u R₂ (f₂.rep r₁) r₂)
theorem EE_neg {x : Expr} {pos : Pos} (h : EE C x ρ σ fun a σ₁ => ∃ i, a = .int i ∧ K (.int (-i)) σ₁) : EE C (.UnaryOp .USub x pos) ρ σ K := fun P s R => by
  refine wpAny_UnaryOp (wpAny_mono (h P s R) (fun v s₁ h₁ => ?_) fun _ _ x => x)
  refine Post.elim h₁ fun a σ₁ R₁ f₁ r₁ kk => ?_
  obtain ⟨i, rfl, k₁⟩ := kk
  simp only [Rep] at r₁
  obtain ⟨t, rfl⟩ := r₁
  exact neg_int ((post_toks R₁ (by simp only [Rep]; exact ⟨_, rfl⟩) k₁).fut f₁)
theorem TT_plain {e : Expr} {Kb : Bool → Sto → Prop} (h : EE C e ρ σ fun a σ₁ => ∃ b, a = .bool b ∧ Kb b σ₁)
    (he : PySem.isTrue e C.env (eval e C.env) = (do let v ← eval e C.env; standAt e.pos; holding [v] (truthy v)) := by with_unfolding_all rfl) : TT C e ρ σ Kb := fun P s R => by
  refine wpAny_isTrue_value (wpAny_mono (h P s R) (fun v s₁ h₁ => ?_) fun _ _ x => x) he
  refine Post.elim h₁ fun a σ₁ R₁ f₁ r₁ kk => ?_
  obtain ⟨b, rfl, k₁⟩ := kk
  simp only [Rep] at r₁
  subst r₁
  exact wpAny_truthy_bool ⟨σ₁, R₁, f₁, k₁⟩
theorem TT_cmp {l r : Expr} {op : CmpOp} {pos : Pos} {Kb : Bool → Sto → Prop} (h : EE C l ρ σ fun a σ₁ => EE C r ρ σ₁ fun b σ₂ => OP C (compareOp op) a b ρ σ₂ fun c σ₃ => ∃ d, c = .bool d ∧ Kb d σ₃)
    (hm : behindInMarks op r = false := by with_unfolding_all rfl) : TT C (.Compare l [op] [r] pos) ρ σ Kb := fun P s R => by
  refine wpAny_isTrue_Compare1 (wpAny_mono (h P s R) (fun v s₁ h₁ => ?_) fun _ _ x => x) hm
  refine Post.elim h₁ fun a σ₁ R₁ f₁ r₁ k₁ => ?_
  refine wpAny_mono (k₁ P s₁ R₁) (fun u s₂ h₂ => ?_) fun _ _ x => x
  refine Post.elim h₂ fun b σ₂ R₂ f₂ r₂ k₂ => ?_
  refine wpAny_mono (k₂ P s₂ v u R₂ (f₂.rep r₁) r₂) (fun c s₃ h₃ => ?_) fun _ _ x => x
  refine Post.elim h₃ fun X σ₃ R₃ f₃ r₃ kk => ?_
  obtain ⟨d, rfl, k₃⟩ := kk
  simp only [Rep] at r₃
  subst r₃
  exact wpAny_truthy_bool ⟨σ₃, R₃, (f₁.trans f₂).trans f₃, k₃⟩
theorem TT_not {x : Expr} {pos : Pos} {Kb : Bool → Sto → Prop} (h : TT C x ρ σ fun b σ₁ => Kb (!b) σ₁) : TT C (.UnaryOp .Not x pos) ρ σ Kb := fun P s R =>
  wpAny_isTrue_Not (wpAny_mono (h P s R) (fun b s₁ ⟨σ₁, R₁, f₁, k₁⟩ => ⟨σ₁, R₁, f₁, k₁⟩) fun _ _ x => x)
/-- a conjunction of tests -/
def TAnd (C : Cx) (es : List Expr) (ρ : Loc) (σ : Sto) (K : Bool → Sto → Prop) : Prop :=
  ∀ P s, Rel C P s ρ σ → wpAny C.W.M C.A (allTrue .And es C.env) (PostB C P s ρ σ K) NoE s
def TOr (C : Cx) (es : List Expr) (ρ : Loc) (σ : Sto) (K : Bool → Sto → Prop) : Prop :=
  ∀ P s, Rel C P s ρ σ → wpAny C.W.M C.A (allTrue .Or es C.env) (PostB C P s ρ σ K) NoE s
theorem TT_and {es : List Expr} {pos : Pos} {Kb : Bool → Sto → Prop} (h : TAnd C es ρ σ Kb) : TT C (.BoolOp .And es pos) ρ σ Kb := fun P s R => wpAny_isTrue_BoolOp (h P s R)
theorem TT_or {es : List Expr} {pos : Pos} {Kb : Bool → Sto → Prop} (h : TOr C es ρ σ Kb) : TT C (.BoolOp .Or es pos) ρ σ Kb := fun P s R => wpAny_isTrue_BoolOp (h P s R)
theorem TAnd_nil {Kb : Bool → Sto → Prop} (h : Kb true σ) : TAnd C [] ρ σ Kb := fun _ _ R => wpAny_allTrue_And_nil ⟨σ, R, .refl .., h⟩
theorem TOr_nil {Kb : Bool → Sto → Prop} (h : Kb false σ) : TOr C [] ρ σ Kb := fun _ _ R => wpAny_allTrue_Or_nil ⟨σ, R, .refl .., h⟩
theorem TAnd_cons {e : Expr} {es : List Expr} {Kb : Bool → Sto → Prop} (h : TT C e ρ σ fun b σ₁ => (b = true → TAnd C es ρ σ₁ Kb) ∧ (b = false → Kb false σ₁)) : TAnd C (e :: es) ρ σ Kb := fun P s R => by
  refine wpAny_allTrue_And_cons (wpAny_mono (h P s R) (fun b s₁ h₁ => ?_) fun _ _ x => x)
  obtain ⟨σ₁, R₁, f₁, k₁, k₂⟩ := h₁
  cases b with
  | true => exact wpAny_mono (k₁ rfl P s₁ R₁) (fun _ _ x => x.fut f₁) fun _ _ x => x
  | false => exact ⟨σ₁, R₁, f₁, k₂ rfl⟩
theorem TOr_cons {e : Expr} {es : List Expr} {Kb : Bool → Sto → Prop} (h : TT C e ρ σ fun b σ₁ => (b = false → TOr C es ρ σ₁ Kb) ∧ (b = true → Kb true σ₁)) : TOr C (e :: es) ρ σ Kb := fun P s R => by
  refine wpAny_allTrue_Or_cons (wpAny_mono (h P s R) (fun b s₁ h₁ => ?_) fun _ _ x => x)
  obtain ⟨σ₁, R₁, f₁, k₁, k₂⟩ := h₁
  cases b with
  | false => exact wpAny_mono (k₁ rfl P s₁ R₁) (fun _ _ x => x.fut f₁) fun _ _ x => x
  | true => exact ⟨σ₁, R₁, f₁, k₂ rfl⟩
theorem EE_ifexp {t b o : Expr} {pos : Pos} (h : TT C t ρ σ fun c σ₁ => (c = true → EE C b ρ σ₁ K) ∧ (c = false → EE C o ρ σ₁ K)) : EE C (.IfExp t b o pos) ρ σ K := fun P s R => by
  refine wpAny_IfExp (wpAny_mono (h P s R) (fun c s₁ h₁ => ?_) fun _ _ x => x)
  obtain ⟨σ₁, R₁, f₁, k₁, k₂⟩ := h₁
  cases c with
  | true => exact wp_fut f₁ (k₁ rfl P s₁ R₁)
  | false => exact wp_fut f₁ (k₂ rfl P s₁ R₁)
/-- and, or as values, of bools -/
theorem EE_and2 {x y : Expr} {pos : Pos} (h : EE C x ρ σ fun a σ₁ => ∃ c, a = .bool c ∧ (c = true → EE C y ρ σ₁ K) ∧ (c = false → K (.bool false) σ₁)) : EE C (.BoolOp .And [x, y] pos) ρ σ K := fun P s R => by
  refine wpAny_And2 (wpAny_mono (h P s R) (fun v s₁ h₁ => ?_) fun _ _ x => x)
  refine Post.elim h₁ fun a σ₁ R₁ f₁ r₁ kk => ?_
  obtain ⟨c, rfl, k₁, k₂⟩ := kk
  simp only [Rep] at r₁
  subst r₁
  refine wpAny_truthy_bool ?_
  cases c with
  | true => exact wp_fut f₁ (k₁ rfl P s₁ R₁)
  | false => exact (post_same R₁ (by simp only [Rep]) (k₂ rfl)).fut f₁
theorem EE_not {x : Expr} {pos : Pos} (h : EE C x ρ σ fun a σ₁ => ∃ c, a = .bool c ∧ K (.bool (!c)) σ₁) : EE C (.UnaryOp .Not x pos) ρ σ K := fun P s R => by
  refine wpAny_UnaryOp (wpAny_mono (h P s R) (fun v s₁ h₁ => ?_) fun _ _ x => x)
  refine Post.elim h₁ fun a σ₁ R₁ f₁ r₁ kk => ?_
  obtain ⟨c, rfl, k₁⟩ := kk
  simp only [Rep] at r₁
  subst r₁
  exact not_value (wpAny_truthy_bool ((post_same R₁ (by simp only [Rep]) k₁).fut f₁))
end
section
variable {C : Cx} {ρ : Loc} {σ : Sto} {K : List V → Sto → Prop} {pos : Pos}
theorem EA_nil (h : K [] σ) : EA C pos [] ρ σ K := fun _ _ R => args_nil ⟨[], σ, R, .refl .., by simp only [RepL], h⟩
theorem EA_cons {e : Expr} {es : List Expr} (h : EE C e ρ σ fun a σ₁ => EA C pos es ρ σ₁ fun as σ₂ => K (a :: as) σ₂)
    (he : starEach (e :: es) C.env = (false, eval e C.env) :: starEach es C.env := by with_unfolding_all rfl) : EA C pos (e :: es) ρ σ K := fun P s R => by
  refine args_cons (wpAny_mono (h P s R) (fun v s₁ h₁ => ?_) fun _ _ x => x) he
  refine Post.elim h₁ fun a σ₁ R₁ f₁ r₁ k₁ => ?_
  refine wpAny_mono (k₁ P s₁ R₁) (fun vs s₂ h₂ => ?_) fun _ _ x => x
  refine PostL.elim h₂ fun as σ₂ R₂ f₂ r₂ k₂ => ?_
  exact ⟨a :: as, σ₂, R₂, f₁.trans f₂, by simp only [RepL]; exact ⟨f₂.rep r₁, r₂⟩, k₂⟩
end
end Mine
end
section
open PySem PySem.Calls PyProof.Rows
set_option linter.unusedVariables false
namespace Mine
section
variable {C : Cx} {ρ : Loc} {σ : Sto} {K : V → Sto → Prop} {a b : Int}
theorem intBits_le64 {a : Int} (h : a.natAbs < 2 ^ 63) : Builtin.Int.intBits a ≤ 64 := by
  unfold Builtin.Int.intBits
  split
  · omega
  · rename_i h0
    have h0' : a.natAbs ≠ 0 := by simpa using h0
    have := (Nat.log2_lt h0').mpr h
    omega
theorem rep_int {h : Heap} {S : List Addr} {v : Value} {i : Int} (r : Rep h S (.int i) v) : ∃ t, v = .int i t := by simpa only [Rep] using r
theorem rep_bool {h : Heap} {S : List Addr} {v : Value} {i : Bool} (r : Rep h S (.bool i) v) : v = .bool i := by simpa only [Rep] using r
theorem int_rep {h : Heap} {S : List Addr} {i : Int} {t : Tok} : Rep h S (.int i) (.int i t) := by simp only [Rep]; exact ⟨_, rfl⟩
theorem bool_rep {h : Heap} {S : List Addr} {i : Bool} : Rep h S (.bool i) (.bool i) := by simp only [Rep]
theorem rep_raw {h : Heap} {S : List Addr} {v w : Value} (r : Rep h S (.raw w) v) : v = w := by simpa only [Rep] using r
theorem rep_hdl {h : Heap} {S : List Addr} {v : Value} {a : Addr} (r : Rep h S (.hdl a) v) : v = .ref a := by simpa only [Rep] using r
theorem rep_li {h : Heap} {S : List Addr} {v : Value} {xs : List V} (r : Rep h S (.li xs) v) : ∃ a vals, v = .ref a ∧ a ∉ S ∧ h.IsList a (List.toArray vals) ∧ RepL h S xs vals := by simpa only [Rep] using r
theorem rep_tup {h : Heap} {S : List Addr} {v : Value} {xs : List V} (r : Rep h S (.tup xs) v) : ∃ a vals, v = .ref a ∧ a ∉ S ∧ IsTup h a (List.toArray vals) ∧ RepL h S xs vals := by simpa only [Rep] using r
theorem OP_add (h : K (.int (a + b)) σ) : OP C (binaryOp .Add) (.int a) (.int b) ρ σ K := fun P s v u R ra rb => by
  obtain ⟨t, rfl⟩ := rep_int ra; obtain ⟨t', rfl⟩ := rep_int rb; exact PyProof.Rows.add_int (post_toks R int_rep h)
theorem OP_sub (h : K (.int (a - b)) σ) : OP C (binaryOp .Sub) (.int a) (.int b) ρ σ K := fun P s v u R ra rb => by
  obtain ⟨t, rfl⟩ := rep_int ra; obtain ⟨t', rfl⟩ := rep_int rb; exact PyProof.Rows.sub_int (post_toks R int_rep h)
theorem OP_mul (h : K (.int (a * b)) σ) (hm : a.natAbs < 2 ^ 63) : OP C (binaryOp .Mult) (.int a) (.int b) ρ σ K := fun P s v u R ra rb => by
  obtain ⟨t, rfl⟩ := rep_int ra; obtain ⟨t', rfl⟩ := rep_int rb; exact PyProof.Rows.mul_int (post_toks R int_rep h) (IntMulOk.of_left (intBits_le64 hm))
theorem OP_fdiv (h0 : b ≠ 0) (hb : b.natAbs < 1073741824) (h : K (.int (a.fdiv b)) σ) : OP C (binaryOp .FloorDiv) (.int a) (.int b) ρ σ K := fun P s v u R ra rb => by
  obtain ⟨t, rfl⟩ := rep_int ra; obtain ⟨t', rfl⟩ := rep_int rb; exact PyProof.Rows.floordiv_int h0 (post_toks R int_rep h) (.inl (PyProof.noPylong_small hb))
theorem OP_mod (h0 : b ≠ 0) (h : K (.int (a.fmod b)) σ) : OP C (binaryOp .Mod) (.int a) (.int b) ρ σ K := fun P s v u R ra rb => by
  obtain ⟨t, rfl⟩ := rep_int ra; obtain ⟨t', rfl⟩ := rep_int rb; exact PyProof.Rows.mod_int' h0 (post_toks R int_rep h)
theorem OP_shl (h0 : 0 ≤ b) (h1 : b ≤ 1000000) (ha : a.natAbs < 2 ^ 64) (h : K (.int (a * 2 ^ b.toNat)) σ) : OP C (binaryOp .LShift) (.int a) (.int b) ρ σ K := fun P s v u R ra rb => by
  obtain ⟨t, rfl⟩ := rep_int ra; obtain ⟨t', rfl⟩ := rep_int rb; exact PyProof.Rows.lshift_int_small h0 h1 ha (post_toks R int_rep h)
theorem OP_shr (h0 : 0 ≤ b) (h : K (.int (a.fdiv (2 ^ b.toNat))) σ) : OP C (binaryOp .RShift) (.int a) (.int b) ρ σ K := fun P s v u R ra rb => by
  obtain ⟨t, rfl⟩ := rep_int ra; obtain ⟨t', rfl⟩ := rep_int rb; exact PyProof.Rows.rshift_int h0 (post_toks R int_rep h)
theorem OP_and (h : K (.int (Builtin.bitAnd a b)) σ) : OP C (binaryOp .BitAnd) (.int a) (.int b) ρ σ K := fun P s v u R ra rb => by
  obtain ⟨t, rfl⟩ := rep_int ra; obtain ⟨t', rfl⟩ := rep_int rb; exact PyProof.Rows.and_int (post_toks R int_rep h)
theorem OP_or (h : K (.int (Builtin.bitOr a b)) σ) : OP C (binaryOp .BitOr) (.int a) (.int b) ρ σ K := fun P s v u R ra rb => by
  obtain ⟨t, rfl⟩ := rep_int ra; obtain ⟨t', rfl⟩ := rep_int rb; exact PyProof.Rows.or_int (post_toks R int_rep h)
theorem OP_pow (h0 : 0 ≤ b) (hs : (Builtin.Int.intBits a : Int) * b ≤ 2 ^ 27) (h : K (.int (a ^ b.toNat)) σ) : OP C (binaryOp .Pow) (.int a) (.int b) ρ σ K := fun P s v u R ra rb => by
  obtain ⟨t, rfl⟩ := rep_int ra; obtain ⟨t', rfl⟩ := rep_int rb; exact PyProof.Rows.pow_int h0 hs (post_toks R int_rep h)
theorem OP_lt (h : K (.bool (decide (a < b))) σ) : OP C (compareOp .Lt) (.int a) (.int b) ρ σ K := fun P s v u R ra rb => by
  obtain ⟨t, rfl⟩ := rep_int ra; obtain ⟨t', rfl⟩ := rep_int rb; exact PyProof.Rows.lt_int (post_same R bool_rep h)
theorem OP_le (h : K (.bool (decide (a ≤ b))) σ) : OP C (compareOp .LtE) (.int a) (.int b) ρ σ K := fun P s v u R ra rb => by
  obtain ⟨t, rfl⟩ := rep_int ra; obtain ⟨t', rfl⟩ := rep_int rb; exact PyProof.Rows.le_int (post_same R bool_rep h)
theorem OP_gt (h : K (.bool (decide (b < a))) σ) : OP C (compareOp .Gt) (.int a) (.int b) ρ σ K := fun P s v u R ra rb => by
  obtain ⟨t, rfl⟩ := rep_int ra; obtain ⟨t', rfl⟩ := rep_int rb; exact PyProof.Rows.gt_int (post_same R bool_rep h)
theorem OP_ge (h : K (.bool (decide (b ≤ a))) σ) : OP C (compareOp .GtE) (.int a) (.int b) ρ σ K := fun P s v u R ra rb => by
  obtain ⟨t, rfl⟩ := rep_int ra; obtain ⟨t', rfl⟩ := rep_int rb; exact PyProof.Rows.ge_int (post_same R bool_rep h)
theorem OP_eq (h : K (.bool (a == b)) σ) : OP C (compareOp .Eq) (.int a) (.int b) ρ σ K := fun P s v u R ra rb => by
  obtain ⟨t, rfl⟩ := rep_int ra; obtain ⟨t', rfl⟩ := rep_int rb; exact PyProof.Rows.eq_int (post_same R bool_rep h)
theorem OP_ne (h : K (.bool (a != b)) σ) : OP C (compareOp .NotEq) (.int a) (.int b) ρ σ K := fun P s v u R ra rb => by
  obtain ⟨t, rfl⟩ := rep_int ra; obtain ⟨t', rfl⟩ := rep_int rb; exact PyProof.Rows.ne_int (post_same R bool_rep h)
theorem OP_eqb {a b : Bool} (h : K (.bool (a == b)) σ) : OP C (compareOp .Eq) (.bool a) (.bool b) ρ σ K := fun P s v u R ra rb => by
  cases rep_bool ra; cases rep_bool rb; exact PyProof.Rows.eq_bool (post_same R bool_rep h)
theorem OP_neb {a b : Bool} (h : K (.bool (a != b)) σ) : OP C (compareOp .NotEq) (.bool a) (.bool b) ρ σ K := fun P s v u R ra rb => by
  cases rep_bool ra; cases rep_bool rb; exact PyProof.Rows.ne_bool (post_same R bool_rep h)
end
-- data of a value
mutual
def Dat : V → PyData → Prop
  | .int i, d => d = .int i
  | .bool b, d => d = .bool b
  | .none, d => d = .none
  | .li vs, d => ∃ ds, d = .list ds ∧ DatL vs ds
  | .tup vs, d => ∃ ds, d = .tuple ds ∧ DatL vs ds
  | _, _ => False
def DatL : List V → List PyData → Prop
  | [], [] => True
  | x :: xs, d :: ds => Dat x d ∧ DatL xs ds
  | [], _ :: _ => False
  | _ :: _, [] => False
end
mutual
theorem Rep.reads {h : Heap} {S : List Addr} : ∀ {x : V} {v : Value} {d : PyData}, Rep h S x v → Dat x d → ∃ as, Reads h v d as
  | .int i, v, d, r, e => by simp only [Rep] at r; simp only [Dat] at e; obtain ⟨t, rfl⟩ := r; subst e; exact ⟨_, .int _ _⟩
  | .bool i, v, d, r, e => by simp only [Rep] at r; simp only [Dat] at e; subst r; subst e; exact ⟨_, .bool _⟩
  | .none, v, d, r, e => by simp only [Rep] at r; simp only [Dat] at e; subst r; subst e; exact ⟨_, .none⟩
  | .unb, _, _, _, e => by simp only [Dat] at e
  | .raw _, _, _, _, e => by simp only [Dat] at e
  | .hdl _, _, _, _, e => by simp only [Dat] at e
  | .li vs, v, d, r, e => by
    simp only [Rep] at r; simp only [Dat] at e
    obtain ⟨a, vals, rfl, _, ⟨o, ho, hc, n, hd⟩, r'⟩ := r
    obtain ⟨ds, rfl, e'⟩ := e
    obtain ⟨as, q⟩ := RepL.reads r' e'
    exact ⟨_, .list ho hc hd (by simpa using q)⟩
  | .tup vs, v, d, r, e => by
    simp only [Rep] at r; simp only [Dat] at e
    obtain ⟨a, vals, rfl, _, ⟨o, ho, hc, n, hd⟩, r'⟩ := r
    obtain ⟨ds, rfl, e'⟩ := e
    obtain ⟨as, q⟩ := RepL.reads r' e'
    exact ⟨_, .tuple ho hc hd (by simpa using q)⟩
theorem RepL.reads {h : Heap} {S : List Addr} : ∀ {xs : List V} {vs : List Value} {ds : List PyData}, RepL h S xs vs → DatL xs ds → ∃ as, ReadsAll h vs ds as
  | [], [], [], _, _ => ⟨_, .nil⟩
  | [], [], _ :: _, _, e => by simp only [DatL] at e
  | _ :: _, _ :: _, [], _, e => by simp only [DatL] at e
  | x :: xs, v :: vs, d :: ds, r, e => by
    simp only [RepL] at r; simp only [DatL] at e
    obtain ⟨as, q⟩ := Rep.reads r.1 e.1
    obtain ⟨bs, q'⟩ := RepL.reads r.2 e.2
    exact ⟨_, .cons q q'⟩
end
section
variable {C : Cx} {ρ : Loc} {σ : Sto} {K : V → Sto → Prop}
theorem Cx.u64 (C : Cx) : C.A.units + 64 < cLine := by have := C.hunits; omega
theorem OP_eqd {a b : V} {da db : PyData} (ha : Dat a da) (hb : Dat b db) (sa : SeqAt.shaped da = true) (sb : SeqAt.shaped db = true) (h : K (.bool (da.eqv db)) σ) : OP C (compareOp .Eq) a b ρ σ K := fun P s v u R ra rb => by
  obtain ⟨as, ra⟩ := ra.reads ha; obtain ⟨bs, rb⟩ := rb.reads hb
  exact eq_dataH ra rb sa sb C.u64 (post_same R bool_rep h)
theorem OP_ned {a b : V} {da db : PyData} (ha : Dat a da) (hb : Dat b db) (sa : SeqAt.shaped da = true) (sb : SeqAt.shaped db = true) (h : K (.bool (!da.eqv db)) σ) : OP C (compareOp .NotEq) a b ρ σ K := fun P s v u R ra rb => by
  obtain ⟨as, ra⟩ := ra.reads ha; obtain ⟨bs, rb⟩ := rb.reads hb
  exact ne_dataH ra rb sa sb C.u64 (post_same R bool_rep h)
/-- displays -/
theorem push_keeps (h : Heap) (o : Obj) : ∀ b o', h.get? b = some o' → (h.push o).get? b = some o' := fun _ _ e => Heap.get?_push_of_some _ e
theorem line_small {n : Nat} (h : n ≤ 1000000) : n ≤ sizeLine := Nat.le_trans h (by decide)
theorem EE_tup {elts : List Expr} {k : Nat} {pos : Pos} (h : EA C pos elts ρ σ fun Xs σ₁ => Xs.length ≤ 1000000 ∧ K (.tup Xs) σ₁) : EE C (.Tuple elts k pos) ρ σ K := fun P s R => by
  refine wpAny_Tuple (wpAny_mono (h P s R) (fun vs s₁ h₁ => ?_) fun _ _ x => x)
  refine PostL.elim h₁ fun Xs σ₁ R₁ f₁ r₁ kk => ?_
  obtain ⟨hl, k₁⟩ := kk
  refine ⟨by rw [← r₁.length]; exact line_small hl, (post_grow (tk := s₁.toks) R₁ (push_keeps _ _) ?_ k₁).fut f₁⟩
  simp only [Rep]
  exact ⟨_, _, rfl, R₁.notin (fresh_none _), IsTup.new .., r₁.mono fun b o hb e => ⟨push_keeps _ _ b o e, hb⟩⟩
theorem EE_list {elts : List Expr} {pos : Pos} (h : EA C pos elts ρ σ fun Xs σ₁ => Xs.length ≤ 1000000 ∧ K (.li Xs) σ₁) : EE C (.List elts pos) ρ σ K := fun P s R => by
  refine wpAny_List (wpAny_mono (h P s R) (fun vs s₁ h₁ => ?_) fun _ _ x => x)
  refine PostL.elim h₁ fun Xs σ₁ R₁ f₁ r₁ kk => ?_
  obtain ⟨hl, k₁⟩ := kk
  refine ⟨by rw [← r₁.length]; exact line_small hl, (post_grow (tk := s₁.toks) R₁ (push_keeps _ _) ?_ k₁).fut f₁⟩
  simp only [Rep]
  exact ⟨_, _, rfl, R₁.notin (fresh_none _), ⟨_, Heap.get?_push_size _ rfl, rfl, 0, rfl⟩, r₁.mono fun b o hb e => ⟨push_keeps _ _ b o e, hb⟩⟩
/-- a new list of one's own -/
theorem post_own {P : List Addr} {s : Shared} {Xs : List V} {vals : List Value} {h' : Heap} {tk : Nat} {a : Addr} (R : Rel C P s ρ σ) (hg : ∀ b o, s.heap.get? b = some o → h'.get? b = some o)
    (hn : s.heap.get? a = none) (ha : PL h' a vals) (r : RepL s.heap (C.S σ P) Xs vals) (k : K (.hdl a) ((a, Xs) :: σ)) : Post C P s ρ σ K (.ref a) { s with heap := h', toks := tk } := by
  obtain ⟨m, hns, hv⟩ := R.ns
  have hnS := R.notin hn
  have up : ∀ b o, b ∉ C.S σ P → s.heap.get? b = some o → h'.get? b = some o ∧ b ∉ C.S ((a, Xs) :: σ) P := fun b o hb e => by
    refine ⟨hg b o e, fun q => ?_⟩
    rcases List.mem_cons.mp q with q | q
    · exact hb (q ▸ .head _)
    · rcases List.mem_cons.mp q with q | q
      · rw [q, hn] at e; cases e
      · exact hb (.tail _ q)
  refine ⟨.hdl a, (a, Xs) :: σ, ⟨⟨m, hns.keeps hg, fun x X hx => (hv x X hx).imp id fun ⟨v, e, q⟩ => ⟨v, e, q.mono up⟩⟩, R.keys, fun b o e => hg b o (R.hw b o e), fun b vs hb => ?_, ?_, fun b hb => ?_, R.LP, R.XP⟩,
    ⟨⟨h', tk, rfl⟩, fun b o _ _ e => hg b o e, fun b hb => ?_, fun o e => ⟨o, hg _ o e⟩⟩, by simp only [Rep], k⟩
  · rcases List.mem_cons.mp hb with q | q
    · cases q
      refine ⟨vals, ha, r.mono up, fun q => ?_, fun q => hnS (q ▸ .head _), ?_⟩
      · exact absurd (.tail _ (List.mem_append_right _ q)) hnS
      · cases e : C.W.hw.get? a with
        | none => rfl
        | some o => rw [R.hw a o e] at hn; cases hn
    · obtain ⟨vals', ⟨k', e⟩, r', z⟩ := R.own b vs q
      exact ⟨vals', ⟨k', hg _ _ e⟩, r'.mono up, z⟩
  · refine List.nodup_cons.mpr ⟨fun q => hnS (.tail _ (List.mem_append_left _ q)), R.nd⟩
  · obtain ⟨o, e⟩ := R.live b hb
    exact ⟨o, hg b o e⟩
  · rcases List.mem_cons.mp hb with q | q
    · right; show s.heap.get? b = none; rw [q]; exact hn
    · exact .inl q
theorem Rel.hdl_new {P : List Addr} {s : Shared} {a : Addr} (R : Rel C P s ρ σ) (hn : s.heap.get? a = none) : a ∉ keysOf σ := fun q => R.notin hn (.tail _ (List.mem_append_left _ q))
theorem EE_listH {elts : List Expr} {pos : Pos} (h : EA C pos elts ρ σ fun Xs σ₁ => Xs.length ≤ 1000000 ∧ ∀ a, a ∉ keysOf σ₁ → K (.hdl a) ((a, Xs) :: σ₁)) : EE C (.List elts pos) ρ σ K := fun P s R => by
  refine wpAny_List (wpAny_mono (h P s R) (fun vs s₁ h₁ => ?_) fun _ _ x => x)
  refine PostL.elim h₁ fun Xs σ₁ R₁ f₁ r₁ kk => ?_
  obtain ⟨hl, k₁⟩ := kk
  refine ⟨by rw [← r₁.length]; exact line_small hl, (post_own (tk := s₁.toks) R₁ (push_keeps _ _) (fresh_none _) ⟨_, Heap.get?_push_size _ rfl⟩ r₁ (k₁ _ (R₁.hdl_new (fresh_none _)))).fut f₁⟩
/-- [e] * n -/
theorem mul_one {s : Shared} {A : Around} {E : Value → Shared → Prop} {prog : Program} {w : World} {l : Addr} {x : Int} {u : Tok} {y : Value} {k : Nat} {Q : Value → Shared → Prop}
    (hl : s.heap.get? l = some { cls := .type "list", dict := none, data := .seq #[y] k, slots := #[] }) (hlo : -(2 ^ 63 : Int) ≤ x) (hhi : x ≤ 1000000)
    (h : Q (.ref s.heap.objs.size) { s with heap := s.heap.push { cls := .type "list", data := .seq (List.replicate x.toNat y).toArray } }) :
    wpAny (model prog w) A (binaryOp .Mult (.ref l) (.int x u)) Q E s := by
  have e : ∀ n : Nat, ∀ acc : Array Value, List.foldl (fun x1 x2 => x1 ++ x2) acc (List.replicate n #[y]) = acc ++ (List.replicate n y).toArray := by
    intro n
    induction n with
    | zero => intro acc; simp
    | succ n ih => intro acc; rw [List.replicate_succ, List.foldl_cons, ih, List.replicate_succ]; apply Array.toList_inj.mp; simp
  exact wpAny_binaryOp_repeat_ref (T := "list") (U := "int") (by decide) ⟨_, hl, rfl⟩ (fun s' => typeIs_int s' x u) noFill_list_mul F.fills_int_mul F.slot_int_rmul repeat_list F.slot_int_index.lookup
    (call_meets F.slot_int_rmul (typeIs_int s x u) F.entry_int_rmul (F.args_int_rmul_2 _ _) (int___rmul___int_list x u l #[y] k)
      ⟨hl, rfl, ⟨_, hl, rfl⟩, call_meets F.slot_list_mul ⟨_, hl, rfl⟩ F.entry_list_mul (F.args_list_mul_2 _ _)
        (AutoListH.list___mul___list_int_3 l #[y] k x u (by simp [Builtin.List.listFitsIndex]; omega) (by simp; omega) (by simp [Builtin.List.listTooLong, sizeLine]; omega))
        ⟨hl, by simpa [e] using h⟩⟩)
end
end Mine
end
section
open PySem PySem.Calls PyProof.Rows
set_option linter.unusedVariables false
namespace Mine
section
variable {C : Cx} {ρ : Loc} {σ : Sto} {K : V → Sto → Prop}
/-- what a list, frozen or one's own, holds -/
inductive Holds (σ : Sto) : V → List V → Prop
  | li (vs) : Holds σ (.li vs) vs
  | hdl (a vs) : (a, vs) ∈ σ → Holds σ (.hdl a) vs
theorem Holds.real {P : List Addr} {s : Shared} {X : V} {vs : List V} {v : Value} (h : Holds σ X vs) (R : Rel C P s ρ σ) (r : Rep s.heap (C.S σ P) X v) :
    ∃ a vals, v = .ref a ∧ s.heap.IsList a (List.toArray vals) ∧ RepL s.heap (C.S σ P) vs vals := by
  cases h with
  | li =>
    obtain ⟨a, vals, rfl, _, hl, r'⟩ := rep_li r
    exact ⟨a, vals, rfl, hl, r'⟩
  | hdl a _ hm =>
    obtain ⟨vals, hp, r', _⟩ := R.own a vs hm
    exact ⟨a, vals, rep_hdl r, hp.isList, r'⟩
theorem RepL.at {h : Heap} {S : List Addr} {xs : List V} {vs : List Value} (r : RepL h S xs vs) {i : Nat} {x : V} (e : xs[i]? = some x) : ∃ v, vs[i]? = some v ∧ Rep h S x v := r.get e
def plainIdx : PySem.Expr → Bool
  | .Slice .. => false
  | _ => true
theorem subscripted_plain {e : PySem.Expr} (h : plainIdx e = true) (o i : Value) : subscripted e false o i = operate [o, i] (getItem o i) := by
  cases e <;> first | rfl | cases h
theorem seqIndex_spec {k : Int} {n j : Nat} (h : seqIndex? k n = some j) : (0 ≤ k ∧ k < n ∧ j = k.toNat) ∨ (k < 0 ∧ 0 ≤ k + n ∧ j = (k + n).toNat) := by
  unfold seqIndex? at h
  by_cases h0 : k < 0
  · rw [if_pos h0] at h
    by_cases hc : (decide (0 ≤ k + (n : Int)) && decide (k + (n : Int) < n)) = true
    · rw [if_pos hc] at h
      simp only [Bool.and_eq_true, decide_eq_true_eq] at hc
      exact .inr ⟨h0, hc.1, (Option.some.inj h).symm⟩
    · rw [if_neg hc] at h; cases h
  · rw [if_neg h0] at h
    by_cases hc : (decide (0 ≤ k) && decide (k < n)) = true
    · rw [if_pos hc] at h
      simp only [Bool.and_eq_true, decide_eq_true_eq] at hc
      exact .inl ⟨hc.1, hc.2, (Option.some.inj h).symm⟩
    · rw [if_neg hc] at h; cases h
/-- o[i] by an int -/
theorem EE_idx {value slice : PySem.Expr} {pos : Pos} (hp : plainIdx slice = true) (h : EE C value ρ σ fun O σ₁ => EE C slice ρ σ₁ fun I σ₂ =>
    ∃ k : Int, ∃ vs j x, I = .int k ∧ (Holds σ₂ O vs ∨ O = .tup vs) ∧ vs.length ≤ 1000000 ∧ seqIndex? k vs.length = some j ∧ vs[j]? = some x ∧ K x σ₂) : EE C (.Subscript value slice pos) ρ σ K := fun P s R => by
  refine Subscript_ (wpAny_mono (h P s R) (fun v s₁ h₁ => ?_) fun _ _ x => x)
  refine Post.elim h₁ fun O σ₁ R₁ f₁ r₁ k₁ => ?_
  refine wpAny_mono (k₁ P s₁ R₁) (fun u s₂ h₂ => ?_) fun _ _ x => x
  refine Post.elim h₂ fun I σ₂ R₂ f₂ r₂ kk => ?_
  obtain ⟨k, vs, j, x, rfl, hO, hlen, hj, hx, hk⟩ := kk
  have rO := f₂.rep r₁
  obtain ⟨t, rfl⟩ := rep_int r₂
  have hr : -(1000000 : Int) ≤ k ∧ k < 1000000 := by
    rcases seqIndex_spec hj with q | q <;> omega
  rcases hO with hO | rfl
  · obtain ⟨a, vals, rfl, hl, r'⟩ := hO.real R₂ rO
    obtain ⟨v, hv, rv⟩ := r'.at hx
    have hpost := (post_same R₂ rv hk).fut (f₁.trans f₂)
    have hsz : vs.length = vals.length := r'.length
    rw [hsz] at hj
    by_cases h0 : k < 0
    · exact W.kde_neg hl h0 (by omega) hj hv hpost (subscripted_plain hp _ _)
    · have hj' : j = k.toNat := by
        rcases seqIndex_spec hj with q | q
        · exact q.2.2
        · omega
      subst hj'
      exact tail_any hl.typeIs slot_list_getitem.lookup (wpAny_getItem_list hl (by omega) (by omega) (by simpa using hv) hpost) (subscripted_plain hp _ _)
  · obtain ⟨a, vals, rfl, _, hl, r'⟩ := rep_tup rO
    obtain ⟨v, hv, rv⟩ := r'.at hx
    have hpost := (post_same R₂ rv hk).fut (f₁.trans f₂)
    have hsz : vs.length = vals.length := r'.length
    rw [hsz] at hj
    exact item_tupleT hl (by omega) (by omega) hj hv hpost (subscripted_plain hp _ _)
/-- a part of a slice -/
def EP (C : Cx) (e : Option PySem.Expr) (ρ : Loc) (σ : Sto) (K : Option Int → Sto → Prop) : Prop :=
  match e with
  | none => K none σ
  | some e => EE C e ρ σ fun X σ₁ => ∃ i, X = .int i ∧ K (some i) σ₁
theorem EP.wp {e : Option PySem.Expr} {Kp : Option Int → Sto → Prop} (h : EP C e ρ σ Kp) {P : List Addr} {s : Shared} (R : Rel C P s ρ σ) :
    wpAny C.W.M C.A (evalPart e C.env) (fun v s' => ∃ o σ', Rel C P s' ρ σ' ∧ Fut C s σ s' σ' ∧ IsPart v o ∧ Kp o σ') NoE s := by
  cases e with
  | none => exact evalPart_none_step ⟨none, σ, R, .refl .., .none, h⟩
  | some e =>
    refine evalPart_some_step (wpAny_mono (h P s R) (fun v s₁ h₁ => ?_) fun _ _ x => x)
    refine Post.elim h₁ fun X σ₁ R₁ f₁ r₁ kk => ?_
    obtain ⟨i, rfl, k₁⟩ := kk
    obtain ⟨t, rfl⟩ := rep_int r₁
    exact ⟨some i, σ₁, R₁, f₁, .int _ _, k₁⟩
def cutV (vs : List V) (lo hi : Option Int) : List V := (vs.drop (lo.elim 0 (clipAt vs.length))).take (hi.elim vs.length (clipAt vs.length) - lo.elim 0 (clipAt vs.length))
theorem EE_slice {value : PySem.Expr} {lower upper : Option PySem.Expr} {p pos : Pos} (h : EE C value ρ σ fun O σ₁ => EP C lower ρ σ₁ fun lo σ₂ => EP C upper ρ σ₂ fun hi σ₃ =>
    ∃ vs, Holds σ₃ O vs ∧ vs.length ≤ 1000000 ∧ K (.li (cutV vs lo hi)) σ₃)
    (ht : ∀ o r, letTemporaryGo value o r = pure () := by intro _ _; with_unfolding_all rfl) : EE C (.Subscript value (.Slice lower upper none p) pos) ρ σ K := fun P s R => by
  refine wpAny_Subscript_list_slice (wpAny_mono (h P s R) (fun v s₁ h₁ => ?_) fun _ _ x => x) ht
  refine Post.elim h₁ fun O σ₁ R₁ f₁ r₁ k₁ => ?_
  refine wpAny_mono (k₁.wp R₁) (fun vl s₂ h₂ => ?_) fun _ _ x => x
  obtain ⟨lo, σ₂, R₂, f₂, p₂, k₂⟩ := h₂
  refine wpAny_mono (k₂.wp R₂) (fun vu s₃ h₃ => ?_) fun _ _ x => x
  obtain ⟨hi, σ₃, R₃, f₃, p₃, vs, hO, hlen, hk⟩ := h₃
  obtain ⟨a, vals, rfl, hl, r'⟩ := hO.real R₃ ((f₂.trans f₃).rep r₁)
  have hsz : vs.length = vals.length := r'.length
  refine ⟨a, vals.toArray, lo, hi, rfl, hl, by simpa [← hsz] using line_small hlen, p₂, p₃, ?_⟩
  have hg : ∀ b o, s₃.heap.get? b = some o → ((s₃.heap.push { cls := .type "slice", data := .fields #[vl, vu, .none] }).push { cls := .type "list", data := .seq (slicePick vals.toArray lo hi none) }).get? b = some o := fun b o e => push_keeps _ _ _ _ (push_keeps _ _ _ _ e)
  refine (post_grow (tk := s₃.toks) R₃ hg ?_ hk).fut ((f₁.trans f₂).trans f₃)
  simp only [Rep]
  refine ⟨s₃.heap.objs.size + 1, ((vals.drop (lo.elim 0 (clipAt vs.length))).take (hi.elim vs.length (clipAt vs.length) - lo.elim 0 (clipAt vs.length))), rfl, R₃.notin ?_, ?_, ?_⟩
  · exact Heap.get?_none_of_le (Nat.le_succ _)
  · have e1 : (s₃.heap.push { cls := .type "slice", data := .fields #[vl, vu, .none] }).objs.size = s₃.heap.objs.size + 1 := Heap.size_push _ _
    refine ⟨_, by rw [← e1]; exact Heap.get?_push_size _ rfl, rfl, 0, ?_⟩
    rw [slicePick_plain]
    simp [hsz]
  · exact ((r'.drop _).take _).mono fun b o hb e => ⟨hg b o e, hb⟩
theorem EE_rev {value st : PySem.Expr} {p pos : Pos} (h : EE C value ρ σ fun O σ₁ => EE C st ρ σ₁ fun I σ₂ => I = .int (-1) ∧ ∃ vs, Holds σ₂ O vs ∧ vs.length ≤ 1000000 ∧ K (.li vs.reverse) σ₂) : EE C (.Subscript value (.Slice none none (some st) p) pos) ρ σ K := fun P s R => by
  refine Subscript_ (wpAny_mono (h P s R) (fun v s₁ h₁ => ?_) fun _ _ x => x)
  refine Post.elim h₁ fun O σ₁ R₁ f₁ r₁ k₁ => ?_
  refine wpAny_Slice (evalPart_none_step (evalPart_none_step (evalPart_some_step (wpAny_mono (k₁ P s₁ R₁) (fun vk s₂ h₂ => ?_) fun _ _ x => x))))
  refine Post.elim h₂ fun I σ₂ R₂ f₂ r₂ kk => ?_
  obtain ⟨rfl, vs, hO, hlen, hk⟩ := kk
  obtain ⟨t, rfl⟩ := rep_int r₂
  obtain ⟨a, vals, rfl, hl, r'⟩ := hO.real R₂ (f₂.rep r₁)
  have hsz : vs.length = vals.length := r'.length
  have hg : ∀ b o, s₂.heap.get? b = some o → ((s₂.heap.push { cls := .type "slice", data := .fields #[.none, .none, .int (-1) t] }).push { cls := .type "list", data := .seq (slicePick vals.toArray none none (some (-1))) }).get? b = some o := fun b o e => push_keeps _ _ _ _ (push_keeps _ _ _ _ e)
  refine tail_any (ops := [.ref a, .ref s₂.heap.objs.size]) (Heap.IsList.typeIs (hl.push _)) list_getitem_lookup (wpAny_getItem_list_slice (hl.push _) (Heap.IsSliceOf.new ..) .none .none (.int _ _) (by decide) ?_ (by simpa [← hsz] using line_small hlen)) rfl
  refine (post_grow (tk := s₂.toks) R₂ hg ?_ hk).fut (f₁.trans f₂)
  have e1 : (s₂.heap.push { cls := .type "slice", data := .fields #[.none, .none, .int (-1) t] }).objs.size = s₂.heap.objs.size + 1 := Heap.size_push _ _
  simp only [Rep]
  refine ⟨s₂.heap.objs.size + 1, vals.reverse, by rw [← e1], R₂.notin (Heap.get?_none_of_le (Nat.le_succ _)), ?_, r'.reverse.mono fun b o hb e => ⟨hg b o e, hb⟩⟩
  refine ⟨_, by rw [← e1]; exact Heap.get?_push_size _ rfl, rfl, 0, ?_⟩
  rw [W.krv_pick]
/-- concatenation, one's own -/
theorem OP_catH {a b : V} {xs ys : List V} (ha : Holds σ a xs) (hb : Holds σ b ys) (hlen : xs.length + ys.length ≤ 1000000) (h : ∀ d, d ∉ keysOf σ → K (.hdl d) ((d, xs ++ ys) :: σ)) : OP C (binaryOp .Add) a b ρ σ K := fun P s v u R ra rb => by
  obtain ⟨p, vals, rfl, hl, r⟩ := ha.real R ra
  obtain ⟨q, vals2, rfl, hl2, r2⟩ := hb.real R rb
  obtain ⟨⟨cls, dd, data, sl⟩, ho, hc, n, hd⟩ := id hl
  obtain ⟨⟨cls2, dd2, data2, sl2⟩, ho2, hc2, n2, hd2⟩ := id hl2
  simp only at hc hd hc2 hd2
  subst hc hd hc2 hd2
  have h1 : xs.length = vals.length := r.length
  have h2 : ys.length = vals2.length := r2.length
  refine concat_meets ⟨_, ho, rfl⟩ ⟨_, ho2, rfl⟩ noFill_list_add seq_list_add PySem.F.slot_list_add PySem.F.entry_list_add (PySem.F.args_list_add_2 _ _) (list_addW p q vals.toArray vals2.toArray n n2 dd dd2 sl sl2 (by simp [← h1, ← h2]; exact line_small hlen)) ⟨ho, ho2, ?_⟩
  exact post_own (tk := s.toks) (vals := vals ++ vals2) R (push_keeps _ _) (fresh_none _) ⟨0, by rw [Heap.get?_push_size _ rfl]; simp⟩ (r.append r2) (h _ (R.hdl_new (fresh_none _)))
theorem eval_list1 {e : PySem.Expr} {lp : Pos} {P : List Addr} {s : Shared} {Q : Value → Shared → Prop} (R : Rel C P s ρ σ)
    (h : EE C e ρ σ fun X σ₁ => ∀ s₁ l v, Rel C P s₁ ρ σ₁ → Fut C s σ s₁ σ₁ → Rep s₁.heap (C.S σ₁ P) X v → l ∉ C.S σ₁ P → s₁.heap.get? l = some { cls := .type "list", dict := none, data := .seq #[v] 0, slots := #[] } → Q (.ref l) s₁)
    (he : starEach [e] C.env = [(false, eval e C.env)]) : wpAny C.W.M C.A (eval (.List [e] lp) C.env) Q NoE s := by
  refine wpAny_List (args_cons (wpAny_mono (h P s R) (fun v s₁ h₁ => ?_) fun _ _ x => x) he)
  refine Post.elim h₁ fun X σ₁ R₁ f₁ r₁ k₁ => ?_
  refine args_nil ⟨by show 1 ≤ sizeLine; decide, ?_⟩
  have g := grow_rel (h' := s₁.heap.push { cls := .type "list", data := .seq [v].toArray }) (tk := s₁.toks) R₁ (push_keeps _ _)
  exact k₁ _ _ v g.1 (f₁.trans g.2) (g.2.rep r₁) (R₁.notin (fresh_none _)) (Heap.get?_push_size _ rfl)
/-- [e] * n -/
theorem EE_mulG {e n : PySem.Expr} {lp pos : Pos} (h : EE C e ρ σ fun X σ₁ => EE C n ρ σ₁ fun N σ₂ => ∃ k : Int, N = .int k ∧ -1000000 ≤ k ∧ k ≤ 1000000 ∧ (K (.li (List.replicate k.toNat X)) σ₂ ∨ ∀ d, d ∉ keysOf σ₂ → K (.hdl d) ((d, List.replicate k.toNat X) :: σ₂)))
    (he : starEach [e] C.env = [(false, eval e C.env)] := by with_unfolding_all rfl) : EE C (.BinOp (.List [e] lp) .Mult n pos) ρ σ K := fun P s R => by
  refine wpAny_BinOp (eval_list1 R (fun P' s' R' => wpAny_mono (h P' s' R') (fun v' s₁' h₁' => ?_) fun _ _ x => x) he)
  refine Post.elim h₁' fun X σ₁ R₁ f₁ r₁ k₁ => ?_
  refine ⟨X, σ₁, R₁, f₁, r₁, fun s₁ l v R₁ f₁ r₁ hlS hl => ?_⟩
  refine wpAny_mono (k₁ P s₁ R₁) (fun u s₂ h₂ => ?_) fun _ _ x => x
  refine Post.elim h₂ fun N σ₂ R₂ f₂ r₂ kk => ?_
  obtain ⟨k, rfl, hk1, hk2, hk⟩ := kk
  obtain ⟨t, rfl⟩ := rep_int r₂
  have hl2 := f₂.pres l _ (fun q => hlS (q ▸ .head _)) (fun q => hlS (.tail _ (List.mem_append_left _ q))) hl
  refine mul_one hl2 (by omega) (by omega) ?_
  have rr : RepL s₂.heap (C.S σ₂ P) (List.replicate k.toNat X) (List.replicate k.toNat v) := .replicate (f₂.rep r₁) _
  rcases hk with hk | hk
  · refine (post_grow (tk := s₂.toks) R₂ (push_keeps _ _) ?_ hk).fut (f₁.trans f₂)
    simp only [Rep]
    exact ⟨_, List.replicate k.toNat v, rfl, R₂.notin (fresh_none _), ⟨_, Heap.get?_push_size _ rfl, rfl, 0, rfl⟩, rr.mono fun b o hb e => ⟨push_keeps _ _ b o e, hb⟩⟩
  · exact (post_own (tk := s₂.toks) R₂ (push_keeps _ _) (fresh_none _) ⟨0, Heap.get?_push_size _ rfl⟩ rr (hk _ (R₂.hdl_new (fresh_none _)))).fut (f₁.trans f₂)
theorem EE_mulF {e n : PySem.Expr} {lp pos : Pos} (h : EE C e ρ σ fun X σ₁ => EE C n ρ σ₁ fun N σ₂ => ∃ k : Int, N = .int k ∧ -1000000 ≤ k ∧ k ≤ 1000000 ∧ K (.li (List.replicate k.toNat X)) σ₂)
    (he : starEach [e] C.env = [(false, eval e C.env)] := by with_unfolding_all rfl) : EE C (.BinOp (.List [e] lp) .Mult n pos) ρ σ K :=
  EE_mulG (fun P s R => wpAny_mono (h P s R) (fun _ _ ⟨X, σ₁, R₁, f₁, r₁, k₁⟩ => ⟨X, σ₁, R₁, f₁, r₁, fun P s R => wpAny_mono (k₁ P s R) (fun _ _ ⟨X, σ₁, R₁, f₁, r₁, k, e1, e2, e3, e4⟩ => ⟨X, σ₁, R₁, f₁, r₁, k, e1, e2, e3, .inl e4⟩) fun _ _ x => x⟩) fun _ _ x => x) he
theorem EE_mulH {e n : PySem.Expr} {lp pos : Pos} (h : EE C e ρ σ fun X σ₁ => EE C n ρ σ₁ fun N σ₂ => ∃ k : Int, N = .int k ∧ -1000000 ≤ k ∧ k ≤ 1000000 ∧ ∀ d, d ∉ keysOf σ₂ → K (.hdl d) ((d, List.replicate k.toNat X) :: σ₂))
    (he : starEach [e] C.env = [(false, eval e C.env)] := by with_unfolding_all rfl) : EE C (.BinOp (.List [e] lp) .Mult n pos) ρ σ K :=
  EE_mulG (fun P s R => wpAny_mono (h P s R) (fun _ _ ⟨X, σ₁, R₁, f₁, r₁, k₁⟩ => ⟨X, σ₁, R₁, f₁, r₁, fun P s R => wpAny_mono (k₁ P s R) (fun _ _ ⟨X, σ₁, R₁, f₁, r₁, k, e1, e2, e3, e4⟩ => ⟨X, σ₁, R₁, f₁, r₁, k, e1, e2, e3, .inr e4⟩) fun _ _ x => x⟩) fun _ _ x => x) he
/-- what is written of functions -/
def IsFn (W : Wd) (f : Value) : Prop := ∃ a o fd, f = .ref a ∧ W.hw.get? a = some o ∧ o.data = .func fd
structure Room (A : Around) (n : Nat) : Prop where
  hh : A.handled = none
  d : A.depth + n < recursionLimit
  u : A.units + 4 * n + 80 < cLine
/-- a call that hands back r and turns nothing that stood -/
def CallOk (W : Wd) (n : Nat) (f : Value) (args : List V) (r : V) : Prop :=
  IsFn W f ∧ ∀ (A : Around) (s : Shared) (S : List Addr) (vals : List Value), Room A n → (∀ b o, W.hw.get? b = some o → s.heap.get? b = some o) → (∀ a ∈ S, ∃ o, s.heap.get? a = some o) → RepL s.heap S args vals →
    codeAny W.M A (.call f ⟨vals, []⟩) (fun res s' => ∃ v, res = .ok (.ret v) ∧ (∃ h tk, s' = { s with heap := h, toks := tk }) ∧ (∀ b o, s.heap.get? b = some o → s'.heap.get? b = some o) ∧ Rep s'.heap S r v) s
/-- a call that turns its first argument, a list -/
def CallOkM (W : Wd) (n : Nat) (f : Value) (own : List V) (args : List V) (r : V) (own' : List V) : Prop :=
  IsFn W f ∧ ∀ (A : Around) (s : Shared) (S : List Addr) (a : Addr) (vals0 vals : List Value), Room A n → (∀ b o, W.hw.get? b = some o → s.heap.get? b = some o) → (∀ a ∈ S, ∃ o, s.heap.get? a = some o) → a ∈ S → W.hw.get? a = none →
    PL s.heap a vals0 → RepL s.heap S own vals0 → RepL s.heap S args vals →
    codeAny W.M A (.call f ⟨.ref a :: vals, []⟩) (fun res s' => ∃ v vals', res = .ok (.ret v) ∧ (∃ h tk, s' = { s with heap := h, toks := tk }) ∧ (∀ b o, b ≠ a → s.heap.get? b = some o → s'.heap.get? b = some o) ∧
      PL s'.heap a vals' ∧ RepL s'.heap S own' vals' ∧ Rep s'.heap S r v) s
theorem Cx.toRoom (C : Cx) {n : Nat} (hn : n ≤ C.room) : Room C.A n := ⟨C.hh, by have := C.hroom; omega, by have := C.hunits; omega⟩
theorem Rel.Slive {P : List Addr} {s : Shared} (R : Rel C P s ρ σ) : ∀ a ∈ C.S σ P, ∃ o, s.heap.get? a = some o := fun a ha => by
  cases e : s.heap.get? a with
  | some o => exact ⟨o, rfl⟩
  | none => exact absurd ha (R.notin e)
def CL (C : Cx) (f : Value) (Xs : List V) (σ : Sto) (K : V → Sto → Prop) : Prop := ∃ n r, CallOk C.W n f Xs r ∧ n ≤ C.room ∧ K r σ
theorem CL.mk {f : Value} {Xs : List V} {n : Nat} {r : V} (h : CallOk C.W n f Xs r) (hn : n ≤ C.room) (k : K r σ) : CL C f Xs σ K := ⟨n, r, h, hn, k⟩
/-- a call of a def: the function's name, or a variable that holds it -/
theorem EE_call {func e : PySem.Expr} {es : List PySem.Expr} {pos : Pos} (h : EE C func ρ σ fun F σ₁ => ∃ f, F = .raw f ∧ IsFn C.W f ∧ EA C pos (e :: es) ρ σ₁ fun Xs σ₂ => CL C f Xs σ₂ K)
    (he : starEach (e :: es) C.env = (false, eval e C.env) :: starEach es C.env := by with_unfolding_all rfl)
    (he2 : eval (.Call func (e :: es) [] pos) C.env = (do callWith pos (← eval func C.env) [] (backTo pos (starEach (e :: es) C.env)) (backToKw pos (keywordEach [] C.env))) := by with_unfolding_all rfl) : EE C (.Call func (e :: es) [] pos) ρ σ K := fun P s R => by
  refine Call_ (wpAny_mono (h P s R) (fun v s₁ h₁ => ?_) fun _ _ x => x) he2
  refine Post.elim h₁ fun F σ₁ R₁ f₁ r₁ kk => ?_
  obtain ⟨f, rfl, ⟨a, o, fd, rfl, ho, hd⟩, k₁⟩ := kk
  cases rep_raw r₁
  refine callWith_def hd (wpAny_mono (k₁ P s₁ R₁) (fun vs s₂ h₂ => ?_) fun _ _ x => x) he
  refine PostL.elim h₂ fun Xs σ₂ R₂ f₂ r₂ kk => ?_
  obtain ⟨n, r, hc, hn, k₂⟩ := kk
  refine ⟨R₂.hw _ _ ho, wpAny_call (codeAny_mono (hc.2 C.A s₂ (C.S σ₂ P) vs (C.toRoom hn) R₂.hw R₂.Slive r₂) fun res s₃ h₃ => ?_)⟩
  obtain ⟨v, rfl, ⟨h', tk, rfl⟩, hk, rv⟩ := h₃
  exact (post_grow R₂ hk rv k₂).fut (f₁.trans f₂)
end
end Mine
end
section
open PySem PySem.Calls PyProof.Rows
set_option linter.unusedVariables false
namespace Mine
inductive Upd {α β : Type} (x : α) (v v' : β) : List (α × β) → List (α × β) → Prop
  | here {l} : Upd x v v' ((x, v) :: l) ((x, v') :: l)
  | there {p l l'} : Upd x v v' l l' → Upd x v v' (p :: l) (p :: l')
theorem Upd.keys {α β : Type} {x : α} {v v' : β} {l l' : List (α × β)} (u : Upd x v v' l l') : l'.map (·.1) = l.map (·.1) := by
  induction u with
  | here => rfl
  | there _ ih => simp only [List.map_cons, ih]
theorem Upd.old {α β : Type} {x : α} {v v' : β} {l l' : List (α × β)} (u : Upd x v v' l l') : (x, v) ∈ l := by
  induction u with
  | here => exact .head _
  | there _ ih => exact .tail _ ih
theorem Upd.mem {α β : Type} {x : α} {v v' : β} {l l' : List (α × β)} (u : Upd x v v' l l') (nd : (l.map (·.1)).Nodup) : ∀ y w, (y, w) ∈ l' → (y = x ∧ w = v') ∨ (y ≠ x ∧ (y, w) ∈ l) := by
  induction u with
  | @here l =>
    intro y w h
    rcases List.mem_cons.mp h with h1 | h1
    · cases h1; exact .inl ⟨rfl, rfl⟩
    · refine .inr ⟨fun q => ?_, .tail _ h1⟩
      subst q
      have := List.mem_map_of_mem (f := (·.1)) h1
      exact (List.nodup_cons.mp nd).1 this
  | @there p l l' u ih =>
    intro y w h
    rcases List.mem_cons.mp h with h | h
    · refine .inr ⟨fun q => ?_, h ▸ .head _⟩
      subst q
      have := List.mem_map_of_mem (f := (·.1)) u.old
      exact (List.nodup_cons.mp nd).1 (by rw [← h]; exact this)
    · rcases ih (List.nodup_cons.mp nd).2 y w h with q | q
      · exact .inl q
      · exact .inr ⟨q.1, .tail _ q.2⟩
inductive Fl where
  | nx | bk | ct
  | rt (X : V)
def FlR (h : Heap) (S : List Addr) : Fl → Flow → Prop
  | .nx, f => f = .next
  | .bk, f => f = .brk
  | .ct, f => f = .cont
  | .rt X, f => ∃ v, f = .ret v ∧ Rep h S X v
abbrev QS := Fl → Loc → Sto → Prop
def PostS (C : Cx) (P : List Addr) (s : Shared) (σ : Sto) (Q : QS) : Flow → Shared → Prop :=
  fun f s' => ∃ F ρ' σ', Rel C P s' ρ' σ' ∧ Fut C s σ s' σ' ∧ FlR s'.heap (C.S σ' P) F f ∧ Q F ρ' σ'
theorem PostS.fut {C : Cx} {P : List Addr} {s s₁ : Shared} {σ σ₁ : Sto} {Q : QS} (f : Fut C s σ s₁ σ₁) {v : Flow} {s' : Shared} (h : PostS C P s₁ σ₁ Q v s') : PostS C P s σ Q v s' :=
  let ⟨F, ρ', σ', R, g, r, k⟩ := h; ⟨F, ρ', σ', R, f.trans g, r, k⟩
/-- statements -/
def SS (C : Cx) (b : List Stmt) (ρ : Loc) (σ : Sto) (Q : QS) : Prop := ∀ P s, Rel C P s ρ σ → wpAny C.W.M C.A (execs b C.env) (PostS C P s σ Q) NoE s
def SX (C : Cx) (st : Stmt) (ρ : Loc) (σ : Sto) (Q : QS) : Prop := ∀ P s, Rel C P s ρ σ → wpAny C.W.M C.A (exec st C.env) (PostS C P s σ Q) NoE s
section
variable {C : Cx} {ρ : Loc} {σ : Sto} {Q : QS}
theorem Cx.interactive (C : Cx) : interactive C.env = false := by unfold PySem.interactive; rw [C.hk]; rfl
theorem Cx.blockKind (C : Cx) : C.env.blockKind = .function := by unfold Env.blockKind; rw [C.hk]; rfl
theorem SS_nil (h : Q .nx ρ σ) : SS C [] ρ σ Q := fun P s R => wpAny_execs_nil ⟨.nx, ρ, σ, R, .refl .., rfl, h⟩
def Then (C : Cx) (rest : List Stmt) (Q : QS) : QS
  | .nx, ρ, σ => SS C rest ρ σ Q
  | .bk, ρ, σ => Q .bk ρ σ
  | .ct, ρ, σ => Q .ct ρ σ
  | .rt X, ρ, σ => Q (.rt X) ρ σ
theorem SS_cons {st : Stmt} {rest : List Stmt} (h : SX C st ρ σ (Then C rest Q)) : SS C (st :: rest) ρ σ Q := fun P s R => by
  refine wpAny_execs_cons (wpAny_mono (h P s R) (fun f s₁ h₁ => ?_) fun _ _ x => x)
  obtain ⟨F, ρ₁, σ₁, R₁, f₁, r₁, k₁⟩ := h₁
  cases F with
  | nx => cases r₁; exact wpAny_mono (k₁ P s₁ R₁) (fun _ _ x => x.fut f₁) fun _ _ x => x
  | bk => cases r₁; exact ⟨.bk, ρ₁, σ₁, R₁, f₁, rfl, k₁⟩
  | ct => cases r₁; exact ⟨.ct, ρ₁, σ₁, R₁, f₁, rfl, k₁⟩
  | rt X => obtain ⟨v, rfl, r⟩ := r₁; exact ⟨.rt X, ρ₁, σ₁, R₁, f₁, ⟨v, rfl, r⟩, k₁⟩
/-- a name is stored -/
theorem store_wp {P : List Addr} {s : Shared} {x : Str} {X old : V} {v : Value} {ρ' : Loc} {Q' : Unit → Shared → Prop} (R : Rel C P s ρ σ) (u : Upd x old X ρ ρ') (r : Rep s.heap (C.S σ P) X v)
    (h : ∀ s', Rel C P s' ρ' σ → Fut C s σ s' σ → Q' () s') : wpAny C.W.M C.A (storeName C.env x v) Q' NoE s := by
  obtain ⟨m, hn, hv⟩ := R.ns
  have hl : x ∈ C.locs := by rw [← R.keys]; exact List.mem_map_of_mem (f := (·.1)) u.old
  have hp : (C.env.scope.kind == .class || (C.env.scope.kind == .module && C.env.locals != C.env.globals)) = false := by rw [C.hk]; rfl
  refine wpAny_storeName_local (C.hlocs x hl) hn (fun h' hn' hs => ?_) hp
  have up : ∀ b o, b ∉ C.S σ P → s.heap.get? b = some o → h'.get? b = some o ∧ b ∉ C.S σ P := fun b o hb e => ⟨(hs.2 b fun q => hb (q ▸ .head _)).trans e, hb⟩
  have ne : ∀ b o, b ≠ C.L → s.heap.get? b = some o → h'.get? b = some o := fun b o hb e => (hs.2 b hb).trans e
  refine h _ ⟨⟨_, hn', fun y Y hy => ?_⟩, u.keys.trans R.keys, fun b o e => ne b o (fun q => ?_) (R.hw b o e), fun a vs ha => ?_, R.nd, fun a ha => ?_, R.LP, R.XP⟩ ⟨⟨h', _, rfl⟩, fun b o hb _ e => ne b o hb e, fun a ha => .inl ha, fun o e => ?_⟩
  · rcases u.mem (by rw [R.keys]; exact C.hnd) y Y hy with ⟨rfl, rfl⟩ | ⟨hne, hm⟩
    · exact .inr ⟨v, by simp, r.mono up⟩
    · refine (hv y Y hm).imp id fun ⟨w, e, q⟩ => ⟨w, by simp [hne, e], q.mono up⟩
  · rw [q, C.hLw] at e; cases e
  · obtain ⟨vals, ⟨k, e⟩, r', z⟩ := R.own a vs ha
    exact ⟨vals, ⟨k, ne _ _ z.2.1 e⟩, r'.mono up, z⟩
  · obtain ⟨o, e⟩ := R.live a ha
    exact ⟨o, ne a o (fun q => R.LP (q ▸ ha)) e⟩
  · obtain ⟨o', _, _, e', _⟩ := hn'; exact ⟨o', e'⟩
/-- x = e -/
theorem SS_assign {x : Str} {p pos : Pos} {value : PySem.Expr} {rest : List Stmt} (h : EE C value ρ σ fun X σ₁ => ∃ old ρ', Upd x old X ρ ρ' ∧ SS C rest ρ' σ₁ Q)
    (hs : swapsWith value (some (.Name x p)) pos.line C.env = pure false := by with_unfolding_all rfl) : SS C (.Assign [.Name x p] value pos :: rest) ρ σ Q := fun P s R => by
  refine wpAny_execs_cons (wpAny_Assign_Name (wpAny_mono (h P s R) (fun v s₁ h₁ => ?_) fun _ _ x => x) hs)
  refine Post.elim h₁ fun X σ₁ R₁ f₁ r₁ kk => ?_
  obtain ⟨old, ρ', u, k₁⟩ := kk
  exact store_wp R₁ u r₁ fun s₂ R₂ f₂ => wpAny_mono (k₁ P s₂ R₂) (fun _ _ x => x.fut (f₁.trans f₂)) fun _ _ x => x
/-- x op= e -/
theorem SS_aug {x : Str} {X : V} {op : Operator} {p pos : Pos} {value : PySem.Expr} {rest : List Stmt} (hx : (x, X) ∈ ρ) (hu : X ≠ .unb)
    (h : EE C value ρ σ fun Y σ₁ => OP C (inplaceOp op) X Y ρ σ₁ fun Z σ₂ => ∃ old ρ', Upd x old Z ρ ρ' ∧ SS C rest ρ' σ₂ Q) : SS C (.AugAssign (.Name x p) op value pos :: rest) ρ σ Q := fun P s R => by
  obtain ⟨m, hn, hv⟩ := R.ns
  have hl : x ∈ C.locs := by rw [← R.keys]; exact List.mem_map_of_mem (f := (·.1)) hx
  rcases hv x X hx with e | ⟨v, e, r⟩
  · exact absurd e hu
  refine wpAny_execs_cons (wpAny_AugAssign_Name (wpAny_loadName_local C.hk (C.hlocs x hl) hn e (wpAny_mono (h P s R) (fun u s₁ h₁ => ?_) fun _ _ x => x)))
  refine Post.elim h₁ fun Y σ₁ R₁ f₁ r₁ k₁ => ?_
  refine wpAny_mono (k₁ P s₁ v u R₁ (f₁.rep r) r₁) (fun z s₂ h₂ => ?_) fun _ _ x => x
  refine Post.elim h₂ fun Z σ₂ R₂ f₂ r₂ kk => ?_
  obtain ⟨old, ρ', u, k₂⟩ := kk
  exact store_wp R₂ u r₂ fun s₃ R₃ f₃ => wpAny_mono (k₂ P s₃ R₃) (fun _ _ x => x.fut ((f₁.trans f₂).trans f₃)) fun _ _ x => x
/-- several names, in order -/
inductive UpdAll : List Str → List V → Loc → Loc → Prop
  | nil {ρ : Loc} : UpdAll [] [] ρ ρ
  | cons {x : Str} {X old : V} {xs : List Str} {Xs : List V} {ρ ρ₁ ρ₂ : Loc} : Upd x old X ρ ρ₁ → UpdAll xs Xs ρ₁ ρ₂ → UpdAll (x :: xs) (X :: Xs) ρ ρ₂
theorem UpdAll.length {xs : List Str} {Xs : List V} {ρ ρ' : Loc} (u : UpdAll xs Xs ρ ρ') : xs.length = Xs.length := by
  induction u with
  | nil => rfl
  | cons _ _ ih => simp [ih]
theorem storeAll_wp {P : List Addr} {xs : List Str} {Xs : List V} {ρ₀ ρ' : Loc} (u : UpdAll xs Xs ρ₀ ρ') : ∀ {s : Shared} {vs : List Value} {ts : List (Value → Sem Unit)} {Q' : Unit → Shared → Prop}, Rel C P s ρ₀ σ → RepL s.heap (C.S σ P) Xs vs →
    ts.length = xs.length → (∀ (i : Nat) (x : Str) (t : Value → Sem Unit), xs[i]? = some x → ts[i]? = some t → ∀ (v : Value) (s : Shared) (Q : Unit → Shared → Prop), wpAny C.W.M C.A (storeName C.env x v) Q NoE s → wpAny C.W.M C.A (t v) Q NoE s) → (∀ s', Rel C P s' ρ' σ → Fut C s σ s' σ → Q' () s') →
    wpAny C.W.M C.A (assignInOrder ts vs) Q' NoE s := by
  induction u with
  | nil =>
    intro s vs ts Q' R r hl ht h
    cases ts with
    | nil => cases vs <;> exact wpAny_pure (h s R (.refl ..))
    | cons => cases hl
  | @cons x X old xs Xs ρ ρ₁ ρ₂ u₁ u₂ ih =>
    intro s vs ts Q' R r hl ht h
    cases ts with
    | nil => cases hl
    | cons t ts =>
      cases vs with
      | nil => simp only [RepL] at r
      | cons v vs =>
        simp only [RepL] at r
        refine wpAny_bind (wpAny_holding (ht 0 x t (by rfl) (by rfl) v s _ (store_wp R u₁ r.1 fun s₁ R₁ f₁ => ?_)))
        exact ih R₁ (f₁.repL r.2) (Nat.succ.inj hl) (fun i x t hx ht' => ht (i + 1) x t hx ht') fun s₂ R₂ f₂ => h s₂ R₂ (f₁.trans f₂)
theorem bind_store {x : Str} {v : Value} {s : Shared} {Q' : Unit → Shared → Prop} (h : wpAny C.W.M C.A (storeName C.env x v) Q' NoE s) : wpAny C.W.M C.A (bindName C.env x v) Q' NoE s := wpAny_bindName h
/-- a, b = e (by the swapped road) -/
theorem SS_unpackS {elts : List PySem.Expr} {k : Nat} {tpos pos : Pos} {value : PySem.Expr} {rest : List Stmt} {names : List Str}
    (h : EE C value ρ σ fun X σ₁ => ∃ Xs, X = .tup Xs ∧ ∃ ρ', UpdAll names.reverse Xs.reverse ρ ρ' ∧ SS C rest ρ' σ₁ Q)
    (hw : swappedStores [.Tuple elts k tpos] value C.env = pure (some names))
    (hs : swapsWithSole [.Tuple elts k tpos] value pos.line C.env = pure false := by with_unfolding_all rfl) : SS C (.Assign [.Tuple elts k tpos] value pos :: rest) ρ σ Q := fun P s R => by
  refine wpAny_execs_cons (Assign_Tuple_swapped (names := names) (wpAny_mono (h P s R) (fun v s₁ h₁ => ?_) fun _ _ x => x) hs hw)
  refine Post.elim h₁ fun X σ₁ R₁ f₁ r₁ kk => ?_
  obtain ⟨Xs, rfl, ρ', u, k₁⟩ := kk
  obtain ⟨a, vals, rfl, _, ht, r'⟩ := rep_tup r₁
  have hl : names.length = vals.length := by have := u.length; simp only [List.length_reverse] at this; rw [this, r'.length]
  have := unpackItems_tuple (prog := C.W.prog) (w := C.W.w) (A := C.A) (E := NoE) (s := s₁) (t := a) (items := vals.toArray) C.hh ht (Q := fun items s₂ => wpAny C.W.M C.A (assignInOrder (names.reverse.map fun n => bindName C.env n) items.reverse) (fun _ s₃ => wpAny C.W.M C.A (execs rest C.env) (PostS C P s σ Q) NoE s₃) NoE s₂) fun h' he => by
    have hg : ∀ b o, s₁.heap.get? b = some o → h'.get? b = some o := fun b o e => he b o (Nat.ne_of_lt (Heap.lt_size e)) e
    have g := grow_rel (tk := s₁.toks) R₁ hg
    refine storeAll_wp u g.1 (g.2.repL r'.reverse) (by simp) (fun i x t hx ht v s Q hq => ?_) fun s₃ R₃ f₃ => wpAny_mono (k₁ P s₃ R₃) (fun _ _ x => x.fut ((f₁.trans g.2).trans f₃)) fun _ _ x => x
    rw [List.getElem?_map, hx] at ht
    cases ht
    exact bind_store hq
  rw [hl]
  simpa using this
/-- a, b, .. = e (plain) -/
theorem SS_unpack {elts : List PySem.Expr} {k : Nat} {tpos pos : Pos} {value : PySem.Expr} {rest : List Stmt} {nps : List (Str × Pos)}
    (h : EE C value ρ σ fun X σ₁ => ∃ Xs, X = .tup Xs ∧ ∃ ρ', UpdAll (nps.map (·.1)) Xs ρ ρ' ∧ SS C rest ρ' σ₁ Q)
    (he : elts = nps.map fun p => .Name p.1 p.2)
    (hw : swappedStores [.Tuple elts k tpos] value C.env = pure none)
    (hs : swapsWithSole [.Tuple elts k tpos] value pos.line C.env = pure false := by with_unfolding_all rfl) : SS C (.Assign [.Tuple elts k tpos] value pos :: rest) ρ σ Q := fun P s R => by
  refine wpAny_execs_cons (Assign_Tuple (wpAny_mono (h P s R) (fun v s₁ h₁ => ?_) fun _ _ x => x) hs hw)
  refine Post.elim h₁ fun X σ₁ R₁ f₁ r₁ kk => ?_
  obtain ⟨Xs, rfl, ρ', u, k₁⟩ := kk
  obtain ⟨a, vals, rfl, _, ht, r'⟩ := rep_tup r₁
  have hl : nps.length = vals.length := by have := u.length; simp only [List.length_map] at this; rw [this, r'.length]
  have ea : ∀ l : List (Str × Pos), assignEach (l.map fun p => PySem.Expr.Name p.1 p.2) C.env = l.map fun p => (false, assign (.Name p.1 p.2) C.env) := by
    intro l
    induction l with
    | nil => rfl
    | cons p l ih => rw [List.map_cons, List.map_cons, ← ih]; rfl
  subst he
  refine assign_Tuple_tuple C.hh ht (by rw [ea]; simp [hl]) (by rw [ea, List.findIdx?_eq_none_iff]; simp) fun h' hx => ?_
  rw [ea]
  have hg : ∀ b o, s₁.heap.get? b = some o → h'.get? b = some o := fun b o e => hx b o (Nat.ne_of_lt (Heap.lt_size e)) e
  have g := grow_rel (tk := s₁.toks) R₁ hg
  refine storeAll_wp (vs := vals) u g.1 (g.2.repL r') (by simp) (fun i x t hx ht v s Q hq => ?_) fun s₃ R₃ f₃ => wpAny_mono (k₁ P s₃ R₃) (fun _ _ x => x.fut ((f₁.trans g.2).trans f₃)) fun _ _ x => x
  simp only [List.getElem?_map, List.map_map] at hx ht
  cases hn : nps[i]? with
  | none => rw [hn] at hx; cases hx
  | some p => rw [hn] at hx ht; cases hx; cases ht; exact PyProof.Rows.assign_Name hq
theorem SS_if {t : PySem.Expr} {b o : List Stmt} {pos : Pos} {rest : List Stmt} (h : TT C t ρ σ fun c σ₁ => (c = true → SS C b ρ σ₁ (Then C rest Q)) ∧ (c = false → SS C o ρ σ₁ (Then C rest Q))) : SS C (.If t b o pos :: rest) ρ σ Q :=
  SS_cons fun P s R => by
    refine wpAny_If (wpAny_mono (h P s R) (fun c s₁ h₁ => ?_) fun _ _ x => x)
    obtain ⟨σ₁, R₁, f₁, k₁, k₂⟩ := h₁
    cases c with
    | true => exact wpAny_mono (k₁ rfl P s₁ R₁) (fun _ _ x => x.fut f₁) fun _ _ x => x
    | false => exact wpAny_mono (k₂ rfl P s₁ R₁) (fun _ _ x => x.fut f₁) fun _ _ x => x
theorem SS_ret {e : PySem.Expr} {pos : Pos} {rest : List Stmt} (h : EE C e ρ σ fun X σ₁ => Q (.rt X) ρ σ₁) : SS C (.Return (some e) pos :: rest) ρ σ Q := SS_cons fun P s R => by
  refine wpAny_Return_some (wpAny_mono (h P s R) (fun v s₁ h₁ => ?_) fun _ _ x => x)
  refine Post.elim h₁ fun X σ₁ R₁ f₁ r₁ k₁ => ?_
  exact ⟨.rt X, ρ, σ₁, R₁, f₁, ⟨v, rfl, r₁⟩, k₁⟩
theorem SS_break {pos : Pos} {rest : List Stmt} (h : Q .bk ρ σ) : SS C (.Break pos :: rest) ρ σ Q := SS_cons fun P s R => wpAny_Break ⟨.bk, ρ, σ, R, .refl .., rfl, h⟩
/-- a list of one's own is turned -/
theorem mut_rel {P : List Addr} {s : Shared} {a : Addr} {vs vs' : List V} {σ' : Sto} {vals' : List Value} {h' : Heap} {tk : Nat} (R : Rel C P s ρ σ) (u : Upd a vs vs' σ σ') (hs : ∀ b, b ≠ a → h'.get? b = s.heap.get? b)
    (hp : PL h' a vals') (r : RepL s.heap (C.S σ P) vs' vals') : Rel C P { s with heap := h', toks := tk } ρ σ' ∧ Fut C s σ { s with heap := h', toks := tk } σ' := by
  have ka : a ∈ keysOf σ := List.mem_map_of_mem (f := (·.1)) u.old
  have ek : keysOf σ' = keysOf σ := u.keys
  have eS : C.S σ' P = C.S σ P := by unfold Cx.S; rw [ek]
  obtain ⟨vals, _, _, z⟩ := R.own a vs u.old
  have up : ∀ b o, b ∉ C.S σ P → s.heap.get? b = some o → h'.get? b = some o ∧ b ∉ C.S σ' P := fun b o hb e => ⟨(hs b fun q => hb (q ▸ .tail _ (List.mem_append_left _ ka))).trans e, by rw [eS]; exact hb⟩
  obtain ⟨m, hn, hv⟩ := R.ns
  refine ⟨⟨⟨m, hn.at' fun o e => (hs _ (Ne.symm z.2.1)).trans e, fun x X hx => (hv x X hx).imp id fun ⟨v, e, q⟩ => ⟨v, e, q.mono up⟩⟩, R.keys, fun b o e => (hs b fun q => ?_).trans (R.hw b o e), fun b ws hb => ?_, by rw [ek]; exact R.nd, fun b hb => ?_, R.LP, R.XP⟩,
    ⟨⟨h', tk, rfl⟩, fun b o _ hb e => (hs b fun q => hb (q ▸ ka)).trans e, fun b hb => .inl (ek ▸ hb), fun o e => ⟨o, (hs _ (Ne.symm z.2.1)).trans e⟩⟩⟩
  · rw [q, z.2.2] at e; cases e
  · rcases u.mem R.nd b ws hb with ⟨rfl, rfl⟩ | ⟨hne, hm⟩
    · exact ⟨vals', hp, r.mono up, z⟩
    · obtain ⟨vals2, ⟨k, e⟩, r2, z2⟩ := R.own b ws hm
      exact ⟨vals2, ⟨k, (hs b hne).trans e⟩, r2.mono up, z2⟩
  · by_cases q : b = a
    · obtain ⟨k, e⟩ := hp; exact ⟨_, q ▸ e⟩
    · obtain ⟨o, e⟩ := R.live b hb; exact ⟨o, (hs b q).trans e⟩
theorem SS_append {x : Str} {a : Addr} {e : PySem.Expr} {p ap cp pos : Pos} {rest : List Stmt} (hx : (x, .hdl a) ∈ ρ)
    (h : EE C e ρ σ fun X σ₁ => ∃ vs σ₂, Upd a vs (vs ++ [X]) σ₁ σ₂ ∧ vs.length ≤ 1000000 ∧ SS C rest ρ σ₂ Q) (ha : a ∈ keysOf σ)
    (he : starEach [e] C.env = [(false, eval e C.env)] := by with_unfolding_all rfl)
    (hmc : ∃ pl, eval (.Call (.Attribute (.Name x p) "append" ap) [e] [] cp) C.env = (do
      let ov ← eval (.Name x p) C.env
      standAt ap.atName
      let (f, first) ← holding [ov] (getMethod ov "append" pl)
      callWith cp f first (backTo cp (starEach [e] C.env)) []) := by with_unfolding_all exact ⟨_, rfl⟩)
    (hs : swapsWith (.Call (.Attribute (.Name x p) "append" ap) [e] [] cp) none pos.line C.env = pure false := by with_unfolding_all rfl) :
    SS C (.Expr (.Call (.Attribute (.Name x p) "append" ap) [e] [] cp) pos :: rest) ρ σ Q := fun P s R => by
  obtain ⟨pl, hmc⟩ := hmc
  refine wpAny_execs_cons (wpAny_Expr_any (MethodCall_ (pl := pl) ?_ hmc) C.interactive hs)
  obtain ⟨⟨a', vs₀⟩, hm, rfl⟩ := List.mem_map.mp ha
  have hE : EE C (.Name x p) ρ σ fun X σ₁ => X = .hdl a' ∧ σ₁ = σ := EE_var hx (by intro q; cases q) ⟨rfl, rfl⟩
  refine wpAny_mono (hE P s R) (fun v s₁ h₁ => ?_) fun _ _ x => x
  refine Post.elim h₁ fun X σ₁ R₁ f₁ r₁ kk => ?_
  obtain ⟨rfl, rfl⟩ := kk
  cases rep_hdl r₁
  obtain ⟨vals, ⟨k, ho⟩, _⟩ := R₁.own _ _ hm
  refine getMethod_list_append ho rfl rfl (PyProof.Rows.callWith_method1 (wpAny_mono (args_cons (Q := fun vs s₂ => ∃ v, vs = [v] ∧ Post C P s₁ ρ _ _ v s₂) (wpAny_mono (h P s₁ R₁) (fun v s₂ h₂ => args_nil ⟨v, rfl, h₂⟩) fun _ _ x => x) he) (fun vs s₂ h₂ => ?_) fun _ _ x => x) he)
  obtain ⟨v, rfl, X, σ₂, R₂, f₂, r₂, vs', σ₃, u, hl, k₂⟩ := h₂
  obtain ⟨vals', ⟨k', ho'⟩, r', _⟩ := R₂.own _ _ u.old
  refine append_at ho' (fun h' hsb hg' => ?_) (by simpa [← r'.length] using line_small hl)
  have g := mut_rel (h' := h') (tk := s₂.toks) R₂ u hsb.2 ⟨k' + 1, by simpa using hg'⟩ (r'.append (by simp only [RepL]; exact ⟨r₂, trivial⟩))
  exact wpAny_mono (k₂ P _ g.1) (fun _ _ x => x.fut ((f₁.trans f₂).trans g.2)) fun _ _ x => x
end
end Mine
end
section
open PySem PySem.Calls PyProof.Rows
set_option linter.unusedVariables false
namespace Mine
section
variable {C : Cx} {ρ : Loc} {σ : Sto} {Q : QS} {K : V → Sto → Prop}
/-- x[i] = e, x one's own -/
theorem SS_setitem {x : Str} {a : Addr} {i value : PySem.Expr} {p sp pos : Pos} {rest : List Stmt} (hx : (x, .hdl a) ∈ ρ)
    (h : EE C value ρ σ fun X σ₁ => EE C i ρ σ₁ fun I σ₂ => ∃ k : Int, ∃ vs σ₃, I = .int k ∧ Upd a vs (vs.set k.toNat X) σ₂ σ₃ ∧ 0 ≤ k ∧ k < vs.length ∧ vs.length ≤ 1000000 ∧ SS C rest ρ σ₃ Q)
    (hs : swapsWith value (some (.Subscript (.Name x p) i sp)) pos.line C.env = pure false := by with_unfolding_all rfl) :
    SS C (.Assign [.Subscript (.Name x p) i sp] value pos :: rest) ρ σ Q := fun P s R => by
  refine wpAny_execs_cons (wpAny_Assign_Subscript (wpAny_mono (h P s R) (fun v s₁ h₁ => ?_) fun _ _ x => x) hs)
  refine Post.elim h₁ fun X σ₁ R₁ f₁ r₁ k₁ => ?_
  have hE : EE C (.Name x p) ρ σ₁ fun X σ₂ => X = .hdl a ∧ σ₂ = σ₁ := EE_var hx (by intro q; cases q) ⟨rfl, rfl⟩
  refine wpAny_mono (hE P s₁ R₁) (fun o s₂ h₂ => ?_) fun _ _ x => x
  refine Post.elim h₂ fun O σ₂ R₂ f₂ r₂ kk => ?_
  obtain ⟨rfl, rfl⟩ := kk
  cases rep_hdl r₂
  refine wpAny_mono (k₁ P s₂ R₂) (fun u s₃ h₃ => ?_) fun _ _ x => x
  refine Post.elim h₃ fun I σ₃ R₃ f₃ r₃ kk => ?_
  obtain ⟨k, vs, σ₄, rfl, hu, h0, hk, hl, k₃⟩ := kk
  obtain ⟨t, rfl⟩ := rep_int r₃
  obtain ⟨vals, ⟨n, ho⟩, r', _⟩ := R₃.own _ _ hu.old
  have hlen : vs.length = vals.length := r'.length
  have hsz : (vals.toArray.size : Int) = vs.length := by simp [hlen]
  refine W.ki_setAt ho h0 (by omega) (by omega) ?_
  have g := mut_rel (h' := s₃.heap.update a (Obj.mapSeq fun x => x.setIfInBounds k.toNat v)) (tk := s₃.toks) (vals' := vals.set k.toNat v) R₃ hu
    (fun b hb => Heap.get?_update_other _ _ (Ne.symm hb)) ⟨n, by
      rw [Heap.get?_update_self _ ho rfl]
      simp [Obj.mapSeq]⟩ (r'.set ((f₂.trans f₃).rep r₁) k.toNat)
  exact wpAny_mono (k₃ P _ g.1) (fun _ _ x => x.fut (((f₁.trans f₂).trans f₃).trans g.2)) fun _ _ x => x
/-- built-ins -/
def BC (C : Cx) (f : Value) (Xs : List V) (ρ : Loc) (σ : Sto) (K : V → Sto → Prop) : Prop :=
  ∀ P s vs, Rel C P s ρ σ → RepL s.heap (C.S σ P) Xs vs → wpAny C.W.M C.A (call f vs) (Post C P s ρ σ K) NoE s
theorem EE_callB {id : String} {func e : PySem.Expr} {es : List PySem.Expr} {pos : Pos} (h : EE C func ρ σ fun F σ₁ => F = .raw (.builtin id) ∧ EA C pos (e :: es) ρ σ₁ fun Xs σ₂ => BC C (.builtin id) Xs ρ σ₂ K)
    (he : starEach (e :: es) C.env = (false, eval e C.env) :: starEach es C.env := by with_unfolding_all rfl) (hpl : (backTo pos (starEach es C.env)).any (·.1) = false := by with_unfolding_all rfl)
    (he2 : eval (.Call func (e :: es) [] pos) C.env = (do callWith pos (← eval func C.env) [] (backTo pos (starEach (e :: es) C.env)) (backToKw pos (keywordEach [] C.env))) := by with_unfolding_all rfl) : EE C (.Call func (e :: es) [] pos) ρ σ K := fun P s R => by
  refine Call_ (wpAny_mono (h P s R) (fun v s₁ h₁ => ?_) fun _ _ x => x) he2
  refine Post.elim h₁ fun F σ₁ R₁ f₁ r₁ kk => ?_
  obtain ⟨rfl, k₁⟩ := kk
  cases rep_raw r₁
  refine PyProof.Rows.callWith_builtin1 (wpAny_mono (k₁ P s₁ R₁) (fun vs s₂ h₂ => ?_) fun _ _ x => x) he hpl
  refine PostL.elim h₂ fun Xs σ₂ R₂ f₂ r₂ k₂ => ?_
  exact wp_fut (f₁.trans f₂) (k₂ P s₂ vs R₂ r₂)
theorem EE_callT {id : String} {func e : PySem.Expr} {es : List PySem.Expr} {pos : Pos} (h : EE C func ρ σ fun F σ₁ => F = .raw (.type id) ∧ EA C pos (e :: es) ρ σ₁ fun Xs σ₂ => BC C (.type id) Xs ρ σ₂ K)
    (he : starEach (e :: es) C.env = (false, eval e C.env) :: starEach es C.env := by with_unfolding_all rfl) (hpl : (backTo pos (starEach es C.env)).any (·.1) = false := by with_unfolding_all rfl)
    (he2 : eval (.Call func (e :: es) [] pos) C.env = (do callWith pos (← eval func C.env) [] (backTo pos (starEach (e :: es) C.env)) (backToKw pos (keywordEach [] C.env))) := by with_unfolding_all rfl) : EE C (.Call func (e :: es) [] pos) ρ σ K := fun P s R => by
  refine Call_ (wpAny_mono (h P s R) (fun v s₁ h₁ => ?_) fun _ _ x => x) he2
  refine Post.elim h₁ fun F σ₁ R₁ f₁ r₁ kk => ?_
  obtain ⟨rfl, k₁⟩ := kk
  cases rep_raw r₁
  refine PyProof.Rows.callWith_type1 (wpAny_mono (k₁ P s₁ R₁) (fun vs s₂ h₂ => ?_) fun _ _ x => x) he hpl
  refine PostL.elim h₂ fun Xs σ₂ R₂ f₂ r₂ k₂ => ?_
  exact wp_fut (f₁.trans f₂) (k₂ P s₂ vs R₂ r₂)
theorem repL1 {h : Heap} {S : List Addr} {X : V} {vs : List Value} (r : RepL h S [X] vs) : ∃ v, vs = [v] ∧ Rep h S X v := by
  cases vs with
  | nil => simp only [RepL] at r
  | cons v vs =>
    simp only [RepL] at r
    cases vs with
    | nil => exact ⟨v, rfl, r.1⟩
    | cons => simp only [RepL] at r; exact r.2.elim
theorem repL_cons {h : Heap} {S : List Addr} {X : V} {Xs : List V} {vs : List Value} (r : RepL h S (X :: Xs) vs) : ∃ v ws, vs = v :: ws ∧ Rep h S X v ∧ RepL h S Xs ws := by
  cases vs with
  | nil => simp only [RepL] at r
  | cons v vs => simp only [RepL] at r; exact ⟨v, vs, rfl, r⟩
theorem repL_nil {h : Heap} {S : List Addr} {vs : List Value} (r : RepL h S [] vs) : vs = [] := by
  cases vs with
  | nil => rfl
  | cons => simp only [RepL] at r
theorem BC_len {X : V} {vs : List V} (hX : Holds σ X vs) (hl : vs.length ≤ 1000000) (k : K (.int vs.length) σ) : BC C (.builtin "len") [X] ρ σ K := fun P s ws R r => by
  obtain ⟨v, rfl, r1⟩ := repL1 r
  obtain ⟨a, vals, rfl, hL, r'⟩ := hX.real R r1
  have e : vs.length = vals.length := r'.length
  refine Calls.call_len_list hL (by simp [← e]; omega) (post_toks R ?_ k)
  rw [e, List.size_toArray]
  exact int_rep
theorem BC_min {a b : Int} (k : K (.int (if b < a then b else a)) σ) : BC C (.builtin "min") [.int a, .int b] ρ σ K := fun P s ws R r => by
  obtain ⟨v, ws, rfl, r1, r3⟩ := repL_cons r
  obtain ⟨u, rfl, r2⟩ := repL1 r3
  obtain ⟨t, rfl⟩ := rep_int r1
  obtain ⟨t', rfl⟩ := rep_int r2
  refine min_two_ints C.hh fun h' tk hg => post_grow R hg ?_ k
  split <;> exact int_rep
theorem BC_abs {a : Int} (k : K (.int (if a < 0 then -a else a)) σ) : BC C (.builtin "abs") [.int a] ρ σ K := fun P s ws R r => by
  obtain ⟨v, rfl, r1⟩ := repL1 r
  obtain ⟨t, rfl⟩ := rep_int r1
  exact call_abs_int fun u tk => post_toks R int_rep k
theorem BC_int {a : Int} (k : K (.int a) σ) : BC C (.type "int") [.int a] ρ σ K := fun P s ws R r => by
  obtain ⟨v, rfl, r1⟩ := repL1 r
  obtain ⟨t, rfl⟩ := rep_int r1
  exact call_int_int (post_same R int_rep k)
set_option maxRecDepth 100000 in
theorem EE_bitlen {o : PySem.Expr} {ap pos : Pos} (h : EE C o ρ σ fun X σ₁ => ∃ i, X = .int i ∧ K (.int (Builtin.Int.intBits i)) σ₁)
    (hmc : ∃ pl, eval (.Call (.Attribute o "bit_length" ap) [] [] pos) C.env = (do
      let ov ← eval o C.env
      standAt ap.atName
      let (f, first) ← holding [ov] (getMethod ov "bit_length" pl)
      callWith pos f first (backTo pos (starEach [] C.env)) []) := by with_unfolding_all exact ⟨_, rfl⟩) : EE C (.Call (.Attribute o "bit_length" ap) [] [] pos) ρ σ K := fun P s R => by
  obtain ⟨pl, hmc⟩ := hmc
  refine MethodCall_ (pl := pl) (wpAny_mono (h P s R) (fun v s₁ h₁ => ?_) fun _ _ x => x) hmc
  refine Post.elim h₁ fun X σ₁ R₁ f₁ r₁ kk => ?_
  obtain ⟨i, rfl, k₁⟩ := kk
  obtain ⟨t, rfl⟩ := rep_int r₁
  exact getMethod_int_bit_length (callWith_method0 (call_int_bit_length ((post_toks R₁ int_rep k₁).fut f₁)))
def CLM (C : Cx) (f : Value) (Xs : List V) (σ : Sto) (K : V → Sto → Prop) : Prop := ∃ n a Ys r vs vs' σ₃, Xs = .hdl a :: Ys ∧ CallOkM C.W n f vs Ys r vs' ∧ Upd a vs vs' σ σ₃ ∧ n ≤ C.room ∧ K r σ₃
theorem CLM.mk {f : Value} {Ys : List V} {n : Nat} {r : V} {a : Addr} {vs vs' : List V} {σ' : Sto} (h : CallOkM C.W n f vs Ys r vs') (u : Upd a vs vs' σ σ') (hn : n ≤ C.room) (k : K r σ') : CLM C f (.hdl a :: Ys) σ K := ⟨n, a, Ys, r, vs, vs', σ', rfl, h, u, hn, k⟩
theorem EE_callM {func e : PySem.Expr} {es : List PySem.Expr} {pos : Pos} (h : EE C func ρ σ fun F σ₁ => ∃ f, F = .raw f ∧ IsFn C.W f ∧ EA C pos (e :: es) ρ σ₁ fun Xs σ₂ => CLM C f Xs σ₂ K)
    (he : starEach (e :: es) C.env = (false, eval e C.env) :: starEach es C.env := by with_unfolding_all rfl)
    (he2 : eval (.Call func (e :: es) [] pos) C.env = (do callWith pos (← eval func C.env) [] (backTo pos (starEach (e :: es) C.env)) (backToKw pos (keywordEach [] C.env))) := by with_unfolding_all rfl) : EE C (.Call func (e :: es) [] pos) ρ σ K := fun P s R => by
  refine Call_ (wpAny_mono (h P s R) (fun v s₁ h₁ => ?_) fun _ _ x => x) he2
  refine Post.elim h₁ fun F σ₁ R₁ f₁ r₁ kk => ?_
  obtain ⟨f, rfl, ⟨fa, o, fd, rfl, ho, hd⟩, k₁⟩ := kk
  cases rep_raw r₁
  refine callWith_def hd (wpAny_mono (k₁ P s₁ R₁) (fun vs s₂ h₂ => ?_) fun _ _ x => x) he
  refine PostL.elim h₂ fun Xs σ₂ R₂ f₂ r₂ kk => ?_
  obtain ⟨n, a, Ys, r, ws, ws', σ₃, rfl, hc, hu, hn, k₂⟩ := kk
  obtain ⟨u, us, rfl, ru, rs⟩ := repL_cons r₂
  cases rep_hdl ru
  obtain ⟨vals, hp, r', hX, hL, hw⟩ := R₂.own _ _ hu.old
  have ka : a ∈ keysOf σ₂ := List.mem_map_of_mem (f := (·.1)) hu.old
  refine ⟨R₂.hw _ _ ho, wpAny_call (codeAny_mono (hc.2 C.A s₂ (C.S σ₂ P) a vals us (C.toRoom hn) R₂.hw R₂.Slive (.tail _ (List.mem_append_left _ ka)) hw hp r' rs) fun res s₃ h₃ => ?_)⟩
  obtain ⟨v, vals', rfl, ⟨h', tk, rfl⟩, hk, hp', r'', rv⟩ := h₃
  -- as a growth, then a turn
  have ek : keysOf σ₃ = keysOf σ₂ := hu.keys
  have eS : C.S σ₃ P = C.S σ₂ P := by unfold Cx.S; rw [ek]
  have up : ∀ b o, b ∉ C.S σ₂ P → s₂.heap.get? b = some o → h'.get? b = some o ∧ b ∉ C.S σ₃ P := fun b o hb e => ⟨hk b o (fun q => hb (q ▸ .tail _ (List.mem_append_left _ ka))) e, by rw [eS]; exact hb⟩
  obtain ⟨m, hns, hv⟩ := R₂.ns
  have R₃ : Rel C P { s₂ with heap := h', toks := tk } ρ σ₃ := by
    refine ⟨⟨m, hns.at' fun o e => hk _ o (Ne.symm hL) e, fun x X hx => (hv x X hx).imp id fun ⟨v, e, q⟩ => ⟨v, e, q.mono up⟩⟩, R₂.keys, fun b o e => hk b o (fun q => ?_) (R₂.hw b o e), fun b xs hb => ?_, by rw [ek]; exact R₂.nd, fun b hb => ?_, R₂.LP, R₂.XP⟩
    · rw [q, hw] at e; cases e
    · rcases hu.mem R₂.nd b xs hb with ⟨rfl, rfl⟩ | ⟨hne, hm⟩
      · exact ⟨vals', hp', by rw [eS]; exact r'', hX, hL, hw⟩
      · obtain ⟨vals2, ⟨k, e⟩, r2, z2⟩ := R₂.own b xs hm
        exact ⟨vals2, ⟨k, hk b _ hne e⟩, r2.mono up, z2⟩
    · by_cases q : b = a
      · obtain ⟨k, e⟩ := hp'; exact ⟨_, q ▸ e⟩
      · obtain ⟨o, e⟩ := R₂.live b hb; exact ⟨o, hk b o q e⟩
  have F₃ : Fut C s₂ σ₂ { s₂ with heap := h', toks := tk } σ₃ := ⟨⟨h', tk, rfl⟩, fun b o _ hb e => hk b o (fun q => hb (q ▸ ka)) e, fun b hb => .inl (ek ▸ hb), fun o e => ⟨o, hk _ o (Ne.symm hL) e⟩⟩
  exact ⟨r, σ₃, R₃, (f₁.trans f₂).trans F₃, by rw [eS]; exact rv, k₂⟩
end
end Mine
end
section
open PySem PySem.Calls PyProof.Rows
set_option linter.unusedVariables false
namespace Mine
section
variable {C : Cx} {ρ : Loc} {σ : Sto} {Q : QS} {K : V → Sto → Prop}
/-- as Fut, but for the iterators wr -/
structure GF (C : Cx) (wr : List Addr) (s : Shared) (σ : Sto) (s' : Shared) (σ' : Sto) : Prop where
  shape : ∃ h tk, s' = { s with heap := h, toks := tk }
  pres : ∀ b o, b ≠ C.L → b ∉ keysOf σ → b ∉ wr → s.heap.get? b = some o → s'.heap.get? b = some o
  fresh : ∀ a ∈ keysOf σ', a ∈ keysOf σ ∨ s.heap.get? a = none
  Lk : ∀ o, s.heap.get? C.L = some o → ∃ o', s'.heap.get? C.L = some o'
theorem GF.refl (C : Cx) (wr : List Addr) (s : Shared) (σ : Sto) : GF C wr s σ s σ := ⟨⟨s.heap, s.toks, rfl⟩, fun _ _ _ _ _ e => e, fun _ h => .inl h, fun o e => ⟨o, e⟩⟩
/-- wr is live at s -/
theorem GF.fut {wr : List Addr} {s s₁ s₂ : Shared} {σ σ₁ σ₂ : Sto} (a : GF C wr s σ s₁ σ₁) (b : Fut C s₁ σ₁ s₂ σ₂) (hwl : ∀ x ∈ wr, ∃ o, s₁.heap.get? x = some o) : GF C wr s σ s₂ σ₂ := by
  obtain ⟨h₁, t₁, e₁⟩ := a.shape
  obtain ⟨h₂, t₂, e₂⟩ := b.shape
  refine ⟨⟨h₂, t₂, by rw [e₂, e₁]⟩, fun x o hL hσ hw e => ?_, fun x hx => ?_, fun o e => ?_⟩
  · have e1 := a.pres x o hL hσ hw e
    refine b.pres x o hL (fun hm => ?_) e1
    rcases a.fresh x hm with q | q
    · exact hσ q
    · rw [q] at e; cases e
  · rcases b.fresh x hx with q | q
    · exact a.fresh x q
    · by_cases hm : x ∈ keysOf σ
      · exact .inl hm
      · refine .inr ?_
        cases e : s.heap.get? x with
        | none => rfl
        | some o =>
          by_cases hL : x = C.L
          · subst hL
            obtain ⟨o', e'⟩ := a.Lk o e
            rw [e'] at q; cases q
          · by_cases hw : x ∈ wr
            · obtain ⟨o', e'⟩ := hwl x hw
              rw [e'] at q; cases q
            · rw [a.pres x o hL hm hw e] at q; cases q
  · obtain ⟨o', e'⟩ := a.Lk o e
    exact b.Lk o' e'
theorem GF.rep {P wr : List Addr} {s s' : Shared} {σ σ' : Sto} (f : GF C wr s σ s' σ') {X : V} {v : Value} (r : Rep s.heap (C.S σ (wr ++ P)) X v) : Rep s'.heap (C.S σ' (wr ++ P)) X v :=
  r.mono fun b o hb e => by
    have h1 : b ≠ C.L := fun q => hb (by rw [q]; exact .head _)
    have h2 : b ∉ keysOf σ := fun q => hb (.tail _ (List.mem_append_left _ q))
    have h3 : b ∉ wr := fun q => hb (.tail _ (List.mem_append_right _ (List.mem_append_left _ q)))
    refine ⟨f.pres b o h1 h2 h3 e, fun q => ?_⟩
    rcases List.mem_cons.mp q with q | q
    · exact h1 q
    · rcases List.mem_append.mp q with q | q
      · rcases f.fresh b q with q | q
        · exact h2 q
        · rw [q] at e; cases e
      · exact hb (.tail _ (List.mem_append_right _ q))
theorem GF.base {wr : List Addr} {s₀ s s' : Shared} {σ₀ σ σ' : Sto} (a : Fut C s₀ σ₀ s σ) (b : GF C wr s σ s' σ') (hw : ∀ x ∈ wr, s₀.heap.get? x = none) (hL : ∃ o, s₀.heap.get? C.L = some o) : Fut C s₀ σ₀ s' σ' := by
  obtain ⟨h₁, t₁, e₁⟩ := a.shape
  obtain ⟨h₂, t₂, e₂⟩ := b.shape
  refine ⟨⟨h₂, t₂, by rw [e₂, e₁]⟩, fun x o hL hσ e => ?_, fun x hx => ?_, fun o e => ?_⟩
  · refine b.pres x o hL (fun hm => ?_) (fun hm => ?_) (a.pres x o hL hσ e)
    · rcases a.fresh x hm with q | q
      · exact hσ q
      · rw [q] at e; cases e
    · rw [hw x hm] at e; cases e
  · rcases b.fresh x hx with q | q
    · exact a.fresh x q
    · by_cases hm : x ∈ keysOf σ₀
      · exact .inl hm
      · refine .inr ?_
        cases e : s₀.heap.get? x with
        | none => rfl
        | some o =>
          by_cases hL : x = C.L
          · subst hL
            obtain ⟨o', e'⟩ := a.Lk o e
            rw [e'] at q; cases q
          · rw [a.pres x o hL hm e] at q; cases q
  · obtain ⟨o', e'⟩ := a.Lk o e
    exact b.Lk o' e'
/-- an iterator turns -/
theorem walk_rel {P wr : List Addr} {s : Shared} {h' : Heap} {tk : Nat} (R : Rel C (wr ++ P) s ρ σ) (hg : ∀ b o, b ∉ wr → s.heap.get? b = some o → h'.get? b = some o) (hXw : ∀ b ∈ wr, b ∉ C.X) (hw : ∀ b ∈ wr, C.W.hw.get? b = none)
    {P' : List Addr} (hP' : ∀ b ∈ P', b ∈ wr ++ P) (hXP : ∀ a ∈ C.X, a ∈ P') (hl : ∀ b ∈ P', b ∈ wr → ∃ o, h'.get? b = some o) : Rel C P' { s with heap := h', toks := tk } ρ σ ∧ GF C wr s σ { s with heap := h', toks := tk } σ := by
  have nw : ∀ b, b ∉ C.S σ (wr ++ P) → b ∉ wr := fun b hb q => hb (.tail _ (List.mem_append_right _ (List.mem_append_left _ q)))
  have sub : ∀ b, b ∉ C.S σ (wr ++ P) → b ∉ C.S σ P' := fun b hb q => hb (by
    rcases List.mem_cons.mp q with q | q
    · exact q ▸ .head _
    · rcases List.mem_append.mp q with q | q
      · exact .tail _ (List.mem_append_left _ q)
      · exact .tail _ (List.mem_append_right _ (hP' _ q)))
  have up : ∀ b o, b ∉ C.S σ (wr ++ P) → s.heap.get? b = some o → h'.get? b = some o ∧ b ∉ C.S σ P' := fun b o hb e => ⟨hg b o (nw b hb) e, sub b hb⟩
  have Lw : C.L ∉ wr := fun q => R.LP (List.mem_append_left _ q)
  obtain ⟨m, hn, hv⟩ := R.ns
  refine ⟨⟨⟨m, hn.at' fun o e => hg _ o Lw e, fun x X hx => (hv x X hx).imp id fun ⟨v, e, r⟩ => ⟨v, e, r.mono up⟩⟩, R.keys, fun b o e => hg b o (fun q => ?_) (R.hw b o e), fun a vs ha => ?_, R.nd, fun a ha => ?_, fun q => R.LP (hP' _ q), hXP⟩,
    ⟨h', tk, rfl⟩, fun b o _ _ hb e => hg b o hb e, fun a ha => .inl ha, fun o e => ⟨o, hg _ o Lw e⟩⟩
  · rw [hw b q] at e; cases e
  · obtain ⟨vals, ⟨k, e⟩, r, hX, z⟩ := R.own a vs ha
    have naw : a ∉ wr := fun q => hXw a q (hX (List.mem_append_left _ q))
    exact ⟨vals, ⟨k, hg _ _ naw e⟩, r.mono up, fun q => hX (hP' a q), z⟩
  · by_cases q : a ∈ wr
    · exact hl a ha q
    · obtain ⟨o, e⟩ := R.live a (hP' a ha)
      exact ⟨o, hg a o q e⟩
theorem drop_rel {P wr : List Addr} {s : Shared} (R : Rel C (wr ++ P) s ρ σ) (hXw : ∀ b ∈ wr, b ∉ C.X) (hw : ∀ b ∈ wr, C.W.hw.get? b = none) (hXP : ∀ a ∈ C.X, a ∈ P) : Rel C P s ρ σ :=
  (walk_rel (h' := s.heap) (tk := s.toks) R (fun _ _ _ e => e) hXw hw (P' := P) (fun _ q => List.mem_append_right _ q) hXP fun b hb _ => R.live b (List.mem_append_right _ hb)).1
theorem drop_rep {P wr : List Addr} {h : Heap} {X : V} {v : Value} (r : Rep h (C.S σ (wr ++ P)) X v) : Rep h (C.S σ P) X v :=
  r.mono fun b o hb e => ⟨e, fun q => hb (by
    rcases List.mem_cons.mp q with q | q
    · exact q ▸ .head _
    · rcases List.mem_append.mp q with q | q
      · exact .tail _ (List.mem_append_left _ q)
      · exact .tail _ (List.mem_append_right _ (List.mem_append_right _ q)))⟩
def LoopQ (J : Loc → Sto → Prop) (Q : QS) : QS
  | .nx, ρ, σ => J ρ σ
  | .ct, ρ, σ => J ρ σ
  | .bk, ρ, σ => Q .nx ρ σ
  | .rt X, ρ, σ => Q (.rt X) ρ σ
theorem meas {n i : Nat} (h : i < n) : n + 1 - (i + 1) < n + 1 - i := by
  rw [Nat.add_sub_add_right]; exact Nat.sub_lt_sub_right (Nat.le_of_lt h) (Nat.lt_succ_self n)
theorem for_name {x : Str} {px : Pos} {body : List Stmt} {I : Addr} {fp wr P : List Addr} {n : Nat} {Pv : Nat → Value → Prop} {St : Nat → Heap → Prop} {s₀ s : Shared} {σ₀ : Sto} (W : Walks C.W.prog C.W.w C.A I fp wr n Pv St)
    (R : Rel C (wr ++ P) s ρ σ) (F₀ : Fut C s₀ σ₀ s σ) (hst : St 0 s.heap) (hL0 : ∃ o, s₀.heap.get? C.L = some o)
    (hfp : ∀ b ∈ fp, b ≠ C.L ∧ (b ∈ wr ∨ (b ∉ keysOf σ ∧ ∃ o, s.heap.get? b = some o))) (hw0 : ∀ b ∈ wr, s₀.heap.get? b = none) (hXw : ∀ b ∈ wr, b ∉ C.X) (hww : ∀ b ∈ wr, C.W.hw.get? b = none) (hPw : ∀ b ∈ wr, b ∉ P) (hXP : ∀ a ∈ C.X, a ∈ P)
    (hlive : ∀ i h, St i h → ∀ b ∈ wr, ∃ o, h.get? b = some o)
    (X : Nat → V) (hX : ∀ i v s' σ', i < n → Pv i v → GF C wr s σ s' σ' → Rep s'.heap (C.S σ' (wr ++ P)) (X i) v)
    (J : Nat → Loc → Sto → Prop) (h0 : J 0 ρ σ)
    (step : ∀ i, i < n → ∀ ρ₁ σ₁, J i ρ₁ σ₁ → ∃ old ρ₂, Upd x old (X i) ρ₁ ρ₂ ∧ SS C body ρ₂ σ₁ (LoopQ (J (i + 1)) Q))
    (fin : ∀ ρ₁ σ₁, J n ρ₁ σ₁ → Q .nx ρ₁ σ₁) :
    codeAny C.W.M C.A (.forLoop (.Name x px) (.ref I) body [] C.env) (fun r s' => match r with | .ok f => PostS C P s₀ σ₀ Q f s' | .error e => cameBackBy C.W.M C.A C.env NoE e s') s := by
  refine codeAny_forLoop (fun k s' => ∃ i ρ₁ σ₁, Rel C (wr ++ P) s' ρ₁ σ₁ ∧ GF C wr s σ s' σ₁ ∧ St i s'.heap ∧ J i ρ₁ σ₁ ∧ i ≤ n ∧ k = n + 1 - i) ?_ (n + 1) ⟨0, ρ, σ, R, .refl .., hst, h0, Nat.zero_le _, rfl⟩
  rintro k s₁ ⟨i, ρ₁, σ₁, R₁, G₁, hs₁, hJ, hi, rfl⟩
  by_cases hlt : i < n
  · refine W.item i s₁ _ _ hlt hs₁ fun v h' tk hP hs₂ hk => ?_
    have g := walk_rel (tk := tk) R₁ hk hXw hww (P' := wr ++ P) (fun _ q => q) (fun a q => List.mem_append_right _ (hXP a q)) fun b _ hb => hlive _ _ hs₂ b hb
    have G₂ : GF C wr s σ { s₁ with heap := h', toks := tk } σ₁ := by
      obtain ⟨ha, ta, ea⟩ := G₁.shape
      refine ⟨⟨h', tk, by rw [ea]⟩, fun b o h1 h2 h3 e => hk b o h3 (G₁.pres b o h1 h2 h3 e), G₁.fresh, fun o e => ?_⟩
      obtain ⟨o', e'⟩ := G₁.Lk o e
      exact ⟨o', hk _ _ (fun q => R.LP (List.mem_append_left _ q)) e'⟩
    obtain ⟨old, ρ₂, u, hb⟩ := step i hlt ρ₁ σ₁ hJ
    refine PyProof.Rows.assign_Name (wpAny_mono (store_wp (Q' := fun _ s' => Rel C (wr ++ P) s' ρ₂ σ₁ ∧ Fut C { s₁ with heap := h', toks := tk } σ₁ s' σ₁) g.1 u (hX i v _ _ hlt hP G₂) fun s₂ R₂ f₂ => ⟨R₂, f₂⟩) (fun _ s₂ h₂ => ?_) fun _ _ z => z.elim)
    obtain ⟨R₂, f₂⟩ := h₂
    refine wpAny_mono (hb _ _ R₂) (fun f s₃ h₃ => ?_) fun _ _ z => z.elim
    obtain ⟨F, ρ₃, σ₃, R₃, f₃, r₃, k₃⟩ := h₃
    have hwl : ∀ x ∈ wr, ∃ o, ({ s₁ with heap := h', toks := tk } : Shared).heap.get? x = some o := fun b hb => hlive _ _ hs₂ b hb
    have f₂₃ := f₂.trans f₃
    have G₃ := G₂.fut f₂₃ hwl
    have hs₃ : St (i + 1) s₃.heap := W.frame _ _ _ hs₂ fun b hb o e => f₂₃.pres b o (hfp b hb).1 (fun q => by
      rcases (hfp b hb).2 with z | ⟨z, o', e'⟩
      · obtain ⟨⟨b', vs⟩, hm, rfl⟩ := List.mem_map.mp q
        obtain ⟨_, _, _, hX', _⟩ := g.1.own b' vs hm
        exact hXw _ z (hX' (List.mem_append_left _ z))
      · rcases G₁.fresh b q with y | y
        · exact z y
        · rw [e'] at y; cases y) e
    have R₃' : Rel C P s₃ ρ₃ σ₃ := drop_rel R₃ hXw hww hXP
    have F₃ : Fut C s₀ σ₀ s₃ σ₃ := GF.base F₀ G₃ hw0 hL0
    cases F with
    | nx => cases r₃; exact ⟨n + 1 - (i + 1), meas hlt, i + 1, ρ₃, σ₃, R₃, G₃, hs₃, k₃, hlt, rfl⟩
    | ct => cases r₃; exact ⟨n + 1 - (i + 1), meas hlt, i + 1, ρ₃, σ₃, R₃, G₃, hs₃, k₃, hlt, rfl⟩
    | bk => cases r₃; exact ⟨.nx, ρ₃, σ₃, R₃', F₃, rfl, k₃⟩
    | rt Y => obtain ⟨v, rfl, r⟩ := r₃; exact ⟨.rt Y, ρ₃, σ₃, R₃', F₃, ⟨v, rfl, drop_rep r⟩, k₃⟩
  · have hin : i = n := by omega
    subst hin
    refine W.done s₁ _ _ hs₁ fun h' tk hk => wpAny_execs_nil ?_
    have g := walk_rel (tk := tk) R₁ hk hXw hww (P' := P) (fun _ q => List.mem_append_right _ q) hXP fun b hb hw => absurd hb (hPw b hw)
    have G₂ : GF C wr s σ { s₁ with heap := h', toks := tk } σ₁ := by
      obtain ⟨ha, ta, ea⟩ := G₁.shape
      refine ⟨⟨h', tk, by rw [ea]⟩, fun b o h1 h2 h3 e => hk b o h3 (G₁.pres b o h1 h2 h3 e), G₁.fresh, fun o e => ?_⟩
      obtain ⟨o', e'⟩ := G₁.Lk o e
      exact ⟨o', hk _ _ (fun q => R.LP (List.mem_append_left _ q)) e'⟩
    exact ⟨.nx, ρ₁, σ₁, g.1, GF.base F₀ G₂ hw0 hL0, rfl, fin _ _ hJ⟩
theorem more_rel {P wr : List Addr} {s : Shared} {h' : Heap} {tk : Nat} (R : Rel C P s ρ σ) (hg : ∀ b o, s.heap.get? b = some o → h'.get? b = some o) (hn : ∀ b ∈ wr, s.heap.get? b = none) (hl : ∀ b ∈ wr, ∃ o, h'.get? b = some o) :
    Rel C (wr ++ P) { s with heap := h', toks := tk } ρ σ ∧ (∀ X v, Rep s.heap (C.S σ P) X v → Rep h' (C.S σ (wr ++ P)) X v) ∧ (∀ X v, RepL s.heap (C.S σ P) X v → RepL h' (C.S σ (wr ++ P)) X v) := by
  have up : ∀ b o, b ∉ C.S σ P → s.heap.get? b = some o → h'.get? b = some o ∧ b ∉ C.S σ (wr ++ P) := fun b o hb e => ⟨hg b o e, fun q => by
    rcases List.mem_cons.mp q with q | q
    · exact hb (q ▸ .head _)
    · rcases List.mem_append.mp q with q | q
      · exact hb (.tail _ (List.mem_append_left _ q))
      · rcases List.mem_append.mp q with q | q
        · rw [hn b q] at e; cases e
        · exact hb (.tail _ (List.mem_append_right _ q))⟩
  obtain ⟨m, hns, hv⟩ := R.ns
  refine ⟨⟨⟨m, hns.keeps hg, fun x X hx => (hv x X hx).imp id fun ⟨v, e, q⟩ => ⟨v, e, q.mono up⟩⟩, R.keys, fun b o e => hg b o (R.hw b o e), fun a vs ha => ?_, R.nd, fun a ha => ?_, fun q => ?_, fun a ha => List.mem_append_right _ (R.XP a ha)⟩, fun X v r => r.mono up, fun X v r => r.mono up⟩
  · obtain ⟨vals, ⟨k, e⟩, r, hX, z⟩ := R.own a vs ha
    refine ⟨vals, ⟨k, hg _ _ e⟩, r.mono up, fun q => ?_, z⟩
    rcases List.mem_append.mp q with q | q
    · rw [hn a q] at e; cases e
    · exact hX q
  · rcases List.mem_append.mp ha with q | q
    · exact hl a q
    · obtain ⟨o, e⟩ := R.live a q; exact ⟨o, hg a o e⟩
  · rcases List.mem_append.mp q with q | q
    · obtain ⟨o, e⟩ := R.Llive
      rw [hn _ q] at e; cases e
    · exact R.LP q
/-- a range as an iterable -/
def ER (C : Cx) (e : PySem.Expr) (ρ : Loc) (σ : Sto) (K : Int → Int → Int → Sto → Prop) : Prop :=
  ∀ P s, Rel C P s ρ σ → wpAny C.W.M C.A (eval e C.env) (fun v s' => ∃ r a b c t u w σ', v = .ref r ∧ IsRange s'.heap r a b c t u w ∧ Rel C P s' ρ σ' ∧ Fut C s σ s' σ' ∧ K a b c σ') NoE s
theorem rep3 {h : Heap} {S : List Addr} {a b c : Int} {vs : List Value} (r : RepL h S [.int a, .int b, .int c] vs) : ∃ t u w, vs = [.int a t, .int b u, .int c w] := by
  obtain ⟨_, _, rfl, r1, r⟩ := repL_cons r
  obtain ⟨_, _, rfl, r2, r⟩ := repL_cons r
  obtain ⟨_, rfl, r3⟩ := repL1 r
  obtain ⟨t, rfl⟩ := rep_int r1; obtain ⟨u, rfl⟩ := rep_int r2; obtain ⟨w, rfl⟩ := rep_int r3
  exact ⟨t, u, w, rfl⟩
theorem rep2 {h : Heap} {S : List Addr} {a b : Int} {vs : List Value} (r : RepL h S [.int a, .int b] vs) : ∃ t u, vs = [.int a t, .int b u] := by
  obtain ⟨_, _, rfl, r1, r⟩ := repL_cons r
  obtain ⟨_, rfl, r2⟩ := repL1 r
  obtain ⟨t, rfl⟩ := rep_int r1; obtain ⟨u, rfl⟩ := rep_int r2
  exact ⟨t, u, rfl⟩
inductive RangeArgs : List V → Int → Int → Int → Prop
  | one (n) : RangeArgs [.int n] 0 n 1
  | two (a b) : RangeArgs [.int a, .int b] a b 1
  | three (a b c) : c ≠ 0 → c.natAbs < 1073741824 → RangeArgs [.int a, .int b, .int c] a b c
theorem ER_range {func e : PySem.Expr} {es : List PySem.Expr} {pos : Pos} {Kr : Int → Int → Int → Sto → Prop} (h : EE C func ρ σ fun F σ₁ => F = .raw (.type "range") ∧ EA C pos (e :: es) ρ σ₁ fun Xs σ₂ => ∃ a b c, RangeArgs Xs a b c ∧ Kr a b c σ₂)
    (he : starEach (e :: es) C.env = (false, eval e C.env) :: starEach es C.env := by with_unfolding_all rfl) (hpl : (backTo pos (starEach es C.env)).any (·.1) = false := by with_unfolding_all rfl)
    (he2 : eval (.Call func (e :: es) [] pos) C.env = (do callWith pos (← eval func C.env) [] (backTo pos (starEach (e :: es) C.env)) (backToKw pos (keywordEach [] C.env))) := by with_unfolding_all rfl) : ER C (.Call func (e :: es) [] pos) ρ σ Kr := fun P s R => by
  refine Call_ (wpAny_mono (h P s R) (fun v s₁ h₁ => ?_) fun _ _ x => x) he2
  refine Post.elim h₁ fun F σ₁ R₁ f₁ r₁ kk => ?_
  obtain ⟨rfl, k₁⟩ := kk
  cases rep_raw r₁
  refine PyProof.Rows.callWith_type1 (wpAny_mono (k₁ P s₁ R₁) (fun vs s₂ h₂ => ?_) fun _ _ x => x) he hpl
  refine PostL.elim h₂ fun Xs σ₂ R₂ f₂ r₂ kk => ?_
  obtain ⟨a, b, c, ra, k₂⟩ := kk
  cases ra with
  | one =>
    obtain ⟨v, rfl, r3⟩ := repL1 r₂
    obtain ⟨t, rfl⟩ := rep_int r3
    have g := grow_rel (h' := s₂.heap.push { cls := .type "range", data := .fields #[.int 0 s₂.toks, .int b t, .int 1 (s₂.toks + 1)] }) (tk := s₂.toks + 1 + 1) R₂ (push_keeps _ _)
    exact call_range_1 ⟨_, 0, b, 1, _, _, _, σ₂, rfl, Heap.get?_push_size _ rfl, g.1, (f₁.trans f₂).trans g.2, k₂⟩
  | two =>
    obtain ⟨t, u, rfl⟩ := rep2 r₂
    have g := grow_rel (h' := s₂.heap.push { cls := .type "range", data := .fields #[.int a t, .int b u, .int 1 s₂.toks] }) (tk := s₂.toks + 1) R₂ (push_keeps _ _)
    exact call_range_2 ⟨_, a, b, 1, _, _, _, σ₂, rfl, Heap.get?_push_size _ rfl, g.1, (f₁.trans f₂).trans g.2, k₂⟩
  | three _ _ _ hc hb =>
    obtain ⟨t, u, w, rfl⟩ := rep3 r₂
    have g := grow_rel (h' := s₂.heap.push { cls := .type "range", data := .fields #[.int a t, .int b u, .int c w] }) (tk := s₂.toks) R₂ (push_keeps _ _)
    exact call_range_3 hc ⟨_, a, b, c, _, _, _, σ₂, rfl, Heap.get?_push_size _ rfl, g.1, (f₁.trans f₂).trans g.2, k₂⟩ (.inl (PyProof.noPylong_small hb))
/-- for x in range(..) -/
theorem SS_forR {x : Str} {px pos : Pos} {iter : PySem.Expr} {body rest : List Stmt} (h : ER C iter ρ σ fun a b c σ₁ => Builtin.Range.small a b c = true ∧ ∃ n : Nat, Builtin.Range.rangeSize a b c = n ∧ ∃ J : Nat → Loc → Sto → Prop, J 0 ρ σ₁ ∧
      (∀ i, i < n → ∀ ρ₁ σ₂, J i ρ₁ σ₂ → ∃ old ρ₂, Upd x old (.int (a + i * c)) ρ₁ ρ₂ ∧ SS C body ρ₂ σ₂ (LoopQ (J (i + 1)) (Then C rest Q))) ∧ (∀ ρ₁ σ₂, J n ρ₁ σ₂ → SS C rest ρ₁ σ₂ Q))
    (hs : ∀ x, foldedSetIterable iter C.env x = pure x := by intro _; with_unfolding_all rfl) : SS C (.For (.Name x px) iter body [] pos :: rest) ρ σ Q := SS_cons fun P s R => by
  refine wpAny_For (wpAny_mono (h P s R) (fun v s₁ h₁ => ?_) fun _ _ x => x) hs
  obtain ⟨r, a, b, c, t, u, w, σ₁, rfl, hr, R₁, f₁, hsm, n, hn, J, h0, step, fin⟩ := h₁
  refine wpAny_pyIter_range hr hsm ?_
  have hfr := fresh_none s₁.heap
  have m := more_rel (wr := [s₁.heap.objs.size]) (h' := s₁.heap.push { cls := .type "range_iterator", data := .fields #[rawInt a, rawInt (Builtin.Range.rangeSize a b c), rawInt c] }) (tk := s₁.toks) R₁ (push_keeps _ _)
    (fun b hb => by rw [List.mem_singleton.mp hb]; exact hfr) (fun b hb => by rw [List.mem_singleton.mp hb]; exact ⟨_, Heap.get?_push_size _ rfl⟩)
  have g := grow_rel (h' := s₁.heap.push { cls := .type "range_iterator", data := .fields #[rawInt a, rawInt (Builtin.Range.rangeSize a b c), rawInt c] }) (tk := s₁.toks) R₁ (push_keeps _ _)
  have nS := R₁.notin hfr
  refine codeAny_mono (for_name (Q := Then C rest Q) (s₀ := s₁) (σ₀ := σ₁) (Walks.range C.hh s₁.heap.objs.size a c n) m.1 g.2 ?_ R₁.Llive ?_ ?_ ?_ ?_ ?_ R₁.XP ?_ (fun i => .int (a + i * c)) (fun i v s' σ' _ hv _ => by obtain ⟨t, rfl⟩ := hv; exact int_rep) J h0 step (fun ρ₁ σ₂ hJ => fin ρ₁ σ₂ hJ)) fun r s' hr => ?_
  · show _ = _
    rw [Heap.get?_push_size _ rfl, hn]
    simp [rawInt]
  · intro b hb
    rw [List.mem_singleton.mp hb]
    exact ⟨fun q => nS (q ▸ .head _), .inl (.head _)⟩
  · intro b hb; rw [List.mem_singleton.mp hb]; exact hfr
  · intro b hb q; rw [List.mem_singleton.mp hb] at q
    exact nS (.tail _ (List.mem_append_right _ (R₁.XP _ q)))
  · intro b hb; rw [List.mem_singleton.mp hb]
    cases e : C.W.hw.get? s₁.heap.objs.size with
    | none => rfl
    | some o => rw [R₁.hw _ _ e] at hfr; cases hfr
  · intro b hb q; rw [List.mem_singleton.mp hb] at q
    exact nS (.tail _ (List.mem_append_right _ q))
  · intro i h hst b hb; rw [List.mem_singleton.mp hb]; exact ⟨_, hst⟩
  · cases r with
    | ok f => exact hr.fut f₁
    | error e => exact hr
/-- for x in a frozen list -/
theorem SS_forL {x : Str} {px pos : Pos} {iter : PySem.Expr} {body rest : List Stmt} (h : EE C iter ρ σ fun O σ₁ => ∃ vs, O = .li vs ∧ ∃ J : Nat → Loc → Sto → Prop, J 0 ρ σ₁ ∧
      (∀ i X, vs[i]? = some X → ∀ ρ₁ σ₂, J i ρ₁ σ₂ → ∃ old ρ₂, Upd x old X ρ₁ ρ₂ ∧ SS C body ρ₂ σ₂ (LoopQ (J (i + 1)) (Then C rest Q))) ∧ (∀ ρ₁ σ₂, J vs.length ρ₁ σ₂ → SS C rest ρ₁ σ₂ Q))
    (hs : ∀ x, foldedSetIterable iter C.env x = pure x := by intro _; with_unfolding_all rfl) : SS C (.For (.Name x px) iter body [] pos :: rest) ρ σ Q := SS_cons fun P s R => by
  refine wpAny_For (wpAny_mono (h P s R) (fun v s₁ h₁ => ?_) fun _ _ x => x) hs
  refine Post.elim h₁ fun O σ₁ R₁ f₁ r₁ kk => ?_
  obtain ⟨vs, rfl, J, h0, step, fin⟩ := kk
  obtain ⟨l, vals, rfl, hlS, hl, rl⟩ := rep_li r₁
  refine wpAny_pyIter_list hl ?_
  have hfr := fresh_none s₁.heap
  have m := more_rel (wr := [s₁.heap.objs.size]) (h' := s₁.heap.push { cls := .type "list_iterator", data := .fields #[.ref l, .int 0 0] }) (tk := s₁.toks) R₁ (push_keeps _ _)
    (fun b hb => by rw [List.mem_singleton.mp hb]; exact hfr) (fun b hb => by rw [List.mem_singleton.mp hb]; exact ⟨_, Heap.get?_push_size _ rfl⟩)
  have g := grow_rel (h' := s₁.heap.push { cls := .type "list_iterator", data := .fields #[.ref l, .int 0 0] }) (tk := s₁.toks) R₁ (push_keeps _ _)
  have nS := R₁.notin hfr
  obtain ⟨ol, hol, _⟩ := id hl
  have hne : l ≠ s₁.heap.objs.size := fun q => by rw [q, hfr] at hol; cases hol
  have elen : vals.toArray.size = vs.length := by simp [rl.length]
  have rl' := m.2.2 _ _ rl
  refine codeAny_mono (for_name (Q := Then C rest Q) (s₀ := s₁) (σ₀ := σ₁) (Walks.list C.hh s₁.heap.objs.size l hne vals.toArray) m.1 g.2 ⟨⟨_, Heap.get?_push_size _ rfl, rfl, rfl⟩, hl.push _⟩ R₁.Llive ?_ ?_ ?_ ?_ ?_ R₁.XP ?_ (fun i => vs.getD i .unb) (fun i v s' σ' hi hv G => ?_) J h0 (fun i hi ρ₁ σ₂ hJ => ?_) (fun ρ₁ σ₂ hJ => fin ρ₁ σ₂ (elen ▸ hJ))) fun r s' hr => ?_
  · intro b hb
    rcases List.mem_cons.mp hb with q | q
    · rw [q]; exact ⟨fun q => nS (q ▸ .head _), .inl (.head _)⟩
    · rw [List.mem_singleton.mp q]
      exact ⟨fun q => hlS (q ▸ .head _), .inr ⟨fun q => hlS (.tail _ (List.mem_append_left _ q)), ol, push_keeps _ _ _ _ hol⟩⟩
  · intro b hb; rw [List.mem_singleton.mp hb]; exact hfr
  · intro b hb q; rw [List.mem_singleton.mp hb] at q
    exact nS (.tail _ (List.mem_append_right _ (R₁.XP _ q)))
  · intro b hb; rw [List.mem_singleton.mp hb]
    cases e : C.W.hw.get? s₁.heap.objs.size with
    | none => rfl
    | some o => rw [R₁.hw _ _ e] at hfr; cases hfr
  · intro b hb q; rw [List.mem_singleton.mp hb] at q
    exact nS (.tail _ (List.mem_append_right _ q))
  · intro i h hst b hb; rw [List.mem_singleton.mp hb]; obtain ⟨⟨o, ho, _⟩, _⟩ := hst; exact ⟨o, ho⟩
  · have hi' : i < vs.length := elen ▸ hi
    have hx : vs[i]? = some (vs.getD i .unb) := by simp [List.getD_eq_getElem?_getD, hi']
    obtain ⟨v', hv', r'⟩ := rl'.at hx
    have : v = v' := by rw [List.getElem?_toArray, hv'] at hv; exact (Option.some.inj hv).symm
    rw [this]
    exact G.rep r'
  · have hi' : i < vs.length := elen ▸ hi
    exact step i _ (by simp [List.getD_eq_getElem?_getD, hi']) ρ₁ σ₂ hJ
  · cases r with
    | ok f => exact hr.fut f₁
    | error e => exact hr
/-- while -/
theorem SS_while {t : PySem.Expr} {body rest : List Stmt} {pos : Pos} (J : Nat → Loc → Sto → Prop) (n : Nat) (h0 : J n ρ σ)
    (step : ∀ n ρ₁ σ₁, J n ρ₁ σ₁ → TT C t ρ₁ σ₁ fun c σ₂ => (c = true → SS C body ρ₁ σ₂ (LoopQ (fun ρ₃ σ₃ => ∃ k, k < n ∧ J k ρ₃ σ₃) (Then C rest Q))) ∧ (c = false → SS C rest ρ₁ σ₂ Q)) :
    SS C (.While t body [] pos :: rest) ρ σ Q := SS_cons fun P s R => by
  refine wpAny_While (codeAny_whileLoop (fun k s' => ∃ ρ₁ σ₁, Rel C P s' ρ₁ σ₁ ∧ Fut C s σ s' σ₁ ∧ J k ρ₁ σ₁) ?_ n ⟨ρ, σ, R, .refl .., h0⟩)
  rintro k s₁ ⟨ρ₁, σ₁, R₁, f₁, hJ⟩
  refine wpAny_mono (step k ρ₁ σ₁ hJ P s₁ R₁) (fun c s₂ h₂ => ?_) fun _ _ z => z.elim
  obtain ⟨σ₂, R₂, f₂, k₁, k₂⟩ := h₂
  cases c with
  | false =>
    rw [if_neg (by decide)]
    exact wpAny_execs_nil ⟨.nx, ρ₁, σ₂, R₂, f₁.trans f₂, rfl, k₂ rfl⟩
  | true =>
    rw [if_pos rfl]
    refine wpAny_mono (k₁ rfl P s₂ R₂) (fun f s₃ h₃ => ?_) fun _ _ z => z.elim
    obtain ⟨F, ρ₃, σ₃, R₃, f₃, r₃, k₃⟩ := h₃
    have f := (f₁.trans f₂).trans f₃
    cases F with
    | nx => cases r₃; obtain ⟨k', hk, hJ'⟩ := k₃; exact ⟨k', hk, ρ₃, σ₃, R₃, f, hJ'⟩
    | ct => cases r₃; obtain ⟨k', hk, hJ'⟩ := k₃; exact ⟨k', hk, ρ₃, σ₃, R₃, f, hJ'⟩
    | bk => cases r₃; exact ⟨.nx, ρ₃, σ₃, R₃, f, rfl, k₃⟩
    | rt Y => obtain ⟨v, rfl, r⟩ := r₃; exact ⟨.rt Y, ρ₃, σ₃, R₃, f, ⟨v, rfl, r⟩, k₃⟩
end
end Mine
end
section
open PySem PySem.Calls PyProof.Rows
set_option linter.unusedVariables false
namespace Mine
section
variable {C : Cx} {ρ : Loc} {σ : Sto} {Q : QS} {K : V → Sto → Prop}
/-- for x, y in enumerate(frozen list) -/
theorem SS_forE {x y : Str} {px py tpos pos fpos : Pos} {k : Nat} {func e : PySem.Expr} {body rest : List Stmt} (h : EE C func ρ σ fun F σ₀ => F = .raw (.type "enumerate") ∧ EE C e ρ σ₀ fun O σ₁ => ∃ vs, O = .li vs ∧ ∃ J : Nat → Loc → Sto → Prop, J 0 ρ σ₁ ∧
      (∀ i X, vs[i]? = some X → ∀ ρ₁ σ₂, J i ρ₁ σ₂ → ∃ ρ₂, UpdAll [x, y] [.int i, X] ρ₁ ρ₂ ∧ SS C body ρ₂ σ₂ (LoopQ (J (i + 1)) (Then C rest Q))) ∧ (∀ ρ₁ σ₂, J vs.length ρ₁ σ₂ → SS C rest ρ₁ σ₂ Q))
    (he : starEach [e] C.env = [(false, eval e C.env)] := by with_unfolding_all rfl)
    (he2 : eval (.Call func [e] [] fpos) C.env = (do callWith fpos (← eval func C.env) [] (backTo fpos (starEach [e] C.env)) (backToKw fpos (keywordEach [] C.env))) := by with_unfolding_all rfl)
    (hs : ∀ x, foldedSetIterable (.Call func [e] [] fpos) C.env x = pure x := by intro _; with_unfolding_all rfl) :
    SS C (.For (.Tuple [.Name x px, .Name y py] k tpos) (.Call func [e] [] fpos) body [] pos :: rest) ρ σ Q := SS_cons fun P s R => by
  refine wpAny_For (Call_ (wpAny_mono (h P s R) (fun v s₀ h₀ => ?_) fun _ _ x => x) he2) hs
  refine Post.elim h₀ fun F σ₀ R₀ f₀ r₀ kk => ?_
  obtain ⟨rfl, g₀⟩ := kk
  cases rep_raw r₀
  refine PyProof.Rows.callWith_type1 (args_cons (wpAny_mono (g₀ P s₀ R₀) (fun v s₁ h₁ => args_nil ?_) fun _ _ x => x) he) he rfl
  refine Post.elim h₁ fun O σ₁ R₁ f₁ r₁ kk => ?_
  obtain ⟨vs, rfl, J, h0, step, fin⟩ := kk
  obtain ⟨l, vals, rfl, hlS, hl, rl⟩ := rep_li r₁
  refine call_enumerate_list hl fun h' hen hit hsz hg => ?_
  have hfr := fresh_none s₁.heap
  have hfr1 : s₁.heap.get? (s₁.heap.objs.size + 1) = none := Heap.get?_none_of_le (Nat.le_succ _)
  obtain ⟨ol, hol, _⟩ := id hl
  have llt : l < s₁.heap.objs.size := Heap.lt_size hol
  have hwr : ∀ b ∈ [s₁.heap.objs.size + 1, s₁.heap.objs.size], s₁.heap.get? b = none := fun b hb => by
    rcases List.mem_cons.mp hb with q | q
    · rw [q]; exact hfr1
    · rw [List.mem_singleton.mp q]; exact hfr
  have hwl : ∀ (i : Nat) (h : Heap), ((∃ old, IsEnum h (s₁.heap.objs.size + 1) s₁.heap.objs.size i old) ∧ h.IsListIter s₁.heap.objs.size l i ∧ h.IsList l vals.toArray) → ∀ b ∈ [s₁.heap.objs.size + 1, s₁.heap.objs.size], ∃ o, h.get? b = some o := fun i h hst b hb => by
    obtain ⟨⟨old, he⟩, ⟨o, ho, _⟩, _⟩ := hst
    rcases List.mem_cons.mp hb with q | q
    · rw [q]; exact ⟨_, he⟩
    · rw [List.mem_singleton.mp q]; exact ⟨o, ho⟩
  have hst0 : (∃ old, IsEnum h' (s₁.heap.objs.size + 1) s₁.heap.objs.size ((0 : Nat) : Int) old) ∧ h'.IsListIter s₁.heap.objs.size l 0 ∧ h'.IsList l vals.toArray := ⟨⟨_, hen⟩, hit, hl.at fun o e => hg _ o e⟩
  have m := more_rel (wr := [s₁.heap.objs.size + 1, s₁.heap.objs.size]) (h' := h') (tk := s₁.toks) R₁ hg hwr (hwl 0 h' hst0)
  have g := grow_rel (h' := h') (tk := s₁.toks) R₁ hg
  have nS : ∀ b ∈ [s₁.heap.objs.size + 1, s₁.heap.objs.size], b ∉ C.S σ₁ P := fun b hb => R₁.notin (hwr b hb)
  have hXw : ∀ b ∈ [s₁.heap.objs.size + 1, s₁.heap.objs.size], b ∉ C.X := fun b hb q => nS b hb (.tail _ (List.mem_append_right _ (R₁.XP _ q)))
  have hPw : ∀ b ∈ [s₁.heap.objs.size + 1, s₁.heap.objs.size], b ∉ P := fun b hb q => nS b hb (.tail _ (List.mem_append_right _ q))
  have hww : ∀ b ∈ [s₁.heap.objs.size + 1, s₁.heap.objs.size], C.W.hw.get? b = none := fun b hb => by
    cases e : C.W.hw.get? b with
    | none => rfl
    | some o => have := R₁.hw _ _ e; rw [hwr b hb] at this; cases this
  have W := WalksT.enumerate (prog := C.W.prog) (w := C.W.w) (A := C.A) C.hh (s₁.heap.objs.size + 1) s₁.heap.objs.size l (Nat.succ_ne_self _) (Nat.ne_of_lt (Nat.lt_succ_of_lt llt)) (Nat.ne_of_lt llt) vals.toArray
  have elen : vals.toArray.size = vs.length := by simp [rl.length]
  have rl' := m.2.2 _ _ rl
  have hfp : ∀ b ∈ [s₁.heap.objs.size + 1, s₁.heap.objs.size, l], b ≠ C.L ∧ (b ∈ [s₁.heap.objs.size + 1, s₁.heap.objs.size] ∨ (b ∉ keysOf σ₁ ∧ ∃ o, h'.get? b = some o)) := fun b hb => by
    rcases List.mem_cons.mp hb with q | q
    · exact ⟨fun z => nS b (q ▸ .head _) (z ▸ .head _), .inl (q ▸ .head _)⟩
    · rcases List.mem_cons.mp q with q | q
      · exact ⟨fun z => nS b (q ▸ .tail _ (.head _)) (z ▸ .head _), .inl (q ▸ .tail _ (.head _))⟩
      · rw [List.mem_singleton.mp q]
        exact ⟨fun q => hlS (q ▸ .head _), .inr ⟨fun q => hlS (.tail _ (List.mem_append_left _ q)), ol, hg _ _ hol⟩⟩
  generalize hwrE : [s₁.heap.objs.size + 1, s₁.heap.objs.size] = wr at *
  generalize hfpE : [s₁.heap.objs.size + 1, s₁.heap.objs.size, l] = fp at *
  refine wpAny_pyIter_enum hen ?_
  refine codeAny_forLoop_any (fun k s' => ∃ i ρ₁ σ₂, Rel C (wr ++ P) s' ρ₁ σ₂ ∧ GF C wr { s₁ with heap := h' } σ₁ s' σ₂ ∧ ((∃ old, IsEnum s'.heap (s₁.heap.objs.size + 1) s₁.heap.objs.size (i : Nat) old) ∧ s'.heap.IsListIter s₁.heap.objs.size l i ∧ s'.heap.IsList l vals.toArray) ∧ J i ρ₁ σ₂ ∧ i ≤ vs.length ∧ k = vs.length + 1 - i)
    ?_ (vs.length + 1) ⟨0, ρ, σ₁, m.1, .refl .., hst0, h0, Nat.zero_le _, rfl⟩
  rintro n s₂ ⟨i, ρ₁, σ₂, R₂, G₂, hs₂, hJ, hi, rfl⟩
  have GFw : ∀ {s₃ : Shared} {σ₃ : Sto} {h'' : Heap} {tk : Nat}, GF C wr { s₁ with heap := h' } σ₁ s₃ σ₃ → (∀ b o, b ∉ wr → s₃.heap.get? b = some o → h''.get? b = some o) → GF C wr { s₁ with heap := h' } σ₁ { s₃ with heap := h'', toks := tk } σ₃ := fun {s₃ σ₃ h'' tk} G hk => by
    obtain ⟨ha, ta, ea⟩ := G.shape
    refine ⟨⟨h'', tk, by rw [ea]⟩, fun b o h1 h2 h3 e => hk b o h3 (G.pres b o h1 h2 h3 e), G.fresh, fun o e => ?_⟩
    obtain ⟨o', e'⟩ := G.Lk o e
    exact ⟨o', hk _ _ (fun q => m.1.LP (List.mem_append_left _ q)) e'⟩
  by_cases hlt : i < vs.length
  · refine W.item i s₂ _ _ (elen ▸ hlt) hs₂ fun T items h₃ tk hPt hT hTt hMid hk => ?_
    obtain ⟨t, xv, hxv, rfl⟩ := hPt
    have Tw : T ∉ wr := W.apart i T h₃ hMid
    have live3 : ∀ b ∈ wr, ∃ o, h₃.get? b = some o := fun b hb => by
      obtain ⟨⟨x, ho⟩, ⟨o, ho', _⟩, _⟩ := hMid
      rw [← hwrE] at hb
      rcases List.mem_cons.mp hb with q | q
      · rw [q]; exact ⟨_, ho⟩
      · rw [List.mem_singleton.mp q]; exact ⟨o, ho'⟩
    have g3 := walk_rel (tk := tk) R₂ hk hXw hww (P' := wr ++ P) (fun _ q => q) (fun a q => List.mem_append_right _ (R₁.XP a q)) fun b _ hb => live3 b hb
    have G₃ := GFw (tk := tk) G₂ hk
    refine W.go _ _ _ i T _ _ _ hMid fun h₄ hs₄ hk4 => ?_
    have g4 := walk_rel (tk := tk) g3.1 hk4 hXw hww (P' := wr ++ P) (fun _ q => q) (fun a q => List.mem_append_right _ (R₁.XP a q)) fun b _ hb => hwl _ _ hs₄ b hb
    have G₄ := GFw (tk := tk) G₃ hk4
    have hx : vs[i]? = some (vs.getD i .unb) := by simp [List.getD_eq_getElem?_getD, hlt]
    obtain ⟨v', hv', r'⟩ := rl'.at hx
    have ev : xv = v' := by rw [List.getElem?_toArray, hv'] at hxv; exact (Option.some.inj hxv).symm
    subst ev
    obtain ⟨ρ₂, u, hb⟩ := step i _ hx ρ₁ σ₂ hJ
    have hT4 : IsTup h₄ T #[.int i t, xv] := by
      obtain ⟨o, ho, rr⟩ := hTt
      exact ⟨o, hk4 _ _ Tw ho, rr⟩
    refine assign_Tuple_tuple C.hh hT4 rfl rfl fun h₅ hx5 => ?_
    have hg5 : ∀ b o, h₄.get? b = some o → h₅.get? b = some o := fun b o e => hx5 b o (Nat.ne_of_lt (Heap.lt_size e)) e
    have g5 := grow_rel (h' := h₅) (tk := tk) g4.1 hg5
    have key := storeAll_wp (Q' := fun _ s' => Rel C (wr ++ P) s' ρ₂ σ₂ ∧ Fut C { s₂ with heap := h₄, toks := tk } σ₂ s' σ₂) u g5.1 (vs := [.int i t, xv]) (ts := ((assignEach [.Name x px, .Name y py] C.env).map (·.2)))
      (by simp only [RepL]; exact ⟨int_rep, g5.2.rep (G₄.rep r'), trivial⟩) rfl (fun i x t hx ht v s Q hq => ?_) fun s₅ R₅ f₅ => ⟨R₅, g5.2.trans f₅⟩
    refine wpAny_mono key (fun _ s₅ h₅ => ?_) fun _ _ z => z.elim
    obtain ⟨R₅, f₅⟩ := h₅
    refine wpAny_mono (hb _ _ R₅) (fun f s₆ h₆ => ?_) fun _ _ z => z.elim
    obtain ⟨F, ρ₃, σ₃, R₆, f₆, r₆, k₆⟩ := h₆
    have f₅₆ := f₅.trans f₆
    have hwl4 : ∀ x ∈ wr, ∃ o, ({ s₂ with heap := h₄, toks := tk } : Shared).heap.get? x = some o := fun b hb => hwl _ _ hs₄ b hb
    have G₆ := G₄.fut f₅₆ hwl4
    have hs₆ := W.frame _ _ s₆.heap hs₄ fun b hb o e => f₅₆.pres b o (hfp b hb).1 (fun q => by
      rcases (hfp b hb).2 with z | ⟨z, o', e'⟩
      · obtain ⟨⟨b', ws⟩, hm, rfl⟩ := List.mem_map.mp q
        obtain ⟨_, _, _, hX', _⟩ := R₂.own b' ws hm
        exact hXw _ z (hX' (List.mem_append_left _ z))
      · rcases G₂.fresh b q with y | y
        · exact z y
        · simp only at y; rw [e'] at y; cases y) e
    have R₆' : Rel C P s₆ ρ₃ σ₃ := drop_rel R₆ hXw hww R₁.XP
    have F₆ : Fut C s σ s₆ σ₃ := (f₀.trans f₁).trans (GF.base g.2 G₆ hwr R₁.Llive)
    cases F with
    | nx => cases r₆; exact ⟨vs.length + 1 - (i + 1), meas hlt, i + 1, ρ₃, σ₃, R₆, G₆, hs₆, k₆, hlt, rfl⟩
    | ct => cases r₆; exact ⟨vs.length + 1 - (i + 1), meas hlt, i + 1, ρ₃, σ₃, R₆, G₆, hs₆, k₆, hlt, rfl⟩
    | bk => cases r₆; exact ⟨.nx, ρ₃, σ₃, R₆', F₆, rfl, k₆⟩
    | rt Y => obtain ⟨v, rfl, r⟩ := r₆; exact ⟨.rt Y, ρ₃, σ₃, R₆', F₆, ⟨v, rfl, drop_rep r⟩, k₆⟩
    · match i, hx, ht with
      | 0, hx, ht => cases hx; cases ht; exact PyProof.Rows.assign_Name hq
      | 1, hx, ht => cases hx; cases ht; exact PyProof.Rows.assign_Name hq
  · have hin : i = vs.length := by omega
    subst hin
    refine W.done s₂ _ _ (elen ▸ hs₂) fun h₃ tk hk => wpAny_execs_nil ?_
    have g3 := walk_rel (tk := tk) R₂ hk hXw hww (P' := P) (fun _ q => List.mem_append_right _ q) R₁.XP fun b hb hw => absurd hb (hPw b hw)
    have G₃ := GFw (tk := tk) G₂ hk
    exact ⟨.nx, ρ₁, σ₂, g3.1, (f₀.trans f₁).trans (GF.base g.2 G₃ hwr R₁.Llive), rfl, fin _ _ hJ⟩
end
end Mine
end
section
open PySem PySem.Calls PyProof.Rows
set_option linter.unusedVariables false
namespace Mine
def DefAt (W : Wd) (d : DefRec) : Prop := ∃ a o pm cd doc, W.mg d.name = some (.ref a) ∧ W.hw.get? a = some o ∧ o.data = .func (docDef d.name d.params d.body d.scope pm cd doc) ∧ W.hw.CodeRec cd d.name
theorem DefAt.res {W : Wd} {d : DefRec} (D : DefAt W d) : W.Res d.name (W.fn d.name) := by
  obtain ⟨a, o, pm, cd, doc, h, _⟩ := D
  left; unfold Wd.fn; rw [h]; rfl
theorem DefAt.isFn {W : Wd} {d : DefRec} (D : DefAt W d) : IsFn W (W.fn d.name) := by
  obtain ⟨a, o, pm, cd, doc, h, ho, hd, _⟩ := D
  exact ⟨a, o, _, by unfold Wd.fn; rw [h]; rfl, ho, hd⟩
inductive Fz (σ : Sto) : V → V → Prop
  | same (X) : Fz σ X X
  | frz (a vs) : (a, vs) ∈ σ → Fz σ (.hdl a) (.li vs)
def RetQ (r : V) : QS := fun F ρ σ => (∃ X, F = .rt X ∧ Fz σ X r) ∨ (F = .nx ∧ r = .none)
def RetM (a : Addr) (r : V) (own' : List V) : QS := fun F ρ σ => ((F = .rt r) ∨ (F = .nx ∧ r = .none)) ∧ σ = [(a, own')]
def statOk (scope : Scope) (names rest gn : List Str) : Bool :=
  decide (names ++ rest).Nodup && (names ++ rest).all (fun x => scope.names.lookup x == some .local) && gn.all (fun x => scope.names.lookup x == some .globalImplicit) &&
  (names ++ rest ++ gn).all (fun x => !(x == ("__debug__" : Str))) && (scope.kind == .function) && !scope.isCoroutine && !scope.isGenerator && scope.names.all (fun x => x.2 != .cell)
structure Stat (scope : Scope) (names rest gn : List Str) : Prop where
  nd : (names ++ rest).Nodup
  loc : ∀ x ∈ names ++ rest, scope.names.lookup x = some .local
  gl : ∀ x ∈ gn, scope.names.lookup x = some .globalImplicit
  dbg : ∀ x ∈ names ++ rest ++ gn, (x == ("__debug__" : Str)) = false
  kind : scope.kind = .function
  co : scope.isCoroutine = false
  gen : scope.isGenerator = false
  cell : ∀ x ∈ scope.names, x.2 ≠ .cell
theorem Stat.of {scope : Scope} {names rest gn : List Str} (h : statOk scope names rest gn = true) : Stat scope names rest gn := by
  simp only [statOk, Bool.and_eq_true, decide_eq_true_eq, List.all_eq_true, beq_iff_eq, Bool.not_eq_true', bne_iff_ne] at h
  obtain ⟨⟨⟨⟨⟨⟨⟨h1, h2⟩, h3⟩, h4⟩, h5⟩, h6⟩, h7⟩, h8⟩ := h
  exact ⟨h1, h2, h3, h4, h5, h6, h7, fun x hx => h8 x hx⟩
theorem lookup_uniq {x : Str} {v : Value} : ∀ {l : List (Str × Value)}, (∀ w, (x, w) ∈ l → w = v) → (x, v) ∈ l → l.lookup x = some v
  | (y, u) :: l, hu, h => by
    by_cases e : x = y
    · subst e
      rw [List.lookup_cons, beq_self_eq_true, hu u (.head _)]
    · rw [List.lookup_cons, beq_eq_false_iff_ne.mpr e]
      rcases List.mem_cons.mp h with q | q
      · cases q; exact absurd rfl e
      · exact lookup_uniq (fun w hw => hu w (.tail _ hw)) q
theorem nodup_uniq {x : Str} {v w : Value} : ∀ {l : List (Str × Value)}, (l.map (·.1)).Nodup → (x, v) ∈ l → (x, w) ∈ l → w = v
  | (y, u) :: l, nd, h, h' => by
    have nd' := List.nodup_cons.mp nd
    rcases List.mem_cons.mp h with q | q
    · cases q
      rcases List.mem_cons.mp h' with q' | q'
      · cases q'; rfl
      · exact absurd (List.mem_map_of_mem (f := (·.1)) q') nd'.1
    · rcases List.mem_cons.mp h' with q' | q'
      · cases q'; exact absurd (List.mem_map_of_mem (f := (·.1)) q) nd'.1
      · exact nodup_uniq nd'.2 q q'
theorem mem_zip {h : Heap} {S : List Addr} {x : Str} {X : V} : ∀ {names : List Str} {args : List V} {vals : List Value}, RepL h S args vals → (x, X) ∈ names.zip args → ∃ v, (x, v) ∈ names.zip vals ∧ Rep h S X v
  | [], _, _, _, m => by simp at m
  | _ :: _, [], _, _, m => by simp at m
  | n :: ns, a :: as, vs, r, m => by
    obtain ⟨v, ws, rfl, r1, r2⟩ := repL_cons r
    rw [List.zip_cons_cons] at m
    rcases List.mem_cons.mp m with q | q
    · cases q; exact ⟨v, by rw [List.zip_cons_cons]; exact .head _, r1⟩
    · obtain ⟨u, hu, ru⟩ := mem_zip r2 q
      exact ⟨u, by rw [List.zip_cons_cons]; exact .tail _ hu, ru⟩
/-- the frame of a call -/
def mkCx (W : Wd) (A : Around) (n : Nat) (d : DefRec) (L fa : Addr) (cd : Value) (rest gn : List Str) (X : List Addr) (st : Stat d.scope (d.params.args.map (·.arg)) rest gn) (r : Room A (n + 1)) (hL : W.hw.get? L = none) : Cx where
  W := W
  A := A.deeper (envOf d.name d.scope L fa cd)
  env := envOf d.name d.scope L fa cd
  locs := d.params.args.map (·.arg) ++ rest
  gn := gn
  X := X
  room := n
  hk := st.kind
  hglob := rfl
  hbns := rfl
  hh := r.hh
  hlocs := st.loc
  hnd := st.nd
  hgn := st.gl
  hdbg := st.dbg
  hLw := hL
  hroom := by have := r.d; show A.depth + 1 + n < recursionLimit; omega
  hunits := by have := r.u; show A.units + 3 + 4 * n + 80 < cLine; omega
theorem start_rel {W : Wd} {A : Around} {n : Nat} {d : DefRec} {fa : Addr} {cd : Value} {rest gn : List Str} {X : List Addr} {st : Stat d.scope (d.params.args.map (·.arg)) rest gn} {r : Room A (n + 1)} {s : Shared} {hL : W.hw.get? s.heap.objs.size = none}
    {args : List V} {vals : List Value} {S : List Addr} {h₁ : Heap} {tk : Nat} (hlen : args.length = (d.params.args.map (·.arg)).length) (F : Fr s.heap s.heap.objs.size h₁ (fun x => ((d.params.args.map (·.arg)).zip vals).reverse.lookup x))
    (hw : ∀ b o, W.hw.get? b = some o → s.heap.get? b = some o) (hS : ∀ a ∈ S, ∃ o, s.heap.get? a = some o) (hr : RepL s.heap S args vals) (σ : Sto) (hσ : keysOf σ = X)
    (hown : ∀ a vs, (a, vs) ∈ σ → ∃ vs', PL s.heap a vs' ∧ RepL s.heap S vs vs' ∧ a ∈ S ∧ W.hw.get? a = none) (hnd : (keysOf σ).Nodup) :
    Rel (mkCx W A n d s.heap.objs.size fa cd rest gn X st r hL) S { s with heap := h₁, toks := tk } ((d.params.args.map (·.arg)).zip args ++ rest.map fun x => (x, .unb)) σ := by
  have hXS : ∀ a ∈ X, a ∈ S := fun a ha => by
    rw [← hσ] at ha
    obtain ⟨⟨b, vs⟩, hb, rfl⟩ := List.mem_map.mp ha
    obtain ⟨_, _, _, h, _⟩ := hown b vs hb
    exact h
  have LS : s.heap.objs.size ∉ S := fun q => by
    obtain ⟨o, e⟩ := hS _ q
    exact absurd (Heap.lt_size e) (Nat.lt_irrefl _)
  have up : ∀ b o, b ∉ S → s.heap.get? b = some o → h₁.get? b = some o ∧ b ∉ (mkCx W A n d s.heap.objs.size fa cd rest gn X st r hL).S σ S := fun b o hb e => ⟨F.keep b o e, fun q => by
    rcases List.mem_cons.mp q with q | q
    · exact absurd (Heap.lt_size e) (by rw [show b = s.heap.objs.size from q]; exact Nat.lt_irrefl _)
    · rcases List.mem_append.mp q with q | q
      · exact hb (hXS b (hσ ▸ q))
      · exact hb q⟩
  have ndn : (d.params.args.map (·.arg)).Nodup := (List.nodup_append.mp st.nd).1
  refine ⟨⟨_, F.ns, fun x Y hx => ?_⟩, ?_, fun b o e => F.keep b o (hw b o e), fun a vs ha => ?_, hnd, fun a ha => ?_, LS, hXS⟩
  · rcases List.mem_append.mp hx with q | q
    · obtain ⟨v, hv, rv⟩ := mem_zip hr q
      refine .inr ⟨v, ?_, rv.mono up⟩
      have hl2 : vals.length = (d.params.args.map (·.arg)).length := by rw [← hr.length, hlen]
      exact lookup_uniq (fun w hw => nodup_uniq (by rw [List.map_fst_zip (Nat.le_of_eq hl2.symm)]; exact ndn) hv (List.mem_reverse.mp hw)) (List.mem_reverse.mpr hv)
    · obtain ⟨y, _, e⟩ := List.mem_map.mp q
      cases e; exact .inl rfl
  · show List.map _ _ = d.params.args.map (·.arg) ++ rest
    rw [List.map_append, List.map_fst_zip (Nat.le_of_eq hlen.symm), List.map_map]
    congr 1
    exact List.map_id' rest
  · obtain ⟨vs', ⟨k, e⟩, r', hS', hw'⟩ := hown a vs ha
    refine ⟨vs', ⟨k, F.keep _ _ e⟩, r'.mono up, fun _ => hσ ▸ List.mem_map_of_mem (f := (·.1)) ha, fun q => ?_, hw'⟩
    have q' : a = s.heap.objs.size := q
    exact LS (q' ▸ hS')
  · obtain ⟨o, e⟩ := hS a ha; exact ⟨o, F.keep _ _ e⟩
theorem drop_S {C : Cx} {σ : Sto} {P : List Addr} {h : Heap} {X : V} {v : Value} (r : Rep h (C.S σ P) X v) : Rep h P X v :=
  r.mono fun b o hb e => ⟨e, fun q => hb (.tail _ (List.mem_append_right _ q))⟩
theorem drop_SL {C : Cx} {σ : Sto} {P : List Addr} {h : Heap} {X : List V} {v : List Value} (r : RepL h (C.S σ P) X v) : RepL h P X v :=
  r.mono fun b o hb e => ⟨e, fun q => hb (.tail _ (List.mem_append_right _ q))⟩
theorem CallOk.of {W : Wd} {n : Nat} {d : DefRec} {args : List V} {r : V} (D : DefAt W d) (rest gn : List Str) (ρ₀ : Loc) (hρ : ((d.params.args.map (·.arg)).zip args ++ rest.map fun x => (x, .unb)) = ρ₀)
    (hst : statOk d.scope (d.params.args.map (·.arg)) rest gn = true) (hlen : args.length = (d.params.args.map (·.arg)).length)
    (hbind : ∀ vals : List Value, vals.length = args.length → ∀ pm cd doc, bindArgs (docDef d.name d.params d.body d.scope pm cd doc) ⟨vals, []⟩ = pure ((d.params.args.map (·.arg)).zip vals))
    (hbody : ∀ C : Cx, C.W = W → C.room = n → C.X = [] → C.gn = gn → (∃ L fa cd, C.env = envOf d.name d.scope L fa cd) → SS C d.body ρ₀ [] (RetQ r)) : CallOk W (n + 1) (W.fn d.name) args r := by
  subst hρ
  have st := Stat.of hst
  refine ⟨D.isFn, fun A s S vals rm hw hS hr => ?_⟩
  obtain ⟨a, o, pm, cd, doc, h, ho, hd, hc⟩ := D
  have efn : W.fn d.name = .ref a := by unfold Wd.fn; rw [h]; rfl
  rw [efn]
  have hvl : vals.length = args.length := hr.length.symm
  have hL : W.hw.get? s.heap.objs.size = none := by
    cases e : W.hw.get? s.heap.objs.size with
    | none => rfl
    | some o => exact absurd (Heap.lt_size (hw _ _ e)) (Nat.lt_irrefl _)
  have hloc : ∀ x ∈ (d.params.args.map (·.arg)).zip vals, d.scope.names.lookup x.1 = some .local := fun x hx => st.loc x.1 (List.mem_append_left _ (List.of_mem_zip hx).1)
  refine call_pos_ret (by have := rm.d; omega) (hw _ _ ho) hd (W.nolimit.keeps hw) (hc.keeps hw) (hbind vals hvl pm cd doc) hloc (fun h₁ F => ?_) st.co st.gen st.kind st.cell
  have R := start_rel (W := W) (A := A) (n := n) (d := d) (fa := a) (cd := cd) (rest := rest) (gn := gn) (X := []) (st := st) (r := rm) (hL := hL) (tk := s.toks + ((d.params.args.map (·.arg)).zip vals).length) hlen F hw hS hr [] rfl (fun _ _ q => by cases q) (by exact List.nodup_nil)
  refine wpAny_mono (hbody (mkCx W A n d s.heap.objs.size a cd rest gn [] st rm hL) rfl rfl rfl rfl ⟨_, _, _, rfl⟩ S _ R) (fun f s' hp => ?_) fun _ _ x => x
  obtain ⟨Fl, ρ', σ', R', F', r', q⟩ := hp
  obtain ⟨h', tk', e'⟩ := F'.shape
  have hkeep : ∀ b o, s.heap.get? b = some o → s'.heap.get? b = some o := fun b o e => F'.pres b o (fun z => absurd (Heap.lt_size e) (by rw [show b = s.heap.objs.size from z]; exact Nat.lt_irrefl _)) (fun z => by cases z) (F.keep b o e)
  rcases q with ⟨X, rfl, z⟩ | ⟨rfl, rfl⟩
  · obtain ⟨v, rfl, rv⟩ := r'
    refine ⟨v, rfl, ⟨h', tk', e'⟩, hkeep, ?_⟩
    cases z with
    | same => exact drop_S rv
    | frz a vs hm =>
      cases rep_hdl rv
      obtain ⟨vals', hp', r2, hX, _⟩ := R'.own a vs hm
      simp only [Rep]
      exact ⟨a, vals', rfl, (fun q => by have := hX q; cases this), hp'.isList, drop_SL r2⟩
  · cases r'
    exact ⟨.none, rfl, ⟨h', tk', e'⟩, hkeep, by simp only [Rep]⟩
theorem CallOkM.of {W : Wd} {n : Nat} {d : DefRec} {own own' : List V} {args : List V} {r : V} (D : DefAt W d) (rest gn : List Str) (ρ₀ : Addr → Loc) (hρ : (fun a => (d.params.args.map (·.arg)).zip (.hdl a :: args) ++ rest.map fun x => (x, .unb)) = ρ₀)
    (hst : statOk d.scope (d.params.args.map (·.arg)) rest gn = true) (hlen : args.length + 1 = (d.params.args.map (·.arg)).length)
    (hbind : ∀ vals : List Value, vals.length = args.length + 1 → ∀ pm cd doc, bindArgs (docDef d.name d.params d.body d.scope pm cd doc) ⟨vals, []⟩ = pure ((d.params.args.map (·.arg)).zip vals))
    (hbody : ∀ C : Cx, C.W = W → C.room = n → ∀ a, C.X = [a] → C.gn = gn → (∃ L fa cd, C.env = envOf d.name d.scope L fa cd) → SS C d.body (ρ₀ a) [(a, own)] (RetM a r own')) : CallOkM W (n + 1) (W.fn d.name) own args r own' := by
  subst hρ
  have st := Stat.of hst
  refine ⟨D.isFn, fun A s S b vals0 vals rm hw hS hbS hbw hp ho0 hr => ?_⟩
  obtain ⟨a, o, pm, cd, doc, h, ho, hd, hc⟩ := D
  have efn : W.fn d.name = .ref a := by unfold Wd.fn; rw [h]; rfl
  rw [efn]
  have hvl : (Value.ref b :: vals).length = args.length + 1 := by simp [hr.length]
  have hL : W.hw.get? s.heap.objs.size = none := by
    cases e : W.hw.get? s.heap.objs.size with
    | none => rfl
    | some o => exact absurd (Heap.lt_size (hw _ _ e)) (Nat.lt_irrefl _)
  have hloc : ∀ x ∈ (d.params.args.map (·.arg)).zip (Value.ref b :: vals), d.scope.names.lookup x.1 = some .local := fun x hx => st.loc x.1 (List.mem_append_left _ (List.of_mem_zip hx).1)
  refine call_pos_ret (by have := rm.d; omega) (hw _ _ ho) hd (W.nolimit.keeps hw) (hc.keeps hw) (hbind _ hvl pm cd doc) hloc (fun h₁ F => ?_) st.co st.gen st.kind st.cell
  have R := start_rel (W := W) (A := A) (n := n) (d := d) (fa := a) (cd := cd) (rest := rest) (gn := gn) (X := [b]) (st := st) (r := rm) (hL := hL) (args := .hdl b :: args) (vals := .ref b :: vals) (tk := s.toks + ((d.params.args.map (·.arg)).zip (Value.ref b :: vals)).length) (by simpa using hlen) F hw hS (by simp only [RepL]; exact ⟨by simp only [Rep], hr⟩) [(b, own)] rfl
    (fun c ws q => by cases List.mem_singleton.mp q; exact ⟨vals0, hp, ho0, hbS, hbw⟩) (by simp [keysOf])
  refine wpAny_mono (hbody (mkCx W A n d s.heap.objs.size a cd rest gn [b] st rm hL) rfl rfl b rfl rfl ⟨_, _, _, rfl⟩ S _ R) (fun f s' hp => ?_) fun _ _ x => x
  obtain ⟨Fl, ρ', σ', R', F', r', q, rfl⟩ := hp
  obtain ⟨h', tk', e'⟩ := F'.shape
  have hkeep : ∀ c o, c ≠ b → s.heap.get? c = some o → s'.heap.get? c = some o := fun c o hc e => F'.pres c o (fun z => absurd (Heap.lt_size e) (by rw [show c = s.heap.objs.size from z]; exact Nat.lt_irrefl _)) (fun z => hc (List.mem_singleton.mp z)) (F.keep c o e)
  obtain ⟨vals', hp', r2, _⟩ := R'.own b own' (.head _)
  rcases q with rfl | ⟨rfl, rfl⟩
  · obtain ⟨v, rfl, rv⟩ := r'
    exact ⟨v, vals', rfl, ⟨h', tk', e'⟩, hkeep, hp', drop_SL r2, drop_S rv⟩
  · cases r'
    exact ⟨.none, vals', rfl, ⟨h', tk', e'⟩, hkeep, hp', drop_SL r2, by simp only [Rep]⟩
structure Fn (W : Wd) (x : Str) : Prop where
  res : W.Res x (W.fn x)
  isFn : IsFn W (W.fn x)
theorem DefAt.fn {W : Wd} {d : DefRec} (D : DefAt W d) : Fn W d.name := ⟨D.res, D.isFn⟩
section
variable {C : Cx} {ρ : Loc} {σ : Sto} {Q : QS} {K : V → Sto → Prop}
theorem EE_fn {x : Str} {e : PySem.Expr} {es : List PySem.Expr} {p pos : Pos} (hx : x ∈ C.gn) (hf : Fn C.W x) (h : EA C pos (e :: es) ρ σ fun Xs σ₂ => CL C (C.W.fn x) Xs σ₂ K)
    (he : starEach (e :: es) C.env = (false, eval e C.env) :: starEach es C.env := by with_unfolding_all rfl)
    (he2 : eval (.Call (.Name x p) (e :: es) [] pos) C.env = (do callWith pos (← eval (.Name x p) C.env) [] (backTo pos (starEach (e :: es) C.env)) (backToKw pos (keywordEach [] C.env))) := by with_unfolding_all rfl) : EE C (.Call (.Name x p) (e :: es) [] pos) ρ σ K :=
  EE_call (EE_glob hx hf.res ⟨_, rfl, hf.isFn, h⟩) he he2
theorem EE_fnM {x : Str} {e : PySem.Expr} {es : List PySem.Expr} {p pos : Pos} (hx : x ∈ C.gn) (hf : Fn C.W x) (h : EA C pos (e :: es) ρ σ fun Xs σ₂ => CLM C (C.W.fn x) Xs σ₂ K)
    (he : starEach (e :: es) C.env = (false, eval e C.env) :: starEach es C.env := by with_unfolding_all rfl)
    (he2 : eval (.Call (.Name x p) (e :: es) [] pos) C.env = (do callWith pos (← eval (.Name x p) C.env) [] (backTo pos (starEach (e :: es) C.env)) (backToKw pos (keywordEach [] C.env))) := by with_unfolding_all rfl) : EE C (.Call (.Name x p) (e :: es) [] pos) ρ σ K :=
  EE_callM (EE_glob hx hf.res ⟨_, rfl, hf.isFn, h⟩) he he2
/-- a def held by a variable -/
theorem EE_fv {x : Str} {f : Value} {e : PySem.Expr} {es : List PySem.Expr} {p pos : Pos} (hx : (x, .raw f) ∈ ρ) (hf : IsFn C.W f) (h : EA C pos (e :: es) ρ σ fun Xs σ₂ => CL C f Xs σ₂ K)
    (he : starEach (e :: es) C.env = (false, eval e C.env) :: starEach es C.env := by with_unfolding_all rfl)
    (he2 : eval (.Call (.Name x p) (e :: es) [] pos) C.env = (do callWith pos (← eval (.Name x p) C.env) [] (backTo pos (starEach (e :: es) C.env)) (backToKw pos (keywordEach [] C.env))) := by with_unfolding_all rfl) : EE C (.Call (.Name x p) (e :: es) [] pos) ρ σ K :=
  EE_call (EE_var hx (by intro q; cases q) ⟨_, rfl, hf, h⟩) he he2
theorem EE_bi {x : Str} {id : String} {e : PySem.Expr} {es : List PySem.Expr} {p pos : Pos} (hx : x ∈ C.gn) (hr : C.W.Res x (.builtin id)) (h : EA C pos (e :: es) ρ σ fun Xs σ₂ => BC C (.builtin id) Xs ρ σ₂ K)
    (he : starEach (e :: es) C.env = (false, eval e C.env) :: starEach es C.env := by with_unfolding_all rfl) (hpl : (backTo pos (starEach es C.env)).any (·.1) = false := by with_unfolding_all rfl)
    (he2 : eval (.Call (.Name x p) (e :: es) [] pos) C.env = (do callWith pos (← eval (.Name x p) C.env) [] (backTo pos (starEach (e :: es) C.env)) (backToKw pos (keywordEach [] C.env))) := by with_unfolding_all rfl) : EE C (.Call (.Name x p) (e :: es) [] pos) ρ σ K :=
  EE_callB (EE_glob hx hr ⟨rfl, h⟩) he hpl he2
theorem EE_ty {x : Str} {id : String} {e : PySem.Expr} {es : List PySem.Expr} {p pos : Pos} (hx : x ∈ C.gn) (hr : C.W.Res x (.type id)) (h : EA C pos (e :: es) ρ σ fun Xs σ₂ => BC C (.type id) Xs ρ σ₂ K)
    (he : starEach (e :: es) C.env = (false, eval e C.env) :: starEach es C.env := by with_unfolding_all rfl) (hpl : (backTo pos (starEach es C.env)).any (·.1) = false := by with_unfolding_all rfl)
    (he2 : eval (.Call (.Name x p) (e :: es) [] pos) C.env = (do callWith pos (← eval (.Name x p) C.env) [] (backTo pos (starEach (e :: es) C.env)) (backToKw pos (keywordEach [] C.env))) := by with_unfolding_all rfl) : EE C (.Call (.Name x p) (e :: es) [] pos) ρ σ K :=
  EE_callT (EE_glob hx hr ⟨rfl, h⟩) he hpl he2
theorem ER_rng {x : Str} {e : PySem.Expr} {es : List PySem.Expr} {p pos : Pos} {Kr : Int → Int → Int → Sto → Prop} (hx : x ∈ C.gn) (hr : C.W.Res x (.type "range")) (h : EA C pos (e :: es) ρ σ fun Xs σ₂ => ∃ a b c, RangeArgs Xs a b c ∧ Kr a b c σ₂)
    (he : starEach (e :: es) C.env = (false, eval e C.env) :: starEach es C.env := by with_unfolding_all rfl) (hpl : (backTo pos (starEach es C.env)).any (·.1) = false := by with_unfolding_all rfl)
    (he2 : eval (.Call (.Name x p) (e :: es) [] pos) C.env = (do callWith pos (← eval (.Name x p) C.env) [] (backTo pos (starEach (e :: es) C.env)) (backToKw pos (keywordEach [] C.env))) := by with_unfolding_all rfl) : ER C (.Call (.Name x p) (e :: es) [] pos) ρ σ Kr :=
  ER_range (EE_glob hx hr ⟨rfl, h⟩) he hpl he2
/-- an expression for its effect -/
theorem SS_expr {e : PySem.Expr} {pos : Pos} {rest : List Stmt} (h : EE C e ρ σ fun X σ₁ => SS C rest ρ σ₁ Q) (hs : swapsWith e none pos.line C.env = pure false := by with_unfolding_all rfl) : SS C (.Expr e pos :: rest) ρ σ Q := fun P s R => by
  refine wpAny_execs_cons (wpAny_Expr_any (wpAny_mono (h P s R) (fun v s₁ h₁ => ?_) fun _ _ x => x) C.interactive hs)
  refine Post.elim h₁ fun X σ₁ R₁ f₁ r₁ k₁ => ?_
  exact wpAny_mono (k₁ P s₁ R₁) (fun _ _ x => x.fut f₁) fun _ _ x => x
end
end Mine
end
section
open PySem PySem.Calls PyProof.Rows
set_option linter.unusedVariables false
namespace Mine
abbrev IsL (ρ l : Loc) : Prop := ρ = l
abbrev Li (xs : List Int) : V := .li (xs.map V.int)
section
variable {C : Cx} {ρ : Loc} {σ : Sto} {Q : QS} {K : V → Sto → Prop}
def IDX (O I : V) (σ : Sto) (K : V → Sto → Prop) : Prop :=
  ∃ k : Int, ∃ vs j x, I = .int k ∧ (Holds σ O vs ∨ O = .tup vs) ∧ vs.length ≤ 1000000 ∧ seqIndex? k vs.length = some j ∧ vs[j]? = some x ∧ K x σ
theorem EE_ix {value slice : PySem.Expr} {pos : Pos} (h : EE C value ρ σ fun O σ₁ => EE C slice ρ σ₁ fun I σ₂ => IDX O I σ₂ K) (hp : plainIdx slice = true := by with_unfolding_all rfl) : EE C (.Subscript value slice pos) ρ σ K := EE_idx hp h
theorem seq_in {k : Int} {n : Nat} (h0 : 0 ≤ k) (h1 : k < n) : seqIndex? k n = some k.toNat := by
  unfold seqIndex?
  have e : ¬ k < 0 := by omega
  simp [e, h0, h1]
theorem seq_neg {k : Int} {n : Nat} (h0 : k < 0) (h1 : 0 ≤ k + n) : seqIndex? k n = some (k + n).toNat := by
  unfold seqIndex?
  have e : k + (n : Int) < n := by omega
  simp [h0, h1, e]
theorem IDX.of {O : V} {vs : List V} {k : Int} {x : V} (hO : Holds σ O vs) (hl : vs.length ≤ 1000000) (h0 : 0 ≤ k) (h1 : k < vs.length) (hx : vs[k.toNat]? = some x) (h : K x σ) : IDX O (.int k) σ K :=
  ⟨k, vs, _, x, rfl, .inl hO, hl, seq_in h0 h1, hx, h⟩
theorem getD_map {xs : List Int} {i : Nat} (h : i < xs.length) : (xs.map V.int)[i]? = some (.int (xs.getD i 0)) := by
  simp [List.getD_eq_getElem?_getD, h]
theorem IDX_li {xs : List Int} {k : Int} (h0 : 0 ≤ k) (h1 : k < xs.length) (hl : xs.length ≤ 1000000) (h : K (.int (xs.getD k.toNat 0)) σ) : IDX (Li xs) (.int k) σ K :=
  IDX.of (.li _) (by simpa using hl) h0 (by simpa using h1) (getD_map (by omega)) h
theorem IDX_hdl {a : Addr} {xs : List Int} {k : Int} (ha : (a, xs.map V.int) ∈ σ) (h0 : 0 ≤ k) (h1 : k < xs.length) (hl : xs.length ≤ 1000000) (h : K (.int (xs.getD k.toNat 0)) σ) : IDX (.hdl a) (.int k) σ K :=
  IDX.of (.hdl _ _ ha) (by simpa using hl) h0 (by simpa using h1) (getD_map (by omega)) h
theorem IDX_last {xs : List Int} (h1 : 0 < xs.length) (hl : xs.length ≤ 1000000) (h : K (.int (xs.getD (xs.length - 1) 0)) σ) : IDX (Li xs) (.int (-1)) σ K :=
  ⟨-1, _, _, _, rfl, .inl (.li _), by simpa using hl, seq_neg (by decide) (by simp; omega), by
    have e : (-1 + ((xs.map V.int).length : Int)).toNat = xs.length - 1 := by rw [List.length_map, Int.add_comm]; exact Int.toNat_sub xs.length 1
    rw [e]; exact getD_map (by omega), h⟩
theorem IDX_t0 {a : V} {as : List V} (hl : (a :: as).length ≤ 1000000) (h : K a σ) : IDX (.tup (a :: as)) (.int 0) σ K :=
  ⟨0, _, 0, a, rfl, .inr rfl, hl, seq_in (by decide) (by simp <;> omega), rfl, h⟩
theorem IDX_t1 {a b : V} {as : List V} (hl : (a :: b :: as).length ≤ 1000000) (h : K b σ) : IDX (.tup (a :: b :: as)) (.int 1) σ K :=
  ⟨1, _, 1, b, rfl, .inr rfl, hl, seq_in (by decide) (by simp <;> omega), rfl, h⟩
theorem IDX_h0 {h : Addr} {a : V} {as : List V} (hm : (h, a :: as) ∈ σ) (hl : (a :: as).length ≤ 1000000) (hk : K a σ) : IDX (.hdl h) (.int 0) σ K :=
  ⟨0, _, 0, a, rfl, .inl (.hdl _ _ hm), hl, seq_in (by decide) (by simp <;> omega), rfl, hk⟩
theorem IDX_h1 {h : Addr} {a b : V} {as : List V} (hm : (h, a :: b :: as) ∈ σ) (hl : (a :: b :: as).length ≤ 1000000) (hk : K b σ) : IDX (.hdl h) (.int 1) σ K :=
  ⟨1, _, 1, b, rfl, .inl (.hdl _ _ hm), hl, seq_in (by decide) (by simp <;> omega), rfl, hk⟩
/-- a test's end -/
def TB (K : Bool → Sto → Prop) : V → Sto → Prop := fun X σ => ∃ d, X = .bool d ∧ K d σ
theorem TB.mk {K : Bool → Sto → Prop} {d : Bool} (h : K d σ) : TB K (.bool d) σ := ⟨d, rfl, h⟩
theorem TT_c {l r : PySem.Expr} {op : CmpOp} {pos : Pos} {Kb : Bool → Sto → Prop} (h : EE C l ρ σ fun a σ₁ => EE C r ρ σ₁ fun b σ₂ => OP C (compareOp op) a b ρ σ₂ (TB Kb))
    (hm : behindInMarks op r = false := by with_unfolding_all rfl) : TT C (.Compare l [op] [r] pos) ρ σ Kb := TT_cmp h hm
theorem TT_p {e : PySem.Expr} {Kb : Bool → Sto → Prop} (h : EE C e ρ σ (TB Kb))
    (he : PySem.isTrue e C.env (eval e C.env) = (do let v ← eval e C.env; standAt e.pos; holding [v] (truthy v)) := by with_unfolding_all rfl) : TT C e ρ σ Kb := TT_plain h he
/-- a fork -/
def BR (c : Bool) (A B : Prop) : Prop := (c = true → A) ∧ (c = false → B)
theorem BR_dec {p : Prop} [Decidable p] {A B : Prop} (h1 : p → A) (h2 : ¬ p → B) : BR (decide p) A B := ⟨fun h => h1 (of_decide_eq_true h), fun h => h2 (of_decide_eq_false h)⟩
theorem BR_eq {a b : Int} {A B : Prop} (h1 : a = b → A) (h2 : a ≠ b → B) : BR (a == b) A B := ⟨fun h => h1 (by simpa using h), fun h => h2 (by simpa using h)⟩
theorem BR_ne {a b : Int} {A B : Prop} (h1 : a ≠ b → A) (h2 : a = b → B) : BR (a != b) A B := ⟨fun h => h1 (by simpa using h), fun h => h2 (by simpa using h)⟩
theorem BR_b {c : Bool} {A B : Prop} (h1 : c = true → A) (h2 : c = false → B) : BR c A B := ⟨h1, h2⟩
theorem BR_t {A B : Prop} (h1 : A) : BR true A B := ⟨fun _ => h1, fun h => (by cases h)⟩
theorem BR_f {A B : Prop} (h1 : B) : BR false A B := ⟨fun h => (by cases h), fun _ => h1⟩
theorem BR_not {c : Bool} {A B : Prop} (h : BR c B A) : BR (!c) A B := ⟨fun q => h.2 (by simpa using q), fun q => h.1 (by simpa using q)⟩
theorem SS_br {t : PySem.Expr} {b o : List Stmt} {pos : Pos} {rest : List Stmt} (h : TT C t ρ σ fun c σ₁ => BR c (SS C b ρ σ₁ (Then C rest Q)) (SS C o ρ σ₁ (Then C rest Q))) : SS C (.If t b o pos :: rest) ρ σ Q := SS_if h
theorem EE_ife {t b o : PySem.Expr} {pos : Pos} (h : TT C t ρ σ fun c σ₁ => BR c (EE C b ρ σ₁ K) (EE C o ρ σ₁ K)) : EE C (.IfExp t b o pos) ρ σ K := EE_ifexp h
theorem TAnd_c {e : PySem.Expr} {es : List PySem.Expr} {Kb : Bool → Sto → Prop} (h : TT C e ρ σ fun b σ₁ => BR b (TAnd C es ρ σ₁ Kb) (Kb false σ₁)) : TAnd C (e :: es) ρ σ Kb := TAnd_cons h
theorem TOr_c {e : PySem.Expr} {es : List PySem.Expr} {Kb : Bool → Sto → Prop} (h : TT C e ρ σ fun b σ₁ => BR b (Kb true σ₁) (TOr C es ρ σ₁ Kb)) : TOr C (e :: es) ρ σ Kb :=
  TOr_cons fun P s R => wpAny_mono (h P s R) (fun _ _ ⟨σ₁, a, b, c⟩ => ⟨σ₁, a, b, c.2, c.1⟩) fun _ _ x => x
def AB (K : V → Sto → Prop) (A : Sto → Prop) : V → Sto → Prop := fun X σ => ∃ c, X = .bool c ∧ (c = true → A σ) ∧ (c = false → K (.bool false) σ)
theorem AB.mk {K : V → Sto → Prop} {A : Sto → Prop} {c : Bool} (h : BR c (A σ) (K (.bool false) σ)) : AB K A (.bool c) σ := ⟨c, rfl, h⟩
theorem EE_and {x y : PySem.Expr} {pos : Pos} (h : EE C x ρ σ (AB K fun σ₁ => EE C y ρ σ₁ K)) : EE C (.BoolOp .And [x, y] pos) ρ σ K := EE_and2 h
def NB (K : V → Sto → Prop) : V → Sto → Prop := fun X σ => ∃ c, X = .bool c ∧ K (.bool (!c)) σ
theorem NB.mk {c : Bool} (h : K (.bool (!c)) σ) : NB K (.bool c) σ := ⟨c, rfl, h⟩
theorem EE_nt {x : PySem.Expr} {pos : Pos} (h : EE C x ρ σ (NB K)) : EE C (.UnaryOp .Not x pos) ρ σ K := EE_not h
def IB (K : Int → Sto → Prop) : V → Sto → Prop := fun X σ => ∃ i, X = .int i ∧ K i σ
theorem IB.mk {K : Int → Sto → Prop} {i : Int} (h : K i σ) : IB K (.int i) σ := ⟨i, rfl, h⟩
theorem EE_ng {x : PySem.Expr} {pos : Pos} (h : EE C x ρ σ (IB fun i σ₁ => K (.int (-i)) σ₁)) : EE C (.UnaryOp .USub x pos) ρ σ K := EE_neg h
theorem EE_bl {o : PySem.Expr} {ap pos : Pos} (h : EE C o ρ σ (IB fun i σ₁ => K (.int (Builtin.Int.intBits i)) σ₁))
    (hmc : ∃ pl, eval (.Call (.Attribute o "bit_length" ap) [] [] pos) C.env = (do
      let ov ← eval o C.env
      standAt ap.atName
      let (f, first) ← holding [ov] (getMethod ov "bit_length" pl)
      callWith pos f first (backTo pos (starEach [] C.env)) []) := by with_unfolding_all exact ⟨_, rfl⟩) : EE C (.Call (.Attribute o "bit_length" ap) [] [] pos) ρ σ K := EE_bitlen h hmc
/-- slices of lists of ints -/
theorem EP_none {Kp : Option Int → Sto → Prop} (h : Kp none σ) : EP C none ρ σ Kp := h
theorem EP_some {e : PySem.Expr} {Kp : Option Int → Sto → Prop} (h : EE C e ρ σ (IB fun i σ₁ => Kp (some i) σ₁)) : EP C (some e) ρ σ Kp := h
def CUT (O : V) (lo hi : Option Int) (σ : Sto) (K : V → Sto → Prop) : Prop := ∃ vs, Holds σ O vs ∧ vs.length ≤ 1000000 ∧ K (.li (cutV vs lo hi)) σ
theorem EE_cut {value : PySem.Expr} {lower upper : Option PySem.Expr} {p pos : Pos} (h : EE C value ρ σ fun O σ₁ => EP C lower ρ σ₁ fun lo σ₂ => EP C upper ρ σ₂ fun hi σ₃ => CUT O lo hi σ₃ K)
    (ht : ∀ o r, letTemporaryGo value o r = pure () := by intro _ _; with_unfolding_all rfl) : EE C (.Subscript value (.Slice lower upper none p) pos) ρ σ K := EE_slice h ht
theorem clip_in {n : Nat} {k : Int} (h0 : 0 ≤ k) (h1 : k ≤ n) : clipAt n k = k.toNat := by
  have := clipAt_cast n k
  rw [if_neg (Int.not_lt.mpr h0), Int.min_eq_left h1, Int.max_eq_right h0] at this
  exact Int.ofNat_inj.mp (this.trans (Int.toNat_of_nonneg h0).symm)
theorem cut_map {xs : List Int} {lo hi : Option Int} : cutV (xs.map V.int) lo hi = ((xs.drop (lo.elim 0 (clipAt xs.length))).take (hi.elim xs.length (clipAt xs.length) - lo.elim 0 (clipAt xs.length))).map V.int := by
  unfold cutV; simp [List.map_drop, List.map_take]
theorem CUT_all {O : V} {xs : List Int} (hO : Holds σ O (xs.map V.int)) (hl : xs.length ≤ 1000000) (h : K (Li xs) σ) : CUT O none none σ K :=
  ⟨_, hO, by simpa using hl, by rw [cut_map]; simpa using h⟩
theorem CUT_to {O : V} {xs : List Int} {k : Int} (hO : Holds σ O (xs.map V.int)) (hl : xs.length ≤ 1000000) (h0 : 0 ≤ k) (h1 : k ≤ xs.length) (h : K (Li (xs.take k.toNat)) σ) : CUT O none (some k) σ K :=
  ⟨_, hO, by simpa using hl, by rw [cut_map]; simpa [clip_in h0 h1, -List.map_take, -List.map_drop] using h⟩
theorem CUT_mid {O : V} {xs : List Int} {a b : Int} (hO : Holds σ O (xs.map V.int)) (hl : xs.length ≤ 1000000) (h0 : 0 ≤ a) (h1 : a ≤ b) (h2 : b ≤ xs.length) (h : K (Li ((xs.drop a.toNat).take (b.toNat - a.toNat))) σ) : CUT O (some a) (some b) σ K :=
  ⟨_, hO, by simpa using hl, by rw [cut_map]; simpa [clip_in h0 (show a ≤ xs.length by omega), clip_in (show 0 ≤ b by omega) h2, -List.map_take, -List.map_drop] using h⟩
theorem OP_iadd {a b : Int} (h : K (.int (a + b)) σ) : OP C (inplaceOp .Add) (.int a) (.int b) ρ σ K := fun P s v u R ra rb => by
  obtain ⟨t, rfl⟩ := rep_int ra; obtain ⟨t', rfl⟩ := rep_int rb; exact PyProof.Rows.iadd_int (post_toks R int_rep h)
theorem OP_isub {a b : Int} (h : K (.int (a - b)) σ) : OP C (inplaceOp .Sub) (.int a) (.int b) ρ σ K := fun P s v u R ra rb => by
  obtain ⟨t, rfl⟩ := rep_int ra; obtain ⟨t', rfl⟩ := rep_int rb; exact PyProof.Rows.isub_int (post_toks R int_rep h)
theorem OP_ior {a b : Int} (h : K (.int (Builtin.bitOr a b)) σ) : OP C (inplaceOp .BitOr) (.int a) (.int b) ρ σ K := fun P s v u R ra rb => by
  obtain ⟨t, rfl⟩ := rep_int ra; obtain ⟨t', rfl⟩ := rep_int rb; exact PyProof.Rows.ior_int (post_toks R int_rep h)
theorem OP_ishr {a b : Int} (h0 : 0 ≤ b) (h : K (.int (a.fdiv (2 ^ b.toNat))) σ) : OP C (inplaceOp .RShift) (.int a) (.int b) ρ σ K := fun P s v u R ra rb => by
  obtain ⟨t, rfl⟩ := rep_int ra; obtain ⟨t', rfl⟩ := rep_int rb; exact PyProof.Rows.irshift_int h0 (post_toks R int_rep h)
theorem OP_imod {a b : Int} (h0 : b ≠ 0) (h : K (.int (a.fmod b)) σ) : OP C (inplaceOp .Mod) (.int a) (.int b) ρ σ K := fun P s v u R ra rb => by
  obtain ⟨t, rfl⟩ := rep_int ra; obtain ⟨t', rfl⟩ := rep_int rb; exact PyProof.Rows.imod_int h0 (post_toks R int_rep h)
theorem BC_lenI {X : V} {xs : List Int} (hX : Holds σ X (xs.map V.int)) (hl : xs.length ≤ 1000000) (k : K (.int xs.length) σ) : BC C (.builtin "len") [X] ρ σ K :=
  BC_len hX (by simpa using hl) (by simpa using k)
theorem LQ_nx {J : Loc → Sto → Prop} (h : J ρ σ) : LoopQ J Q .nx ρ σ := h
theorem LQ_ct {J : Loc → Sto → Prop} (h : J ρ σ) : LoopQ J Q .ct ρ σ := h
theorem LQ_bk {J : Loc → Sto → Prop} (h : Q .nx ρ σ) : LoopQ J Q .bk ρ σ := h
theorem LQ_rt {J : Loc → Sto → Prop} {X : V} (h : Q (.rt X) ρ σ) : LoopQ J Q (.rt X) ρ σ := h
theorem TH_nx {rest : List Stmt} (h : SS C rest ρ σ Q) : Then C rest Q .nx ρ σ := h
theorem TH_rt {rest : List Stmt} {X : V} (h : Q (.rt X) ρ σ) : Then C rest Q (.rt X) ρ σ := h
theorem TH_bk {rest : List Stmt} (h : Q .bk ρ σ) : Then C rest Q .bk ρ σ := h
theorem TH_ct {rest : List Stmt} (h : Q .ct ρ σ) : Then C rest Q .ct ρ σ := h
theorem RQ_hdl {a : Addr} {xs ys : List Int} (hm : (a, xs.map V.int) ∈ σ) (h : xs = ys) : RetQ (Li ys) (.rt (.hdl a)) ρ σ := .inl ⟨_, rfl, h ▸ .frz a _ hm⟩
theorem RQ_li {xs ys : List Int} (h : xs = ys) : RetQ (Li ys) (.rt (Li xs)) ρ σ := .inl ⟨_, rfl, h ▸ .same _⟩
theorem RQ_int {i j : Int} (h : i = j) : RetQ (.int j) (.rt (.int i)) ρ σ := .inl ⟨_, rfl, h ▸ .same _⟩
theorem RQ_bool {i j : Bool} (h : i = j) : RetQ (.bool j) (.rt (.bool i)) ρ σ := .inl ⟨_, rfl, h ▸ .same _⟩
theorem RQ_same {X : V} : RetQ X (.rt X) ρ σ := .inl ⟨_, rfl, .same _⟩
theorem RQ_eq {X Y : V} (h : X = Y) : RetQ Y (.rt X) ρ σ := .inl ⟨_, rfl, h ▸ .same _⟩
theorem SS_wh {t : PySem.Expr} {body rest : List Stmt} {pos : Pos} (J : Nat → Loc → Sto → Prop) (n : Nat) (h0 : J n ρ σ)
    (step : ∀ n ρ₁ σ₁, J n ρ₁ σ₁ → TT C t ρ₁ σ₁ fun c σ₂ => BR c (SS C body ρ₁ σ₂ (LoopQ (fun ρ₃ σ₃ => ∃ k, k < n ∧ J k ρ₃ σ₃) (Then C rest Q))) (SS C rest ρ₁ σ₂ Q)) :
    SS C (.While t body [] pos :: rest) ρ σ Q := SS_while J n h0 step
/-- for x in range(n), n given as a Nat bound; J over the turn -/
def RNG (Kn : Int → Int → Int → Sto → Prop) : List V → Sto → Prop := fun Xs σ => ∃ a b c, RangeArgs Xs a b c ∧ Kn a b c σ
theorem ER_r {x : Str} {e : PySem.Expr} {es : List PySem.Expr} {p pos : Pos} {Kr : Int → Int → Int → Sto → Prop} (hx : x ∈ C.gn) (hr : C.W.Res x (.type "range")) (h : EA C pos (e :: es) ρ σ (RNG Kr))
    (he : starEach (e :: es) C.env = (false, eval e C.env) :: starEach es C.env := by with_unfolding_all rfl) (hpl : (backTo pos (starEach es C.env)).any (·.1) = false := by with_unfolding_all rfl)
    (he2 : eval (.Call (.Name x p) (e :: es) [] pos) C.env = (do callWith pos (← eval (.Name x p) C.env) [] (backTo pos (starEach (e :: es) C.env)) (backToKw pos (keywordEach [] C.env))) := by with_unfolding_all rfl) : ER C (.Call (.Name x p) (e :: es) [] pos) ρ σ Kr :=
  ER_rng hx hr h he hpl he2
theorem RNG_1 {Kr : Int → Int → Int → Sto → Prop} {n : Int} (h : Kr 0 n 1 σ) : RNG Kr [.int n] σ := ⟨_, _, _, .one n, h⟩
theorem RNG_2 {Kr : Int → Int → Int → Sto → Prop} {a b : Int} (h : Kr a b 1 σ) : RNG Kr [.int a, .int b] σ := ⟨_, _, _, .two a b, h⟩
theorem RNG_d {Kr : Int → Int → Int → Sto → Prop} {a b : Int} (h : Kr a b (-1) σ) : RNG Kr [.int a, .int b, .int (-1)] σ := ⟨_, _, _, .three a b (-1) (by decide) (by decide), h⟩
/-- a rising loop -/
theorem up_small {a b : Int} (ha : -1000000000 ≤ a) (ha' : a ≤ 1000000000) (hb : -1000000000 ≤ b) (hb' : b ≤ 1000000000) : Builtin.Range.small a b 1 = true := small_one (by omega) (by omega) (by omega) (by omega)
theorem SS_up {x : Str} {px pos : Pos} {iter : PySem.Expr} {body rest : List Stmt} (h : ER C iter ρ σ fun a b c σ₁ => c = 1 ∧ -1000000000 ≤ a ∧ a ≤ 1000000000 ∧ -1000000000 ≤ b ∧ b ≤ 1000000000 ∧ ∃ J : Int → Loc → Sto → Prop, J a ρ σ₁ ∧
      (∀ k, a ≤ k → k < b → ∀ ρ₁ σ₂, J k ρ₁ σ₂ → ∃ old ρ₂, Upd x old (.int k) ρ₁ ρ₂ ∧ SS C body ρ₂ σ₂ (LoopQ (J (k + 1)) (Then C rest Q))) ∧ (∀ k, k = (if a ≤ b then b else a) → ∀ ρ₁ σ₂, J k ρ₁ σ₂ → SS C rest ρ₁ σ₂ Q))
    (hs : ∀ x, foldedSetIterable iter C.env x = pure x := by intro _; with_unfolding_all rfl) : SS C (.For (.Name x px) iter body [] pos :: rest) ρ σ Q := by
  refine SS_forR (fun P s R => wpAny_mono (h P s R) (fun v s' hh => ?_) fun _ _ x => x) hs
  obtain ⟨r, a, b, c, t, u, w, σ', e1, e2, R', F', hc, a1, a2, b1, b2, J, h0, step, fin⟩ := hh
  refine ⟨r, a, b, c, t, u, w, σ', e1, e2, R', F', (by rw [hc]; exact up_small a1 a2 b1 b2), (b - a).toNat, ?_, fun i => J (a + i), by simpa using h0, fun i hi ρ₁ σ₂ hJ => ?_, fun ρ₁ σ₂ hJ => fin _ ?_ ρ₁ σ₂ hJ⟩
  · rw [hc, rangeSize_one]; split <;> omega
  · subst hc
    obtain ⟨old, ρ₂, hu, hb⟩ := step (a + i) (by omega) (by omega) ρ₁ σ₂ hJ
    refine ⟨old, ρ₂, by simpa using hu, ?_⟩
    have : a + ((i + 1 : Nat) : Int) = a + i + 1 := by omega
    show SS C body ρ₂ σ₂ (LoopQ (J (a + ((i + 1 : Nat) : Int))) (Then C rest Q))
    rw [this]; exact hb
  · split <;> omega
theorem size_down {a b : Int} : Builtin.Range.rangeSize a b (-1) = if b < a then a - b else 0 := by
  unfold Builtin.Range.rangeSize
  simp
  try split <;> omega
theorem down_small {a b : Int} (ha : -1000000000 ≤ a) (ha' : a ≤ 1000000000) (hb : -1000000000 ≤ b) (hb' : b ≤ 1000000000) : Builtin.Range.small a b (-1) = true := by
  unfold Builtin.Range.small
  rw [size_down]
  have h1 : ¬ ((-1 : Int) > 0) := by decide
  simp only [Builtin.Range.rangeFitsLong, Bool.and_eq_true, Bool.or_eq_true, decide_eq_true_eq, beq_iff_eq, h1, if_false]
  split <;> omega
/-- a falling loop, to nought -/
theorem SS_down {x : Str} {px pos : Pos} {iter : PySem.Expr} {body rest : List Stmt} (h : ER C iter ρ σ fun a b c σ₁ => c = -1 ∧ b = -1 ∧ -1 ≤ a ∧ a ≤ 1000000000 ∧ ∃ J : Int → Loc → Sto → Prop, J (a + 1) ρ σ₁ ∧
      (∀ k, 0 ≤ k → k ≤ a → ∀ ρ₁ σ₂, J (k + 1) ρ₁ σ₂ → ∃ old ρ₂, Upd x old (.int k) ρ₁ ρ₂ ∧ SS C body ρ₂ σ₂ (LoopQ (J k) (Then C rest Q))) ∧ (∀ ρ₁ σ₂, J 0 ρ₁ σ₂ → SS C rest ρ₁ σ₂ Q))
    (hs : ∀ x, foldedSetIterable iter C.env x = pure x := by intro _; with_unfolding_all rfl) : SS C (.For (.Name x px) iter body [] pos :: rest) ρ σ Q := by
  refine SS_forR (fun P s R => wpAny_mono (h P s R) (fun v s' hh => ?_) fun _ _ x => x) hs
  obtain ⟨r, a, b, c, t, u, w, σ', e1, e2, R', F', hc, hb, a1, a2, J, h0, step, fin⟩ := hh
  refine ⟨r, a, b, c, t, u, w, σ', e1, e2, R', F', ?_, (a + 1).toNat, ?_, fun i => J (a + 1 - i), by simpa using h0, fun i hi ρ₁ σ₂ hJ => ?_, fun ρ₁ σ₂ hJ => fin ρ₁ σ₂ ?_⟩
  · subst hc hb; exact down_small (by omega) (by omega) (by omega) (by omega)
  · subst hc hb; rw [size_down]; split <;> omega
  · subst hc hb
    obtain ⟨old, ρ₂, hu, hb⟩ := step (a - i) (by omega) (by omega) ρ₁ σ₂ (by
      have : a - (i : Int) + 1 = a + 1 - i := by omega
      rw [this]; exact hJ)
    refine ⟨old, ρ₂, ?_, ?_⟩
    · have : a + (i : Int) * -1 = a - i := by omega
      rw [this]; exact hu
    · have : a + 1 - ((i + 1 : Nat) : Int) = a - i := by omega
      show SS C body ρ₂ σ₂ (LoopQ (J (a + 1 - ((i + 1 : Nat) : Int))) (Then C rest Q))
      rw [this]; exact hb
  · have : a + 1 - (((a + 1).toNat : Nat) : Int) = 0 := by subst hb; omega
    rw [← this]; exact hJ
/-- two ways that meet -/
def JoinQ (J : Loc → Sto → Prop) : QS
  | .nx, ρ, σ => J ρ σ
  | _, _, _ => False
theorem SS_join {t : PySem.Expr} {b o : List Stmt} {pos : Pos} {rest : List Stmt} (J : Loc → Sto → Prop) (h1 : TT C t ρ σ fun c σ₁ => BR c (SS C b ρ σ₁ (JoinQ J)) (SS C o ρ σ₁ (JoinQ J))) (h2 : ∀ ρ₁ σ₁, J ρ₁ σ₁ → SS C rest ρ₁ σ₁ Q) : SS C (.If t b o pos :: rest) ρ σ Q := by
  have weak : ∀ {b : List Stmt} {ρ : Loc} {σ : Sto}, SS C b ρ σ (JoinQ J) → SS C b ρ σ (Then C rest Q) := fun h P s R => wpAny_mono (h P s R) (fun f s' hp => by
    obtain ⟨F, ρ', σ', R', F', r', q⟩ := hp
    cases F with
    | nx => exact ⟨.nx, ρ', σ', R', F', r', h2 ρ' σ' q⟩
    | bk => exact q.elim
    | ct => exact q.elim
    | rt X => exact q.elim) fun _ _ x => x
  exact SS_br fun P s R => wpAny_mono (h1 P s R) (fun c s' hp => by
    obtain ⟨σ', R', F', q⟩ := hp
    exact ⟨σ', R', F', fun hc => weak (q.1 hc), fun hc => weak (q.2 hc)⟩) fun _ _ x => x
theorem JQ_nx {J : Loc → Sto → Prop} (h : J ρ σ) : JoinQ J .nx ρ σ := h
inductive UpdRev : List Str → List V → Loc → Loc → Prop
  | nil {ρ : Loc} : UpdRev [] [] ρ ρ
  | cons {x : Str} {X old : V} {xs : List Str} {Xs : List V} {ρ ρ₁ ρ₂ : Loc} : UpdRev xs Xs ρ ρ₁ → Upd x old X ρ₁ ρ₂ → UpdRev (x :: xs) (X :: Xs) ρ ρ₂
theorem UpdAll.snoc {xs : List Str} {Xs : List V} {ρ ρ₁ ρ₂ : Loc} {x : Str} {X old : V} (u : UpdAll xs Xs ρ ρ₁) (h : Upd x old X ρ₁ ρ₂) : UpdAll (xs ++ [x]) (Xs ++ [X]) ρ ρ₂ := by
  induction u with
  | nil => exact .cons h .nil
  | cons h' _ ih => exact .cons h' (ih h)
theorem UpdRev.all {xs : List Str} {Xs : List V} {ρ ρ' : Loc} (u : UpdRev xs Xs ρ ρ') : UpdAll xs.reverse Xs.reverse ρ ρ' := by
  induction u with
  | nil => exact .nil
  | cons _ h ih => rw [List.reverse_cons, List.reverse_cons]; exact ih.snoc h
def UNP (C : Cx) (names : List Str) (ρ : Loc) (rest : List Stmt) (Q : QS) : V → Sto → Prop := fun X σ => ∃ Xs, X = .tup Xs ∧ ∃ ρ', UpdRev names Xs ρ ρ' ∧ SS C rest ρ' σ Q
theorem UNP.mk {names : List Str} {rest : List Stmt} {Xs : List V} {ρ' : Loc} (h1 : UpdRev names Xs ρ ρ') (h2 : SS C rest ρ' σ Q) : UNP C names ρ rest Q (.tup Xs) σ := ⟨Xs, rfl, ρ', h1, h2⟩
theorem SS_un {elts : List PySem.Expr} {k : Nat} {tpos pos : Pos} {value : PySem.Expr} {rest : List Stmt} (names : List Str)
    (h : EE C value ρ σ (UNP C names ρ rest Q))
    (hw : swappedStores [.Tuple elts k tpos] value C.env = pure (some names))
    (hs : swapsWithSole [.Tuple elts k tpos] value pos.line C.env = pure false := by with_unfolding_all rfl) : SS C (.Assign [.Tuple elts k tpos] value pos :: rest) ρ σ Q :=
  SS_unpackS (names := names) (fun P s R => wpAny_mono (h P s R) (fun _ _ ⟨X, σ₁, a, b, c, Xs, e, ρ', u, k⟩ => ⟨X, σ₁, a, b, c, Xs, e, ρ', u.all, k⟩) fun _ _ x => x) hw hs
def UNQ (C : Cx) (names : List Str) (ρ : Loc) (rest : List Stmt) (Q : QS) : V → Sto → Prop := fun X σ => ∃ Xs, X = .tup Xs ∧ ∃ ρ', UpdAll names Xs ρ ρ' ∧ SS C rest ρ' σ Q
theorem UNQ.mk {names : List Str} {rest : List Stmt} {Xs : List V} {ρ' : Loc} (h1 : UpdAll names Xs ρ ρ') (h2 : SS C rest ρ' σ Q) : UNQ C names ρ rest Q (.tup Xs) σ := ⟨Xs, rfl, ρ', h1, h2⟩
theorem SS_up2 {k : Nat} {p1 p2 tpos pos : Pos} {value : PySem.Expr} {rest : List Stmt} {a b : Str}
    (h : EE C value ρ σ (UNQ C [a, b] ρ rest Q))
    (hw : swappedStores [.Tuple [.Name a p1, .Name b p2] k tpos] value C.env = pure none := by with_unfolding_all rfl)
    (hs : swapsWithSole [.Tuple [.Name a p1, .Name b p2] k tpos] value pos.line C.env = pure false := by with_unfolding_all rfl) : SS C (.Assign [.Tuple [.Name a p1, .Name b p2] k tpos] value pos :: rest) ρ σ Q :=
  SS_unpack (nps := [(a, p1), (b, p2)]) h rfl hw hs
theorem SS_up4 {k : Nat} {p1 p2 p3 p4 tpos pos : Pos} {value : PySem.Expr} {rest : List Stmt} {a b c d : Str}
    (h : EE C value ρ σ (UNQ C [a, b, c, d] ρ rest Q))
    (hw : swappedStores [.Tuple [.Name a p1, .Name b p2, .Name c p3, .Name d p4] k tpos] value C.env = pure none := by with_unfolding_all rfl)
    (hs : swapsWithSole [.Tuple [.Name a p1, .Name b p2, .Name c p3, .Name d p4] k tpos] value pos.line C.env = pure false := by with_unfolding_all rfl) : SS C (.Assign [.Tuple [.Name a p1, .Name b p2, .Name c p3, .Name d p4] k tpos] value pos :: rest) ρ σ Q :=
  SS_unpack (nps := [(a, p1), (b, p2), (c, p3), (d, p4)]) h rfl hw hs
theorem SS_app {x : Str} {a : Addr} {vs₀ : List V} {e : PySem.Expr} {p ap cp pos : Pos} {rest : List Stmt} (hx : (x, .hdl a) ∈ ρ) (ha : (a, vs₀) ∈ σ)
    (h : EE C e ρ σ fun X σ₁ => ∃ vs σ₂, Upd a vs (vs ++ [X]) σ₁ σ₂ ∧ vs.length ≤ 1000000 ∧ SS C rest ρ σ₂ Q)
    (he : starEach [e] C.env = [(false, eval e C.env)] := by with_unfolding_all rfl)
    (hmc : ∃ pl, eval (.Call (.Attribute (.Name x p) "append" ap) [e] [] cp) C.env = (do
      let ov ← eval (.Name x p) C.env
      standAt ap.atName
      let (f, first) ← holding [ov] (getMethod ov "append" pl)
      callWith cp f first (backTo cp (starEach [e] C.env)) []) := by with_unfolding_all exact ⟨_, rfl⟩)
    (hs : swapsWith (.Call (.Attribute (.Name x p) "append" ap) [e] [] cp) none pos.line C.env = pure false := by with_unfolding_all rfl) :
    SS C (.Expr (.Call (.Attribute (.Name x p) "append" ap) [e] [] cp) pos :: rest) ρ σ Q :=
  SS_append hx h (List.mem_map_of_mem (f := (·.1)) ha) he hmc hs
/-- a conditional expression whose ways give one value -/
theorem EE_ifj {t b o : PySem.Expr} {pos : Pos} (X : V) (h1 : TT C t ρ σ fun c σ₁ => σ₁ = σ ∧ BR c (EE C b ρ σ fun Y σ₂ => Y = X ∧ σ₂ = σ) (EE C o ρ σ fun Y σ₂ => Y = X ∧ σ₂ = σ)) (h2 : K X σ) : EE C (.IfExp t b o pos) ρ σ K := by
  have weak : ∀ {e : PySem.Expr}, EE C e ρ σ (fun Y σ₂ => Y = X ∧ σ₂ = σ) → EE C e ρ σ K := fun h P s R => wpAny_mono (h P s R) (fun v s' ⟨Y, σ', R', F', r', e1, e2⟩ => by subst e1 e2; exact ⟨Y, _, R', F', r', h2⟩) fun _ _ x => x
  exact EE_ife fun P s R => wpAny_mono (h1 P s R) (fun c s' ⟨σ', R', F', e, q⟩ => by subst e; exact ⟨_, R', F', fun hc => weak (q.1 hc), fun hc => weak (q.2 hc)⟩) fun _ _ x => x
inductive FrzAll (a : Addr) (vs : List V) : Loc → Loc → Prop
  | nil : FrzAll a vs [] []
  | hit {x : Str} {ρ ρ' : Loc} : FrzAll a vs ρ ρ' → FrzAll a vs ((x, .hdl a) :: ρ) ((x, .li vs) :: ρ')
  | keep {x : Str} {X : V} {ρ ρ' : Loc} : FrzAll a vs ρ ρ' → FrzAll a vs ((x, X) :: ρ) ((x, X) :: ρ')
theorem FrzAll.keys {a : Addr} {vs : List V} {ρ ρ' : Loc} (u : FrzAll a vs ρ ρ') : ρ'.map (·.1) = ρ.map (·.1) := by
  induction u with
  | nil => rfl
  | hit _ ih => simp only [List.map_cons, ih]
  | keep _ ih => simp only [List.map_cons, ih]
theorem FrzAll.mem {a : Addr} {vs : List V} {ρ ρ' : Loc} (u : FrzAll a vs ρ ρ') : ∀ x X, (x, X) ∈ ρ' → (x, X) ∈ ρ ∨ (X = .li vs ∧ (x, .hdl a) ∈ ρ) := by
  induction u with
  | nil => intro x X h; cases h
  | hit _ ih =>
    intro x X h
    rcases List.mem_cons.mp h with h1 | h1
    · cases h1; exact .inr ⟨rfl, .head _⟩
    · rcases ih x X h1 with q | q
      · exact .inl (.tail _ q)
      · exact .inr ⟨q.1, .tail _ q.2⟩
  | keep _ ih =>
    intro x X h
    rcases List.mem_cons.mp h with h1 | h1
    · cases h1; exact .inl (.head _)
    · rcases ih x X h1 with q | q
      · exact .inl (.tail _ q)
      · exact .inr ⟨q.1, .tail _ q.2⟩
theorem SS_frzN {a : Addr} {vs : List V} {b : List Stmt} {ρ' : Loc} (hX : a ∉ C.X) (hf : FrzAll a vs ρ ρ') (h : SS C b ρ' σ Q) : SS C b ρ ((a, vs) :: σ) Q := fun P s R => by
  obtain ⟨vals, hp, r, hX', hL, hw⟩ := R.own a vs (.head _)
  have naP : a ∉ P := fun q => hX (hX' q)
  have nd := List.nodup_cons.mp R.nd
  have sub : ∀ b, b ∉ C.S ((a, vs) :: σ) P → b ∉ C.S σ P := fun b hb q => hb (by
    rcases List.mem_cons.mp q with q | q
    · exact q ▸ .head _
    · exact .tail _ (.tail _ q))
  have na : a ∉ C.S σ P := fun q => by
    rcases List.mem_cons.mp q with q | q
    · exact hL q
    · rcases List.mem_append.mp q with q | q
      · exact nd.1 q
      · exact naP q
  have up : ∀ b o, b ∉ C.S ((a, vs) :: σ) P → s.heap.get? b = some o → s.heap.get? b = some o ∧ b ∉ C.S σ P := fun b o hb e => ⟨e, sub b hb⟩
  obtain ⟨m, hns, hv⟩ := R.ns
  have R' : Rel C P s ρ' σ := by
    refine ⟨⟨m, hns, fun x X hx => ?_⟩, hf.keys.trans R.keys, R.hw, fun b ws hb => ?_, nd.2, R.live, R.LP, R.XP⟩
    · rcases hf.mem x X hx with h1 | ⟨rfl, h1⟩
      · exact (hv x X h1).imp id fun ⟨v, e, q⟩ => ⟨v, e, q.mono up⟩
      · rcases hv x _ h1 with q | ⟨v, e, q⟩
        · cases q
        · refine .inr ⟨v, e, ?_⟩
          cases rep_hdl q
          simp only [Rep]
          exact ⟨_, vals, rfl, na, hp.isList, r.mono up⟩
    · obtain ⟨vals', hp', r', z⟩ := R.own b ws (.tail _ hb)
      exact ⟨vals', hp', r'.mono up, z⟩
  have F' : Fut C s ((a, vs) :: σ) s σ := ⟨⟨s.heap, s.toks, rfl⟩, fun _ _ _ _ e => e, fun b hb => .inl (.tail _ hb), fun o e => ⟨o, e⟩⟩
  exact wpAny_mono (h P s R') (fun _ _ x => x.fut F') fun _ _ x => x
theorem SS_frz {a : Addr} {vs : List V} {b : List Stmt} {ρ' : Loc} (hX : C.X = []) (hf : FrzAll a vs ρ ρ') (h : SS C b ρ' σ Q) : SS C b ρ ((a, vs) :: σ) Q := SS_frzN (by rw [hX]; exact List.not_mem_nil) hf h
theorem SS_forI {x : Str} {px pos : Pos} {iter : PySem.Expr} {body rest : List Stmt} (h : EE C iter ρ σ fun O σ₁ => ∃ xs : List Int, O = Li xs ∧ ∃ J : Int → Loc → Sto → Prop, J 0 ρ σ₁ ∧
      (∀ k : Int, 0 ≤ k → k < xs.length → ∀ ρ₁ σ₂, J k ρ₁ σ₂ → ∃ old ρ₂, Upd x old (.int (xs.getD k.toNat 0)) ρ₁ ρ₂ ∧ SS C body ρ₂ σ₂ (LoopQ (J (k + 1)) (Then C rest Q))) ∧ (∀ ρ₁ σ₂, J xs.length ρ₁ σ₂ → SS C rest ρ₁ σ₂ Q))
    (hs : ∀ x, foldedSetIterable iter C.env x = pure x := by intro _; with_unfolding_all rfl) : SS C (.For (.Name x px) iter body [] pos :: rest) ρ σ Q := by
  refine SS_forL (fun P s R => wpAny_mono (h P s R) (fun v s' hh => ?_) fun _ _ x => x) hs
  obtain ⟨O, σ', R', F', r', xs, e, J, h0, step, fin⟩ := hh
  refine ⟨O, σ', R', F', r', xs.map V.int, e, fun i => J i, h0, fun i X hX ρ₁ σ₂ hJ => ?_, fun ρ₁ σ₂ hJ => fin ρ₁ σ₂ (by simpa using hJ)⟩
  have hi : i < xs.length := by
    rcases List.getElem?_eq_some_iff.mp hX with ⟨h, _⟩; simpa using h
  have e2 : X = .int (xs.getD i 0) := by rw [getD_map hi] at hX; exact (Option.some.inj hX).symm
  subst e2
  obtain ⟨old, ρ₂, u, hb⟩ := step i (by omega) (by omega) ρ₁ σ₂ hJ
  exact ⟨old, ρ₂, by simpa using u, by simpa using hb⟩
theorem SS_enI {x y : Str} {px py tpos pos fpos p : Pos} {k : Nat} {f : Str} {e : PySem.Expr} {body rest : List Stmt} (hx : f ∈ C.gn) (hr : C.W.Res f (.type "enumerate"))
    (h : EE C e ρ σ fun O σ₁ => ∃ xs : List Int, O = Li xs ∧ ∃ J : Int → Loc → Sto → Prop, J 0 ρ σ₁ ∧
      (∀ k : Int, 0 ≤ k → k < xs.length → ∀ ρ₁ σ₂, J k ρ₁ σ₂ → ∃ ρ₂, UpdAll [x, y] [.int k, .int (xs.getD k.toNat 0)] ρ₁ ρ₂ ∧ SS C body ρ₂ σ₂ (LoopQ (J (k + 1)) (Then C rest Q))) ∧ (∀ ρ₁ σ₂, J xs.length ρ₁ σ₂ → SS C rest ρ₁ σ₂ Q))
    (he : starEach [e] C.env = [(false, eval e C.env)] := by with_unfolding_all rfl)
    (he2 : eval (.Call (.Name f p) [e] [] fpos) C.env = (do callWith fpos (← eval (.Name f p) C.env) [] (backTo fpos (starEach [e] C.env)) (backToKw fpos (keywordEach [] C.env))) := by with_unfolding_all rfl)
    (hs : ∀ x, foldedSetIterable (.Call (.Name f p) [e] [] fpos) C.env x = pure x := by intro _; with_unfolding_all rfl) :
    SS C (.For (.Tuple [.Name x px, .Name y py] k tpos) (.Call (.Name f p) [e] [] fpos) body [] pos :: rest) ρ σ Q := by
  refine SS_forE (EE_glob hx hr ⟨rfl, fun P s R => wpAny_mono (h P s R) (fun v s' hh => ?_) fun _ _ x => x⟩) he he2 hs
  obtain ⟨O, σ', R', F', r', xs, e, J, h0, step, fin⟩ := hh
  refine ⟨O, σ', R', F', r', xs.map V.int, e, fun i => J i, h0, fun i X hX ρ₁ σ₂ hJ => ?_, fun ρ₁ σ₂ hJ => fin ρ₁ σ₂ (by simpa using hJ)⟩
  have hi : i < xs.length := by
    rcases List.getElem?_eq_some_iff.mp hX with ⟨h, _⟩; simpa using h
  have e2 : X = .int (xs.getD i 0) := by rw [getD_map hi] at hX; exact (Option.some.inj hX).symm
  subst e2
  obtain ⟨ρ₂, u, hb⟩ := step i (by omega) (by omega) ρ₁ σ₂ hJ
  exact ⟨ρ₂, by simpa using u, by simpa using hb⟩
end
end Mine
end
section
set_option linter.unusedVariables false
namespace Mine
def val (B : Int) : List Int → Int
  | [] => 0
  | x :: xs => x + B * val B xs
def Dig (B : Int) (xs : List Int) : Prop := ∀ x ∈ xs, 0 ≤ x ∧ x < B
def Canon (xs : List Int) : Prop := xs.getLast? ≠ some 0
theorem Dig.nil {B : Int} : Dig B [] := fun _ h => by cases h
theorem Dig.cons {B x : Int} {xs : List Int} (h0 : 0 ≤ x) (h1 : x < B) (h : Dig B xs) : Dig B (x :: xs) := fun y hy => by
  rcases List.mem_cons.mp hy with q | q
  · exact q ▸ ⟨h0, h1⟩
  · exact h y q
theorem Dig.append {B : Int} {xs ys : List Int} (h : Dig B xs) (h' : Dig B ys) : Dig B (xs ++ ys) := fun y hy => by
  rcases List.mem_append.mp hy with q | q
  · exact h y q
  · exact h' y q
theorem Dig.left {B : Int} {xs ys : List Int} (h : Dig B (xs ++ ys)) : Dig B xs := fun y hy => h y (List.mem_append_left _ hy)
theorem Dig.right {B : Int} {xs ys : List Int} (h : Dig B (xs ++ ys)) : Dig B ys := fun y hy => h y (List.mem_append_right _ hy)
theorem Dig.tail {B x : Int} {xs : List Int} (h : Dig B (x :: xs)) : Dig B xs := fun y hy => h y (.tail _ hy)
theorem Dig.take {B : Int} {xs : List Int} (h : Dig B xs) (k : Nat) : Dig B (xs.take k) := fun y hy => h y (List.mem_of_mem_take hy)
theorem Dig.drop {B : Int} {xs : List Int} (h : Dig B xs) (k : Nat) : Dig B (xs.drop k) := fun y hy => h y (List.mem_of_mem_drop hy)
theorem Dig.getD {B : Int} {xs : List Int} (h : Dig B xs) (hB : 0 < B) (k : Nat) : 0 ≤ xs.getD k 0 ∧ xs.getD k 0 < B := by
  by_cases hk : k < xs.length
  · have : xs.getD k 0 = xs[k] := by simp [List.getD_eq_getElem?_getD, hk]
    rw [this]; exact h _ (List.getElem_mem hk)
  · have : xs.getD k 0 = 0 := by simp [List.getD_eq_getElem?_getD, Nat.not_lt.mp hk]
    rw [this]; exact ⟨Int.le_refl _, hB⟩
theorem Dig.set {B x : Int} {xs : List Int} (h : Dig B xs) (h0 : 0 ≤ x) (h1 : x < B) (k : Nat) : Dig B (xs.set k x) := fun y hy => by
  rcases List.mem_or_eq_of_mem_set hy with q | q
  · exact h y q
  · exact q ▸ ⟨h0, h1⟩
theorem Dig.replicate {B : Int} (hB : 0 < B) (k : Nat) : Dig B (List.replicate k 0) := fun y hy => by
  rw [List.eq_of_mem_replicate hy]; exact ⟨Int.le_refl _, hB⟩
theorem val_append (B : Int) : ∀ xs ys : List Int, val B (xs ++ ys) = val B xs + B ^ xs.length * val B ys
  | [], ys => by simp [val]
  | x :: xs, ys => by
    rw [List.cons_append, val, val, val_append B xs ys, List.length_cons, Int.mul_add, ← Int.mul_assoc, Int.pow_succ, Int.mul_comm (B ^ xs.length) B, Int.add_assoc]
theorem val_replicate (B : Int) : ∀ k, val B (List.replicate k 0) = 0
  | 0 => rfl
  | k + 1 => by rw [List.replicate_succ, val, val_replicate B k]; simp
theorem val_nonneg {B : Int} (hB : 0 < B) : ∀ {xs : List Int}, Dig B xs → 0 ≤ val B xs
  | [], _ => Int.le_refl _
  | x :: xs, h => by
    have h1 := (h x (.head _)).1
    have h2 := Int.mul_nonneg (Int.le_of_lt hB) (val_nonneg hB h.tail)
    simp only [val]; omega
theorem pow_pos' {B : Int} (hB : 0 < B) (k : Nat) : 0 < B ^ k := Int.pow_pos hB
theorem val_lt {B : Int} (hB : 0 < B) : ∀ {xs : List Int}, Dig B xs → val B xs < B ^ xs.length
  | [], _ => by simp [val]
  | x :: xs, h => by
    have h1 := (h x (.head _)).2
    have h2 := val_lt hB h.tail
    have h3 : B * (val B xs + 1) ≤ B * B ^ xs.length := Int.mul_le_mul_of_nonneg_left (by omega) (Int.le_of_lt hB)
    rw [List.length_cons, Int.pow_succ, Int.mul_comm (B ^ xs.length) B]
    simp only [val]
    rw [Int.mul_add, Int.mul_one] at h3
    omega
theorem Canon.tail {x : Int} {xs : List Int} (h : Canon (x :: xs)) : Canon xs := by
  unfold Canon at *
  cases xs with
  | nil => simp
  | cons y ys => rw [List.getLast?_cons_cons] at h; exact h
theorem val_ge {B : Int} (hB : 0 < B) : ∀ {xs : List Int}, Dig B xs → Canon xs → xs ≠ [] → B ^ (xs.length - 1) ≤ val B xs
  | [], _, _, h => absurd rfl h
  | [x], h, hc, _ => by
    have h1 := (h x (.head _)).1
    have h2 : x ≠ 0 := fun q => hc (by rw [q]; rfl)
    simp only [val, List.length_cons, List.length_nil, Nat.zero_add, Nat.sub_self, Int.pow_zero, Int.mul_zero]
    omega
  | x :: y :: ys, h, hc, _ => by
    have ih := val_ge hB h.tail hc.tail (by simp)
    have h1 := (h x (.head _)).1
    have h3 : B * B ^ ((y :: ys).length - 1) ≤ B * val B (y :: ys) := Int.mul_le_mul_of_nonneg_left ih (Int.le_of_lt hB)
    have e : (x :: y :: ys).length - 1 = (y :: ys).length - 1 + 1 := by simp
    rw [e, Int.pow_succ, Int.mul_comm _ B]
    rw [val]
    omega
theorem val_pos {B : Int} (hB : 0 < B) {xs : List Int} (h : Dig B xs) (hc : Canon xs) (hn : xs ≠ []) : 0 < val B xs :=
  Int.lt_of_lt_of_le (pow_pos' hB _) (val_ge hB h hc hn)
theorem val_zero {B : Int} (hB : 0 < B) {xs : List Int} (h : Dig B xs) (hc : Canon xs) (hv : val B xs = 0) : xs = [] := by
  by_cases hn : xs = []
  · exact hn
  · have := val_pos hB h hc hn; omega
theorem head_mod {B x v : Int} (h0 : 0 ≤ x) (h1 : x < B) : (x + B * v) % B = x := by
  rw [Int.add_mul_emod_self_left, Int.emod_eq_of_lt h0 h1]
theorem head_div {B x v : Int} (h0 : 0 ≤ x) (h1 : x < B) : (x + B * v) / B = v := by
  rw [Int.add_mul_ediv_left _ _ (by omega), Int.ediv_eq_zero_of_lt h0 h1, Int.zero_add]
theorem uniq {B : Int} (hB : 0 < B) : ∀ {xs ys : List Int}, Dig B xs → Dig B ys → Canon xs → Canon ys → val B xs = val B ys → xs = ys
  | [], ys, _, h2, _, c2, e => (val_zero hB h2 c2 (by rw [← e]; rfl)).symm
  | x :: xs, [], h1, _, c1, _, e => val_zero hB h1 c1 (by rw [e]; rfl)
  | x :: xs, y :: ys, h1, h2, c1, c2, e => by
    have hx := h1 x (.head _)
    have hy := h2 y (.head _)
    simp only [val] at e
    have e1 : x = y := by rw [← head_mod (v := val B xs) hx.1 hx.2, e, head_mod hy.1 hy.2]
    have e2 : val B xs = val B ys := by rw [← head_div (x := x) (v := val B xs) hx.1 hx.2, e, head_div hy.1 hy.2]
    rw [e1, uniq hB h1.tail h2.tail c1.tail c2.tail e2]
/-- the limbs of a number -/
def limF (B : Int) : Nat → Int → List Int
  | 0, _ => []
  | f + 1, n => if n ≤ 0 then [] else (n % B) :: limF B f (n / B)
def lim (B n : Int) : List Int := limF B n.toNat n
theorem div_small {B n : Int} (hB : 2 ≤ B) (hn : 0 < n) : 0 ≤ n / B ∧ n / B < n := by
  have h0 : 0 ≤ n / B := Int.ediv_nonneg (Int.le_of_lt hn) (by omega)
  have e := Int.mul_ediv_add_emod n B
  have h1 := Int.emod_nonneg n (show B ≠ 0 by omega)
  have h2 : 2 * (n / B) ≤ B * (n / B) := Int.mul_le_mul_of_nonneg_right hB h0
  omega
theorem limF_spec {B : Int} (hB : 2 ≤ B) : ∀ (f : Nat) (n : Int), 0 ≤ n → n.toNat ≤ f → Dig B (limF B f n) ∧ val B (limF B f n) = n ∧ Canon (limF B f n)
  | 0, n, h0, hf => ⟨Dig.nil, by show (0 : Int) = n; omega, by simp [limF, Canon]⟩
  | f + 1, n, h0, hf => by
    unfold limF
    by_cases hn : n ≤ 0
    · rw [if_pos hn]; exact ⟨Dig.nil, by show (0 : Int) = n; omega, by simp [Canon]⟩
    · rw [if_neg hn]
      have hd := div_small hB (show 0 < n by omega)
      obtain ⟨h1, h2, h3⟩ := limF_spec hB f (n / B) hd.1 (by omega)
      refine ⟨Dig.cons (Int.emod_nonneg n (by omega)) (Int.emod_lt_of_pos n (by omega)) h1, ?_, ?_⟩
      · rw [val, h2]; have := Int.mul_ediv_add_emod n B; omega
      · unfold Canon
        cases hl : limF B f (n / B) with
        | nil =>
          rw [List.getLast?_singleton]
          rw [hl] at h2
          have e := Int.mul_ediv_add_emod n B
          have h2' : n / B = 0 := h2.symm
          rw [h2', Int.mul_zero] at e
          intro q
          have := Option.some.inj q
          omega
        | cons y ys => rw [List.getLast?_cons_cons]; rw [hl] at h3; exact h3
theorem lim_dig {B n : Int} (hB : 2 ≤ B) (hn : 0 ≤ n) : Dig B (lim B n) := (limF_spec hB _ n hn (Nat.le_refl _)).1
theorem lim_val {B n : Int} (hB : 2 ≤ B) (hn : 0 ≤ n) : val B (lim B n) = n := (limF_spec hB _ n hn (Nat.le_refl _)).2.1
theorem lim_canon {B n : Int} (hB : 2 ≤ B) (hn : 0 ≤ n) : Canon (lim B n) := (limF_spec hB _ n hn (Nat.le_refl _)).2.2
theorem lim_of {B n : Int} {xs : List Int} (hB : 2 ≤ B) (h : Dig B xs) (hc : Canon xs) (hv : val B xs = n) : xs = lim B n := by
  have hn : 0 ≤ n := hv ▸ val_nonneg (by omega) h
  exact uniq (by omega) h (lim_dig hB hn) hc (lim_canon hB hn) (by rw [hv, lim_val hB hn])
theorem lim_zero (B : Int) : lim B 0 = [] := rfl
theorem lim_one {B : Int} (hB : 2 ≤ B) : lim B 1 = [1] := (lim_of hB (Dig.cons (by decide) (by omega) Dig.nil) (by simp [Canon]) (by simp [val])).symm
theorem lim_ne {B n : Int} (hB : 2 ≤ B) (hn : 0 < n) : lim B n ≠ [] := fun q => by
  have := lim_val hB (show 0 ≤ n by omega)
  rw [q] at this
  have : (0 : Int) = n := this
  omega
theorem lim_nil {B n : Int} (hB : 2 ≤ B) (hn : 0 ≤ n) : lim B n = [] ↔ n = 0 :=
  ⟨fun q => by have := lim_val hB hn; rw [q] at this; exact this.symm, fun q => by rw [q]; rfl⟩
theorem lim_len {B n : Int} (hB : 2 ≤ B) (hn : 0 ≤ n) {k : Nat} (hk : n < 2 ^ k) : (lim B n).length ≤ k := by
  by_cases h : lim B n = []
  · rw [h]; exact Nat.zero_le _
  · have h1 := val_ge (by omega) (lim_dig hB hn) (lim_canon hB hn) h
    rw [lim_val hB hn] at h1
    have h2 : (2 : Int) ^ ((lim B n).length - 1) ≤ B ^ ((lim B n).length - 1) := by
      generalize (lim B n).length - 1 = j
      induction j with
      | zero => simp
      | succ j ih =>
        rw [Int.pow_succ, Int.pow_succ]
        have p1 := pow_pos' (show (0 : Int) < 2 by decide) j
        calc (2 : Int) ^ j * 2 ≤ 2 ^ j * B := Int.mul_le_mul_of_nonneg_left hB (Int.le_of_lt p1)
          _ ≤ B ^ j * B := Int.mul_le_mul_of_nonneg_right ih (by omega)
    have h3 : (2 : Int) ^ ((lim B n).length - 1) < 2 ^ k := by omega
    have h4 : (lim B n).length - 1 < k := by
      have h5 : ((2 ^ ((lim B n).length - 1) : Nat) : Int) < ((2 ^ k : Nat) : Int) := by push_cast; exact h3
      have h6 := Int.ofNat_lt.mp h5
      exact (Nat.pow_lt_pow_iff_right (by decide)).mp h6
    omega
/-- without the noughts at the end -/
def nrm (xs : List Int) : List Int := (xs.reverse.dropWhile (· == 0)).reverse
theorem nrm_snoc0 (xs : List Int) : nrm (xs ++ [0]) = nrm xs := by simp [nrm]
theorem nrm_snoc {x : Int} (xs : List Int) (h : x ≠ 0) : nrm (xs ++ [x]) = xs ++ [x] := by
  simp [nrm, List.dropWhile_cons, h]
theorem nrm_nil : nrm [] = [] := rfl
theorem snoc_ind {P : List Int → Prop} (h0 : P []) (h1 : ∀ xs x, P xs → P (xs ++ [x])) : ∀ xs, P xs := by
  intro xs
  have : ∀ ys : List Int, P ys.reverse := by
    intro ys
    induction ys with
    | nil => exact h0
    | cons y ys ih => rw [List.reverse_cons]; exact h1 _ _ ih
  have h := this xs.reverse
  rwa [List.reverse_reverse] at h
theorem nrm_spec (B : Int) : ∀ xs : List Int, Canon (nrm xs) ∧ val B (nrm xs) = val B xs ∧ (Dig B xs → Dig B (nrm xs)) :=
  snoc_ind ⟨by simp [Canon, nrm], rfl, fun h => h⟩ fun xs x ih => by
    by_cases h : x = 0
    · subst h
      rw [nrm_snoc0]
      refine ⟨ih.1, ?_, fun h => ih.2.2 h.left⟩
      rw [ih.2.1, val_append]; simp [val]
    · rw [nrm_snoc _ h]
      exact ⟨by simp [Canon, h], rfl, fun h => h⟩
theorem nrm_lim {B n : Int} {xs : List Int} (hB : 2 ≤ B) (h : Dig B xs) (hv : val B xs = n) : nrm xs = lim B n := by
  obtain ⟨h1, h2, h3⟩ := nrm_spec B xs
  exact lim_of hB (h3 h) h1 (h2.trans hv)
theorem take_succ_getD {xs : List Int} {i : Nat} (h : i < xs.length) : xs.take (i + 1) = xs.take i ++ [xs.getD i 0] := by
  rw [List.take_add_one]; simp [List.getD_eq_getElem?_getD, h]
theorem drop_getD {xs : List Int} {i : Nat} (h : i < xs.length) : xs.drop i = xs.getD i 0 :: xs.drop (i + 1) := by
  rw [List.drop_eq_getElem_cons h]; simp [List.getD_eq_getElem?_getD, h]
theorem val_take_succ (B : Int) {xs : List Int} {i : Nat} (h : i < xs.length) : val B (xs.take (i + 1)) = val B (xs.take i) + B ^ i * xs.getD i 0 := by
  rw [take_succ_getD h, val_append, List.length_take, Nat.min_eq_left (Nat.le_of_lt h)]
  simp [val]
theorem val_drop (B : Int) {xs : List Int} {i : Nat} (h : i < xs.length) : val B (xs.drop i) = xs.getD i 0 + B * val B (xs.drop (i + 1)) := by
  rw [drop_getD h, val]
theorem val_split (B : Int) (xs : List Int) (i : Nat) (h : i ≤ xs.length) : val B xs = val B (xs.take i) + B ^ i * val B (xs.drop i) := by
  have := val_append B (xs.take i) (xs.drop i)
  rw [List.take_append_drop, List.length_take, Nat.min_eq_left h] at this
  exact this
end Mine
end
section
open PySem
set_option linter.unusedVariables false
namespace Mine
theorem bitAnd_nn {x y : Int} (hx : 0 ≤ x) (hy : 0 ≤ y) : Builtin.bitAnd x y = ((x.toNat &&& y.toNat : Nat) : Int) := by
  unfold Builtin.bitAnd; simp [hx, hy]
theorem and_mask {s : Int} {w : Nat} (hs : 0 ≤ s) : Builtin.bitAnd s (2 ^ w - 1) = s % 2 ^ w := by
  have h2 : (0 : Int) < 2 ^ w := Int.pow_pos (by decide)
  rw [bitAnd_nn hs (by omega)]
  have e : ((2 : Int) ^ w - 1).toNat = 2 ^ w - 1 := by
    have : ((2 : Int) ^ w) = ((2 ^ w : Nat) : Int) := by push_cast; rfl
    rw [this]
    exact Int.toNat_sub (2 ^ w) 1
  rw [e, Nat.and_two_pow_sub_one_eq_mod]
  have : ((2 : Int) ^ w) = ((2 ^ w : Nat) : Int) := by push_cast; rfl
  rw [this]
  obtain ⟨a, rfl⟩ := Int.eq_ofNat_of_zero_le hs
  rfl
theorem shr_div {s : Int} {w : Nat} (hs : 0 ≤ s) : s.fdiv (2 ^ (w : Int).toNat) = s / 2 ^ w := by
  rw [Int.toNat_natCast, Int.fdiv_eq_ediv_of_nonneg _ (Int.le_of_lt (Int.pow_pos (by decide)))]
theorem shl_pow {w : Nat} : (1 * 2 ^ (w : Int).toNat : Int) = 2 ^ w := by rw [Int.toNat_natCast, Int.one_mul]
theorem shl_mul {x : Int} {w : Nat} : (x * 2 ^ (w : Int).toNat : Int) = x * 2 ^ w := by rw [Int.toNat_natCast]
theorem bitNot_eq (x : Int) : Builtin.bitNot x = -x - 1 := by unfold Builtin.bitNot; omega
theorem pow_cast (w : Nat) : ((2 : Int) ^ w) = ((2 ^ w : Nat) : Int) := by push_cast; rfl
theorem bitOr_nn {x y : Int} (hx : 0 ≤ x) (hy : 0 ≤ y) : Builtin.bitOr x y = ((x.toNat ||| y.toNat : Nat) : Int) := by
  unfold Builtin.bitOr
  have h1 : ¬ 0 ≤ Builtin.bitNot x := by rw [bitNot_eq]; omega
  have h2 : ¬ 0 ≤ Builtin.bitNot y := by rw [bitNot_eq]; omega
  unfold Builtin.bitAnd
  simp only [h1, h2, decide_false]
  simp only [bitNot_eq]
  have e1 : (-(-x - 1) - 1) = x := by omega
  have e2 : (-(-y - 1) - 1) = y := by omega
  rw [e1, e2]
  omega
/-- disjoint or -/
theorem or_add {x y : Int} {k : Nat} (hx : 0 ≤ x) (hy : 0 ≤ y) (hk : y < 2 ^ k) : Builtin.bitOr (x * 2 ^ k) y = x * 2 ^ k + y := by
  have h2 : (0 : Int) < 2 ^ k := Int.pow_pos (by decide)
  rw [bitOr_nn (Int.mul_nonneg hx (Int.le_of_lt h2)) hy]
  obtain ⟨a, rfl⟩ := Int.eq_ofNat_of_zero_le hx
  obtain ⟨b, rfl⟩ := Int.eq_ofNat_of_zero_le hy
  rw [pow_cast] at hk ⊢
  have hb : b < 2 ^ k := Int.ofNat_lt.mp hk
  rw [← Int.natCast_mul, Int.toNat_natCast, Int.toNat_natCast, Nat.mul_comm, ← Nat.two_pow_add_eq_or_of_lt hb]
  push_cast; rfl
theorem or_comm (x y : Int) (hx : 0 ≤ x) (hy : 0 ≤ y) : Builtin.bitOr x y = Builtin.bitOr y x := by
  rw [bitOr_nn hx hy, bitOr_nn hy hx, Nat.or_comm]
theorem or_add' {x y : Int} {k : Nat} (hx : 0 ≤ x) (hy : 0 ≤ y) (hk : y < 2 ^ k) : Builtin.bitOr y (x * 2 ^ k) = y + x * 2 ^ k := by
  have h2 : (0 : Int) < 2 ^ k := Int.pow_pos (by decide)
  rw [or_comm _ _ hy (Int.mul_nonneg hx (Int.le_of_lt h2)), or_add hx hy hk, Int.add_comm]
theorem pow_mono {B : Int} (hB : 2 ≤ B) {i j : Nat} (h : i ≤ j) : B ^ i ≤ B ^ j := by
  obtain ⟨k, rfl⟩ := Nat.le.dest h
  induction k with
  | zero => exact Int.le_refl _
  | succ k ih =>
    have := ih (Nat.le_add_right _ _)
    rw [← Nat.add_assoc, Int.pow_succ]
    have p := pow_pos' (show 0 < B by omega) (i + k)
    have h2 : B ^ (i + k) * 1 ≤ B ^ (i + k) * B := Int.mul_le_mul_of_nonneg_left (by omega) (Int.le_of_lt p)
    omega
theorem shorter {B : Int} (hB : 2 ≤ B) {xs ys : List Int} (dx : Dig B xs) (dy : Dig B ys) (cy : Canon ys) (h : xs.length < ys.length) : val B xs < val B ys := by
  have h1 := val_lt (show 0 < B by omega) dx
  have h2 := val_ge (show 0 < B by omega) dy cy (by intro q; rw [q] at h; simp at h)
  have h3 : B ^ xs.length ≤ B ^ (ys.length - 1) := pow_mono hB (by omega)
  omega
theorem cmp_top {B : Int} (hB : 2 ≤ B) {xs ys : List Int} (dx : Dig B xs) (dy : Dig B ys) (hl : xs.length = ys.length) {k : Nat} (hk : k < xs.length) (he : xs.drop (k + 1) = ys.drop (k + 1)) (h : xs.getD k 0 < ys.getD k 0) : val B xs < val B ys := by
  rw [val_split B xs (k + 1) (by omega), val_split B ys (k + 1) (by omega), he, val_take_succ B hk, val_take_succ B (hl ▸ hk)]
  have h1 := val_lt (show 0 < B by omega) (dx.take k)
  rw [List.length_take, Nat.min_eq_left (by omega)] at h1
  have h2 := val_nonneg (show 0 < B by omega) (dy.take k)
  have p := pow_pos' (show 0 < B by omega) k
  have h3 : B ^ k * (xs.getD k 0 + 1) ≤ B ^ k * ys.getD k 0 := Int.mul_le_mul_of_nonneg_left (by omega) (Int.le_of_lt p)
  rw [Int.mul_add, Int.mul_one] at h3
  omega
theorem canon_snoc {x : Int} {xs : List Int} (h : x ≠ 0) : Canon (xs ++ [x]) := by simp [Canon, h]
theorem canon_ge {B : Int} (hB : 2 ≤ B) {xs : List Int} (d : Dig B xs) (h : B ^ (xs.length - 1) ≤ val B xs) : Canon xs := by
  intro q
  obtain ⟨ys, rfl⟩ : ∃ ys, xs = ys ++ [0] := by
    refine ⟨xs.dropLast, ?_⟩
    rw [List.getLast?_eq_some_iff] at q
    obtain ⟨ys, rfl⟩ := q
    simp
  rw [val_append] at h
  have := val_lt (show 0 < B by omega) d.left
  simp [val] at h
  omega
/-- one more limb of a sum: the carry's law -/
theorem carry_step {B s : Int} {k : Nat} {zs : List Int} (hl : zs.length = k) : val B (zs ++ [s % B]) + B ^ (k + 1) * (s / B) = val B zs + B ^ k * s := by
  rw [val_append, hl, Int.pow_succ, Int.add_assoc]
  congr 1
  simp only [val, Int.mul_zero, Int.add_zero]
  rw [Int.mul_assoc, ← Int.mul_add]
  congr 1
  have := Int.mul_ediv_add_emod s B
  omega
theorem pow_ge2 {w : Nat} (h : 1 ≤ w) : (2 : Int) ≤ 2 ^ w := by
  have := pow_mono (B := 2) (by decide) h
  simpa using this
theorem pow_le256 {w : Nat} (h : w ≤ 8) : (2 : Int) ^ w ≤ 256 := pow_mono (B := 2) (by decide) h
theorem val_take_succ' (B : Int) (xs : List Int) (i : Nat) : val B (xs.take (i + 1)) = val B (xs.take i) + B ^ i * xs.getD i 0 := by
  by_cases h : i < xs.length
  · exact val_take_succ B h
  · have e : xs.getD i 0 = 0 := by simp [List.getD_eq_getElem?_getD, Nat.not_lt.mp h]
    rw [e, List.take_of_length_le (by omega), List.take_of_length_le (by omega)]; simp
theorem dig_snoc {B s : Int} {zs : List Int} (hB : 0 < B) (d : Dig B zs) : Dig B (zs ++ [s % B]) := d.append (Dig.cons (Int.emod_nonneg _ (by omega)) (Int.emod_lt_of_pos _ hB) Dig.nil)
theorem dig_snoc' {B s : Int} {zs : List Int} (d : Dig B zs) (h0 : 0 ≤ s) (h1 : s < B) : Dig B (zs ++ [s]) := d.append (Dig.cons h0 h1 Dig.nil)
theorem val_snoc {B s : Int} {k : Nat} {zs : List Int} (hl : zs.length = k) : val B (zs ++ [s]) = val B zs + B ^ k * s := by
  rw [val_append, hl]; simp [val]
theorem val_set (B : Int) : ∀ {zs : List Int} {k : Nat}, k < zs.length → ∀ d, val B (zs.set k d) = val B zs + B ^ k * (d - zs.getD k 0)
  | z :: zs, 0, _, d => by simp [val]; omega
  | z :: zs, k + 1, h, d => by
    simp only [List.set_cons_succ, val, List.getD_cons_succ]
    rw [val_set B (by simpa using h) d, Int.mul_add, ← Int.mul_assoc, Int.pow_succ, Int.mul_comm B (B ^ k)]
    omega
theorem getD_set {zs : List Int} {k j : Nat} {d : Int} (hk : k < zs.length) : (zs.set k d).getD j 0 = if j = k then d else zs.getD j 0 := by
  simp only [List.getD_eq_getElem?_getD, List.getElem?_set]
  by_cases h : k = j
  · subst h; simp [hk]
  · rw [if_neg h, if_neg (Ne.symm h)]
theorem val_drop0 {B : Int} (hB : 2 ≤ B) {zs : List Int} (d : Dig B zs) {m : Nat} (hm : m ≤ zs.length) (h : val B zs < B ^ m) : val B (zs.drop m) = 0 := by
  have h1 := val_split B zs m hm
  have h2 := val_nonneg (show 0 < B by omega) (d.take m)
  have h3 := val_nonneg (show 0 < B by omega) (d.drop m)
  have p := pow_pos' (show 0 < B by omega) m
  by_cases h4 : val B (zs.drop m) = 0
  · exact h4
  · have h5 : B ^ m * 1 ≤ B ^ m * val B (zs.drop m) := Int.mul_le_mul_of_nonneg_left (by omega) (Int.le_of_lt p)
    omega
theorem val0_getD {B : Int} (hB : 2 ≤ B) : ∀ {zs : List Int}, Dig B zs → val B zs = 0 → ∀ j, zs.getD j 0 = 0
  | [], _, _, j => by simp
  | z :: zs, d, h, j => by
    have h1 := d z (.head _)
    have h2 := val_nonneg (show 0 < B by omega) d.tail
    have h3 := Int.mul_nonneg (show 0 ≤ B by omega) h2
    simp only [val] at h
    cases j with
    | zero => simp; omega
    | succ j =>
      rw [List.getD_cons_succ]
      refine val0_getD hB d.tail ?_ j
      by_cases h4 : val B zs = 0
      · exact h4
      · have h5 : B * 1 ≤ B * val B zs := Int.mul_le_mul_of_nonneg_left (by omega) (by omega)
        omega
theorem getD_high {B : Int} (hB : 2 ≤ B) {zs : List Int} (d : Dig B zs) {m : Nat} (h : val B zs < B ^ m) {j : Nat} (hj : m ≤ j) : zs.getD j 0 = 0 := by
  by_cases hm : m ≤ zs.length
  · have := val0_getD hB (d.drop m) (val_drop0 hB d hm h) (j - m)
    rw [List.getD_eq_getElem?_getD, List.getElem?_drop] at this
    rw [List.getD_eq_getElem?_getD]
    have e : m + (j - m) = j := by omega
    rw [e] at this; exact this
  · rw [List.getD_eq_getElem?_getD, List.getElem?_eq_none (by omega)]; rfl
theorem getD_drop0 (zs : List Int) (m j : Nat) : (zs.drop m).getD j 0 = zs.getD (m + j) 0 := by
  rw [List.getD_eq_getElem?_getD, List.getElem?_drop, List.getD_eq_getElem?_getD]
/-- digits to a length -/
def padL (B : Int) : Nat → Int → List Int
  | 0, _ => []
  | k + 1, n => (n % B) :: padL B k (n / B)
theorem padL_len (B : Int) : ∀ k n, (padL B k n).length = k
  | 0, _ => rfl
  | k + 1, n => by rw [padL, List.length_cons, padL_len]
theorem padL_dig {B : Int} (hB : 0 < B) : ∀ k n, Dig B (padL B k n)
  | 0, _ => Dig.nil
  | k + 1, n => Dig.cons (Int.emod_nonneg _ (by omega)) (Int.emod_lt_of_pos _ hB) (padL_dig hB k _)
theorem padL_val {B : Int} (hB : 0 < B) : ∀ k n, 0 ≤ n → n < B ^ k → val B (padL B k n) = n
  | 0, n, h0, h1 => by simp at h1; show (0 : Int) = n; omega
  | k + 1, n, h0, h1 => by
    rw [padL, val, padL_val hB k (n / B) (Int.ediv_nonneg h0 (by omega)) (by
      apply Int.ediv_lt_of_lt_mul hB
      rw [Int.pow_succ] at h1; exact h1)]
    have := Int.mul_ediv_add_emod n B
    omega
theorem uniq_len {B : Int} (hB : 0 < B) : ∀ {xs ys : List Int}, Dig B xs → Dig B ys → xs.length = ys.length → val B xs = val B ys → xs = ys
  | [], [], _, _, _, _ => rfl
  | x :: xs, y :: ys, h1, h2, hl, e => by
    have hx := h1 x (.head _)
    have hy := h2 y (.head _)
    simp only [val] at e
    have e1 : x = y := by rw [← head_mod (v := val B xs) hx.1 hx.2, e, head_mod hy.1 hy.2]
    have e2 : val B xs = val B ys := by rw [← head_div (x := x) (v := val B xs) hx.1 hx.2, e, head_div hy.1 hy.2]
    rw [e1, uniq_len hB h1.tail h2.tail (by simpa using hl) e2]
theorem padL_of {B n : Int} {k : Nat} {xs : List Int} (hB : 0 < B) (h : Dig B xs) (hl : xs.length = k) (hv : val B xs = n) : xs = padL B k n := by
  have h0 := val_nonneg hB h
  have h1 := val_lt hB h
  rw [hl, hv] at h1
  rw [hv] at h0
  exact uniq_len hB h (padL_dig hB k n) (by rw [hl, padL_len]) (by rw [hv, padL_val hB k n h0 h1])
end Mine
end
section
namespace Mine
/-- Knuth's guess: right or one too great -/
theorem knuth {B M T D2 X l x R q : Int} (hB : 2 ≤ B) (hM : 0 < M) (hR : R = l + M * T) (hl0 : 0 ≤ l) (hl1 : l < M) (hX : X = x + M * D2) (hx0 : 0 ≤ x) (hx1 : x < M) (hD : B ≤ D2) (hRX : R < B * X) (hR0 : 0 ≤ R)
    (hq : q = min (T / D2) (B - 1)) : R / X ≤ q ∧ q ≤ R / X + 1 ∧ 0 < X := by
  have hMD : 0 < M * D2 := Int.mul_pos hM (by omega)
  have hXp : 0 < X := by omega
  have hT0 : 0 ≤ T := by
    rcases Int.lt_or_le T 0 with h | h
    · have : M * T ≤ M * (-1) := Int.mul_le_mul_of_nonneg_left (by omega) (by omega)
      omega
    · exact h
  have hq0 : 0 ≤ R / X := Int.ediv_nonneg hR0 (by omega)
  refine ⟨?_, ?_, hXp⟩
  · have h1 : R / X < B := Int.ediv_lt_of_lt_mul hXp hRX
    have h2 : R / X ≤ T / D2 := by
      apply Int.le_ediv_of_mul_le (by omega)
      have h3 := Int.ediv_mul_le R (show X ≠ 0 by omega)
      generalize R / X = p at *
      have h4 : p * (M * D2) ≤ p * X := Int.mul_le_mul_of_nonneg_left (by omega) hq0
      have h5 : M * (p * D2) < M * (T + 1) := by
        rw [Int.mul_add, Int.mul_one, Int.mul_left_comm]; omega
      have := Int.lt_of_mul_lt_mul_left h5 (by omega)
      omega
    omega
  · have h0 : 0 ≤ T / D2 := Int.ediv_nonneg hT0 (by omega)
    have hqn : 0 ≤ q := by omega
    have h1 : q * D2 ≤ T := Int.le_trans (Int.mul_le_mul_of_nonneg_right (show q ≤ T / D2 by omega) (by omega)) (Int.ediv_mul_le T (by omega))
    have h2 : q - 1 ≤ R / X := by
      apply Int.le_ediv_of_mul_le hXp
      have h3 : q * x ≤ q * M := Int.mul_le_mul_of_nonneg_left (by omega) hqn
      have h4 : q * M ≤ D2 * M := Int.mul_le_mul_of_nonneg_right (by omega) (by omega)
      have h5 : M * (q * D2) ≤ M * T := Int.mul_le_mul_of_nonneg_left h1 (by omega)
      have h6 : q * X = q * x + M * (q * D2) := by rw [hX, Int.mul_add, Int.mul_left_comm]
      rw [Int.sub_mul, Int.one_mul, h6]
      rw [Int.mul_comm D2] at h4
      omega
    omega
/-- the three limbs on top -/
theorem top3 {B R : Int} {p : Nat} {us : List Int} (hB : 2 ≤ B) (du : Dig B us) (hl : p + 3 ≤ us.length) (hv : val B us = R) (hR : R < B ^ (p + 3)) :
    R = val B (us.take p) + B ^ p * ((us.getD (p + 2) 0 * B + us.getD (p + 1) 0) * B + us.getD p 0) := by
  rw [← hv, val_split B us p (by omega)]
  congr 2
  rw [val_drop B (show p < us.length by omega), val_drop B (show p + 1 < us.length by omega), val_drop B (show p + 2 < us.length by omega), val_drop0 hB du hl (by rw [hv]; exact hR)]
  rw [Int.mul_zero, Int.add_zero, Int.mul_comm B, Int.mul_comm B]
  rw [Int.add_mul]
  rw [Int.add_mul]
  omega
theorem top2 {B : Int} {p : Nat} {us : List Int} (hl : us.length = p + 2) :
    val B us = val B (us.take p) + B ^ p * (us.getD (p + 1) 0 * B + us.getD p 0) := by
  rw [val_split B us p (by omega)]
  congr 2
  rw [val_drop B (show p < us.length by omega), val_drop B (show p + 1 < us.length by omega), List.drop_of_length_le (by omega)]
  simp only [val, Int.mul_zero, Int.add_zero]
  rw [Int.mul_comm B]
  omega
theorem take_lt {B : Int} (hB : 0 < B) {us : List Int} (du : Dig B us) {p : Nat} (hl : p ≤ us.length) : 0 ≤ val B (us.take p) ∧ val B (us.take p) < B ^ p := by
  have h1 := val_lt hB (du.take p)
  rw [List.length_take, Nat.min_eq_left hl] at h1
  exact ⟨val_nonneg hB (du.take p), h1⟩
theorem getD_cut (us : List Int) (p j : Nat) (hj : j < 3) : ((us.drop p).take 3).getD j 0 = us.getD (p + j) 0 := by
  simp [List.getD_eq_getElem?_getD, List.getElem?_take, List.getElem?_drop, hj]
/-- one more limb of the quotient -/
theorem quo_step {R X B : Int} (hX : 0 < X) (hB : 0 < B) : R / X = R % (B * X) / X + B * (R / (B * X)) ∧ R % X = R % (B * X) - X * (R % (B * X) / X) := by
  have h1 := Int.mul_ediv_add_emod R (B * X)
  have h2 := Int.mul_ediv_add_emod (R % (B * X)) X
  have e : R = R % (B * X) + X * (B * (R / (B * X))) := by rw [← Int.mul_assoc, Int.mul_comm X]; omega
  have e1 : R / X = R % (B * X) / X + B * (R / (B * X)) := by
    conv => lhs; rw [e]
    exact Int.add_mul_ediv_left _ _ (by omega)
  have e2 : R % X = R % (B * X) % X := by
    conv => lhs; rw [e]
    exact Int.add_mul_emod_self_left _ _ _
  exact ⟨e1, by omega⟩
end Mine
end
section
namespace Mine
theorem sz_mul (a b c d : Int) : (a*c - b*d)*(a*c-b*d) + (a*d+b*c)*(a*d+b*c) = (a*a+b*b)*(c*c+d*d) := by grind
/-- a nearest quotient's rest is at most half -/
theorem near_half {u n : Int} (hn : 0 < n) : -n ≤ 2 * (u - (2 * u + n) / (2 * n) * n) ∧ 2 * (u - (2 * u + n) / (2 * n) * n) ≤ n := by
  have h1 := Int.mul_ediv_add_emod (2 * u + n) (2 * n)
  have h2 := Int.emod_nonneg (2 * u + n) (show 2 * n ≠ 0 by omega)
  have h3 := Int.emod_lt_of_pos (2 * u + n) (show 0 < 2 * n by omega)
  have e : 2 * n * ((2 * u + n) / (2 * n)) = 2 * ((2 * u + n) / (2 * n) * n) := by rw [Int.mul_assoc, Int.mul_comm n]
  rw [e] at h1
  omega
theorem sq_le {a n : Int} (h0 : -n ≤ a) (h1 : a ≤ n) : a * a ≤ n * n := by
  rcases Int.le_total 0 a with h | h
  · exact Int.mul_le_mul h1 h1 h (by omega)
  · have : (-a) * (-a) ≤ n * n := Int.mul_le_mul (by omega) (by omega) (by omega) (by omega)
    rwa [Int.neg_mul_neg] at this
theorem step_half {x1 x2 y1 y2 n u v m1 m2 : Int} (hn : 0 < n) (en : n = y1 * y1 + y2 * y2) (eu : u = x1 * y1 + x2 * y2) (ev : v = x2 * y1 - x1 * y2) (h1 : m1 = (2 * u + n) / (2 * n)) (h2 : m2 = (2 * v + n) / (2 * n)) :
    2 * ((x1 - (m1 * y1 - m2 * y2)) * (x1 - (m1 * y1 - m2 * y2)) + (x2 - (m1 * y2 + m2 * y1)) * (x2 - (m1 * y2 + m2 * y1))) ≤ n := by
  obtain ⟨a0, a1⟩ := near_half (u := u) hn
  obtain ⟨b0, b1⟩ := near_half (u := v) hn
  rw [← h1] at a0 a1
  rw [← h2] at b0 b1
  have s1 := sq_le a0 a1
  have s2 := sq_le b0 b1
  have key : ((x1 - (m1 * y1 - m2 * y2)) * (x1 - (m1 * y1 - m2 * y2)) + (x2 - (m1 * y2 + m2 * y1)) * (x2 - (m1 * y2 + m2 * y1))) * n = (u - m1 * n) * (u - m1 * n) + (v - m2 * n) * (v - m2 * n) := by
    subst en eu ev
    clear h1 h2 a0 a1 b0 b1 s1 s2 hn
    grind
  generalize (x1 - (m1 * y1 - m2 * y2)) * (x1 - (m1 * y1 - m2 * y2)) + (x2 - (m1 * y2 + m2 * y1)) * (x2 - (m1 * y2 + m2 * y1)) = r at *
  have e1 : 2 * (u - m1 * n) * (2 * (u - m1 * n)) = 4 * ((u - m1 * n) * (u - m1 * n)) := by rw [Int.mul_assoc, Int.mul_left_comm (u - m1 * n)]; omega
  have e2 : 2 * (v - m2 * n) * (2 * (v - m2 * n)) = 4 * ((v - m2 * n) * (v - m2 * n)) := by rw [Int.mul_assoc, Int.mul_left_comm (v - m2 * n)]; omega
  have h3 : 2 * r * n ≤ n * n := by rw [Int.mul_assoc, key]; omega
  exact Int.le_of_mul_le_mul_right h3 hn
end Mine
end
section
open PySem PySem.W PyProof.Rows
set_option maxRecDepth 100000
set_option maxHeartbeats 8000000
namespace Mine
def isAsg : Stmt → Bool
  | .Assign .. => true
  | _ => false
def view0 : Program := { PySem.Challenge.rw_xm0406_01.row.prog with main := { PySem.Challenge.rw_xm0406_01.row.prog.main with body := PySem.Challenge.rw_xm0406_01.row.prog.main.body.filter fun st => !isAsg st } }
theorem head_said : PySem.Challenge.rw_xm0406_01.wellSaid = true := by
  unfold OpenLaw.wellSaid OpenRow.wellSaid OpenRow.partSaid looksOpen
  simp only [Bool.and_eq_true]
  and_intros
  all_goals ((try rw [Fast.te8326940854005059898]; try rw [Fast.te17119622794617984870]; try rw [Fast.te8377067652309620493]; try rw [Fast.te12862048085361865435]; try rw [Fast.te9558739934217749035]; try rw [Fast.te10501279942588096481]; try rw [Fast.te8179353310426384613]; try rw [Fast.te16286561074155671207]; try rw [Fast.te17868728402115742887]; try rw [Fast.te11788848310118352699]; try rw [Fast.te18344453789297297638]; try rw [Fast.te5923862056798008813]; try rw [Fast.te13343964577679436407]; try rw [Fast.te13582783067957832011]; try rw [Fast.te14412699480532031325]); decide +kernel)
theorem head_left : LeftO PySem.Challenge.rw_xm0406_01.row.prog view0 [] (fun s => xlAt view0 [] s && recOk (RowW.records PySem.Challenge.rw_xm0406_01.row.toRowW) s) (Hook.obs Hook.none) (Hook.val Hook.none) 3926 := fun w => by
  unfold openEnds fencedOpening topFrom openGood expectedOf plainGoodE plainGoodD wideGood clsGoodW namesBound staticsOk laidKept xlAt
  rw [Fast.te10274390034422433532, Fast.te14289696077712309145, Fast.te14082659384304107361, Fast.te1435165496053646825, Fast.te14364793385576792824, Fast.te4187177175401517315, Fast.te5923862056798008813, Fast.te8920871248978507458, Fast.te3399658132070893891, Fast.te821141287760084731, Fast.te210736558901404530, Fast.te4354255287344443571, Fast.te694669760492028198, Fast.te1571739515156823405, Fast.te3247288618530077131, Fast.te18344453789297297638, Fast.te4857012375875476094]
  kernel_rfl
theorem head_promised : PySem.Challenge.rw_xm0406_01.row.toRowW.promised := by
  w_on
  w_witness2
theorem head_bare : PySem.Challenge.rw_xm0406_01.row.toRowW.prog.bare := ⟨rfl, rfl, rfl, rfl, rfl, by decide +kernel⟩
theorem head_ok : (chainsOk view0 && opensWell PySem.Challenge.rw_xm0406_01.row.prog && (frees PySem.Challenge.rw_xm0406_01.row.toRowW && PySem.Challenge.rw_xm0406_01.row.within.isEmpty)) = true := by decide +kernel
end Mine
end
section
open PySem PySem.Calls PyProof.Rows
namespace Mine
/-- the world of this text -/
structure Good (W : Wd) : Prop where
  defs : ∀ d ∈ recsOf view0, DefAt W d
  len : W.Res "len" (.builtin "len")
  range : W.Res "range" (.type "range")
  enum : W.Res "enumerate" (.type "enumerate")
  min : W.Res "min" (.builtin "min")
  abs : W.Res "abs" (.builtin "abs")
  int : W.Res "int" (.type "int")
theorem len1 {α : Type} : ∀ {l : List α}, l.length = 1 → ∃ a, l = [a]
  | [a], _ => ⟨a, rfl⟩
theorem len2 {α : Type} : ∀ {l : List α}, l.length = 2 → ∃ a b, l = [a, b]
  | [a, b], _ => ⟨a, b, rfl⟩
theorem len3 {α : Type} : ∀ {l : List α}, l.length = 3 → ∃ a b c, l = [a, b, c]
  | [a, b, c], _ => ⟨a, b, c, rfl⟩
theorem len4 {α : Type} : ∀ {l : List α}, l.length = 4 → ∃ a b c d, l = [a, b, c, d]
  | [a, b, c, d], _ => ⟨a, b, c, d, rfl⟩
theorem len5 {α : Type} : ∀ {l : List α}, l.length = 5 → ∃ a b c d e, l = [a, b, c, d, e]
  | [a, b, c, d, e], _ => ⟨a, b, c, d, e, rfl⟩
def cmpI (a b : Int) : Int := if a < b then -1 else if b < a then 1 else 0
theorem tn1 {k : Int} (h : 0 ≤ k) : (k + 1).toNat = k.toNat + 1 := Int.toNat_add h (by decide)
theorem tn2 {k : Int} (h : 0 ≤ k) (n : Nat) : (k + (n : Int)).toNat = k.toNat + n := Int.toNat_add h (Int.natCast_nonneg n)
theorem tn3 {k : Int} (h : 0 ≤ k) (n : Nat) : ((n : Int) + k).toNat = n + k.toNat := Int.toNat_add (Int.natCast_nonneg n) h
theorem tn4 {k j : Int} (h : 0 ≤ k) (g : 0 ≤ j) : (k + j).toNat = k.toNat + j.toNat := Int.toNat_add h g
theorem tn5 {k : Int} (h : 0 < k) : k.toNat = (k - 1).toNat + 1 := by
  have e := tn1 (Int.le_sub_one_of_lt h)
  rwa [Int.sub_add_cancel] at e
theorem lt_nat {k : Int} {n : Nat} (h0 : 0 ≤ k) (h : k < n) : k.toNat < n := (Int.toNat_lt h0).mpr h
theorem lt_nat2 {k : Int} {a n : Nat} (h : k < n) (h0 : 0 ≤ k) : a + k.toNat < a + n := Nat.add_lt_add_left (lt_nat h0 h) a
theorem lt_int2 {k : Int} {a n l : Nat} (h : k < n) (hl : a + n + 1 ≤ l) : (a : Int) + k < l := by omega
theorem le_int0 {k : Int} {a : Nat} (h0 : 0 ≤ k) : 0 ≤ (a : Int) + k := by omega
theorem len_mil {n : Nat} (h : n ≤ 1000) : n ≤ 1000000 := Nat.le_trans h (by decide)
theorem len_bil {n : Nat} (h : n ≤ 1000) : (n : Int) ≤ 1000000000 := Int.le_trans (Int.ofNat_le.mpr h) (by decide)
theorem len_neg (n : Nat) : (-1000000000 : Int) ≤ n := Int.le_trans (by decide) (Int.natCast_nonneg n)
theorem w_mil {w : Nat} (h : w ≤ 8) : (w : Int) ≤ 1000000 := Int.le_trans (Int.ofNat_le.mpr h) (by decide)
theorem ne_of_pos {a : Int} (h : 0 < a) : a ≠ 0 := Int.ne_of_gt h
theorem abs_dig {v B : Int} (h : 0 ≤ v ∧ v < B) (hB : B ≤ 256) : v.natAbs < 2 ^ 63 := by omega
theorem abs_dig4 {v B : Int} (h : 0 ≤ v ∧ v < B) (hB : B ≤ 256) : v.natAbs < 2 ^ 64 := by omega
theorem nsub1 {k : Int} {n : Nat} (h0 : 0 ≤ k) (h1 : k < n) : n - k.toNat = n - (k + 1).toNat + 1 := by
  rw [tn1 h0]; exact (Nat.succ_pred_eq_of_pos (Nat.sub_pos_of_lt (lt_nat h0 h1))).symm
theorem nsub2 {k : Int} {n : Nat} (h0 : 0 ≤ k) : n - 1 - k.toNat = n - (k + 1).toNat := by
  rw [tn1 h0, Nat.sub_sub, Nat.add_comm]
theorem nsub3 {k : Int} {n : Nat} (h0 : 0 ≤ k) (h1 : k < n) : n - (k + 1).toNat < n := by
  rw [tn1 h0]; exact Nat.sub_lt (Nat.lt_of_le_of_lt (Nat.zero_le _) (lt_nat h0 h1)) (Nat.succ_pos _)
theorem ix0 {l n : Nat} (h : n < l) : ((l : Int) - (n : Int) - 1 + 1).toNat = l - n := by
  rw [Int.sub_add_cancel]; exact Int.toNat_sub l n
theorem ix1 {k : Int} {n : Nat} (h : 0 ≤ k) (hn : 2 ≤ n) : (k + (n : Int) - 2).toNat = k.toNat + n - 2 := by
  obtain ⟨m, rfl⟩ := Int.eq_ofNat_of_zero_le h
  exact Int.toNat_sub (m + n) 2
theorem ix6 {k n : Nat} (hn : 2 ≤ n) : k + n - 2 + 3 = k + n + 1 := by
  obtain ⟨m, rfl⟩ := Nat.exists_eq_add_of_le' hn
  rfl
theorem ix2 {k : Int} {n : Nat} (h : 0 ≤ k) (hn : 2 ≤ n) : (k + (n : Int) + 1).toNat = k.toNat + n - 2 + 3 := by
  rw [ix6 hn, tn1 (Int.add_nonneg h (Int.natCast_nonneg n)), tn2 h]
theorem ix3 {k : Int} {z l n : Nat} (hz : z = l - n) (hl : n < l) (g : k + 1 ≤ (l : Int) - n) : k < z := by omega
theorem ix4 {k l n : Nat} (hn : 2 ≤ n) (h : k + n + 1 ≤ l) : min 3 (l - (k + n - 2)) = 3 :=
  Nat.min_eq_left (Nat.le_sub_of_add_le (by rw [Nat.add_comm, ix6 hn]; exact h))
theorem ix5 {k : Int} {l n : Nat} (h0 : 0 ≤ k) (g : k + 1 ≤ (l : Int) - n) : k.toNat + n + 1 ≤ l := by omega
theorem ix7 {k n l : Nat} (hn : 2 ≤ n) (h : k + n + 1 ≤ l) : k + n - 2 + 3 ≤ l := by rw [ix6 hn]; exact h
theorem ix8 {k n l : Nat} (h : k + n + 1 ≤ l) : k + n - 2 ≤ l := Nat.le_trans (Nat.sub_le _ _) (Nat.le_of_succ_le h)
theorem ix9 {n : Nat} (hn : 2 ≤ n) : n - 2 + 1 = n - 1 := by
  obtain ⟨m, rfl⟩ := Nat.exists_eq_add_of_le' hn
  rfl
theorem len_sub {z l n : Nat} (hz : z = l - n) (hl : l ≤ 1000) : z ≤ 1000000 := by omega
theorem cmp_nn {x y : Int} (hx : x < 0) (hy : y < 0) : cmpI (y.natAbs : Int) (x.natAbs : Int) = cmpI x y := by
  have e1 : (y.natAbs : Int) = -y := by omega
  have e2 : (x.natAbs : Int) = -x := by omega
  rw [e1, e2]; unfold cmpI
  simp only [Int.neg_lt_neg_iff]
theorem cmp_pp {x y : Int} (hx : ¬ x < 0) (hy : ¬ y < 0) : cmpI (x.natAbs : Int) (y.natAbs : Int) = cmpI x y := by
  have e1 : (y.natAbs : Int) = y := by omega
  have e2 : (x.natAbs : Int) = x := by omega
  rw [e1, e2]
theorem lt_add_nat {k j : Int} {a b l : Nat} (h0 : 0 ≤ k) (h1 : k < a) (g0 : 0 ≤ j) (g1 : j < b) (hl : l = a + b) : k.toNat + j.toNat < l := hl ▸ Nat.add_lt_add (lt_nat h0 h1) (lt_nat g0 g1)
theorem lt_at {j : Int} {a n l : Nat} (g0 : 0 ≤ j) (g1 : j < n) (hl : a + n + 1 ≤ l) : a + j.toNat < l := Nat.lt_of_lt_of_le (Nat.add_lt_add_left (lt_nat g0 g1) a) (Nat.le_of_succ_le hl)
theorem pred_add {k : Int} : (k + 1 - 1).toNat = k.toNat := congrArg Int.toNat (Int.add_sub_cancel k 1)
theorem lim_step {z a b : Nat} (h : z + b ≤ 1000) (h2 : a < b) : z + 1 + a ≤ 1000 := by omega
theorem abs40 {v : Int} (h : v.natAbs ≤ 2 ^ 40) : v.natAbs < 2 ^ 63 := Nat.lt_of_le_of_lt h (by decide)
theorem room_le {r m a k : Nat} (h : r = m + k) (hk : a ≤ k) : m + a ≤ r := h ▸ Nat.add_le_add_left hk m
theorem room_60 {r a : Nat} (h : 60 ≤ r) (hk : a ≤ 60) : a ≤ r := Nat.le_trans hk h
end Mine
end
section
open PySem PySem.Calls PyProof.Rows
set_option linter.unusedVariables false
set_option maxRecDepth 100000
namespace Mine
theorem lookup_relabel {env : Env} {k : NameKind} (hk : k ≠ .free) : ∀ {names : List (Str × NameKind)} {x : Str}, names.lookup x = some k →
    (names.map fun (n, k) => if (k == NameKind.free && env.scope.kind == .function && env.kindOf n == some .cell) then (n, NameKind.cell) else (n, k)).lookup x = some k
  | [], x, h => by simp at h
  | (n, k') :: r, x, h => by
    have ih := @lookup_relabel env k hk r x
    show List.lookup x ((if (k' == NameKind.free && env.scope.kind == .function && env.kindOf n == some .cell) = true then (n, NameKind.cell) else (n, k')) :: _) = _
    cases hx : x == n with
    | true =>
      simp only [List.lookup_cons, hx] at h
      cases h
      have : (k == NameKind.free) = false := by simpa using hk
      simp [List.lookup_cons, hx, this]
    | false =>
      simp only [List.lookup_cons, hx] at h
      have := ih h
      split <;> simpa [List.lookup_cons, hx] using this
structure CompOk (C : Cx) (scope : Scope) (x : Str) (gn : List Str) : Prop where
  cell : ∀ y ∈ scope.names, y.2 ≠ .cell
  kind : scope.kind = .function
  names : ∀ y ∈ scope.names, y.2 = .local → scope.names.lookup y.1 = some .local
  hx : scope.names.lookup x = some .local
  gl : ∀ y ∈ gn, scope.names.lookup y = some .globalImplicit
  dbg : ∀ y ∈ [x] ++ gn, (y == ("__debug__" : Str)) = false
/-- the frame of a comprehension's turn -/
def Cx.comp (C : Cx) (scope : Scope) (cl : List (Str × Addr)) (x : Str) (gn : List Str) (ok : CompOk C scope x gn) (D : Addr) (hD : C.W.hw.get? D = none) : Cx where
  W := C.W
  A := C.A
  env := compEnvC scope cl D C.env
  locs := [x]
  gn := gn
  X := []
  room := C.room
  hk := ok.kind
  hglob := C.hglob
  hbns := C.hbns
  hh := C.hh
  hlocs := fun y hy => by rw [List.mem_singleton.mp hy]; exact lookup_relabel (by decide) ok.hx
  hnd := by simp
  hgn := fun y hy => lookup_relabel (by decide) (ok.gl y hy)
  hdbg := ok.dbg
  hLw := hD
  hroom := C.hroom
  hunits := C.hunits
theorem comp_block {C : Cx} {P : List Addr} {s₁ : Shared} {ρ : Loc} {σ₁ : Sto} {K : V → Sto → Prop} {elt iter : PySem.Expr} {x : Str} {px : Pos} {scope : Scope} {cl : List (Str × Addr)} {pos : Pos} {gn : List Str} (ok : CompOk C scope x gn)
    (R : Rel C P s₁ ρ σ₁) {h₂ : Heap} {I ax : Addr} {vals : Array Value} {vs Ys : List V} {St : Nat → Heap → Prop} (up : ∀ b o, s₁.heap.get? b = some o → h₂.get? b = some o) (hI₀ : s₁.heap.get? I = none) (hIlt : I < h₂.objs.size) (hax : ∃ o, s₁.heap.get? ax = some o)
    (W : Walks C.W.prog C.W.w C.A I [I, ax] [I] vals.size (fun i v => vals[i]? = some v) St) (hIo : ∀ i h, St i h → ∃ o, h.get? I = some o) (hsz : vals.size ≤ sizeLine) (hst : St 0 h₂) (rv : RepL s₁.heap (C.S σ₁ P) vs vals.toList) (hl : Ys.length = vs.length)
    (hel : ∀ (i : Nat) X Y, vs[i]? = some X → Ys[i]? = some Y → ∀ D hD, EE (C.comp scope cl x gn ok D hD) elt [(x, X)] [] fun Z σ' => Z = Y ∧ σ' = []) (k : K (.li Ys) σ₁) {Qf : Value → Shared → Prop} (hQ : ∀ v s', Post C P s₁ ρ σ₁ K v s' → Qf v s') :
    wpAny C.W.M C.A (newList []) (fun acc s₃ => wpAny C.W.M C.A (newFunctionEnv scope C.env.globals cl [] C.env.qual none .none (some C.env)) (fun cenv s₄ =>
      codeAny C.W.M C.A (.compStart (.ListComp elt [⟨.Name x px, iter, [], 0⟩] scope pos) 0 (.ref I) acc { cenv with scope := relabel scope C.env }) (compPost C.W.M C.A NoE none Qf acc cenv.locals) s₄) NoE s₃) NoE { s₁ with heap := h₂ } := by
  refine wpAny_newObj_type (wpAny_newFunctionEnv ok.cell (by intro y hy; simp at hy) (fun h₁ hns₁ hsb₁ => ?_) ok.kind)
  dsimp only at hns₁ hsb₁ ⊢
  generalize hH2 : h₂.push { cls := .type "list", dict := none, data := .seq ([] : List Value).toArray } = H2 at hns₁ hsb₁ ⊢
  have hC : H2.objs.size = h₂.objs.size + 1 := by rw [← hH2, Heap.size_push]
  have hDC : h₂.objs.size ≠ H2.objs.size := by rw [hC]; exact Nat.ne_of_lt (Nat.lt_succ_self _)
  have below : ∀ b, b < h₂.objs.size → b ≠ H2.objs.size ∧ b ≠ h₂.objs.size := fun b hb => ⟨by rw [hC]; exact Nat.ne_of_lt (Nat.lt_succ_of_lt hb), Nat.ne_of_lt hb⟩
  have old : ∀ b o, h₂.get? b = some o → h₁.get? b = some o := fun b o e => hsb₁.extBut b o (below b (Heap.lt_size e)).1 (Heap.get?_push_of_some _ (hH2 ▸ Heap.get?_push_of_some _ e))
  have hacc : h₁.get? h₂.objs.size = some (LCg.lst []) := hsb₁.extBut _ _ hDC (Heap.get?_push_of_some _ (hH2 ▸ Heap.get?_push_size _ rfl))
  have hst₁ : St 0 h₁ := W.frame _ _ _ hst fun b _ o e => old b o e
  have fresh : ∀ a, h₂.objs.size ≤ a → s₁.heap.get? a = none := fun a ha => by
    cases e : s₁.heap.get? a with
    | none => rfl
    | some o' => exact absurd (Heap.lt_size (up a o' e)) (Nat.not_lt.mpr ha)
  have hD₀ : s₁.heap.get? h₂.objs.size = none := fresh _ (Nat.le_refl _)
  have hC₀ : s₁.heap.get? H2.objs.size = none := fresh _ (by rw [hC]; exact Nat.le_succ _)
  have hCI : I ≠ H2.objs.size := (below I hIlt).1
  have hDI : I ≠ h₂.objs.size := (below I hIlt).2
  have hax1 : ax ≠ H2.objs.size ∧ ax ≠ h₂.objs.size := by obtain ⟨o, e⟩ := hax; exact below _ (Heap.lt_size (up _ _ e))
  have hWC : C.W.hw.get? H2.objs.size = none := by
    cases e : C.W.hw.get? H2.objs.size with
    | none => rfl
    | some o => have := R.hw _ _ e; rw [hC₀] at this; cases this
  generalize hDD : h₂.objs.size = D at *
  generalize hCC : H2.objs.size = Cc at *
  have rl : vs.length = vals.size := by rw [rv.length]; simp
  -- the turn's set
  have nin : ∀ b o, s₁.heap.get? b = some o → b ≠ I ∧ b ≠ D ∧ b ≠ Cc := fun b o e => ⟨fun q => (by rw [q, hI₀] at e; cases e), fun q => (by rw [q, hD₀] at e; cases e), fun q => (by rw [q, hC₀] at e; cases e)⟩
  have big : ∀ b o, b ∉ C.S σ₁ P → s₁.heap.get? b = some o → b ∉ (Cc :: ([] ++ (I :: D :: C.S σ₁ P)) : List Addr) := fun b o hb e q => by
    obtain ⟨n1, n2, n3⟩ := nin b o e
    rcases List.mem_cons.mp q with q | q
    · exact n3 q
    · rcases List.mem_cons.mp q with q | q
      · exact n1 q
      · rcases List.mem_cons.mp q with q | q
        · exact n2 q
        · exact hb q
  have hlive : ∀ a ∈ C.S σ₁ P, ∃ o, s₁.heap.get? a = some o := fun a ha => by
    cases e : s₁.heap.get? a with
    | none => exact absurd ha (R.notin e)
    | some o => exact ⟨o, rfl⟩
  have loop : ∀ s₃ : Shared, s₃ = { s₁ with heap := h₁, toks := s₁.toks + ([] : List (Str × Value)).length } →
      codeAny C.W.M C.A (.compLoop (.ListComp elt [⟨.Name x px, iter, [], 0⟩] scope pos) 0 (.ref I) (.ref D) (compEnvC scope cl Cc C.env))
        (compPost C.W.M C.A NoE none Qf (.ref D) Cc) s₃ := by
    rintro s₃ rfl
    refine codeAny_compLoop_tests
      (fun n s' => ∃ h' tk i ys m', s' = { s₁ with heap := h', toks := tk } ∧ i ≤ vals.size ∧ n = vals.size + 1 - i ∧ ys.length = i ∧ St i h' ∧ (∀ b o, s₁.heap.get? b = some o → h'.get? b = some o) ∧ h'.Ns Cc m' ∧ h'.get? D = some (LCg.lst ys) ∧ (∃ o, h'.get? I = some o) ∧
        RepL h' (Cc :: ([] ++ (I :: D :: C.S σ₁ P))) (Ys.take i) ys) ?_ (vals.size + 1)
      ⟨h₁, _, 0, [], _, rfl, Nat.zero_le _, rfl, rfl, hst₁, fun b o e => old b o (up b o e), hns₁, hacc, ?_, by simp only [List.take_zero, RepL]⟩
    · rintro n s' ⟨h', tk, i, ys, m', rfl, hi, rfl, hyl, hst', hk', hn', hD', hI', hr'⟩
      by_cases hlt : i < vals.size
      · refine W.item i _ _ _ hlt hst' fun v h₂' tk₂ hPv hst₂ hk₂ => ?_
        obtain ⟨X, hX⟩ : ∃ X, vs[i]? = some X := ⟨_, List.getElem?_eq_getElem (by omega)⟩
        obtain ⟨Y, hY⟩ : ∃ Y, Ys[i]? = some Y := ⟨_, List.getElem?_eq_getElem (by omega)⟩
        obtain ⟨v', hv', rX⟩ := rv.get hX
        have evv : v' = v := by
          rw [Array.getElem?_toList, hPv] at hv'
          exact (Option.some.inj hv').symm
        subst evv
        refine wpAny_assign_Name (wpAny_storeName_local (lookup_relabel (by decide) ok.hx) (hn'.at' fun o e => hk₂ _ o (by simpa using Ne.symm hCI) e) (fun h₃ hn₃ hs₃ => ?_) (by simp [compEnvC, relabel, ok.kind]))
        refine wpAny_tests_nil ?_
        simp only [if_true]
        have hst₃ : St (i + 1) h₃ := W.frame _ _ _ hst₂ fun b hb o e => hs₃.extBut b o (fun q => by
          rcases List.mem_cons.mp hb with q' | q'
          · exact hCI (q'.symm.trans q)
          · exact hax1.1 ((List.mem_singleton.mp q').symm.trans q)) e
        have keep3 : ∀ b o, b ≠ I → b ≠ Cc → h'.get? b = some o → h₃.get? b = some o := fun b o n1 n2 e => hs₃.extBut b o n2 (hk₂ b o (by simpa using n1) e)
        have hk3 : ∀ b o, s₁.heap.get? b = some o → h₃.get? b = some o := fun b o e => keep3 b o (nin b o e).1 (nin b o e).2.2 (hk' b o e)
        have hD3 : h₃.get? D = some (LCg.lst ys) := keep3 D _ (Ne.symm hDI) hDC hD'
        have hI3 : ∃ o, h₃.get? I = some o := hIo _ _ hst₃
        have R' : Rel (C.comp scope cl x gn ok Cc hWC) (I :: D :: C.S σ₁ P) { s₁ with heap := h₃, toks := tk₂ + 1 } [(x, X)] [] := by
          refine ⟨⟨_, hn₃, fun y Z hy => ?_⟩, rfl, fun b o e => hk3 b o (R.hw b o e), fun a ws hm => (by cases hm), List.nodup_nil, fun a ha => ?_, fun q => ?_, fun a ha => (by cases ha)⟩
          · cases List.mem_singleton.mp hy
            refine .inr ⟨v', by simp, rX.mono fun b o hb e => ⟨hk3 b o e, big b o hb e⟩⟩
          · rcases List.mem_cons.mp ha with q | q
            · rw [q]; exact hI3
            · rcases List.mem_cons.mp q with q | q
              · rw [q]; exact ⟨_, hD3⟩
              · obtain ⟨o, e⟩ := hlive a q
                exact ⟨o, hk3 a o e⟩
          · have q' : Cc ∈ I :: D :: C.S σ₁ P := q
            rcases List.mem_cons.mp q' with q | q
            · exact hCI q.symm
            · rcases List.mem_cons.mp q with q | q
              · exact hDC q.symm
              · exact R.notin hC₀ q
        refine wpAny_mono (hel i X Y hX hY Cc hWC _ _ R') (fun y s₄ h₄ => ?_) fun _ _ z => z.elim
        refine Post.elim h₄ fun Z σ' R₄ f₄ r₄ kk => ?_
        obtain ⟨rfl, rfl⟩ := kk
        obtain ⟨h4, tk4, rfl⟩ := f₄.shape
        have k4 : ∀ b o, b ≠ Cc → h₃.get? b = some o → h4.get? b = some o := fun b o n e => f₄.pres b o n (by intro q; cases q) e
        obtain ⟨m4, hn4, _⟩ := R₄.ns
        have hst₄ : St (i + 1) h4 := W.frame _ _ _ hst₃ fun b hb o e => k4 b o (fun q => by
          rcases List.mem_cons.mp hb with q' | q'
          · exact hCI (q'.symm.trans q)
          · exact hax1.1 ((List.mem_singleton.mp q').symm.trans q)) e
        have hD4 := k4 D _ hDC hD3
        refine append_at (hsz := by show ys.toArray.size ≤ sizeLine; rw [List.size_toArray, hyl]; exact Nat.le_trans hi hsz) hD4 fun h₅ hs₅ hD₅ => ?_
        refine ⟨vals.size + 1 - (i + 1), meas hlt, h₅, tk4, i + 1, ys ++ [y], m4, rfl, hlt, rfl, by rw [List.length_append, List.length_singleton, hyl], W.frame _ _ _ hst₄ fun b hb o e => hs₅.extBut b o (fun q => by
          rcases List.mem_cons.mp hb with q' | q'
          · exact hDI (q'.symm.trans q)
          · exact hax1.2 ((List.mem_singleton.mp q').symm.trans q)) e, fun b o e => hs₅.extBut b o (nin b o e).2.1 (k4 b o (nin b o e).2.2 (hk3 b o e)), hn4.sameBut hs₅ (Ne.symm hDC), hD₅.trans (congrArg some (LCg.lst_snoc ys y)), ?_, ?_⟩
        · obtain ⟨o, e⟩ := hI3
          exact ⟨o, hs₅.extBut _ _ hDI (k4 _ _ hCI e)⟩
        · have eT : Ys.take (i + 1) = Ys.take i ++ [Z] := by
            rw [List.take_add_one, hY]; rfl
          rw [eT]
          have m1 : ∀ b o, b ∉ (Cc :: ([] ++ (I :: D :: C.S σ₁ P)) : List Addr) → h4.get? b = some o → h₅.get? b = some o ∧ b ∉ (Cc :: ([] ++ (I :: D :: C.S σ₁ P)) : List Addr) := fun b o hb e =>
            ⟨hs₅.extBut b o (fun q => hb (by rw [show b = D from q]; exact .tail _ (.tail _ (.head _)))) e, hb⟩
          have m0 : ∀ b o, b ∉ (Cc :: ([] ++ (I :: D :: C.S σ₁ P)) : List Addr) → h'.get? b = some o → h4.get? b = some o ∧ b ∉ (Cc :: ([] ++ (I :: D :: C.S σ₁ P)) : List Addr) := fun b o hb e =>
            ⟨k4 b o (fun q => hb (by rw [show b = Cc from q]; exact .head _)) (keep3 b o (fun q => hb (by rw [show b = I from q]; exact .tail _ (.head _))) (fun q => hb (by rw [show b = Cc from q]; exact .head _)) e), hb⟩
          exact ((hr'.mono m0).mono m1).append (by simp only [RepL, and_true]; exact Rep.mono m1 r₄)
      · obtain rfl : i = vals.size := Nat.le_antisymm hi (Nat.not_lt.mp hlt)
        refine W.done _ _ _ hst' fun h₂' tk₂ hk₂ => ?_
        refine ⟨m', hn'.at' fun o e => hk₂ _ o (by simpa using Ne.symm hCI) e, fun h'' hs'' => ?_⟩
        have kk : ∀ b o, b ≠ I → b ≠ Cc → h'.get? b = some o → h''.get? b = some o := fun b o n1 n2 e => hs''.extBut b o n2 (hk₂ b o (by simpa using n1) e)
        refine hQ _ _ (post_grow R (fun b o e => kk b o (nin b o e).1 (nin b o e).2.2 (hk' b o e)) ?_ k)
        simp only [Rep]
        refine ⟨_, _, rfl, R.notin hD₀, ⟨_, kk _ _ (Ne.symm hDI) hDC hD', rfl, _, rfl⟩, ?_⟩
        have e1 : Ys.take vals.size = Ys := List.take_of_length_le (by omega)
        rw [e1] at hr'
        exact hr'.mono fun b o hb e => ⟨kk b o (fun q => hb (by rw [show b = I from q]; exact .tail _ (.head _))) (fun q => hb (by rw [show b = Cc from q]; exact .head _)) e, fun q => hb (.tail _ (.tail _ (.tail _ q)))⟩
    · exact hIo _ _ hst₁
  exact codeAny_compStart_list (loop _ rfl) (W.self 0 _ _ _ hst₁ (loop _ rfl))
theorem EE_lc {C : Cx} {ρ : Loc} {σ : Sto} {K : V → Sto → Prop} {elt iter : PySem.Expr} {x : Str} {px : Pos} {scope : Scope} {cl : List (Str × Addr)} {pos : Pos} {gn : List Str} (ok : CompOk C scope x gn) (hclos : closureFor scope C.env = pure cl)
    (h : EE C iter ρ σ fun O σ₁ => ∃ vs Ys : List V, (O = .li vs ∨ O = .tup vs) ∧ vs.length ≤ 1000000 ∧ Ys.length = vs.length ∧
      (∀ (i : Nat) X Y, vs[i]? = some X → Ys[i]? = some Y → ∀ D hD, EE (C.comp scope cl x gn ok D hD) elt [(x, X)] [] fun Z σ' => Z = Y ∧ σ' = []) ∧ K (.li Ys) σ₁)
    (hs : ∀ x, foldedSetIterable iter C.env x = pure x := by intro _; with_unfolding_all rfl) : EE C (.ListComp elt [⟨.Name x px, iter, [], 0⟩] scope pos) ρ σ K := fun P s R => by
  rw [eval_ListComp]
  refine wpAny_comprehension_free (use := none) rfl hs hclos ok.kind ok.names (wpAny_mono (h P s R) (fun v s₁ h₁ => ?_) fun _ _ x => x)
  refine Post.elim h₁ fun O σ₁ R₁ f₁ r₁ kk => ?_
  obtain ⟨vs, Ys, hO, hlen, hl, hel, k⟩ := kk
  have up : ∀ (o' : Obj) b o, s₁.heap.get? b = some o → (s₁.heap.push o').get? b = some o := fun o' b o e => Heap.get?_push_of_some _ e
  rcases hO with rfl | rfl
  · obtain ⟨l, vals, rfl, hlS, hL, rl⟩ := rep_li r₁
    have hlt : l < s₁.heap.objs.size := by obtain ⟨_, e, _⟩ := hL; exact Heap.lt_size e
    refine wpAny_pyIter_list hL ?_
    refine comp_block ok R₁ (vals := vals.toArray) (I := s₁.heap.objs.size) (up _) (fresh_none _) (by rw [Heap.size_push]; exact Nat.lt_succ_self _) (by obtain ⟨o, e, _⟩ := hL; exact ⟨o, e⟩)
      (Walks.list C.hh s₁.heap.objs.size l (Nat.ne_of_lt hlt) vals.toArray) (fun i h st => by obtain ⟨o, e, _⟩ := st.1; exact ⟨o, e⟩) ?_ ⟨⟨_, Heap.get?_push_size _ rfl, rfl, rfl⟩, hL.push _⟩ rl hl hel k (fun v s' h => h.fut f₁)
    have := rl.length
    rw [List.size_toArray]
    exact line_small (by omega)
  · obtain ⟨l, vals, rfl, hlS, hL, rl⟩ := rep_tup r₁
    have hlt : l < s₁.heap.objs.size := by obtain ⟨_, e, _⟩ := hL; exact Heap.lt_size e
    have hT : s₁.heap.IsTuple l vals.toArray := hL
    refine wpAny_pyIter_tuple hT ?_
    refine comp_block ok R₁ (vals := vals.toArray) (I := s₁.heap.objs.size) (up _) (fresh_none _) (by rw [Heap.size_push]; exact Nat.lt_succ_self _) (by obtain ⟨o, e, _⟩ := hL; exact ⟨o, e⟩)
      (Walks.tuple C.hh s₁.heap.objs.size l (Nat.ne_of_lt hlt) vals.toArray) (fun i h st => by obtain ⟨o, e, _⟩ := st.1; exact ⟨o, e⟩) ?_ ⟨⟨_, Heap.get?_push_size _ rfl, rfl, rfl⟩, by obtain ⟨o, e, r⟩ := hT; exact ⟨o, up _ _ _ e, r⟩⟩ rl hl hel k (fun v s' h => h.fut f₁)
    have := rl.length
    rw [List.size_toArray]
    exact line_small (by omega)
end Mine
end
section
open PySem PySem.Calls PyProof.Rows PySem.W
set_option linter.unusedVariables false
set_option maxRecDepth 100000
namespace Mine
theorem DefAt.grow {W W' : Wd} (hm : W'.mg = W.mg) (hk : ∀ b o, W.hw.get? b = some o → W'.hw.get? b = some o) {d : DefRec} (D : DefAt W d) : DefAt W' d := by
  obtain ⟨a, o, pm, cd, doc, h, ho, hd, hc⟩ := D
  exact ⟨a, o, pm, cd, doc, by rw [hm]; exact h, hk _ _ ho, hd, hc.keeps hk⟩
theorem Good.grow {W W' : Wd} (hm : W'.mg = W.mg) (hb : W'.mb = W.mb) (hk : ∀ b o, W.hw.get? b = some o → W'.hw.get? b = some o) (G : Good W) : Good W' where
  defs := fun d hd => (G.defs d hd).grow hm hk
  len := by have := G.len; unfold Wd.Res at *; rw [hm, hb]; exact this
  range := by have := G.range; unfold Wd.Res at *; rw [hm, hb]; exact this
  enum := by have := G.enum; unfold Wd.Res at *; rw [hm, hb]; exact this
  min := by have := G.min; unfold Wd.Res at *; rw [hm, hb]; exact this
  abs := by have := G.abs; unfold Wd.Res at *; rw [hm, hb]; exact this
  int := by have := G.int; unfold Wd.Res at *; rw [hm, hb]; exact this
/-- a cell that holds an int -/
def CellInt (W : Wd) (c : Addr) (i : Int) : Prop := ∃ t, W.hw.IsCell c (some (.int i t))
/-- a def of two arguments whose second lies in a cell -/
theorem CallOk.ofC {W : Wd} {n : Nat} {d : DefRec} {x c : Str} {X : V} {i : Int} {r : V} (D : DefAt W d) (G : Good W) (gn : List Str) (hp : d.params.args.map (·.arg) = [x, c])
    (hx : d.scope.names.lookup x = some .local) (hc : d.scope.names.lookup c = some .cell) (hxc : (x == c) = false) (hcf : ∀ n, cellsFrom n d.scope.names [] = [(c, n)]) (hgl : ∀ y ∈ gn, d.scope.names.lookup y = some .globalImplicit)
    (hdbg : ∀ y ∈ [x] ++ gn, (y == ("__debug__" : Str)) = false) (hkind : d.scope.kind = .function) (hco : d.scope.isCoroutine = false) (hgen : d.scope.isGenerator = false)
    (hbind : ∀ vals : List Value, vals.length = 2 → ∀ pm cd doc, bindArgs (docDef d.name d.params d.body d.scope pm cd doc) ⟨vals, []⟩ = pure ([x, c].zip vals))
    (hbody : ∀ C : Cx, Good C.W → C.W.mg = W.mg → C.room = n → C.X = [] → C.gn = gn → (∃ L fa cd, C.env = envOfC d.name d.scope L fa cd ∧ CellInt C.W (L + 1) i) → SS C d.body [(x, X)] [] (RetQ r)) : CallOk W (n + 1) (W.fn d.name) [X, .int i] r := by
  refine ⟨D.isFn, fun A s S vals rm hw hS hr => ?_⟩
  obtain ⟨a, o, pm, cd, doc, h, ho, hd, hcd⟩ := D
  have efn : W.fn d.name = .ref a := by unfold Wd.fn; rw [h]; rfl
  rw [efn]
  have hvl : vals.length = 2 := hr.length.symm
  obtain ⟨v1, ws, rfl, r1, r2⟩ := repL_cons hr
  obtain ⟨v2, rfl, r3⟩ := repL1 r2
  obtain ⟨t, rfl⟩ := rep_int r3
  have hL0 : s.heap.get? s.heap.objs.size = none := fresh_none _
  refine codeAny_call_function (by have := rm.d; omega) (hw _ _ ho) hd hco hgen rfl (hcd.keeps hw) ?_
  refine wpAny_of_eq (hbind _ hvl pm cd doc) ?_
  refine wpAny_newFunctionEnv_cells hkind ?_ fun env' he s' xx => ?_
  · intro y hy
    have hy' : y ∈ [(x, v1), (c, Value.int i t)] := hy
    rcases List.mem_cons.mp hy' with rfl | q
    · exact .inl hx
    · cases List.mem_singleton.mp q
      exact .inr ⟨hc, by rw [show (docDef d.name d.params d.body d.scope pm cd doc).scope = d.scope from rfl, hcf]; simp⟩
  subst he
  refine ⟨(W.nolimit.keeps hw).keeps xx.toInCall.keep, codeAny_func ?_⟩
  obtain ⟨h₁, tk, rfl, hk₁⟩ := xx.done
  have hns := xx.toInCall.ns
  have hkw : ∀ b o, W.hw.get? b = some o → (hideAll h₁ [s.heap.objs.size]).get? b = some o := fun b o e => hideAll_get _ (hk₁ b o (hw b o e)) (fun q => by
    have e' := hw b o e
    rw [List.mem_singleton.mp q, hL0] at e'
    cases e')
  have LS : s.heap.objs.size ∉ S := fun q => by
    obtain ⟨o, e⟩ := hS _ q
    rw [hL0] at e; cases e
  let W' : Wd := { prog := W.prog, w := W.w, hw := hideAll h₁ [s.heap.objs.size], mg := W.mg, mb := W.mb, g := W.g.keeps hkw, b := W.b.keeps hkw, nolimit := W.nolimit.keeps hkw }
  let C : Cx := Cx.mk W' (A.deeper (envOfC d.name d.scope s.heap.objs.size a cd)) (envOfC d.name d.scope s.heap.objs.size a cd) [x] gn [] n hkind rfl rfl rm.hh
    (fun y hy => by rw [List.mem_singleton.mp hy]; exact hx) (by simp) hgl hdbg (hideAll_none _ (.head _))
    (by have := rm.d; show A.depth + 1 + n < recursionLimit; omega) (by have := rm.u; show A.units + 3 + 4 * n + 80 < cLine; omega)
  have hcell := xx.cell c (s.heap.objs.size + 1) (by
    show List.lookup c (cellsFrom (s.heap.objs.size + 1) d.scope.names []) = _
    rw [hcf]; simp)
  have hcv : CellInt W' (s.heap.objs.size + 1) i := by
    refine ⟨t, ?_⟩
    have e : bindC (envOfC d.name d.scope s.heap.objs.size a cd).kindOf [(x, v1), (c, Value.int i t)] (fun _ => none) c = some (.int i t) := by
      have k1 : (envOfC d.name d.scope s.heap.objs.size a cd).kindOf x = some .local := hx
      have k2 : ¬ (envOfC d.name d.scope s.heap.objs.size a cd).kindOf c = some .local := by
        intro q; have q' : d.scope.names.lookup c = some .local := q; rw [hc] at q'; cases q'
      unfold bindC; rw [if_pos k1]
      unfold bindC; rw [if_neg k2]
      simp [bindC]
    obtain ⟨o, ho', hd'⟩ := hcell
    refine ⟨o, hideAll_get _ ho' (by simp), ?_⟩
    rw [hd']
    exact congrArg _ e
  have R : Rel C S { s with heap := h₁, toks := tk } [(x, X)] [] := by
    refine ⟨⟨_, hns, fun y Z hy => ?_⟩, rfl, fun b o e => of_hideAll _ e, fun a ws hm => (by cases hm), List.nodup_nil, fun b hb => ?_, LS, fun b hb => (by cases hb)⟩
    · cases List.mem_singleton.mp hy
      refine .inr ⟨v1, ?_, r1.mono fun b o hb e => ⟨hk₁ b o e, fun q => ?_⟩⟩
      · show bindL (envOfC d.name d.scope s.heap.objs.size a cd).kindOf [(x, v1), (c, Value.int i t)] (fun _ => none) x = some v1
        have k1 : (envOfC d.name d.scope s.heap.objs.size a cd).kindOf x = some .local := hx
        have k2 : ¬ (envOfC d.name d.scope s.heap.objs.size a cd).kindOf c = some .local := by
          intro q; have q' : d.scope.names.lookup c = some .local := q; rw [hc] at q'; cases q'
        unfold bindL; rw [if_pos k1]
        unfold bindL; rw [if_neg k2]
        simp [bindL]
      · rcases List.mem_cons.mp q with q | q
        · rw [show b = s.heap.objs.size from q, hL0] at e; cases e
        · exact hb q
    · obtain ⟨o, e⟩ := hS b hb
      exact ⟨o, hk₁ _ _ e⟩
  refine wpAny_mono (hbody C (Good.grow (W := W) (W' := W') rfl rfl hkw G) rfl rfl rfl rfl ⟨_, _, _, rfl, hcv⟩ S _ R) (fun f s' hp => ?_) fun _ _ z => z.elim
  obtain ⟨Fl, ρ', σ', R', F', r', q⟩ := hp
  obtain ⟨h', tk', e'⟩ := F'.shape
  have hkeep : ∀ b o, s.heap.get? b = some o → s'.heap.get? b = some o := fun b o e => F'.pres b o (fun z => absurd (Heap.lt_size e) (by rw [show b = s.heap.objs.size from z]; exact Nat.lt_irrefl _)) (fun z => by cases z) (hk₁ b o e)
  rcases q with ⟨Y, rfl, z⟩ | ⟨rfl, rfl⟩
  · obtain ⟨v, rfl, rv⟩ := r'
    refine ⟨v, rfl, ⟨h', tk', e'⟩, hkeep, ?_⟩
    cases z with
    | same => exact drop_S rv
    | frz a vs hm =>
      cases rep_hdl rv
      obtain ⟨vals', hp', r2, hX, _⟩ := R'.own a vs hm
      simp only [Rep]
      exact ⟨a, vals', rfl, (fun q => by have := hX q; cases this), hp'.isList, drop_SL r2⟩
  · cases r'
    exact ⟨.none, rfl, ⟨h', tk', e'⟩, hkeep, by simp only [Rep]⟩
theorem EE_cell {C : Cx} {ρ : Loc} {σ : Sto} {K : V → Sto → Prop} {c : Str} {pos : Pos} {a : Addr} {i : Int} (hk : C.env.kindOf c = some .cell) (hl : C.env.cells.lookup c = some a) (hc : CellInt C.W a i) (hdbg : (c == ("__debug__" : Str)) = false) (h : K (.int i) σ) : EE C (.Name c pos) ρ σ K := fun P s R => by
  obtain ⟨t, hv⟩ := hc
  exact wpAny_Name (wpAny_loadName_cell C.hk hk hl (hv.keeps R.hw) (post_same R (by simp only [Rep]; exact ⟨_, rfl⟩) h)) hdbg
end Mine
end
section
open PySem PySem.Calls PyProof.Rows
set_option linter.unusedVariables false
set_option maxRecDepth 100000
set_option maxHeartbeats 2000000
set_option compiler.extract_closed false
namespace Mine
local macro_rules | `(tactic| one_sign) => `(tactic| with_reducible (repeat (first | exact List.mem_cons_self | apply List.mem_cons_of_mem)))
local macro_rules | `(tactic| nest_cls) => `(tactic| (rw [‹Cx.gn _ = _›]; one_sign))
local macro_rules | `(tactic| nest_fact) => `(tactic| with_reducible (repeat (first | exact Upd.here | apply Upd.there)))
local macro_rules | `(tactic| nest_room) => `(tactic| with_reducible (first | exact UpdAll.nil | refine UpdAll.cons (by nest_fact) (by nest_room)))
local macro_rules | `(tactic| ktr_rel) => `(tactic| with_reducible (first | exact UpdRev.nil | refine UpdRev.cons (by ktr_rel) (by nest_fact)))
local macro_rules | `(tactic| ktr_unf) => `(tactic| with_reducible (repeat (first | exact FrzAll.nil | apply FrzAll.hit | apply FrzAll.keep)))
local macro_rules | `(tactic| lcg_sub) => `(tactic| with_unfolding_all (intro q; cases q))
local macro_rules | `(tactic| lcg_src) => `(tactic| first | exact Holds.li _ | exact Holds.hdl _ _ (by one_sign))
local macro_rules | `(tactic| leaf_len) => `(tactic| (first | assumption | exact len_mil ‹_› | with_unfolding_all exact Nat.le_of_ble_eq_true rfl | ((try simp only [List.length_map, List.length_append, List.length_cons, List.length_nil, List.length_replicate, List.length_set, List.length_take, List.length_drop]); omega)))
local macro_rules | `(tactic| ktr_room) => `(tactic| (first | with_reducible exact room_le ‹_› (by decide) | with_reducible exact room_60 ‹_› (by decide) | omega))
local macro_rules | `(tactic| lcg_off) => `(tactic| (first | assumption | decide | exact Int.natCast_nonneg _ | exact Int.le_of_lt ‹_› | exact ne_of_pos ‹_› | exact w_mil ‹_› | exact len_mil ‹_› | exact len_bil ‹_› | exact len_neg _ | exact abs_dig ‹_› ‹_› | exact abs_dig4 ‹_› ‹_› | exact abs40 ‹_› | omega))
local macro_rules | `(tactic| tb_start) => `(tactic| with_reducible (first
  | (show EE _ (.Name "mul_school" _) _ _ _; refine EE_glob (by nest_cls) (Fn.res (by assumption)) ?_)
  | (show EE _ (.Name "divrem_school" _) _ _ _; refine EE_glob (by nest_cls) (Fn.res (by assumption)) ?_)
  | (show EE _ (.Name _ _) _ _ _; refine EE_var (by one_sign) (by lcg_sub) ?_)
  | (show EE _ (.Call (.Name "take_away" _) _ _ _) _ _ _; refine EE_fnM (by nest_cls) (by assumption) ?_)
  | (show EE _ (.Call (.Name "put_back" _) _ _ _) _ _ _; refine EE_fnM (by nest_cls) (by assumption) ?_)
  | (show EE _ (.Call (.Name "divide_rows" _) _ _ _) _ _ _; refine EE_fnM (by nest_cls) (by assumption) ?_)
  | (show EE _ (.Call (.Name "_law_plucked" _) _ _ _) _ _ _; refine EE_fnM (by nest_cls) (by assumption) ?_)
  | (show EE _ (.Call (.Name _ _) _ _ _) _ _ _; first
    | refine EE_bi (by nest_cls) (Good.len (by assumption)) ?_
    | refine EE_bi (by nest_cls) (Good.min (by assumption)) ?_
    | refine EE_bi (by nest_cls) (Good.abs (by assumption)) ?_
    | refine EE_ty (by nest_cls) (Good.int (by assumption)) ?_
    | refine EE_fn (by nest_cls) (by assumption) ?_)
  | (show EE _ (.Call _ _ _ _) _ _ _; refine EE_bl ?_)
  | (show EE _ _ _ _ _; first
    | refine EE_int ?_
    | refine EE_bin ?_
    | (show EE _ (.Subscript _ (.Slice _ _ _ _) _) _ _ _; refine EE_cut ?_)
    | refine EE_ix ?_
    | refine EE_cmp ?_
    | refine EE_tup ?_
    | refine EE_ng ?_
    | refine EE_and ?_
    | refine EE_nt ?_
    | refine EE_bool ?_
    | refine EE_list ?_)
  | (show EA _ _ _ _ _ _; first | refine EA_nil ?_ | refine EA_cons ?_)
  | (show OP _ _ _ _ _ _ _; first
    | refine OP_add ?_
    | refine OP_sub ?_
    | refine OP_lt ?_
    | refine OP_gt ?_
    | refine OP_le ?_
    | refine OP_ge ?_
    | refine OP_eq ?_
    | refine OP_ne ?_
    | refine OP_eqb ?_
    | refine OP_neb ?_
    | refine OP_and ?_
    | refine OP_or ?_
    | refine OP_iadd ?_
    | refine OP_isub ?_
    | refine OP_ior ?_
    | (show OP _ (binaryOp .RShift) _ _ _ _ _; refine OP_shr (by lcg_off) ?_)
    | (show OP _ (inplaceOp .RShift) _ _ _ _ _; refine OP_ishr (by lcg_off) ?_)
    | (show OP _ (binaryOp .LShift) _ _ _ _ _; refine OP_shl (by lcg_off) (by lcg_off) (by lcg_off) ?_)
    | (show OP _ (binaryOp .Mult) _ _ _ _ _; refine OP_mul ?_ (by lcg_off))
    | (show OP _ (binaryOp .Mod) _ _ _ _ _; refine OP_mod (by lcg_off) ?_)
    | (show OP _ (inplaceOp .Mod) _ _ _ _ _; refine OP_imod (by lcg_off) ?_)
    | (show OP _ (binaryOp .FloorDiv) _ _ _ _ _; refine OP_fdiv (by lcg_off) (by lcg_off) ?_)
    | (show OP _ (binaryOp .Pow) _ _ _ _ _; refine OP_pow (by lcg_off) (by lcg_off) ?_))
  | (show UNP _ _ _ _ _ _ _; refine UNP.mk (by ktr_rel) ?_)
  | (show UNQ _ _ _ _ _ _ _; refine UNQ.mk (by nest_room) ?_)
  | refine IB.mk ?_
  | refine JQ_nx ?_
  | refine TB.mk ?_
  | refine AB.mk ?_
  | refine NB.mk ?_
  | (show BC _ _ _ _ _ _; first
    | refine BC_lenI (by lcg_src) (by lcg_off) ?_
    | refine BC_len (by lcg_src) (by leaf_len) ?_
    | refine BC_min ?_
    | refine BC_abs ?_
    | refine BC_int ?_)
  | (show IDX _ _ _ _; first
    | (show IDX (.li _) (.int (-1)) _ _; refine IDX_last (by lcg_off) (by lcg_off) ?_)
    | (show IDX (.li _) _ _ _; refine IDX_li (by lcg_off) (by lcg_off) (by lcg_off) ?_)
    | (show IDX (.tup _) (.int 0) _ _; refine IDX_t0 (by leaf_len) ?_)
    | (show IDX (.tup _) (.int 1) _ _; refine IDX_t1 (by leaf_len) ?_)
    | (show IDX (.hdl _) (.int 0) _ _; refine IDX_h0 (by one_sign) (by leaf_len) ?_)
    | (show IDX (.hdl _) (.int 1) _ _; refine IDX_h1 (by one_sign) (by leaf_len) ?_)
    | refine IDX_hdl (by one_sign) (by lcg_off) (by lcg_off) (by lcg_off) ?_)
  | (show CUT _ _ _ _ _; first
    | (show CUT _ none none _ _; refine CUT_all (by lcg_src) (by lcg_off) ?_)
    | (show CUT _ none (some _) _ _; refine CUT_to (by lcg_src) (by lcg_off) (by lcg_off) (by lcg_off) ?_)
    | refine CUT_mid (by lcg_src) (by lcg_off) (by lcg_off) (by lcg_off) (by lcg_off) ?_)
  | (show BR _ _ _; first
    | refine BR_dec (fun _ => ?_) (fun _ => ?_)
    | refine BR_eq (fun _ => ?_) (fun _ => ?_)
    | refine BR_ne (fun _ => ?_) (fun _ => ?_)
    | refine BR_t ?_
    | refine BR_f ?_
    | refine BR_not ?_
    | refine BR_b (fun _ => ?_) (fun _ => ?_))
  | (show TT _ _ _ _ _; first
    | refine TT_c ?_
    | refine TT_and ?_
    | refine TT_or ?_
    | refine TT_not ?_
    | refine TT_p ?_)
  | refine TAnd_c ?_
  | refine TAnd_nil ?_
  | refine TOr_c ?_
  | refine TOr_nil ?_
  | (show EP _ _ _ _ _; first | refine EP_none ?_ | refine EP_some ?_)
  | (show SS _ _ _ _ _; first
    | refine SS_assign ?_
    | (show SS _ (.AugAssign _ _ _ _ :: _) _ _ _; refine SS_aug (by one_sign) (by lcg_sub) ?_)
    | refine SS_br ?_
    | refine SS_ret ?_
    | refine SS_nil ?_
    | (show SS _ (.Expr (.Call (.Attribute _ _ _) _ _ _) _ :: _) _ _ _; refine SS_app (by one_sign) (by one_sign) ?_)
    | (show SS _ (.Assign [.Subscript _ _ _] _ _ :: _) _ _ _; refine SS_setitem (by one_sign) ?_)
    | refine SS_expr ?_)
  | (show LoopQ _ _ _ _ _; first | refine LQ_nx ?_ | refine LQ_rt ?_ | refine LQ_bk ?_)
  | (show Then _ _ _ _ _ _; first | refine TH_nx ?_ | refine TH_rt ?_ | refine TH_bk ?_)
  | (show RetQ _ _ _ _; first
    | exact RQ_same
    | refine RQ_hdl (by one_sign) ?_
    | refine RQ_li ?_
    | refine RQ_int ?_
    | refine RQ_bool ?_)
  | (show ER _ _ _ _ _; refine ER_r (by nest_cls) (Good.range (by assumption)) ?_)
  | (show RNG _ _ _; first | refine RNG_1 ?_ | refine RNG_2 ?_ | refine RNG_d ?_)
  | (show ∃ _ _ _, V.int _ = V.int _ ∧ _; refine ⟨_, _, _, rfl, by nest_fact, by lcg_off, by leaf_len, by leaf_len, ?_⟩)
  | (show ∃ _ _, _; refine ⟨_, _, by nest_fact, ?_⟩)
  | (show ∃ _, UpdAll _ _ _ _ ∧ _; refine ⟨_, by nest_room, ?_⟩)
  | (show _ ∧ _; first | exact And.intro (rfl : (_ : V) = _) (rfl : (_ : Sto) = _) | refine And.intro (rfl : (_ : Sto) = _) ?_ | refine And.intro (by leaf_len) ?_)
  | fail "m"))
local macro_rules | `(tactic| tb_rel) => `(tactic| (first | tb_start | (with_reducible refine EE_ife ?_)))
theorem normal_ok {W : Wd} (G : Good W) (n : Nat) (xs : List Int) (hl : xs.length ≤ 1000000) : CallOk W (n + 1) (W.fn "normal") [Li xs] (Li (nrm xs)) := by
  refine CallOk.of (G.defs _ (.head _)) ["end"] ["len"] [("a", Li xs), ("end", .unb)] rfl (by decide) rfl (fun vals hv pm cd doc => ?_) (fun C hW hn hX hg he => ?_)
  · obtain ⟨_, rfl⟩ := len1 hv
    rfl
  subst hW
  clear he
  dsimp only
  repeat' (tb_start)
  refine SS_wh (fun n ρ σ => ∃ e : Int, IsL ρ [("a", Li xs), ("end", .int e)] ∧ σ = [] ∧ 0 ≤ e ∧ e ≤ xs.length ∧ n = e.toNat ∧ nrm xs = nrm (xs.take e.toNat)) xs.length ⟨xs.length, rfl, rfl, by omega, by omega, by omega, by simp⟩ ?_
  rintro n ρ₁ σ₁ ⟨e, rfl, rfl, h0, he, rfl, hx⟩
  repeat' (tb_start)
  · rename_i h1 h2
    refine ⟨(e - 1).toNat, by omega, e - 1, rfl, rfl, by omega, by omega, rfl, ?_⟩
    rw [hx]
    have e1 : e.toNat = (e - 1).toNat + 1 := tn5 (by omega)
    rw [e1, take_succ_getD (by omega), h2, nrm_snoc0]
  · rename_i h1 h2
    rw [hx]
    have e1 : e.toNat = (e - 1).toNat + 1 := tn5 (by omega)
    rw [e1, take_succ_getD (by omega), nrm_snoc _ h2]
  · rename_i h1
    have e1 : e = 0 := by omega
    rw [hx, e1]; rfl
theorem compare_ok {W : Wd} (G : Good W) (n : Nat) (B : Int) (hB : 2 ≤ B) (a b : Int) (ha : 0 ≤ a) (hb : 0 ≤ b) (hla : (lim B a).length ≤ 1000000) (hlb : (lim B b).length ≤ 1000000) :
    CallOk W (n + 1) (W.fn "compare") [Li (lim B a), Li (lim B b)] (.int (cmpI a b)) := by
  refine CallOk.of (G.defs _ (.tail _ (.head _))) ["at"] ["len", "range"] [("a", Li (lim B a)), ("b", Li (lim B b)), ("at", .unb)] rfl (by decide) rfl (fun vals hv pm cd doc => ?_) (fun C hW hn hX hg he => ?_)
  · obtain ⟨_, _, rfl⟩ := len2 hv
    rfl
  subst hW
  clear he
  dsimp only
  have va := lim_val hB ha
  have vb := lim_val hB hb
  have da := lim_dig hB ha
  have db := lim_dig hB hb
  have ca := lim_canon hB ha
  have cb := lim_canon hB hb
  generalize lim B a = xs at *
  generalize lim B b = ys at *
  repeat' tb_rel
  · have := shorter hB da db cb (by omega)
    unfold cmpI; rw [if_pos (by omega)]
  · have := shorter hB db da ca (by omega)
    unfold cmpI; rw [if_neg (by omega), if_pos (by omega)]
  · refine SS_down ?_
    repeat' tb_start
    refine ⟨by decide, by decide, by omega, by omega, fun k ρ σ => ∃ t, IsL ρ [("a", Li xs), ("b", Li ys), ("at", t)] ∧ σ = [] ∧ k ≤ xs.length ∧ xs.drop k.toNat = ys.drop k.toNat, ⟨_, rfl, rfl, by omega, ?_⟩, ?_, ?_⟩
    · rw [List.drop_of_length_le (by omega), List.drop_of_length_le (by omega)]
    · rintro k h0 h1 ρ₁ σ₁ ⟨t, rfl, rfl, h2, h3⟩
      repeat' tb_rel
      · rename_i hne hlt
        have e : (k + 1).toNat = k.toNat + 1 := tn1 (by first | assumption | omega)
        rw [e] at h3
        have := cmp_top hB da db (by omega) (k := k.toNat) (by omega) h3 hlt
        unfold cmpI; rw [if_pos (by omega)]
      · rename_i hne hlt
        have e : (k + 1).toNat = k.toNat + 1 := tn1 (by first | assumption | omega)
        rw [e] at h3
        have := cmp_top hB db da (by omega) (k := k.toNat) (by omega) h3.symm (by omega)
        unfold cmpI; rw [if_neg (by omega), if_pos (by omega)]
      · rename_i hne
        refine ⟨_, rfl, rfl, by omega, ?_⟩
        have e : (k + 1).toNat = k.toNat + 1 := tn1 (by first | assumption | omega)
        rw [e] at h3
        rw [drop_getD (xs := xs) (i := k.toNat) (by omega), drop_getD (xs := ys) (i := k.toNat) (by omega), h3, hne]
    · rintro ρ₁ σ₁ ⟨t, rfl, rfl, h2, h3⟩
      repeat' tb_start
      have : xs = ys := by simpa using h3
      unfold cmpI; rw [this] at va; rw [if_neg (by omega), if_neg (by omega)]
theorem add_ok {W : Wd} (G : Good W) (n w : Nat) (hw : 1 ≤ w) (hw8 : w ≤ 8) (a b : Int) (ha : 0 ≤ a) (hb : 0 ≤ b) (hla : (lim (2 ^ w) a).length ≤ 1000) (hlb : (lim (2 ^ w) b).length ≤ 1000) :
    CallOk W (n + 1) (W.fn "add") [Li (lim (2 ^ w) a), Li (lim (2 ^ w) b), .int w] (Li (lim (2 ^ w) (a + b))) := by
  refine CallOk.of (G.defs _ (.tail _ (.tail _ (.head _)))) ["found", "carry", "mask", "at"] ["len", "range"] [("a", Li (lim (2 ^ w) a)), ("b", Li (lim (2 ^ w) b)), ("w", .int w), ("found", .unb), ("carry", .unb), ("mask", .unb), ("at", .unb)] rfl (by decide) rfl (fun vals hv pm cd doc => ?_) (fun C hW hn hX hg he => ?_)
  · obtain ⟨_, _, _, rfl⟩ := len3 hv
    rfl
  subst hW
  obtain ⟨L, fa, cd, he⟩ := he
  dsimp only
  have hB := pow_ge2 hw
  have va := lim_val hB ha
  have vb := lim_val hB hb
  have da := lim_dig hB ha
  have db := lim_dig hB hb
  have ca := lim_canon hB ha
  have cb := lim_canon hB hb
  generalize lim (2 ^ w) a = xs at *
  generalize lim (2 ^ w) b = ys at *
  refine SS_join (fun ρ σ => ∃ xs ys : List Int, IsL ρ [("a", Li xs), ("b", Li ys), ("w", .int w), ("found", .unb), ("carry", .unb), ("mask", .unb), ("at", .unb)] ∧ σ = [] ∧ Dig (2 ^ w) xs ∧ Dig (2 ^ w) ys ∧ Canon xs ∧ ys.length ≤ xs.length ∧ xs.length ≤ 1000 ∧ val (2 ^ w) xs + val (2 ^ w) ys = a + b) ?_ ?_
  · repeat' tb_start
    · refine SS_un ["a", "b"] ?_ (by rw [he]; with_unfolding_all rfl)
      repeat' tb_start
      exact ⟨_, _, rfl, rfl, db, da, cb, by omega, by omega, by omega⟩
    · exact ⟨_, _, rfl, rfl, da, db, ca, by omega, by omega, by omega⟩
  clear va vb da db ca cb hla hlb
  clear xs ys
  rintro ρ₁ σ₁ ⟨xs, ys, rfl, rfl, da, db, ca, hl1, hl2, hv⟩
  refine SS_un ["found", "carry", "mask"] ?_ (by rw [he]; with_unfolding_all rfl)
  refine EE_tup (EA_cons (EE_listH (EA_nil ⟨by decide, fun r hr => ?_⟩)))
  repeat' tb_start
  refine SS_up ?_
  repeat' tb_start
  refine ⟨rfl, by omega, by omega, by omega, by omega, fun k ρ σ => ∃ (c m : Int) (zs : List Int) (t : V), IsL ρ [("a", Li xs), ("b", Li ys), ("w", .int w), ("found", .hdl r), ("carry", .int c), ("mask", .int m), ("at", t)] ∧ σ = [(r, zs.map V.int)] ∧ m = 2 ^ w - 1 ∧
    zs.length = k.toNat ∧ Dig (2 ^ w) zs ∧ 0 ≤ c ∧ c ≤ 1 ∧ val (2 ^ w) zs + (2 ^ w) ^ k.toNat * c = val (2 ^ w) (xs.take k.toNat) + val (2 ^ w) (ys.take k.toNat), ⟨_, _, [], _, rfl, rfl, ?_, rfl, Dig.nil, by decide, by decide, by simp [val]⟩, ?_, ?_⟩
  · rw [shl_pow]
  · rintro k h0 h1 ρ₁ σ₁ ⟨c, m, zs, t, rfl, rfl, rfl, hz, dz, hc0, hc1, hval⟩
    repeat' tb_start
    have hd := dz
    have hx := da.getD (show (0 : Int) < 2 ^ w by omega) k.toNat
    have hy := db.getD (show (0 : Int) < 2 ^ w by omega) k.toNat
    generalize hs : c + (xs.getD k.toNat 0 + ys.getD k.toNat 0) = s at *
    have hs0 : 0 ≤ s := by omega
    have e1 : (k + 1).toNat = k.toNat + 1 := tn1 (by first | assumption | omega)
    rw [and_mask hs0, shr_div hs0]
    refine ⟨_, _, zs ++ [s % 2 ^ w], _, rfl, by simp, rfl, by simp [hz, e1], dz.append (Dig.cons (Int.emod_nonneg _ (by omega)) (Int.emod_lt_of_pos _ (by omega)) Dig.nil), Int.ediv_nonneg hs0 (by omega), ?_, ?_⟩
    · have : s / 2 ^ w < 2 := Int.ediv_lt_of_lt_mul (by omega) (by omega)
      omega
    · rw [e1, carry_step hz, val_take_succ _ (by omega), val_take_succ _ (by omega), ← hs, Int.mul_add, Int.mul_add]
      omega
  · rintro k hk ρ₁ σ₁ ⟨c, m, zs, t, rfl, rfl, rfl, hz, dz, hc0, hc1, hval⟩
    have ek : k = ys.length := by split at hk <;> omega
    subst ek
    refine SS_up ?_
    repeat' tb_start
    refine ⟨rfl, by omega, by omega, by omega, by omega, fun k ρ σ => ∃ (c : Int) (zs : List Int) (t : V), IsL ρ [("a", Li xs), ("b", Li ys), ("w", .int w), ("found", .hdl r), ("carry", .int c), ("mask", .int (2 ^ w - 1)), ("at", t)] ∧ σ = [(r, zs.map V.int)] ∧
      zs.length = k.toNat ∧ Dig (2 ^ w) zs ∧ 0 ≤ c ∧ c ≤ 1 ∧ val (2 ^ w) zs + (2 ^ w) ^ k.toNat * c = val (2 ^ w) (xs.take k.toNat) + val (2 ^ w) ys, ⟨c, zs, t, rfl, rfl, hz, dz, hc0, hc1, by simpa using hval⟩, ?_, ?_⟩
    · rintro k h0 h1 ρ₁ σ₁ ⟨c, zs, t, rfl, rfl, hz, dz, hc0, hc1, hval⟩
      repeat' tb_start
      have hx := da.getD (show (0 : Int) < 2 ^ w by omega) k.toNat
      generalize hs : c + xs.getD k.toNat 0 = s at *
      have hs0 : 0 ≤ s := by omega
      have e1 : (k + 1).toNat = k.toNat + 1 := tn1 (by first | assumption | omega)
      rw [and_mask hs0, shr_div hs0]
      refine ⟨_, zs ++ [s % 2 ^ w], _, rfl, by simp, by simp [hz, e1], dz.append (Dig.cons (Int.emod_nonneg _ (by omega)) (Int.emod_lt_of_pos _ (by omega)) Dig.nil), Int.ediv_nonneg hs0 (by omega), ?_, ?_⟩
      · have : s / 2 ^ w < 2 := Int.ediv_lt_of_lt_mul (by omega) (by omega)
        omega
      · rw [e1, carry_step hz, val_take_succ _ (by omega), ← hs, Int.mul_add]
        omega
    · rintro k hk ρ₁ σ₁ ⟨c, zs, t, rfl, rfl, hz, dz, hc0, hc1, hval⟩
      have ek : k = xs.length := by split at hk <;> omega
      subst ek
      simp only [Int.toNat_natCast, List.take_length] at hz hval
      repeat' tb_start
      · rename_i hc
        have ec : c = 1 := by omega
        have := lim_of (n := a + b) hB (dz.append (Dig.cons (x := c) hc0 (by omega) Dig.nil)) (canon_snoc (by omega)) (by rw [val_append, hz]; simp only [val]; rw [Int.mul_zero, Int.add_zero]; omega)
        refine RQ_hdl (xs := zs ++ [c]) (by simp) this
      · rename_i hc
        have ec : c = 0 := by omega
        subst ec
        have hv2 : val (2 ^ w) zs = a + b := by rw [Int.mul_zero] at hval; omega
        refine lim_of hB dz ?_ hv2
        by_cases hx : xs = []
        · subst hx
          have : zs = [] := by simpa using hz
          subst this
          simp [Canon]
        · have := val_ge (show (0 : Int) < 2 ^ w by omega) da ca hx
          have h3 := val_nonneg (show (0 : Int) < 2 ^ w by omega) db
          refine canon_ge hB dz ?_
          rw [hz]; omega
theorem cmpI_nn {a b : Int} (h : b ≤ a) : 0 ≤ cmpI a b := by unfold cmpI; split <;> (try split) <;> omega
theorem sub_ok {W : Wd} (G : Good W) (n w : Nat) (hw : 1 ≤ w) (hw8 : w ≤ 8) (a b : Int) (hb : 0 ≤ b) (hab : b ≤ a) (hla : (lim (2 ^ w) a).length ≤ 1000) (hlb : (lim (2 ^ w) b).length ≤ 1000) :
    CallOk W (n + 2) (W.fn "sub") [Li (lim (2 ^ w) a), Li (lim (2 ^ w) b), .int w] (Li (lim (2 ^ w) (a - b))) := by
  refine CallOk.of (G.defs _ (List.mem_of_getElem? (i := 3) rfl)) ["found", "borrow", "base", "at", "limb"] ["compare", "len", "range", "normal"] [("a", Li (lim (2 ^ w) a)), ("b", Li (lim (2 ^ w) b)), ("w", .int w), ("found", .unb), ("borrow", .unb), ("base", .unb), ("at", .unb), ("limb", .unb)] rfl (by decide) rfl (fun vals hv pm cd doc => ?_) (fun C hW hn hX hg he => ?_)
  · obtain ⟨_, _, _, rfl⟩ := len3 hv
    rfl
  subst hW
  obtain ⟨L, fa, cd, he⟩ := he
  dsimp only
  have f1 : Fn C.W "compare" := (G.defs _ (List.mem_of_getElem? (i := 1) rfl)).fn
  have f2 : Fn C.W "normal" := (G.defs _ (List.mem_of_getElem? (i := 0) rfl)).fn
  have hB := pow_ge2 hw
  have ha : 0 ≤ a := by omega
  have hcmp := compare_ok G n (2 ^ w) hB a b ha hb (by omega) (by omega)
  have va := lim_val hB ha
  have vb := lim_val hB hb
  have da := lim_dig hB ha
  have db := lim_dig hB hb
  have hll : (lim (2 ^ w) b).length ≤ (lim (2 ^ w) a).length := by
    by_cases h : (lim (2 ^ w) b).length ≤ (lim (2 ^ w) a).length
    · exact h
    · have := shorter hB da db (lim_canon hB hb) (by omega); omega
  generalize lim (2 ^ w) a = xs at *
  generalize lim (2 ^ w) b = ys at *
  repeat' tb_start
  refine CL.mk hcmp (by ktr_room) ?_
  repeat' tb_start
  · have := cmpI_nn hab; omega
  refine SS_un ["found", "borrow", "base"] ?_ (by rw [he]; with_unfolding_all rfl)
  refine EE_tup (EA_cons (EE_listH (EA_nil ⟨by decide, fun r hr => ?_⟩)))
  repeat' tb_start
  refine SS_up ?_
  repeat' tb_start
  refine ⟨rfl, by omega, by omega, by omega, by omega, fun k ρ σ => ∃ (c : Int) (zs : List Int) (t l : V), IsL ρ [("a", Li xs), ("b", Li ys), ("w", .int w), ("found", .hdl r), ("borrow", .int c), ("base", .int (1 * 2 ^ (w : Int).toNat)), ("at", t), ("limb", l)] ∧ σ = [(r, zs.map V.int)] ∧
    zs.length = k.toNat ∧ Dig (2 ^ w) zs ∧ 0 ≤ c ∧ c ≤ 1 ∧ val (2 ^ w) zs - (2 ^ w) ^ k.toNat * c = val (2 ^ w) (xs.take k.toNat) - val (2 ^ w) (ys.take k.toNat), ⟨_, [], _, _, rfl, rfl, rfl, Dig.nil, by decide, by decide, by simp [val]⟩, ?_, ?_⟩
  · rintro k h0 h1 ρ₁ σ₁ ⟨c, zs, t, l, rfl, rfl, hz, dz, hc0, hc1, hval⟩
    have hx := da.getD (show (0 : Int) < 2 ^ w by omega) k.toNat
    have hy := db.getD (show (0 : Int) < 2 ^ w by omega) k.toNat
    repeat' tb_start
    refine EE_ifj (.int (ys.getD k.toNat 0)) ?_ ?_
    · repeat' tb_start
      rename_i h
      have : ys.getD k.toNat 0 = 0 := by simp only [List.getD_eq_getElem?_getD]; rw [List.getElem?_eq_none (by omega)]; rfl
      rw [this]; exact ⟨rfl, rfl⟩
    repeat' tb_start
    generalize hs : xs.getD k.toNat 0 - c - ys.getD k.toNat 0 = s at *
    refine EE_ifj (.int (if s < 0 then 1 else 0)) ?_ ?_
    · repeat' tb_start
      · rename_i h; rw [if_pos h]; exact ⟨rfl, rfl⟩
      · rename_i h; rw [if_neg h]; exact ⟨rfl, rfl⟩
    repeat' tb_start
    rw [shl_pow]
    refine EE_ifj (.int (if s < 0 then s + 2 ^ w else s)) ?_ ?_
    · repeat' tb_start
      · rename_i h; rw [if_pos h]; exact ⟨rfl, rfl⟩
      · rename_i h; rw [if_neg h]; exact ⟨rfl, rfl⟩
    repeat' tb_start
    have e1 : (k + 1).toNat = k.toNat + 1 := tn1 (by first | assumption | omega)
    refine ⟨_, zs ++ [if s < 0 then s + 2 ^ w else s], _, _, rfl, by simp, by simp [hz, e1], dig_snoc' dz (by split <;> omega) (by split <;> omega), by split <;> omega, by split <;> omega, ?_⟩
    rw [e1, val_snoc hz, val_take_succ', val_take_succ', Int.pow_succ]
    have key : (if s < 0 then s + 2 ^ w else s) - 2 ^ w * (if s < 0 then 1 else 0) = s := by split <;> omega
    have k2 : (2 ^ w : Int) ^ k.toNat * (if s < 0 then s + 2 ^ w else s) - (2 ^ w : Int) ^ k.toNat * 2 ^ w * (if s < 0 then 1 else 0) = (2 ^ w : Int) ^ k.toNat * s := by
      rw [Int.mul_assoc, ← Int.mul_sub, key]
    have k3 : (2 ^ w : Int) ^ k.toNat * s = (2 ^ w : Int) ^ k.toNat * xs.getD k.toNat 0 - (2 ^ w : Int) ^ k.toNat * c - (2 ^ w : Int) ^ k.toNat * ys.getD k.toNat 0 := by
      rw [← hs, Int.mul_sub, Int.mul_sub]
    omega
  · rintro k hk ρ₁ σ₁ ⟨c, zs, t, l, rfl, rfl, hz, dz, hc0, hc1, hval⟩
    have ek : k = xs.length := by split at hk <;> omega
    subst ek
    simp only [Int.toNat_natCast, List.take_length] at hz hval
    rw [List.take_of_length_le (by omega)] at hval
    refine SS_frz hX (by ktr_unf) ?_
    repeat' tb_start
    have h1 := val_nonneg (show (0 : Int) < 2 ^ w by omega) dz
    have h2 := val_lt (show (0 : Int) < 2 ^ w by omega) dz
    rw [hz] at h2
    have hc : c = 0 := by
      by_cases h : c = 0
      · exact h
      · have : c = 1 := by omega
        subst this
        omega
    subst hc
    rw [Int.mul_zero] at hval
    refine CL.mk (normal_ok G n zs (by omega)) (by ktr_room) ?_
    repeat' tb_start
    exact nrm_lim hB dz (by omega)
theorem add_limb_ok {W : Wd} (G : Good W) (n w : Nat) (hw : 1 ≤ w) (hw8 : w ≤ 8) (a : Int) (ha : 0 ≤ a) (hla : (lim (2 ^ w) a).length ≤ 1000) :
    CallOk W (n + 1) (W.fn "add_limb") [Li (lim (2 ^ w) a), .int 1, .int w] (Li (lim (2 ^ w) (a + 1))) := by
  refine CallOk.of (G.defs _ (List.mem_of_getElem? (i := 4) rfl)) ["found", "mask", "one"] [] [("a", Li (lim (2 ^ w) a)), ("limb", .int 1), ("w", .int w), ("found", .unb), ("mask", .unb), ("one", .unb)] rfl (by decide) rfl (fun vals hv pm cd doc => ?_) (fun C hW hn hX hg he => ?_)
  · obtain ⟨_, _, _, rfl⟩ := len3 hv
    rfl
  subst hW
  obtain ⟨L, fa, cd, he⟩ := he
  dsimp only
  have hB := pow_ge2 hw
  have va := lim_val hB ha
  have da := lim_dig hB ha
  have ca := lim_canon hB ha
  generalize lim (2 ^ w) a = xs at *
  refine SS_un ["found", "mask"] ?_ (by rw [he]; with_unfolding_all rfl)
  refine EE_tup (EA_cons (EE_listH (EA_nil ⟨by decide, fun r hr => ?_⟩)))
  repeat' tb_start
  refine SS_forI ?_
  repeat' tb_start
  refine ⟨xs, rfl, fun k ρ σ => ∃ (c m : Int) (zs : List Int) (t : V), IsL ρ [("a", Li xs), ("limb", .int c), ("w", .int w), ("found", .hdl r), ("mask", .int m), ("one", t)] ∧ σ = [(r, zs.map V.int)] ∧ m = 2 ^ w - 1 ∧
    zs.length = k.toNat ∧ Dig (2 ^ w) zs ∧ 0 ≤ c ∧ c ≤ 1 ∧ val (2 ^ w) zs + (2 ^ w) ^ k.toNat * c = val (2 ^ w) (xs.take k.toNat) + 1, ⟨_, _, [], _, rfl, rfl, by rw [shl_pow], rfl, Dig.nil, by decide, by decide, by simp [val]⟩, ?_, ?_⟩
  · rintro k h0 h1 ρ₁ σ₁ ⟨c, m, zs, t, rfl, rfl, rfl, hz, dz, hc0, hc1, hval⟩
    have hx := da.getD (show (0 : Int) < 2 ^ w by omega) k.toNat
    repeat' tb_start
    generalize hs : c + xs.getD k.toNat 0 = s at *
    have hs0 : 0 ≤ s := by omega
    have e1 : (k + 1).toNat = k.toNat + 1 := tn1 (by first | assumption | omega)
    rw [and_mask hs0, shr_div hs0]
    refine ⟨_, _, zs ++ [s % 2 ^ w], _, rfl, by simp, rfl, by simp [hz, e1], dig_snoc (by omega) dz, Int.ediv_nonneg hs0 (by omega), ?_, ?_⟩
    · have : s / 2 ^ w < 2 := Int.ediv_lt_of_lt_mul (by omega) (by omega)
      omega
    · rw [e1, carry_step hz, val_take_succ', ← hs, Int.mul_add]
      omega
  · rintro ρ₁ σ₁ ⟨c, m, zs, t, rfl, rfl, rfl, hz, dz, hc0, hc1, hval⟩
    simp only [Int.toNat_natCast, List.take_length] at hz hval
    repeat' tb_start
    · have ec : c = 1 := by omega
      have := lim_of (n := a + 1) hB (dig_snoc' dz hc0 (by omega)) (canon_snoc (by omega)) (by rw [val_snoc hz]; omega)
      exact RQ_hdl (xs := zs ++ [c]) (by simp) this
    · have ec : c = 0 := by omega
      subst ec
      have hv2 : val (2 ^ w) zs = a + 1 := by rw [Int.mul_zero] at hval; omega
      refine lim_of hB dz ?_ hv2
      by_cases hx : xs = []
      · subst hx
        have : zs = [] := by simpa using hz
        subst this
        simp [Canon]
      · have := val_ge (show (0 : Int) < 2 ^ w by omega) da ca hx
        refine canon_ge hB dz ?_
        rw [hz]; omega
theorem divrem_limb_ok {W : Wd} (G : Good W) (n w : Nat) (hw : 1 ≤ w) (hw8 : w ≤ 8) (a d : Int) (ha : 0 ≤ a) (hd0 : 0 < d) (hd1 : d < 2 ^ w) (hla : (lim (2 ^ w) a).length ≤ 1000) :
    CallOk W (n + 2) (W.fn "divrem_limb") [Li (lim (2 ^ w) a), .int d, .int w] (.tup [Li (lim (2 ^ w) (a / d)), .int (a % d)]) := by
  refine CallOk.of (G.defs _ (List.mem_of_getElem? (i := 5) rfl)) ["found", "rest", "at"] ["len", "range", "normal"] [("a", Li (lim (2 ^ w) a)), ("limb", .int d), ("w", .int w), ("found", .unb), ("rest", .unb), ("at", .unb)] rfl (by decide) rfl (fun vals hv pm cd doc => ?_) (fun C hW hn hX hg he => ?_)
  · obtain ⟨_, _, _, rfl⟩ := len3 hv
    rfl
  subst hW
  obtain ⟨L, fa, cd, he⟩ := he
  dsimp only
  have f2 : Fn C.W "normal" := (G.defs _ (List.mem_of_getElem? (i := 0) rfl)).fn
  have hB := pow_ge2 hw
  have h256 := pow_le256 hw8
  have va := lim_val hB ha
  have da := lim_dig hB ha
  generalize lim (2 ^ w) a = xs at *
  repeat' tb_start
  · omega
  refine SS_un ["found", "rest"] ?_ (by rw [he]; with_unfolding_all rfl)
  refine EE_tup (EA_cons (EE_mulH ?_))
  repeat' tb_start
  refine ⟨xs.length, rfl, by omega, by omega, fun r hr => ?_⟩
  repeat' tb_start
  refine SS_down ?_
  repeat' tb_start
  refine ⟨by decide, by decide, by omega, by omega, fun k ρ σ => ∃ (c : Int) (zs : List Int) (t : V), IsL ρ [("a", Li xs), ("limb", .int d), ("w", .int w), ("found", .hdl r), ("rest", .int c), ("at", t)] ∧ σ = [(r, zs.map V.int)] ∧ k ≤ xs.length ∧
    zs.length = xs.length ∧ Dig (2 ^ w) zs ∧ 0 ≤ c ∧ c < d ∧ val (2 ^ w) (xs.drop k.toNat) = d * val (2 ^ w) (zs.drop k.toNat) + c, ⟨_, List.replicate xs.length 0, _, rfl, by simp, by omega, by simp, Dig.replicate (by omega) _, by decide, by omega, ?_⟩, ?_, ?_⟩
  · rw [List.drop_of_length_le (by omega), List.drop_of_length_le (by simp)]; simp [val]
  · rintro k h0 h1 ρ₁ σ₁ ⟨c, zs, t, rfl, rfl, hk, hz, dz, hc0, hc1, hval⟩
    have hx := da.getD (show (0 : Int) < 2 ^ w by omega) k.toNat
    repeat' tb_start
    rw [shl_mul, or_add hc0 hx.1 hx.2, Int.fdiv_eq_ediv_of_nonneg _ (by omega)]
    generalize hs : c * 2 ^ w + xs.getD k.toNat 0 = s at *
    have hm : 0 ≤ c * 2 ^ w := Int.mul_nonneg hc0 (by omega)
    have hs0 : 0 ≤ s := by omega
    have e1 : (k + 1).toNat = k.toNat + 1 := tn1 (by first | assumption | omega)
    have hs1 : s < d * 2 ^ w := by
      have : (c + 1) * 2 ^ w ≤ d * 2 ^ w := Int.mul_le_mul_of_nonneg_right (by omega) (by omega)
      rw [Int.add_mul, Int.one_mul] at this
      omega
    rw [Int.fmod_eq_emod_of_nonneg _ (by omega)]
    refine ⟨_, zs.set k.toNat (s / d), _, rfl, by simp [List.map_set], by omega, by simp [hz], dz.set (Int.ediv_nonneg hs0 (by omega)) (Int.ediv_lt_of_lt_mul hd0 (by rw [Int.mul_comm]; exact hs1)) _, Int.emod_nonneg _ (by omega), Int.emod_lt_of_pos _ hd0, ?_⟩
    rw [e1] at hval
    rw [val_drop _ (show k.toNat < xs.length by omega), val_drop _ (show k.toNat < (zs.set k.toNat (s / d)).length by simp; omega), List.drop_set_of_lt (by omega), getD_set (by omega), if_pos rfl, hval]
    have := Int.mul_ediv_add_emod s d
    rw [Int.mul_add, Int.mul_add, ← hs] at *
    rw [← Int.mul_assoc, ← Int.mul_assoc, Int.mul_comm d (2 ^ w), Int.mul_comm c (2 ^ w)] at *
    omega
  · rintro ρ₁ σ₁ ⟨c, zs, t, rfl, rfl, hk, hz, dz, hc0, hc1, hval⟩
    refine SS_frz hX (by ktr_unf) ?_
    repeat' tb_start
    refine CL.mk (normal_ok G n zs (by omega)) (by ktr_room) ?_
    repeat' tb_start
    refine RQ_eq ?_
    have hval' : a = d * val (2 ^ w) zs + c := by rw [← va]; simpa using hval
    have e1 : a / d = val (2 ^ w) zs := by
      rw [hval', Int.add_comm, Int.add_mul_ediv_left _ _ (by omega), Int.ediv_eq_zero_of_lt hc0 hc1]; omega
    have e2 : a % d = c := by
      rw [hval', Int.add_comm, Int.add_mul_emod_self_left, Int.emod_eq_of_lt hc0 hc1]
    rw [e1, e2, nrm_lim hB dz rfl]
theorem fdiv_small {n w : Int} (h0 : 0 ≤ n) (h1 : n < w) : n.fdiv w = 0 := by
  rw [Int.fdiv_eq_ediv_of_nonneg _ (by omega), Int.ediv_eq_zero_of_lt h0 h1]
theorem fmod_small {n w : Int} (h0 : 0 ≤ n) (h1 : n < w) : n.fmod w = n := by
  rw [Int.fmod_eq_emod_of_nonneg _ (by omega), Int.emod_eq_of_lt h0 h1]
theorem shift_left_ok {W : Wd} (G : Good W) (m w n : Nat) (hw : 1 ≤ w) (hw8 : w ≤ 8) (hn : n < w) (a : Int) (ha : 0 ≤ a) (hla : (lim (2 ^ w) a).length ≤ 1000) :
    CallOk W (m + 1) (W.fn "shift_left") [Li (lim (2 ^ w) a), .int n, .int w] (Li (lim (2 ^ w) (a * 2 ^ n))) := by
  refine CallOk.of (G.defs _ (List.mem_of_getElem? (i := 6) rfl)) ["spots", "few", "found", "carry", "mask", "one"] ["len"] [("a", Li (lim (2 ^ w) a)), ("n", .int n), ("w", .int w), ("spots", .unb), ("few", .unb), ("found", .unb), ("carry", .unb), ("mask", .unb), ("one", .unb)] rfl (by decide) rfl (fun vals hv pm cd doc => ?_) (fun C hW hm hX hg he => ?_)
  · obtain ⟨_, _, _, rfl⟩ := len3 hv
    rfl
  subst hW
  obtain ⟨L, fa, cd, he⟩ := he
  dsimp only
  have hB := pow_ge2 hw
  have va := lim_val hB ha
  have da := lim_dig hB ha
  have ca := lim_canon hB ha
  generalize lim (2 ^ w) a = xs at *
  repeat' tb_start
  · rename_i h
    have hx : xs = [] := List.eq_nil_of_length_eq_zero (by omega)
    subst hx
    have : a = 0 := va.symm
    subst this
    rw [Int.zero_mul]; exact RQ_same
  rename_i hne
  refine SS_un ["spots", "few"] ?_ (by rw [he]; with_unfolding_all rfl)
  repeat' tb_start
  rw [fdiv_small (by omega) (by omega), fmod_small (by omega) (by omega)]
  refine SS_un ["found", "carry", "mask"] ?_ (by rw [he]; with_unfolding_all rfl)
  refine EE_tup (EA_cons (EE_mulH ?_))
  repeat' tb_start
  refine ⟨0, rfl, by omega, by omega, fun r hr => ?_⟩
  repeat' tb_start
  refine SS_forI ?_
  repeat' tb_start
  have hpn : (0 : Int) < 2 ^ n := Int.pow_pos (by decide)
  have hpn2 : (2 : Int) ^ n ≤ 2 ^ w := pow_mono (B := 2) (by decide) (by omega)
  have h256 := pow_le256 hw8
  refine ⟨xs, rfl, fun k ρ σ => ∃ (c : Int) (zs : List Int) (t : V), IsL ρ [("a", Li xs), ("n", .int n), ("w", .int w), ("spots", .int 0), ("few", .int n), ("found", .hdl r), ("carry", .int c), ("mask", .int (2 ^ w - 1)), ("one", t)] ∧ σ = [(r, zs.map V.int)] ∧
    zs.length = k.toNat ∧ Dig (2 ^ w) zs ∧ 0 ≤ c ∧ c < 2 ^ n ∧ val (2 ^ w) zs + (2 ^ w) ^ k.toNat * c = 2 ^ n * val (2 ^ w) (xs.take k.toNat), ⟨_, [], _, by rw [shl_pow], rfl, rfl, Dig.nil, by decide, hpn, by simp [val]⟩, ?_, ?_⟩
  · rintro k h0 h1 ρ₁ σ₁ ⟨c, zs, t, rfl, rfl, hz, dz, hc0, hc1, hval⟩
    have hx := da.getD (show (0 : Int) < 2 ^ w by omega) k.toNat
    repeat' tb_start
    rw [shl_mul, or_add' hx.1 hc0 hc1]
    generalize hs : c + xs.getD k.toNat 0 * 2 ^ n = s at *
    have hm0 : 0 ≤ xs.getD k.toNat 0 * 2 ^ n := Int.mul_nonneg hx.1 (by omega)
    have hs0 : 0 ≤ s := by omega
    have e1 : (k + 1).toNat = k.toNat + 1 := tn1 (by first | assumption | omega)
    have hs1 : s < 2 ^ n * 2 ^ w := by
      have : (xs.getD k.toNat 0 + 1) * 2 ^ n ≤ 2 ^ w * 2 ^ n := Int.mul_le_mul_of_nonneg_right (by omega) (by omega)
      rw [Int.add_mul, Int.one_mul, Int.mul_comm (2 ^ w)] at this
      omega
    rw [and_mask hs0, shr_div hs0]
    refine ⟨_, zs ++ [s % 2 ^ w], _, rfl, by simp, by simp [hz, e1], dig_snoc (by omega) dz, Int.ediv_nonneg hs0 (by omega), Int.ediv_lt_of_lt_mul (by omega) hs1, ?_⟩
    rw [e1, carry_step hz, val_take_succ', Int.mul_add, ← hs, Int.mul_add, ← hval]
    rw [← Int.mul_assoc (2 ^ n), Int.mul_comm (2 ^ n) ((2 ^ w) ^ k.toNat), Int.mul_assoc, Int.mul_comm (2 ^ n) (xs.getD _ _)]
    omega
  · rintro ρ₁ σ₁ ⟨c, zs, t, rfl, rfl, hz, dz, hc0, hc1, hval⟩
    simp only [Int.toNat_natCast, List.take_length] at hz hval
    rw [va, Int.mul_comm (2 ^ n) a] at hval
    repeat' tb_start
    · have := lim_of (n := a * 2 ^ n) hB (dig_snoc' dz hc0 (by omega)) (canon_snoc (by omega)) (by rw [val_snoc hz]; exact hval)
      exact RQ_hdl (xs := zs ++ [c]) (by simp) this
    · have ec : c = 0 := by omega
      subst ec
      have hv2 : val (2 ^ w) zs = a * 2 ^ n := by rw [Int.mul_zero] at hval; omega
      refine lim_of hB dz ?_ hv2
      have h1 := val_ge (show (0 : Int) < 2 ^ w by omega) da ca (by intro q; rw [q] at hne; simp at hne)
      have h2 : a * 1 ≤ a * 2 ^ n := Int.mul_le_mul_of_nonneg_left (by omega) ha
      refine canon_ge hB dz ?_
      rw [hz]; omega
theorem shift_right_ok {W : Wd} (G : Good W) (m w n : Nat) (hw : 1 ≤ w) (hw8 : w ≤ 8) (hn : n < w) (a : Int) (ha : 0 ≤ a) (hla : (lim (2 ^ w) a).length ≤ 1000) :
    CallOk W (m + 2) (W.fn "shift_right") [Li (lim (2 ^ w) a), .int n, .int w] (Li (lim (2 ^ w) (a / 2 ^ n))) := by
  refine CallOk.of (G.defs _ (List.mem_of_getElem? (i := 7) rfl)) ["spots", "few", "found", "mask", "at", "above"] ["len", "range", "normal"] [("a", Li (lim (2 ^ w) a)), ("n", .int n), ("w", .int w), ("spots", .unb), ("few", .unb), ("found", .unb), ("mask", .unb), ("at", .unb), ("above", .unb)] rfl (by decide) rfl (fun vals hv pm cd doc => ?_) (fun C hW hm hX hg he => ?_)
  · obtain ⟨_, _, _, rfl⟩ := len3 hv
    rfl
  subst hW
  obtain ⟨L, fa, cd, he⟩ := he
  dsimp only
  have f2 : Fn C.W "normal" := (G.defs _ (List.mem_of_getElem? (i := 0) rfl)).fn
  have hB := pow_ge2 hw
  have va := lim_val hB ha
  have da := lim_dig hB ha
  generalize lim (2 ^ w) a = xs at *
  refine SS_un ["spots", "few"] ?_ (by rw [he]; with_unfolding_all rfl)
  repeat' tb_start
  rw [fdiv_small (by omega) (by omega), fmod_small (by omega) (by omega)]
  refine SS_un ["found", "mask"] ?_ (by rw [he]; with_unfolding_all rfl)
  refine EE_tup (EA_cons (EE_listH (EA_nil ⟨by decide, fun r hr => ?_⟩)))
  repeat' tb_start
  refine SS_up ?_
  repeat' tb_start
  have hpn : (0 : Int) < 2 ^ n := Int.pow_pos (by decide)
  have h256 := pow_le256 hw8
  have hsplit : (2 : Int) ^ n * 2 ^ (w - n) = 2 ^ w := by rw [← Int.pow_add]; congr 1; omega
  have hpw : (0 : Int) < 2 ^ (w - n) := Int.pow_pos (by decide)
  refine ⟨rfl, by omega, by omega, by omega, by omega, fun k ρ σ => ∃ (zs : List Int) (t l : V), IsL ρ [("a", Li xs), ("n", .int n), ("w", .int w), ("spots", .int 0), ("few", .int n), ("found", .hdl r), ("mask", .int (2 ^ w - 1)), ("at", t), ("above", l)] ∧ σ = [(r, zs.map V.int)] ∧
    zs.length = k.toNat ∧ Dig (2 ^ w) zs ∧ 2 ^ n * val (2 ^ w) zs + xs.getD 0 0 % 2 ^ n = val (2 ^ w) (xs.take k.toNat) + (2 ^ w) ^ k.toNat * (xs.getD k.toNat 0 % 2 ^ n), ⟨[], _, _, by rw [shl_pow], rfl, rfl, Dig.nil, by simp [val]⟩, ?_, ?_⟩
  · rintro k h0 h1 ρ₁ σ₁ ⟨zs, t, l, rfl, rfl, hz, dz, hval⟩
    have hx := da.getD (show (0 : Int) < 2 ^ w by omega) k.toNat
    have hy := da.getD (show (0 : Int) < 2 ^ w by omega) (k.toNat + 1)
    have e1 : (k + 1).toNat = k.toNat + 1 := tn1 (by first | assumption | omega)
    repeat' tb_start
    refine EE_ifj (.int (xs.getD (k.toNat + 1) 0)) ?_ ?_
    · repeat' tb_start
      · rw [e1]; exact ⟨rfl, rfl⟩
      · rename_i h
        have : xs.getD (k.toNat + 1) 0 = 0 := by simp only [List.getD_eq_getElem?_getD]; rw [List.getElem?_eq_none (by omega)]; rfl
        rw [this]; exact ⟨rfl, rfl⟩
    repeat' tb_start
    have e2 : ((w : Int) - (n : Int)).toNat = w - n := Int.toNat_sub w n
    have hb0 : 0 ≤ xs.getD k.toNat 0 / 2 ^ n := Int.ediv_nonneg hx.1 (by omega)
    have hb1 : xs.getD k.toNat 0 / 2 ^ n < 2 ^ (w - n) := Int.ediv_lt_of_lt_mul hpn (by rw [Int.mul_comm, hsplit]; exact hx.2)
    have hm0 : 0 ≤ xs.getD (k.toNat + 1) 0 * 2 ^ (w - n) := Int.mul_nonneg hy.1 (by omega)
    rw [shr_div hx.1, e2, or_add' hy.1 hb0 hb1, and_mask (by omega)]
    have key : (xs.getD k.toNat 0 / 2 ^ n + xs.getD (k.toNat + 1) 0 * 2 ^ (w - n)) % 2 ^ w = xs.getD k.toNat 0 / 2 ^ n + (xs.getD (k.toNat + 1) 0 % 2 ^ n) * 2 ^ (w - n) := by
      generalize xs.getD k.toNat 0 / 2 ^ n = u at *
      generalize xs.getD (k.toNat + 1) 0 = y at *
      have h1 := Int.mul_ediv_add_emod y (2 ^ n)
      have h2 : y * 2 ^ (w - n) = (y % 2 ^ n) * 2 ^ (w - n) + 2 ^ w * (y / 2 ^ n) := by
        rw [← hsplit]
        calc y * 2 ^ (w - n) = (2 ^ n * (y / 2 ^ n) + y % 2 ^ n) * 2 ^ (w - n) := by rw [h1]
          _ = _ := by rw [Int.add_mul, Int.mul_assoc, Int.mul_comm (y / 2 ^ n), ← Int.mul_assoc]; omega
      rw [h2, ← Int.add_assoc, Int.add_mul_emod_self_left]
      have h3 := Int.emod_nonneg y (show (2 : Int) ^ n ≠ 0 by omega)
      have h4 := Int.emod_lt_of_pos y hpn
      have h5 : (y % 2 ^ n + 1) * 2 ^ (w - n) ≤ 2 ^ n * 2 ^ (w - n) := Int.mul_le_mul_of_nonneg_right (by omega) (by omega)
      have h6 : 0 ≤ y % 2 ^ n * 2 ^ (w - n) := Int.mul_nonneg h3 (by omega)
      rw [Int.add_mul, Int.one_mul, hsplit] at h5
      exact Int.emod_eq_of_lt (by omega) (by omega)
    rw [← hsplit] at key
    have dz' : Dig (2 ^ w) (zs ++ [(xs.getD k.toNat 0 / 2 ^ n + xs.getD (k.toNat + 1) 0 * 2 ^ (w - n)) % 2 ^ w]) := dig_snoc (by omega) dz
    rw [← hsplit] at dz' ⊢
    rw [key] at dz' ⊢
    rw [hsplit] at dz' ⊢
    refine ⟨zs ++ [xs.getD k.toNat 0 / 2 ^ n + (xs.getD (k.toNat + 1) 0 % 2 ^ n) * 2 ^ (w - n)], _, _, rfl, by simp, by simp [hz, e1], dz', ?_⟩
    rw [e1, val_snoc hz, val_take_succ', Int.pow_succ]
    have h1 := Int.mul_ediv_add_emod (xs.getD k.toNat 0) (2 ^ n)
    generalize xs.getD k.toNat 0 = x at *
    generalize xs.getD (k.toNat + 1) 0 = y at *
    have h2 : 2 ^ n * ((2 ^ w : Int) ^ k.toNat * (x / 2 ^ n + y % 2 ^ n * 2 ^ (w - n))) = (2 ^ w : Int) ^ k.toNat * (x - x % 2 ^ n) + (2 ^ w : Int) ^ k.toNat * 2 ^ w * (y % 2 ^ n) := by
      rw [← Int.mul_assoc, Int.mul_comm (2 ^ n), Int.mul_assoc, Int.mul_add, Int.mul_add, Int.mul_assoc _ (2 ^ w)]
      congr 2
      · omega
      · rw [← hsplit, Int.mul_comm (y % 2 ^ n), ← Int.mul_assoc]
    rw [Int.mul_add, h2, Int.mul_sub]
    omega
  · rintro k hk ρ₁ σ₁ ⟨zs, t, l, rfl, rfl, hz, dz, hval⟩
    have ek : k = xs.length := by split at hk <;> omega
    subst ek
    simp only [Int.toNat_natCast, List.take_length] at hz hval
    have h0 : xs.getD xs.length 0 = 0 := by simp [List.getD_eq_getElem?_getD]
    rw [h0, va, Int.zero_emod, Int.mul_zero, Int.add_zero] at hval
    refine SS_frz hX (by ktr_unf) ?_
    repeat' tb_start
    refine CL.mk (normal_ok G m zs (by omega)) (by ktr_room) ?_
    repeat' tb_start
    refine nrm_lim hB dz ?_
    have h3 := Int.emod_nonneg (xs.getD 0 0) (show (2 : Int) ^ n ≠ 0 by omega)
    have h4 := Int.emod_lt_of_pos (xs.getD 0 0) hpn
    rw [← hval, Int.add_comm, Int.add_mul_ediv_left _ _ (by omega), Int.ediv_eq_zero_of_lt h3 h4]
    omega
theorem bits_ok {W : Wd} (G : Good W) (m w : Nat) (t : Int) : CallOk W (m + 1) (W.fn "bits") [Li [t], .int w] (.int (Builtin.Int.intBits t)) := by
  refine CallOk.of (G.defs _ (List.mem_of_getElem? (i := 8) rfl)) [] ["len"] [("a", Li [t]), ("w", .int w)] rfl (by decide) rfl (fun vals hv pm cd doc => ?_) (fun C hW hm hX hg he => ?_)
  · obtain ⟨_, _, rfl⟩ := len2 hv
    rfl
  subst hW
  clear he
  dsimp only
  repeat' tb_rel
  · have e : ((List.map V.int [t]).length : Int) - 1 = 0 := by simp
    rw [e]
    repeat' tb_rel
    refine IDX_last (by simp) (by simp) ?_
    repeat' tb_rel
    simp
  · rename_i h; simp at h
/-- a signed number -/
abbrev sg (B z : Int) : V := .tup [.bool (decide (z < 0)), Li (lim B z.natAbs)]
def Small (z : Int) : Prop := z.natAbs < 2 ^ 200
theorem small_len {w : Nat} (hw : 1 ≤ w) {z : Int} (h : Small z) : (lim (2 ^ w) z.natAbs).length ≤ 1000 := by
  have := lim_len (pow_ge2 hw) (Int.natCast_nonneg z.natAbs) (k := 200) (by
    have : ((z.natAbs : Nat) : Int) < ((2 ^ 200 : Nat) : Int) := Int.ofNat_lt.mpr h
    exact this)
  omega
theorem small_len' {w : Nat} (hw : 1 ≤ w) {z : Int} (h : Small z) : (lim (2 ^ w) z.natAbs).length ≤ 500 := by
  have := lim_len (pow_ge2 hw) (Int.natCast_nonneg z.natAbs) (k := 200) (by
    have : ((z.natAbs : Nat) : Int) < ((2 ^ 200 : Nat) : Int) := Int.ofNat_lt.mpr h
    exact this)
  omega
theorem lenpos {w : Nat} (hw : 1 ≤ w) (n : Nat) : (0 < ((lim (2 ^ w) n).length : Int)) ↔ 0 < n := by
  have h := lim_nil (pow_ge2 hw) (Int.natCast_nonneg n)
  by_cases h0 : n = 0
  · subst h0; simp [lim_zero]
  · have : lim (2 ^ w) n ≠ [] := fun q => h0 (by have := h.mp q; omega)
    have := List.length_pos_iff.mpr this
    constructor <;> intro <;> omega
theorem signed_ok {W : Wd} (G : Good W) (m w : Nat) (hw : 1 ≤ w) (b : Bool) (n : Nat) (z : Int) (hz : z = if b then -(n : Int) else n) (hs : Small z) : CallOk W (m + 1) (W.fn "signed") [.bool b, Li (lim (2 ^ w) n)] (sg (2 ^ w) z) := by
  have en : z.natAbs = n := by rw [hz]; cases b <;> simp
  have hl := small_len hw hs
  rw [en] at hl
  refine CallOk.of (G.defs _ (List.mem_of_getElem? (i := 10) rfl)) [] ["len"] [("is_below", .bool b), ("nat", Li (lim (2 ^ w) n))] rfl (by decide) rfl (fun vals hv pm cd doc => ?_) (fun C hW hm hX hg he => ?_)
  · obtain ⟨_, _, rfl⟩ := len2 hv
    rfl
  subst hW
  clear he
  dsimp only
  have hp := lenpos hw n
  repeat' tb_rel
  · refine RQ_eq ?_
    rename_i hb
    subst hb
    have e : decide (0 < ((lim (2 ^ w) (n : Int)).length : Int)) = decide (z < 0) := by
      apply decide_eq_decide.mpr
      rw [hp, hz]; simp
    simp only [sg, e, en]
  · refine RQ_eq ?_
    rename_i hb
    subst hb
    have e : decide (z < 0) = false := by rw [hz]; simp
    simp only [sg, e, en]
theorem s_neg_ok {W : Wd} (G : Good W) (m w : Nat) (hw : 1 ≤ w) (z : Int) (hs : Small z) : CallOk W (m + 2) (W.fn "s_neg") [sg (2 ^ w) z] (sg (2 ^ w) (-z)) := by
  refine CallOk.of (G.defs _ (List.mem_of_getElem? (i := 11) rfl)) [] ["signed"] [("x", sg (2 ^ w) z)] rfl (by decide) rfl (fun vals hv pm cd doc => ?_) (fun C hW hm hX hg he => ?_)
  · obtain ⟨_, rfl⟩ := len1 hv
    rfl
  subst hW
  clear he
  dsimp only
  have f1 : Fn C.W "signed" := (G.defs _ (List.mem_of_getElem? (i := 10) rfl)).fn
  have hc := signed_ok G m w hw (!decide (z < 0)) z.natAbs (-z) (by
    by_cases h : z < 0
    · simp [h]; omega
    · simp [h]; omega) (by unfold Small at *; omega)
  repeat' tb_rel
  refine CL.mk hc (by ktr_room) ?_
  repeat' tb_rel
theorem s_sign_ok {W : Wd} (G : Good W) (m w : Nat) (hw : 1 ≤ w) (z : Int) (hs : Small z) : CallOk W (m + 1) (W.fn "s_sign") [sg (2 ^ w) z] (.int (if z = 0 then 0 else if z < 0 then -1 else 1)) := by
  have hl := small_len hw hs
  have hp := lenpos hw z.natAbs
  refine CallOk.of (G.defs _ (List.mem_of_getElem? (i := 12) rfl)) [] ["len"] [("x", sg (2 ^ w) z)] rfl (by decide) rfl (fun vals hv pm cd doc => ?_) (fun C hW hm hX hg he => ?_)
  · obtain ⟨_, rfl⟩ := len1 hv
    rfl
  subst hW
  clear he
  dsimp only
  repeat' tb_rel
  · have : z = 0 := by omega
    simp [this]
  · rename_i hb
    rw [if_neg (by omega), if_pos hb]
  · rename_i hb
    rw [if_neg (by omega), if_neg hb]
theorem s_compare_ok {W : Wd} (G : Good W) (m w : Nat) (hw : 1 ≤ w) (x y : Int) (hx : Small x) (hy : Small y) : CallOk W (m + 2) (W.fn "s_compare") [sg (2 ^ w) x, sg (2 ^ w) y] (.int (cmpI x y)) := by
  have hlx := small_len hw hx
  have hly := small_len hw hy
  refine CallOk.of (G.defs _ (List.mem_of_getElem? (i := 13) rfl)) [] ["compare"] [("x", sg (2 ^ w) x), ("y", sg (2 ^ w) y)] rfl (by decide) rfl (fun vals hv pm cd doc => ?_) (fun C hW hm hX hg he => ?_)
  · obtain ⟨_, _, rfl⟩ := len2 hv
    rfl
  subst hW
  clear he
  dsimp only
  have f1 : Fn C.W "compare" := (G.defs _ (List.mem_of_getElem? (i := 1) rfl)).fn
  repeat' tb_rel
  · rename_i h1 h2
    have h1' : ¬ y < 0 := by rw [decide_eq_true h2] at h1; intro q; simp [q] at h1
    unfold cmpI; rw [if_pos (by omega)]
  · rename_i h1 h2
    have h1' : y < 0 := by rw [decide_eq_false h2] at h1; simpa using h1
    unfold cmpI; rw [if_neg (by omega), if_pos (by omega)]
  · refine CL.mk (compare_ok G m (2 ^ w) (pow_ge2 hw) y.natAbs x.natAbs (by omega) (by omega) (by omega) (by omega)) (by ktr_room) ?_
    rename_i h1 h2
    have h1' : decide (y < 0) = true := by rw [decide_eq_true h2] at h1; cases h : decide (y < 0) <;> simp_all
    have := of_decide_eq_true h1'
    have e : cmpI y.natAbs x.natAbs = cmpI x y := cmp_nn h2 this
    rw [e]
    repeat' tb_rel
  · refine CL.mk (compare_ok G m (2 ^ w) (pow_ge2 hw) x.natAbs y.natAbs (by omega) (by omega) (by omega) (by omega)) (by ktr_room) ?_
    rename_i h1 h2
    have h1' : decide (y < 0) = false := by rw [decide_eq_false h2] at h1; cases h : decide (y < 0) <;> simp_all
    have := of_decide_eq_false h1'
    have e : cmpI x.natAbs y.natAbs = cmpI x y := cmp_pp h2 this
    rw [e]
    repeat' tb_rel
theorem s_add_ok {W : Wd} (G : Good W) (m w : Nat) (hw : 1 ≤ w) (hw8 : w ≤ 8) (x y : Int) (hx : Small x) (hy : Small y) (hs : Small (x + y)) : CallOk W (m + 3) (W.fn "s_add") [sg (2 ^ w) x, sg (2 ^ w) y, .int w] (sg (2 ^ w) (x + y)) := by
  have hlx := small_len hw hx
  have hly := small_len hw hy
  refine CallOk.of (G.defs _ (List.mem_of_getElem? (i := 14) rfl)) [] ["compare", "add", "sub", "signed"] [("x", sg (2 ^ w) x), ("y", sg (2 ^ w) y), ("w", .int w)] rfl (by decide) rfl (fun vals hv pm cd doc => ?_) (fun C hW hm hX hg he => ?_)
  · obtain ⟨_, _, _, rfl⟩ := len3 hv
    rfl
  subst hW
  clear he
  dsimp only
  have f1 : Fn C.W "compare" := (G.defs _ (List.mem_of_getElem? (i := 1) rfl)).fn
  have f2 : Fn C.W "add" := (G.defs _ (List.mem_of_getElem? (i := 2) rfl)).fn
  have f3 : Fn C.W "sub" := (G.defs _ (List.mem_of_getElem? (i := 3) rfl)).fn
  have f4 : Fn C.W "signed" := (G.defs _ (List.mem_of_getElem? (i := 10) rfl)).fn
  repeat' tb_rel
  · rename_i h
    have hxy : (x < 0) = (y < 0) := by simpa using h
    refine CL.mk (add_ok G (m + 1) w hw hw8 x.natAbs y.natAbs (by omega) (by omega) (by omega) (by omega)) (by ktr_room) ?_
    have e : ((x.natAbs : Int) + y.natAbs) = ((x.natAbs + y.natAbs : Nat) : Int) := by simp
    rw [e]
    repeat' tb_rel
    refine CL.mk (signed_ok G (m + 1) w hw (decide (x < 0)) (x.natAbs + y.natAbs) (x + y) (by by_cases q : x < 0 <;> simp [q] <;> have q' := q <;> rw [hxy] at q' <;> omega) hs) (by ktr_room) ?_
    repeat' tb_rel
  · refine CL.mk (compare_ok G (m + 1) (2 ^ w) (pow_ge2 hw) x.natAbs y.natAbs (by omega) (by omega) (by omega) (by omega)) (by ktr_room) ?_
    rename_i h
    have hxy : ¬ (x < 0 ↔ y < 0) := by simpa using h
    repeat' tb_rel
    · rename_i hc
      have hlt : x.natAbs < y.natAbs := by unfold cmpI at hc; split at hc <;> first | omega | (split at hc <;> omega)
      refine CL.mk (sub_ok G m w hw hw8 y.natAbs x.natAbs (by omega) (by omega) (by omega) (by omega)) (by ktr_room) ?_
      have e : ((y.natAbs : Int) - x.natAbs) = ((y.natAbs - x.natAbs : Nat) : Int) := by omega
      rw [e]
      repeat' tb_rel
      refine CL.mk (signed_ok G (m + 1) w hw (decide (y < 0)) (y.natAbs - x.natAbs) (x + y) (by by_cases q : y < 0 <;> simp [q] <;> by_cases q' : x < 0 <;> simp [q, q'] at hxy <;> omega) hs) (by ktr_room) ?_
      repeat' tb_rel
    · rename_i hc
      have hlt : y.natAbs ≤ x.natAbs := by unfold cmpI at hc; split at hc <;> first | omega | (split at hc <;> omega)
      refine CL.mk (sub_ok G m w hw hw8 x.natAbs y.natAbs (by omega) (by omega) (by omega) (by omega)) (by ktr_room) ?_
      have e : ((x.natAbs : Int) - y.natAbs) = ((x.natAbs - y.natAbs : Nat) : Int) := by omega
      rw [e]
      repeat' tb_rel
      refine CL.mk (signed_ok G (m + 1) w hw (decide (x < 0)) (x.natAbs - y.natAbs) (x + y) (by by_cases q : x < 0 <;> simp [q] <;> by_cases q' : y < 0 <;> simp [q, q'] at hxy <;> omega) hs) (by ktr_room) ?_
      repeat' tb_rel
theorem s_sub_ok {W : Wd} (G : Good W) (m w : Nat) (hw : 1 ≤ w) (hw8 : w ≤ 8) (x y : Int) (hx : Small x) (hy : Small y) (hs : Small (x - y)) : CallOk W (m + 4) (W.fn "s_sub") [sg (2 ^ w) x, sg (2 ^ w) y, .int w] (sg (2 ^ w) (x - y)) := by
  refine CallOk.of (G.defs _ (List.mem_of_getElem? (i := 15) rfl)) [] ["s_add", "s_neg"] [("x", sg (2 ^ w) x), ("y", sg (2 ^ w) y), ("w", .int w)] rfl (by decide) rfl (fun vals hv pm cd doc => ?_) (fun C hW hm hX hg he => ?_)
  · obtain ⟨_, _, _, rfl⟩ := len3 hv
    rfl
  subst hW
  clear he
  dsimp only
  have f1 : Fn C.W "s_add" := (G.defs _ (List.mem_of_getElem? (i := 14) rfl)).fn
  have f2 : Fn C.W "s_neg" := (G.defs _ (List.mem_of_getElem? (i := 11) rfl)).fn
  repeat' tb_rel
  refine CL.mk (s_neg_ok G (m + 1) w hw y hy) (by ktr_room) ?_
  repeat' tb_rel
  refine CL.mk (s_add_ok G m w hw hw8 x (-y) hx (by unfold Small at *; omega) (by rw [← Int.sub_eq_add_neg]; exact hs)) (by ktr_room) ?_
  rw [← Int.sub_eq_add_neg]
  repeat' tb_rel
/-- a def that multiplies sizes -/
def MulOk (W : Wd) (k w : Nat) (f : Value) : Prop := ∀ a b : Int, 0 ≤ a → 0 ≤ b → (lim (2 ^ w) a).length ≤ 1000 → (lim (2 ^ w) b).length ≤ 1000 → CallOk W k f [Li (lim (2 ^ w) a), Li (lim (2 ^ w) b), .int w] (Li (lim (2 ^ w) (a * b)))
theorem s_mul_ok {W : Wd} (G : Good W) (m w : Nat) (hw : 1 ≤ w) (hw8 : w ≤ 8) (f : Value) (hf : MulOk W (m + 1) w f) (x y : Int) (hx : Small x) (hy : Small y) (hs : Small (x * y)) : CallOk W (m + 2) (W.fn "s_mul") [sg (2 ^ w) x, sg (2 ^ w) y, .int w, .raw f] (sg (2 ^ w) (x * y)) := by
  have hlx := small_len hw hx
  have hly := small_len hw hy
  have hc := hf x.natAbs y.natAbs (by omega) (by omega) hlx hly
  refine CallOk.of (G.defs _ (List.mem_of_getElem? (i := 16) rfl)) [] ["signed"] [("x", sg (2 ^ w) x), ("y", sg (2 ^ w) y), ("w", .int w), ("mul", .raw f)] rfl (by decide) rfl (fun vals hv pm cd doc => ?_) (fun C hW hm hX hg he => ?_)
  · obtain ⟨_, _, _, _, rfl⟩ := len4 hv
    rfl
  subst hW
  clear he
  dsimp only
  have f1 : Fn C.W "signed" := (G.defs _ (List.mem_of_getElem? (i := 10) rfl)).fn
  repeat' tb_rel
  refine EE_fv (by one_sign) hc.1 ?_
  repeat' tb_rel
  refine CL.mk hc (by ktr_room) ?_
  rw [← Int.natCast_mul, ← Int.natAbs_mul]
  repeat' tb_rel
  refine CL.mk (signed_ok G m w hw (decide (x < 0) != decide (y < 0)) (x * y).natAbs (x * y) ?_ hs) (by ktr_room) ?_
  · by_cases q : x < 0 <;> by_cases q' : y < 0 <;> simp only [q, q', decide_true, decide_false, bne_self_eq_false, Bool.false_bne, Bool.bne_false]
    · have := Int.mul_pos_of_neg_of_neg q q'; simp; omega
    · have := Int.mul_nonpos_of_nonpos_of_nonneg (a := x) (b := y) (by omega) (by omega); simp; omega
    · have := Int.mul_nonpos_of_nonneg_of_nonpos (a := x) (b := y) (by omega) (by omega); simp; omega
    · have := Int.mul_nonneg (a := x) (b := y) (by omega) (by omega); simp; omega
  repeat' tb_rel
/-- a def that divides sizes -/
def DivOk (W : Wd) (k w : Nat) (f : Value) : Prop := ∀ a b : Int, 0 ≤ a → 0 < b → (lim (2 ^ w) a).length ≤ 500 → (lim (2 ^ w) b).length ≤ 500 → CallOk W k f [Li (lim (2 ^ w) a), Li (lim (2 ^ w) b), .int w] (.tup [Li (lim (2 ^ w) (a / b)), Li (lim (2 ^ w) (a % b))])
theorem tdiv_sign (x y : Int) (hy : 0 < y) : x.tdiv y = if decide (x < 0) != decide (y < 0) then -((x.natAbs / y.natAbs : Nat) : Int) else ((x.natAbs / y.natAbs : Nat) : Int) := by
  obtain ⟨n, rfl⟩ := Int.eq_ofNat_of_zero_le (Int.le_of_lt hy)
  have e : decide (((n : Nat) : Int) < 0) = false := by simp
  rw [e]
  cases x with
  | ofNat m => rfl
  | negSucc m => exact (if_pos (by simp [Int.negSucc_lt_zero])).symm
theorem tmod_sign (x y : Int) (hy : 0 < y) : x.tmod y = if decide (x < 0) then -((x.natAbs % y.natAbs : Nat) : Int) else ((x.natAbs % y.natAbs : Nat) : Int) := by
  obtain ⟨n, rfl⟩ := Int.eq_ofNat_of_zero_le (Int.le_of_lt hy)
  cases x with
  | ofNat m => rfl
  | negSucc m => exact (if_pos (by simp [Int.negSucc_lt_zero])).symm
theorem small_half {x : Int} (h : Small (2 * x)) : Small x := by
  unfold Small at *
  rw [Int.natAbs_mul] at h
  exact Nat.lt_of_le_of_lt (Nat.le_mul_of_pos_left _ (by decide)) h
theorem small_rem {r y : Int} (h0 : 0 ≤ r) (h1 : r < y) (h : Small y) : Small r := by
  unfold Small at *
  omega
theorem small_tdiv {x y : Int} (hx : Small x) : Small (x.tdiv y) := by
  unfold Small at *
  rw [Int.natAbs_tdiv]
  exact Nat.lt_of_le_of_lt (Nat.div_le_self _ _) hx
theorem small_tmod {x y : Int} (hx : Small x) : Small (x.tmod y) := by
  unfold Small at *
  rw [Int.natAbs_tmod]
  exact Nat.lt_of_le_of_lt (Nat.mod_le _ _) hx
theorem tdiv_ok {W : Wd} (G : Good W) (m w : Nat) (hw : 1 ≤ w) (hw8 : w ≤ 8) (f : Value) (hf : DivOk W (m + 1) w f) (x y : Int) (hx : Small x) (hy : Small y) (hy0 : 0 < y) :
    CallOk W (m + 2) (W.fn "tdiv") [sg (2 ^ w) x, sg (2 ^ w) y, .int w, .raw f] (.tup [sg (2 ^ w) (x.tdiv y), sg (2 ^ w) (x.tmod y)]) := by
  have hlx := small_len' hw hx
  have hly := small_len' hw hy
  have hp := (lenpos hw y.natAbs).mpr (by omega)
  have hc := hf x.natAbs y.natAbs (by omega) (by omega) hlx hly
  refine CallOk.of (G.defs _ (List.mem_of_getElem? (i := 17) rfl)) ["quotient", "rest"] ["len", "DivisionByZero", "signed"] [("x", sg (2 ^ w) x), ("y", sg (2 ^ w) y), ("w", .int w), ("divrem", .raw f), ("quotient", .unb), ("rest", .unb)] rfl (by decide) rfl (fun vals hv pm cd doc => ?_) (fun C hW hm hX hg he => ?_)
  · obtain ⟨_, _, _, _, rfl⟩ := len4 hv
    rfl
  subst hW
  clear he
  dsimp only
  have f1 : Fn C.W "signed" := (G.defs _ (List.mem_of_getElem? (i := 10) rfl)).fn
  repeat' tb_rel
  · exfalso; omega
  refine SS_up2 ?_
  refine EE_fv (by one_sign) hc.1 ?_
  repeat' tb_rel
  refine CL.mk hc (by ktr_room) ?_
  rw [← Int.natCast_ediv, ← Int.natCast_emod]
  repeat' tb_rel
  refine CL.mk (signed_ok G m w hw (decide (x < 0) != decide (y < 0)) (x.natAbs / y.natAbs) (x.tdiv y) (tdiv_sign x y hy0) (small_tdiv hx)) (by ktr_room) ?_
  repeat' tb_rel
  refine CL.mk (signed_ok G m w hw (decide (x < 0)) (x.natAbs % y.natAbs) (x.tmod y) (tmod_sign x y hy0) (small_tmod hx)) (by ktr_room) ?_
  repeat' tb_rel
theorem fdiv_lt (x y : Int) (hx : x < 0) (hy : 0 < y) (hr : x.tmod y ≠ 0) : x / y = -((x.tdiv y).natAbs + 1 : Int) ∧ x % y = x.tmod y + y ∧ x / y < 0 ∧ ((x / y).natAbs : Int) = (x.tdiv y).natAbs + 1 := by
  have h1 := Int.mul_tdiv_add_tmod x y
  have h2 := Int.lt_tmod_of_pos x hy
  have h3 : x.tmod y ≤ 0 := by
    have := Int.neg_tmod (a := x) (b := y)
    have := Int.tmod_nonneg (a := -x) y (by omega)
    omega
  have h4 : x.tdiv y ≤ 0 := by
    have := Int.neg_tdiv (a := x) (b := y)
    have := Int.tdiv_nonneg (a := -x) (b := y) (by omega) (by omega)
    omega
  have h5 := (Int.ediv_emod_unique (a := x) (b := y) (r := x.tmod y + y) (q := x.tdiv y - 1) hy).mpr ⟨by rw [Int.mul_sub]; omega, by omega, by omega⟩
  refine ⟨by omega, h5.2, by omega, by omega⟩
theorem fdiv_even (x y : Int) (hy : 0 < y) (hr : x.tmod y = 0) : x / y = x.tdiv y ∧ x % y = x.tmod y := by
  have h1 := Int.mul_tdiv_add_tmod x y
  exact (Int.ediv_emod_unique (a := x) (b := y) (r := x.tmod y) (q := x.tdiv y) hy).mpr ⟨by omega, by omega, by omega⟩
theorem fdiv_ok {W : Wd} (G : Good W) (m w : Nat) (hw : 1 ≤ w) (hw8 : w ≤ 8) (f : Value) (hf : DivOk W (m + 1) w f) (x y : Int) (hx : Small x) (hy : Small y) (hy0 : 0 < y) :
    CallOk W (m + 4) (W.fn "fdiv") [sg (2 ^ w) x, sg (2 ^ w) y, .int w, .raw f] (.tup [sg (2 ^ w) (x / y), sg (2 ^ w) (x % y)]) := by
  have hlx := small_len' hw hx
  have hly := small_len' hw hy
  have hp := (lenpos hw (x.tmod y).natAbs)
  refine CallOk.of (G.defs _ (List.mem_of_getElem? (i := 18) rfl)) ["quotient", "rest"] ["tdiv", "len", "add_limb", "s_add"] [("x", sg (2 ^ w) x), ("y", sg (2 ^ w) y), ("w", .int w), ("divrem", .raw f), ("quotient", .unb), ("rest", .unb)] rfl (by decide) rfl (fun vals hv pm cd doc => ?_) (fun C hW hm hX hg he => ?_)
  · obtain ⟨_, _, _, _, rfl⟩ := len4 hv
    rfl
  subst hW
  clear he
  dsimp only
  have f1 : Fn C.W "tdiv" := (G.defs _ (List.mem_of_getElem? (i := 17) rfl)).fn
  have f2 : Fn C.W "add_limb" := (G.defs _ (List.mem_of_getElem? (i := 4) rfl)).fn
  have f3 : Fn C.W "s_add" := (G.defs _ (List.mem_of_getElem? (i := 14) rfl)).fn
  have hq := small_len hw (small_tdiv (y := y) hx)
  have hr := small_len hw (small_tmod (y := y) hx)
  refine SS_up2 ?_
  repeat' tb_rel
  refine CL.mk (tdiv_ok G m w hw hw8 f hf x y hx hy hy0) (by ktr_room) ?_
  repeat' tb_rel
  · rename_i h1 h2
    have hy1 : decide (y < 0) = false := by simp; omega
    have hx1 : x < 0 := by rw [hy1] at h2; simpa using h2
    obtain ⟨e1, e2, e3, e4⟩ := fdiv_lt x y hx1 hy0 (by omega)
    refine CL.mk (add_limb_ok G (m + 2) w hw hw8 (x.tdiv y).natAbs (by omega) hq) (by ktr_room) ?_
    repeat' tb_rel
    refine CL.mk (s_add_ok G m w hw hw8 (x.tmod y) y (small_tmod hx) hy (by have := Int.emod_nonneg x (show y ≠ 0 by omega); have := Int.emod_lt_of_pos x hy0; rw [← e2]; exact small_rem ‹_› ‹_› hy)) (by ktr_room) ?_
    repeat' tb_rel
    refine RQ_eq ?_
    simp only [sg]
    rw [e2, decide_eq_true e3, e4]
  · rename_i h1 h2
    have hy1 : decide (y < 0) = false := by simp; omega
    have hx1 : 0 ≤ x := by rw [hy1] at h2; simpa using h2
    rw [Int.tdiv_eq_ediv_of_nonneg hx1, Int.tmod_eq_emod_of_nonneg hx1]
    exact RQ_same
  · rename_i h1
    obtain ⟨e1, e2⟩ := fdiv_even x y hy0 (by omega)
    rw [e1, e2]
    exact RQ_same
theorem s_shift_ok {W : Wd} (G : Good W) (m w : Nat) (hw : 2 ≤ w) (hw8 : w ≤ 8) (x : Int) (hx : Small x) (hs : Small (2 * x)) : CallOk W (m + 2) (W.fn "s_shift") [sg (2 ^ w) x, .int 1, .int w] (sg (2 ^ w) (2 * x)) := by
  have hlx := small_len (show 1 ≤ w by omega) hx
  refine CallOk.of (G.defs _ (List.mem_of_getElem? (i := 19) rfl)) ["found"] ["signed", "shift_left", "shift_right", "len", "low", "add_limb"] [("x", sg (2 ^ w) x), ("n", .int 1), ("w", .int w), ("found", .unb)] rfl (by decide) rfl (fun vals hv pm cd doc => ?_) (fun C hW hm hX hg he => ?_)
  · obtain ⟨_, _, _, rfl⟩ := len3 hv
    rfl
  subst hW
  clear he
  dsimp only
  have f1 : Fn C.W "signed" := (G.defs _ (List.mem_of_getElem? (i := 10) rfl)).fn
  have f2 : Fn C.W "shift_left" := (G.defs _ (List.mem_of_getElem? (i := 6) rfl)).fn
  repeat' tb_rel
  · refine CL.mk (shift_left_ok G m w 1 (by omega) hw8 (by omega) x.natAbs (by omega) hlx) (by ktr_room) ?_
    have e : ((x.natAbs : Int) * 2 ^ 1) = ((x.natAbs * 2 : Nat) : Int) := by simp
    rw [e]
    repeat' tb_rel
    refine CL.mk (signed_ok G m w (by omega) (decide (x < 0)) (x.natAbs * 2) (2 * x) (by by_cases q : x < 0 <;> simp [q] <;> omega) hs) (by ktr_room) ?_
    repeat' tb_rel
  · exfalso; omega
theorem nearest_quotient_ok {W : Wd} (G : Good W) (m w : Nat) (hw : 2 ≤ w) (hw8 : w ≤ 8) (f : Value) (hf : DivOk W (m + 1) w f) (x y : Int) (hx : Small (2 * x)) (hy : Small (2 * y)) (hxy : Small (2 * x + y)) (hy0 : 0 < y) :
    CallOk W (m + 5) (W.fn "nearest_quotient") [sg (2 ^ w) x, sg (2 ^ w) y, .int w, .raw f] (sg (2 ^ w) ((2 * x + y) / (2 * y))) := by
  refine CallOk.of (G.defs _ (List.mem_of_getElem? (i := 20) rfl)) [] ["fdiv", "s_add", "s_shift"] [("x", sg (2 ^ w) x), ("y", sg (2 ^ w) y), ("w", .int w), ("divrem", .raw f)] rfl (by decide) rfl (fun vals hv pm cd doc => ?_) (fun C hW hm hX hg he => ?_)
  · obtain ⟨_, _, _, _, rfl⟩ := len4 hv
    rfl
  subst hW
  clear he
  dsimp only
  have f1 : Fn C.W "fdiv" := (G.defs _ (List.mem_of_getElem? (i := 18) rfl)).fn
  have f2 : Fn C.W "s_add" := (G.defs _ (List.mem_of_getElem? (i := 14) rfl)).fn
  have f3 : Fn C.W "s_shift" := (G.defs _ (List.mem_of_getElem? (i := 19) rfl)).fn
  have sx : Small x := small_half hx
  have sy : Small y := small_half hy
  repeat' tb_rel
  refine CL.mk (s_shift_ok G (m + 2) w hw hw8 x sx hx) (by ktr_room) ?_
  repeat' tb_rel
  refine CL.mk (s_add_ok G (m + 1) w (by omega) hw8 (2 * x) y hx sy hxy) (by ktr_room) ?_
  repeat' tb_rel
  refine CL.mk (s_shift_ok G (m + 2) w hw hw8 y sy hy) (by ktr_room) ?_
  repeat' tb_rel
  refine CL.mk (fdiv_ok G m w (by omega) hw8 f hf (2 * x + y) (2 * y) hxy hy (by omega)) (by ktr_room) ?_
  repeat' tb_rel
theorem row_step {B s : Int} {zs : List Int} {i : Nat} (hi : i < zs.length) : val B (zs.set i (s % B)) + B ^ (i + 1) * (s / B) = val B zs + B ^ i * (s - zs.getD i 0) := by
  rw [val_set B hi, Int.pow_succ, Int.mul_assoc, Int.add_assoc, ← Int.mul_add]
  have := Int.emod_add_mul_ediv s B
  congr 2
  omega
theorem carry_lt {B c z x y : Int} (hc : c < B) (hz : z < B) (hx0 : 0 ≤ x) (hx : x < B) (hy0 : 0 ≤ y) (hy : y < B) : (c + (z + x * y)) / B < B := by
  apply Int.ediv_lt_of_lt_mul (by omega)
  have h1 : x * y ≤ (B - 1) * (B - 1) := Int.le_trans (Int.mul_le_mul_of_nonneg_right (by omega) hy0) (Int.mul_le_mul_of_nonneg_left (by omega) (by omega))
  have h2 : (B - 1) * (B - 1) = B * B - 2 * B + 1 := by rw [Int.sub_mul, Int.mul_sub]; omega
  omega
theorem mul_school_ok {W : Wd} (G : Good W) (m w : Nat) (hw : 1 ≤ w) (hw8 : w ≤ 8) : MulOk W (m + 2) w (W.fn "mul_school") := by
  intro a b ha hb hla hlb
  refine CallOk.of (G.defs _ (List.mem_of_getElem? (i := 21) rfl)) ["found", "mask", "at", "limb", "carry", "spot", "other"] ["len", "enumerate", "normal"] [("a", Li (lim (2 ^ w) a)), ("b", Li (lim (2 ^ w) b)), ("w", .int w), ("found", .unb), ("mask", .unb), ("at", .unb), ("limb", .unb), ("carry", .unb), ("spot", .unb), ("other", .unb)] rfl (by decide) rfl (fun vals hv pm cd doc => ?_) (fun C hW hm hX hg he => ?_)
  · obtain ⟨_, _, _, rfl⟩ := len3 hv
    rfl
  subst hW
  obtain ⟨L, fa, cd, he⟩ := he
  dsimp only
  have f2 : Fn C.W "normal" := (G.defs _ (List.mem_of_getElem? (i := 0) rfl)).fn
  have hB := pow_ge2 hw
  have va := lim_val hB ha
  have da := lim_dig hB ha
  have vb := lim_val hB hb
  have db := lim_dig hB hb
  generalize lim (2 ^ w) a = xs at *
  generalize lim (2 ^ w) b = ys at *
  have hpos : (0 : Int) < 2 ^ w := by omega
  have h256 := pow_le256 hw8
  refine SS_un ["found", "mask"] ?_ (by rw [he]; with_unfolding_all rfl)
  refine EE_tup (EA_cons (EE_mulH ?_))
  repeat' tb_start
  refine ⟨_, rfl, by omega, by omega, fun r hr => ?_⟩
  repeat' tb_start
  rw [shl_pow]
  refine SS_enI (by nest_cls) (Good.enum (by assumption)) ?_
  repeat' tb_start
  refine ⟨xs, rfl, fun k ρ σ => ∃ (zs : List Int) (t1 t2 t3 t4 t5 : V), IsL ρ [("a", Li xs), ("b", Li ys), ("w", .int w), ("found", .hdl r), ("mask", .int (2 ^ w - 1)), ("at", t1), ("limb", t2), ("carry", t3), ("spot", t4), ("other", t5)] ∧ σ = [(r, zs.map V.int)] ∧
    zs.length = xs.length + ys.length ∧ Dig (2 ^ w) zs ∧ val (2 ^ w) zs = val (2 ^ w) (xs.take k.toNat) * val (2 ^ w) ys, ?_, ?_, ?_⟩
  · refine ⟨List.replicate (xs.length + ys.length) 0, _, _, _, _, _, rfl, ?_, by simp, Dig.replicate hpos _, ?_⟩
    · simp only [List.map_replicate]
      congr 3
    · rw [val_replicate]; simp [val]
  · rintro k h0 h1 ρ₁ σ₁ ⟨zs, t1, t2, t3, t4, t5, rfl, rfl, hz, dz, hval⟩
    repeat' tb_start
    have hx := da.getD hpos k.toNat
    generalize hlimb : xs.getD k.toNat 0 = limb at *
    have hv0 : val (2 ^ w) zs < (2 ^ w) ^ (k.toNat + ys.length) := by
      rw [hval, Int.pow_add]
      have e1 := val_lt hpos (da.take k.toNat)
      rw [List.length_take, Nat.min_eq_left (by omega)] at e1
      have e2 := val_lt hpos db
      have e3 := val_nonneg hpos db
      have e4 := val_nonneg hpos (da.take k.toNat)
      have e5 : (0 : Int) < (2 ^ w) ^ k.toNat := pow_pos' hpos _
      exact Int.lt_of_le_of_lt (Int.mul_le_mul_of_nonneg_right (Int.le_of_lt e1) e3) (Int.mul_lt_mul_of_pos_left e2 e5)
    have hz0 := getD_high hB dz hv0 (Nat.le_refl _)
    refine SS_enI (by nest_cls) (Good.enum (by assumption)) ?_
    repeat' tb_start
    refine ⟨ys, rfl, fun j ρ σ => ∃ (us : List Int) (c : Int) (t4 t5 : V), IsL ρ [("a", Li xs), ("b", Li ys), ("w", .int w), ("found", .hdl r), ("mask", .int (2 ^ w - 1)), ("at", .int k), ("limb", .int limb), ("carry", .int c), ("spot", t4), ("other", t5)] ∧ σ = [(r, us.map V.int)] ∧
      us.length = xs.length + ys.length ∧ Dig (2 ^ w) us ∧ 0 ≤ c ∧ c < 2 ^ w ∧ us.getD (k.toNat + ys.length) 0 = 0 ∧
      val (2 ^ w) us + (2 ^ w) ^ (k.toNat + j.toNat) * c = val (2 ^ w) zs + (2 ^ w) ^ k.toNat * (limb * val (2 ^ w) (ys.take j.toNat)), ?_, ?_, ?_⟩
    · exact ⟨zs, 0, _, _, rfl, rfl, hz, dz, by omega, by omega, hz0, by simp [val]⟩
    · rintro j g0 g1 ρ₁ σ₁ ⟨us, c, t4, t5, rfl, rfl, hu, du, hc0, hc1, huz, huv⟩
      repeat' tb_start
      have hy := db.getD hpos j.toNat
      generalize hyj : ys.getD j.toNat 0 = y at *
      have ekj : (k + j).toNat = k.toNat + j.toNat := tn4 (by first | assumption | omega) (by first | assumption | omega)
      have hkj : k.toNat + j.toNat < us.length := lt_add_nat h0 h1 g0 g1 hu
      have hd := du.getD hpos (k.toNat + j.toNat)
      have hm := Int.mul_nonneg hx.1 hy.1
      rw [ekj]
      generalize hs : c + (us.getD (k.toNat + j.toNat) 0 + limb * y) = s at *
      have hs0 : 0 ≤ s := by omega
      rw [and_mask hs0, shr_div hs0]
      have e1 : (j + 1).toNat = j.toNat + 1 := tn1 (by first | assumption | omega)
      refine ⟨us.set (k.toNat + j.toNat) (s % 2 ^ w), s / 2 ^ w, _, _, rfl, by rw [List.map_set], by simp [hu], du.set (Int.emod_nonneg _ (by omega)) (Int.emod_lt_of_pos _ hpos) _, Int.ediv_nonneg hs0 (by omega), ?_, ?_, ?_⟩
      · rw [← hs]; exact carry_lt hc1 hd.2 hx.1 hx.2 hy.1 hy.2
      · rw [getD_set (by omega), if_neg (by omega)]; exact huz
      · rw [e1, ← Nat.add_assoc, row_step hkj, val_take_succ', hyj, ← hs]
        have : (2 ^ w : Int) ^ k.toNat * (limb * (val (2 ^ w) (ys.take j.toNat) + (2 ^ w) ^ j.toNat * y)) = (2 ^ w : Int) ^ k.toNat * (limb * val (2 ^ w) (ys.take j.toNat)) + (2 ^ w) ^ (k.toNat + j.toNat) * (limb * y) := by
          rw [Int.mul_add, Int.mul_add, Int.pow_add]
          congr 1
          rw [Int.mul_assoc, Int.mul_left_comm limb]
        rw [this]
        have : (2 ^ w : Int) ^ (k.toNat + j.toNat) * (c + (us.getD (k.toNat + j.toNat) 0 + limb * y) - us.getD (k.toNat + j.toNat) 0) = (2 ^ w : Int) ^ (k.toNat + j.toNat) * c + (2 ^ w) ^ (k.toNat + j.toNat) * (limb * y) := by
          rw [← Int.mul_add]; congr 1; omega
        rw [this]
        omega
    · rintro ρ₁ σ₁ ⟨us, c, t4, t5, rfl, rfl, hu, du, hc0, hc1, huz, huv⟩
      repeat' tb_start
      have ekj : (k + (ys.length : Int)).toNat = k.toNat + ys.length := tn2 (by first | assumption | omega) _
      have e1 : (k + 1).toNat = k.toNat + 1 := tn1 (by first | assumption | omega)
      rw [ekj]
      refine ⟨us.set (k.toNat + ys.length) c, _, _, _, _, _, rfl, by rw [List.map_set], by simp [hu], du.set hc0 hc1 _, ?_⟩
      rw [val_set _ (hu ▸ Nat.add_lt_add_right (lt_nat h0 h1) _), huz, e1, val_take_succ', hlimb, Int.add_mul, ← hval, Int.mul_assoc]
      rw [Int.toNat_natCast, List.take_length] at huv
      rw [Int.sub_zero]
      exact huv
  · rintro ρ₁ σ₁ ⟨zs, t1, t2, t3, t4, t5, rfl, rfl, hz, dz, hval⟩
    rw [Int.toNat_natCast, List.take_length, va, vb] at hval
    refine SS_frz hX (by ktr_unf) ?_
    repeat' tb_start
    refine CL.mk (normal_ok G m zs (by omega)) (by ktr_room) ?_
    repeat' tb_start
    exact nrm_lim hB dz hval
theorem divrem_small_ok {W : Wd} (G : Good W) (m w : Nat) (hw : 1 ≤ w) (hw8 : w ≤ 8) (a d : Int) (ha : 0 ≤ a) (hd0 : 0 < d) (hd1 : d < 2 ^ w) (hla : (lim (2 ^ w) a).length ≤ 1000) :
    CallOk W (m + 3) (W.fn "divrem_small") [Li (lim (2 ^ w) a), Li [d], .int w] (.tup [Li (lim (2 ^ w) (a / d)), Li (lim (2 ^ w) (a % d))]) := by
  have hB := pow_ge2 hw
  refine CallOk.of (G.defs _ (List.mem_of_getElem? (i := 22) rfl)) ["quotient", "rest"] ["divrem_limb"] [("a", Li (lim (2 ^ w) a)), ("b", Li [d]), ("w", .int w), ("quotient", .unb), ("rest", .unb)] rfl (by decide) rfl (fun vals hv pm cd doc => ?_) (fun C hW hm hX hg he => ?_)
  · obtain ⟨_, _, _, rfl⟩ := len3 hv
    rfl
  subst hW
  clear he
  dsimp only
  have f1 : Fn C.W "divrem_limb" := (G.defs _ (List.mem_of_getElem? (i := 5) rfl)).fn
  refine SS_up2 ?_
  repeat' tb_rel
  refine IDX_li (by simp) (by simp) (by simp) ?_
  rw [show [d].getD (0 : Int).toNat 0 = d from rfl]
  repeat' tb_rel
  refine CL.mk (divrem_limb_ok G m w hw hw8 a d ha hd0 hd1 hla) (by ktr_room) ?_
  repeat' tb_start
  refine EE_ifj (Li (lim (2 ^ w) (a % d))) ?_ ?_
  · have h1 := Int.emod_lt_of_pos a hd0
    repeat' tb_start
    · rename_i h0
      refine ⟨?_, rfl⟩
      rw [← lim_of hB (xs := [a % d]) (Dig.cons (by omega) (by omega) Dig.nil) (by simp [Canon]; omega) (by simp [val])]
      rfl
    · rename_i h0
      have h2 := Int.emod_nonneg a (show d ≠ 0 by omega)
      have h3 : a % d = 0 := by omega
      rw [h3, lim_zero]
      exact ⟨rfl, rfl⟩
  repeat' tb_start
theorem guessed_limb_ok {W : Wd} (G : Good W) (m w : Nat) (hw : 1 ≤ w) (hw8 : w ≤ 8) (ts : List Int) (t0 t1 t2 first second : Int) (hts : ts.length = 3) (e0 : ts.getD 0 0 = t0) (e1 : ts.getD 1 0 = t1) (e2 : ts.getD 2 0 = t2) (h00 : 0 ≤ t0) (h01 : t0 < 2 ^ w) (h10 : 0 ≤ t1) (h11 : t1 < 2 ^ w) (h20 : 0 ≤ t2) (h21 : t2 < 2 ^ w)
    (hf0 : 0 < first) (hf1 : first < 2 ^ w) (hs0 : 0 ≤ second) (hs1 : second < 2 ^ w) :
    CallOk W (m + 1) (W.fn "guessed_limb") [Li ts, .int first, .int second, .int w] (.int (min (((t2 * 2 ^ w + t1) * 2 ^ w + t0) / (first * 2 ^ w + second)) (2 ^ w - 1))) := by
  have hB := pow_ge2 hw
  have h256 := pow_le256 hw8
  have hD : 0 < first * 2 ^ w + second := by have := Int.mul_pos hf0 (show (0 : Int) < 2 ^ w by omega); omega
  replace e0 : ts.getD (0 : Int).toNat 0 = t0 := e0
  replace e1 : ts.getD (1 : Int).toNat 0 = t1 := e1
  replace e2 : ts.getD (2 : Int).toNat 0 = t2 := e2
  refine CallOk.of (G.defs _ (List.mem_of_getElem? (i := 23) rfl)) ["high", "base", "limb", "rest"] ["min"] [("top", Li ts), ("first", .int first), ("second", .int second), ("w", .int w), ("high", .unb), ("base", .unb), ("limb", .unb), ("rest", .unb)] rfl (by decide) rfl (fun vals hv pm cd doc => ?_) (fun C hW hm hX hg he => ?_)
  · obtain ⟨_, _, _, _, rfl⟩ := len4 hv
    rfl
  subst hW
  obtain ⟨L, fa, cd, he⟩ := he
  dsimp only
  refine SS_un ["high", "base"] ?_ (by rw [he]; with_unfolding_all rfl)
  repeat' tb_start
  simp only [e1, e2, shl_mul, Int.one_mul]
  rw [or_add h20 h10 h11, Int.fdiv_eq_ediv_of_nonneg _ (by omega)]
  have hm0 : 0 ≤ t2 * 2 ^ w := Int.mul_nonneg h20 (by omega)
  generalize hhigh : t2 * 2 ^ w + t1 = high at *
  have hm1 : 0 ≤ high * 2 ^ w := Int.mul_nonneg (by omega) (by omega)
  have hbig : (high * 2 ^ w + t0) / (first * 2 ^ w + second) ≤ high / first := by
    apply Int.le_ediv_of_mul_le hf0
    have h1 := Int.ediv_mul_le (high * 2 ^ w + t0) (show first * 2 ^ w + second ≠ 0 by omega)
    have h2 := Int.ediv_nonneg (show 0 ≤ high * 2 ^ w + t0 by omega) (show 0 ≤ first * 2 ^ w + second by omega)
    generalize (high * 2 ^ w + t0) / (first * 2 ^ w + second) = q at *
    have h3 := Int.mul_nonneg h2 hs0
    rw [Int.mul_add, ← Int.mul_assoc] at h1
    have h4 : q * first * 2 ^ w < (high + 1) * 2 ^ w := by rw [Int.add_mul, Int.one_mul]; omega
    have := Int.lt_of_mul_lt_mul_right h4 (by omega)
    omega
  have hq0 := Int.ediv_nonneg (show 0 ≤ high * 2 ^ w + t0 by omega) (show 0 ≤ first * 2 ^ w + second by omega)
  generalize hq : (high * 2 ^ w + t0) / (first * 2 ^ w + second) = q at *
  have hdv : ∀ l : Int, l ≤ q ↔ l * (first * 2 ^ w + second) ≤ high * 2 ^ w + t0 := fun l => by rw [← hq]; exact Int.le_ediv_iff_mul_le hD
  have hhf := Int.ediv_mul_le high (show first ≠ 0 by omega)
  have hh0 : 0 ≤ high / first := Int.le_trans hq0 hbig
  rw [show (if 2 ^ w - 1 < high / first then (2 : Int) ^ w - 1 else high / first) = min (high / first) (2 ^ w - 1) from by split <;> omega]
  repeat' tb_start
  refine SS_wh (fun n ρ σ => ∃ limb rest : Int, IsL ρ [("top", Li ts), ("first", .int first), ("second", .int second), ("w", .int w), ("high", .int high), ("base", .int (2 ^ w)), ("limb", .int limb), ("rest", .int rest)] ∧ σ = [] ∧
    n = limb.toNat ∧ 0 ≤ limb ∧ limb ≤ 2 ^ w - 1 ∧ min q (2 ^ w - 1) ≤ limb ∧ rest = high - limb * first ∧ 0 ≤ rest) (min (high / first) (2 ^ w - 1)).toNat ⟨_, _, rfl, rfl, rfl, by omega, by omega, by omega, rfl, ?_⟩ ?_
  · have := Int.mul_le_mul_of_nonneg_right (Int.min_le_left (high / first) (2 ^ w - 1)) (show 0 ≤ first by omega)
    omega
  rintro n ρ₁ σ₁ ⟨limb, rest, rfl, rfl, hn, hl0, hl1, hl2, hr, hr0⟩
  have done : limb ≤ q → limb = min q (2 ^ w - 1) := fun h => by omega
  have hms : 0 ≤ limb * second := Int.mul_nonneg hl0 hs0
  have hrB : 0 ≤ rest * 2 ^ w := Int.mul_nonneg hr0 (by omega)
  have key : limb * (first * 2 ^ w + second) = high * 2 ^ w - rest * 2 ^ w + limb * second := by
    rw [hr, Int.sub_mul, Int.mul_add, ← Int.mul_assoc]; omega
  repeat' tb_start
  · rename_i h1 h2
    rw [e0, shl_mul, or_add hr0 h00 h01] at h2
    have hlim : 0 < limb := by
      rcases Int.lt_or_le 0 limb with h | h
      · exact h
      · have : limb = 0 := by omega
        rw [this, Int.zero_mul] at h2
        omega
    have hnq : ¬ limb ≤ q := fun h => by rw [hdv, key] at h; omega
    exact ⟨_, by omega, limb - 1, rest + first, rfl, rfl, rfl, by omega, by omega, by omega, by rw [Int.sub_mul, Int.one_mul]; omega, by omega⟩
  · rename_i h1 h2
    rw [e0, shl_mul, or_add hr0 h00 h01] at h2
    exact done ((hdv limb).mpr (by rw [key]; omega))
  · rename_i h1
    refine done ((hdv limb).mpr ?_)
    have g1 : limb * second ≤ (2 ^ w - 1) * 2 ^ w := Int.le_trans (Int.mul_le_mul_of_nonneg_right hl1 hs0) (Int.mul_le_mul_of_nonneg_left (by omega) (by omega))
    have g2 : (2 ^ w - 1) * 2 ^ w ≤ rest * 2 ^ w := Int.mul_le_mul_of_nonneg_right (by omega) (by omega)
    rw [key]; omega
theorem take_away_math {B : Int} (hB : 2 ≤ B) {zs : List Int} {i : Nat} (hi : i < zs.length) (s : Int) (f : Int) : val B (zs.set i (zs.getD i 0 - s % B + B * f)) - B ^ (i + 1) * (s / B + f) = val B zs - B ^ i * s := by
  rw [val_set B hi, Int.pow_succ, Int.mul_assoc]
  have h := Int.emod_add_mul_ediv s B
  have e : zs.getD i 0 - s % B + B * f - zs.getD i 0 = B * (s / B + f) - s := by rw [Int.mul_add]; omega
  rw [e, Int.mul_sub]
  omega
/-- the values above a place stay -/
theorem val_lt_of_drop {B : Int} (hB : 2 ≤ B) {us zs : List Int} {m : Nat} (du : Dig B us) (dz : Dig B zs) (hl : us.length = zs.length) (hm : m ≤ zs.length) (hv : val B zs < B ^ m) (hd : us.drop m = zs.drop m) : val B us < B ^ m := by
  rw [val_split B us m (by omega), hd, val_drop0 hB dz hm hv, Int.mul_zero, Int.add_zero]
  have := val_lt (show 0 < B by omega) (du.take m)
  rw [List.length_take, Nat.min_eq_left (by omega)] at this
  exact this
theorem take_away_ok {W : Wd} (G : Good W) (n w : Nat) (hw : 1 ≤ w) (hw8 : w ≤ 8) (len at_ : Nat) (R limb : Int) (ds : List Int) (hR0 : 0 ≤ R) (hR1 : R < (2 ^ w) ^ (at_ + ds.length + 1)) (hlen : at_ + ds.length + 1 ≤ len) (hlen2 : len ≤ 1000)
    (hl0 : 0 ≤ limb) (hl1 : limb < 2 ^ w) (dd : Dig (2 ^ w) ds) (f : Int) (R' : Int)
    (hf : f = if R < (2 ^ w) ^ at_ * (limb * val (2 ^ w) ds) then 1 else 0) (hR' : R' = R - (2 ^ w) ^ at_ * (limb * val (2 ^ w) ds) + (2 ^ w) ^ (at_ + ds.length + 1) * f) :
    CallOkM W (n + 1) (W.fn "take_away") ((padL (2 ^ w) len R).map V.int) [Li ds, .int limb, .int at_, .int w] (.int f) ((padL (2 ^ w) len R').map V.int) := by
  have hB := pow_ge2 hw
  have hpos : (0 : Int) < 2 ^ w := by omega
  have h256 := pow_le256 hw8
  have hRl : R < (2 ^ w) ^ len := Int.lt_of_lt_of_le hR1 (pow_mono hB hlen)
  have hzl := padL_len (2 ^ w) len R
  have dz := padL_dig hpos len R
  have hzv := padL_val hpos len R hR0 hRl
  generalize padL (2 ^ w) len R = zs at *
  refine CallOkM.of (G.defs _ (List.mem_of_getElem? (i := 24) rfl)) ["carry", "base", "spot", "other", "here"] ["enumerate", "len"] (fun a => [("rest", .hdl a), ("b", Li ds), ("limb", .int limb), ("at", .int at_), ("w", .int w), ("carry", .unb), ("base", .unb), ("spot", .unb), ("other", .unb), ("here", .unb)]) rfl (by decide) rfl (fun vals hv pm cd doc => ?_) (fun C hW hn a hX hg he => ?_)
  · obtain ⟨_, _, _, _, _, rfl⟩ := len5 hv
    rfl
  subst hW
  obtain ⟨L, fa, cd, he⟩ := he
  dsimp only
  refine SS_un ["carry", "base"] ?_ (by rw [he]; with_unfolding_all rfl)
  repeat' tb_start
  rw [shl_pow]
  refine SS_enI (by nest_cls) (Good.enum (by assumption)) ?_
  repeat' tb_start
  refine ⟨ds, rfl, fun j ρ σ => ∃ (us : List Int) (c : Int) (t1 t2 t3 : V), IsL ρ [("rest", .hdl a), ("b", Li ds), ("limb", .int limb), ("at", .int at_), ("w", .int w), ("carry", .int c), ("base", .int (2 ^ w)), ("spot", t1), ("other", t2), ("here", t3)] ∧ σ = [(a, us.map V.int)] ∧
    us.length = len ∧ Dig (2 ^ w) us ∧ 0 ≤ c ∧ c ≤ 2 ^ w ∧ us.drop (at_ + ds.length + 1) = zs.drop (at_ + ds.length + 1) ∧
    val (2 ^ w) us - (2 ^ w) ^ (at_ + j.toNat) * c = R - (2 ^ w) ^ at_ * (limb * val (2 ^ w) (ds.take j.toNat)), ?_, ?_, ?_⟩
  · exact ⟨zs, 0, _, _, _, rfl, rfl, hzl, dz, by omega, by omega, rfl, by simp [val, hzv]⟩
  · rintro j g0 g1 ρ₁ σ₁ ⟨us, c, t1, t2, t3, rfl, rfl, hu, du, hc0, hc1, hud, huv⟩
    have hjl : at_ + ds.length + 1 ≤ us.length := by rw [hu]; exact hlen
    have hji : (at_ : Int) + j < us.length := lt_int2 g1 hjl
    have hjn : at_ + j.toNat < us.length := lt_at g0 g1 hjl
    have hjm : at_ + j.toNat < at_ + ds.length + 1 := Nat.lt_succ_of_lt (Nat.add_lt_add_left (lt_nat g0 g1) _)
    have hj0 : 0 ≤ (at_ : Int) + j := le_int0 g0
    have hu6 : us.length ≤ 1000 := by rw [hu]; exact hlen2
    repeat' tb_start
    have hd := dd.getD hpos j.toNat
    have ekj : ((at_ : Int) + j).toNat = at_ + j.toNat := tn3 (by first | assumption | omega) _
    have hz := du.getD hpos (at_ + j.toNat)
    have e1 : (j + 1).toNat = j.toNat + 1 := tn1 (by first | assumption | omega)
    rw [ekj, Int.fmod_eq_emod_of_nonneg _ (by omega), Int.fdiv_eq_ediv_of_nonneg _ (by omega)]
    generalize hdj : ds.getD j.toNat 0 = d at *
    have hm := Int.mul_nonneg hl0 hd.1
    have hm2 : limb * d ≤ (2 ^ w - 1) * (2 ^ w - 1) := Int.le_trans (Int.mul_le_mul_of_nonneg_right (by omega) hd.1) (Int.mul_le_mul_of_nonneg_left (by omega) (by omega))
    have hm3 : ((2 : Int) ^ w - 1) * (2 ^ w - 1) = 2 ^ w * 2 ^ w - 2 * 2 ^ w + 1 := by rw [Int.sub_mul, Int.mul_sub]; omega
    generalize hs : limb * d + c = s at *
    have hs0 : 0 ≤ s := by omega
    have hs1 : s / 2 ^ w < 2 ^ w := Int.ediv_lt_of_lt_mul hpos (by omega)
    have hs2 := Int.ediv_nonneg hs0 (show (0 : Int) ≤ 2 ^ w by omega)
    have hs3 := Int.emod_nonneg s (show (2 ^ w : Int) ≠ 0 by omega)
    have hs4 := Int.emod_lt_of_pos s hpos
    have math := fun f => take_away_math hB hjn s f
    generalize hh : us.getD (at_ + j.toNat) 0 - s % 2 ^ w = h at *
    obtain ⟨g, hg⟩ : ∃ g : Int, (h < 0 ∧ g = 1) ∨ (¬ h < 0 ∧ g = 0) := by
      by_cases q : h < 0
      · exact ⟨1, .inl ⟨q, rfl⟩⟩
      · exact ⟨0, .inr ⟨q, rfl⟩⟩
    have hnew0 : 0 ≤ h + 2 ^ w * g ∧ h + 2 ^ w * g < 2 ^ w := by
      rcases hg with ⟨q, rfl⟩ | ⟨q, rfl⟩ <;> omega
    refine EE_ifj (.int g) ?_ ?_
    · repeat' tb_start
      · exact ⟨by congr 1; omega, rfl⟩
      · exact ⟨by congr 1; omega, rfl⟩
    repeat' tb_start
    refine EE_ifj (.int (h + 2 ^ w * g)) ?_ ?_
    · repeat' tb_start
      · rename_i q
        have : g = 1 := by omega
        subst this
        exact ⟨by rw [Int.mul_one], rfl⟩
      · rename_i q
        have : g = 0 := by omega
        subst this
        exact ⟨by rw [Int.mul_zero, Int.add_zero], rfl⟩
    repeat' tb_start
    rw [ekj]
    refine ⟨us.set (at_ + j.toNat) (h + 2 ^ w * g), s / 2 ^ w + g, _, _, _, rfl, by rw [List.map_set], by simp [hu], du.set hnew0.1 hnew0.2 _, by omega, by omega, ?_, ?_⟩
    · rw [List.drop_set_of_lt (by first | exact hjm | exact Nat.lt_succ_self _)]; exact hud
    · rw [e1, ← Nat.add_assoc, math g, val_take_succ', hdj, ← hs]
      have : (2 ^ w : Int) ^ at_ * (limb * (val (2 ^ w) (ds.take j.toNat) + (2 ^ w) ^ j.toNat * d)) = (2 ^ w : Int) ^ at_ * (limb * val (2 ^ w) (ds.take j.toNat)) + (2 ^ w) ^ (at_ + j.toNat) * (limb * d) := by
        rw [Int.mul_add, Int.mul_add, Int.pow_add]
        congr 1
        rw [Int.mul_assoc, Int.mul_left_comm limb]
      rw [this, Int.mul_add]
      omega
  · rintro ρ₁ σ₁ ⟨us, c, t1, t2, t3, rfl, rfl, hu, du, hc0, hc1, hud, huv⟩
    repeat' tb_start
    have ekj : ((at_ : Int) + (ds.length : Int)).toNat = at_ + ds.length := rfl
    rw [ekj]
    have hz := du.getD hpos (at_ + ds.length)
    rw [Int.toNat_natCast, List.take_length] at huv
    have hset := fun x => val_set (2 ^ w) (zs := us) (k := at_ + ds.length) (by omega) x
    generalize hh : us.getD (at_ + ds.length) 0 - c = h at *
    obtain ⟨g, hg⟩ : ∃ g : Int, (h < 0 ∧ g = 1) ∨ (¬ h < 0 ∧ g = 0) := by
      by_cases q : h < 0
      · exact ⟨1, .inl ⟨q, rfl⟩⟩
      · exact ⟨0, .inr ⟨q, rfl⟩⟩
    have hnew0 : 0 ≤ h + 2 ^ w * g ∧ h + 2 ^ w * g < 2 ^ w := by
      rcases hg with ⟨q, rfl⟩ | ⟨q, rfl⟩ <;> omega
    refine EE_ifj (.int (h + 2 ^ w * g)) ?_ ?_
    · repeat' tb_start
      · rename_i q
        have : g = 1 := by omega
        subst this
        exact ⟨by rw [Int.mul_one], rfl⟩
      · rename_i q
        have : g = 0 := by omega
        subst this
        exact ⟨by rw [Int.mul_zero, Int.add_zero], rfl⟩
    repeat' tb_start
    rw [ekj]
    have hval : val (2 ^ w) (us.set (at_ + ds.length) (h + 2 ^ w * g)) = R - (2 ^ w) ^ at_ * (limb * val (2 ^ w) ds) + (2 ^ w) ^ (at_ + ds.length + 1) * g := by
      rw [hset, ← huv, Int.pow_succ, Int.mul_assoc, ← hh]
      have : us.getD (at_ + ds.length) 0 - c + 2 ^ w * g - us.getD (at_ + ds.length) 0 = 2 ^ w * g - c := by omega
      rw [this, Int.mul_sub]
      omega
    have dv := du.set hnew0.1 hnew0.2 (at_ + ds.length)
    have h0 := val_nonneg hpos dv
    have h1 := val_lt_of_drop hB dv dz (m := at_ + ds.length + 1) (by simp [hu, hzl]) (by omega) (by rw [hzv]; exact hR1) (by rw [List.drop_set_of_lt (by first | exact hjm | exact Nat.lt_succ_self _)]; exact hud)
    have hgf : g = f := by
      rw [hval] at h0 h1
      rw [hf]
      generalize (2 ^ w : Int) ^ at_ * (limb * val (2 ^ w) ds) = X at *
      generalize (2 ^ w : Int) ^ (at_ + ds.length + 1) = Y at *
      split
      · rcases hg with ⟨_, rfl⟩ | ⟨_, rfl⟩ <;> omega
      · rcases hg with ⟨_, rfl⟩ | ⟨_, rfl⟩ <;> omega
    subst hgf
    refine EE_ifj (.int g) ?_ ?_
    · repeat' tb_start
      · exact ⟨by congr 1; omega, rfl⟩
      · exact ⟨by congr 1; omega, rfl⟩
    repeat' tb_start
    refine ⟨.inl rfl, ?_⟩
    rw [← List.map_set]
    congr 3
    exact padL_of hpos dv (by simp [hu]) (by rw [hval, hR'])
theorem put_back_ok {W : Wd} (G : Good W) (n w : Nat) (hw : 1 ≤ w) (hw8 : w ≤ 8) (len at_ : Nat) (R : Int) (ds : List Int) (hR0 : 0 ≤ R) (hR1 : R < (2 ^ w) ^ (at_ + ds.length + 1)) (hlen : at_ + ds.length + 1 ≤ len) (hlen2 : len ≤ 1000)
    (dd : Dig (2 ^ w) ds) (hover : (2 ^ w) ^ (at_ + ds.length + 1) ≤ R + (2 ^ w) ^ at_ * val (2 ^ w) ds) (R' : Int)
    (hR' : R' = R + (2 ^ w) ^ at_ * val (2 ^ w) ds - (2 ^ w) ^ (at_ + ds.length + 1)) :
    CallOkM W (n + 1) (W.fn "put_back") ((padL (2 ^ w) len R).map V.int) [Li ds, .int at_, .int w] .none ((padL (2 ^ w) len R').map V.int) := by
  have hB := pow_ge2 hw
  have hpos : (0 : Int) < 2 ^ w := by omega
  have h256 := pow_le256 hw8
  have hRl : R < (2 ^ w) ^ len := Int.lt_of_lt_of_le hR1 (pow_mono hB hlen)
  have hzl := padL_len (2 ^ w) len R
  have dz := padL_dig hpos len R
  have hzv := padL_val hpos len R hR0 hRl
  generalize padL (2 ^ w) len R = zs at *
  refine CallOkM.of (G.defs _ (List.mem_of_getElem? (i := 25) rfl)) ["carry", "mask", "spot", "other"] ["enumerate", "len"] (fun a => [("rest", .hdl a), ("b", Li ds), ("at", .int at_), ("w", .int w), ("carry", .unb), ("mask", .unb), ("spot", .unb), ("other", .unb)]) rfl (by decide) rfl (fun vals hv pm cd doc => ?_) (fun C hW hn a hX hg he => ?_)
  · obtain ⟨_, _, _, _, rfl⟩ := len4 hv
    rfl
  subst hW
  obtain ⟨L, fa, cd, he⟩ := he
  dsimp only
  refine SS_un ["carry", "mask"] ?_ (by rw [he]; with_unfolding_all rfl)
  repeat' tb_start
  rw [shl_pow]
  refine SS_enI (by nest_cls) (Good.enum (by assumption)) ?_
  repeat' tb_start
  refine ⟨ds, rfl, fun j ρ σ => ∃ (us : List Int) (c : Int) (t1 t2 : V), IsL ρ [("rest", .hdl a), ("b", Li ds), ("at", .int at_), ("w", .int w), ("carry", .int c), ("mask", .int (2 ^ w - 1)), ("spot", t1), ("other", t2)] ∧ σ = [(a, us.map V.int)] ∧
    us.length = len ∧ Dig (2 ^ w) us ∧ 0 ≤ c ∧ c ≤ 1 ∧ us.drop (at_ + ds.length + 1) = zs.drop (at_ + ds.length + 1) ∧
    val (2 ^ w) us + (2 ^ w) ^ (at_ + j.toNat) * c = R + (2 ^ w) ^ at_ * val (2 ^ w) (ds.take j.toNat), ?_, ?_, ?_⟩
  · exact ⟨zs, 0, _, _, rfl, rfl, hzl, dz, by omega, by omega, rfl, by simp [val, hzv]⟩
  · rintro j g0 g1 ρ₁ σ₁ ⟨us, c, t1, t2, rfl, rfl, hu, du, hc0, hc1, hud, huv⟩
    have hjl : at_ + ds.length + 1 ≤ us.length := by rw [hu]; exact hlen
    have hji : (at_ : Int) + j < us.length := lt_int2 g1 hjl
    have hjn : at_ + j.toNat < us.length := lt_at g0 g1 hjl
    have hjm : at_ + j.toNat < at_ + ds.length + 1 := Nat.lt_succ_of_lt (Nat.add_lt_add_left (lt_nat g0 g1) _)
    have hj0 : 0 ≤ (at_ : Int) + j := le_int0 g0
    have hu6 : us.length ≤ 1000 := by rw [hu]; exact hlen2
    repeat' tb_start
    have hd := dd.getD hpos j.toNat
    have ekj : ((at_ : Int) + j).toNat = at_ + j.toNat := tn3 (by first | assumption | omega) _
    have hz := du.getD hpos (at_ + j.toNat)
    have e1 : (j + 1).toNat = j.toNat + 1 := tn1 (by first | assumption | omega)
    rw [ekj]
    generalize hs : c + (us.getD (at_ + j.toNat) 0 + ds.getD j.toNat 0) = s at *
    have hs0 : 0 ≤ s := by omega
    rw [and_mask hs0, shr_div hs0]
    refine ⟨us.set (at_ + j.toNat) (s % 2 ^ w), s / 2 ^ w, _, _, rfl, by rw [List.map_set], by simp [hu], du.set (Int.emod_nonneg _ (by omega)) (Int.emod_lt_of_pos _ hpos) _, Int.ediv_nonneg hs0 (by omega), ?_, ?_, ?_⟩
    · have : s / 2 ^ w < 2 := Int.ediv_lt_of_lt_mul hpos (by omega)
      omega
    · rw [List.drop_set_of_lt (by first | exact hjm | exact Nat.lt_succ_self _)]; exact hud
    · rw [e1, ← Nat.add_assoc, row_step hjn, val_take_succ', Int.mul_add, ← Int.mul_assoc, ← Int.pow_add, ← hs]
      have : (2 ^ w : Int) ^ (at_ + j.toNat) * (c + (us.getD (at_ + j.toNat) 0 + ds.getD j.toNat 0) - us.getD (at_ + j.toNat) 0) = (2 ^ w : Int) ^ (at_ + j.toNat) * c + (2 ^ w) ^ (at_ + j.toNat) * ds.getD j.toNat 0 := by
        rw [← Int.mul_add]; congr 1; omega
      rw [this]
      omega
  · rintro ρ₁ σ₁ ⟨us, c, t1, t2, rfl, rfl, hu, du, hc0, hc1, hud, huv⟩
    repeat' tb_start
    have ekj : ((at_ : Int) + (ds.length : Int)).toNat = at_ + ds.length := rfl
    rw [ekj]
    have hz := du.getD hpos (at_ + ds.length)
    rw [Int.toNat_natCast, List.take_length] at huv
    rw [and_mask (by omega)]
    have hrow := row_step (B := 2 ^ w) (s := us.getD (at_ + ds.length) 0 + c) (zs := us) (i := at_ + ds.length) (by omega)
    have hsub : us.getD (at_ + ds.length) 0 + c - us.getD (at_ + ds.length) 0 = c := by omega
    rw [hsub, huv] at hrow
    have hf0 : 0 ≤ (us.getD (at_ + ds.length) 0 + c) / 2 ^ w := Int.ediv_nonneg (by omega) (by omega)
    have hf1 : (us.getD (at_ + ds.length) 0 + c) / 2 ^ w < 2 := Int.ediv_lt_of_lt_mul hpos (by omega)
    have dv : Dig (2 ^ w) (us.set (at_ + ds.length) ((us.getD (at_ + ds.length) 0 + c) % 2 ^ w)) := du.set (Int.emod_nonneg _ (by omega)) (Int.emod_lt_of_pos _ hpos) _
    have h1 := val_lt_of_drop hB dv dz (m := at_ + ds.length + 1) (by simp [hu, hzl]) (by omega) (by rw [hzv]; exact hR1) (by rw [List.drop_set_of_lt (by first | exact hjm | exact Nat.lt_succ_self _)]; exact hud)
    generalize (us.getD (at_ + ds.length) 0 + c) / 2 ^ w = f at *
    have hf : f = 1 := by
      have : f = 0 ∨ f = 1 := by omega
      rcases this with rfl | rfl
      · rw [Int.mul_zero] at hrow; omega
      · rfl
    subst hf
    rw [Int.mul_one] at hrow
    refine ⟨.inr ⟨rfl, rfl⟩, ?_⟩
    rw [← List.map_set]
    congr 3
    exact padL_of hpos dv (by simp [hu]) (by rw [hR']; omega)
theorem divide_rows_ok {W : Wd} (G : Good W) (m w : Nat) (hw : 1 ≤ w) (hw8 : w ≤ 8) (len : Nat) (R : Int) (ds : List Int) (D : Int) (hD : val (2 ^ w) ds = D) (hR0 : 0 ≤ R) (hsz : 2 ≤ ds.length) (hlen : ds.length < len) (hlen2 : len ≤ 1000)
    (hR1 : R < (2 ^ w) ^ (len - ds.length) * D) (dd : Dig (2 ^ w) ds) (htop : 0 < ds.getD (ds.length - 1) 0) :
    CallOkM W (m + 2) (W.fn "divide_rows") ((padL (2 ^ w) len R).map V.int) [Li ds, .int w] (Li (padL (2 ^ w) (len - ds.length) (R / D))) ((padL (2 ^ w) len (R % D)).map V.int) := by
  have hB := pow_ge2 hw
  have hpos : (0 : Int) < 2 ^ w := by omega
  have h256 := pow_le256 hw8
  refine CallOkM.of (G.defs _ (List.mem_of_getElem? (i := 26) rfl)) ["size", "quotient", "at", "limb"] ["len", "range", "guessed_limb", "take_away", "put_back"] (fun a => [("rest", .hdl a), ("b", Li ds), ("w", .int w), ("size", .unb), ("quotient", .unb), ("at", .unb), ("limb", .unb)]) rfl (by decide) rfl (fun vals hv pm cd doc => ?_) (fun C hW hn a hX hg he => ?_)
  · obtain ⟨_, _, _, rfl⟩ := len3 hv
    rfl
  subst hW
  clear he
  dsimp only
  have f1 : Fn C.W "guessed_limb" := (G.defs _ (List.mem_of_getElem? (i := 23) rfl)).fn
  have f2 : Fn C.W "take_away" := (G.defs _ (List.mem_of_getElem? (i := 24) rfl)).fn
  have f3 : Fn C.W "put_back" := (G.defs _ (List.mem_of_getElem? (i := 25) rfl)).fn
  have hplen := padL_len (2 ^ w) len R
  iterate 7 tb_start
  refine SS_assign (EE_mulH ?_)
  repeat' tb_start
  rw [hplen]
  refine ⟨_, rfl, by omega, by omega, fun r hr => ?_⟩
  have hra : r ≠ a := fun q => hr (by rw [q]; simp [keysOf])
  repeat' tb_start
  refine SS_down ?_
  repeat' tb_start
  rw [hplen]
  have hDlt : D < (2 ^ w) ^ ds.length := by rw [← hD]; exact val_lt hpos dd
  have hD0 : 0 < D := by
    have := val_nonneg hpos (dd.take (ds.length - 1))
    have h := val_split (2 ^ w) ds (ds.length - 1) (by omega)
    rw [val_drop _ (show ds.length - 1 < ds.length by omega), List.drop_of_length_le (by omega)] at h
    simp only [val, Int.mul_zero, Int.add_zero] at h
    have := Int.mul_pos (pow_pos' hpos (ds.length - 1)) htop
    omega
  refine ⟨rfl, by decide, by omega, by omega, fun k ρ σ => 0 ≤ k ∧ k ≤ len - ds.length ∧ ∃ (zs : List Int) (t1 t2 : V), IsL ρ [("rest", .hdl a), ("b", Li ds), ("w", .int w), ("size", .int ds.length), ("quotient", .hdl r), ("at", t1), ("limb", t2)] ∧
    σ = [(r, zs.map V.int), (a, (padL (2 ^ w) len (R % ((2 ^ w) ^ k.toNat * D))).map V.int)] ∧ zs.length = len - ds.length ∧ Dig (2 ^ w) zs ∧ val (2 ^ w) (zs.drop k.toNat) = R / ((2 ^ w) ^ k.toNat * D), ⟨by omega, by omega, List.replicate (len - ds.length) 0, _, _, rfl, ?_, by simp, Dig.replicate hpos _, ?_⟩, ?_, ?_⟩
  · have e1 : ((len : Int) - (ds.length : Int) - 1 + 1).toNat = len - ds.length := ix0 hlen
    rw [e1, Int.emod_eq_of_lt hR0 hR1]
    have e2 : ((len : Int) - (ds.length : Int)).toNat = len - ds.length := Int.toNat_sub _ _
    simp [e2]
  · have e1 : ((len : Int) - (ds.length : Int) - 1 + 1).toNat = len - ds.length := ix0 hlen
    rw [e1, Int.ediv_eq_zero_of_lt hR0 hR1, List.drop_of_length_le (by simp)]
    rfl
  · rintro k h0 h1 ρ₁ σ₁ ⟨g0, g1, zs, t1, t2, rfl, rfl, hz, dz, hval⟩
    have e1 : (k + 1).toNat = k.toNat + 1 := tn1 (by first | assumption | omega)
    rw [e1] at hval ⊢
    have hXe : (2 ^ w : Int) ^ (k.toNat + 1) * D = 2 ^ w * ((2 ^ w) ^ k.toNat * D) := by rw [Int.pow_succ, Int.mul_comm (_ ^ _) (2 ^ w), Int.mul_assoc]
    have hkl : k.toNat + ds.length + 1 ≤ len := ix5 h0 g1
    have hkz : k < (zs.length : Int) := ix3 hz hlen g1
    have hz6 : zs.length ≤ 1000000 := len_sub hz hlen2
    have hd6 : ds.length ≤ 1000 := Nat.le_trans (Nat.le_of_lt hlen) hlen2
    rw [hXe] at hval ⊢
    have hX0 : 0 < (2 ^ w : Int) ^ k.toNat * D := Int.mul_pos (pow_pos' hpos _) hD0
    obtain ⟨q1, q2⟩ := quo_step (R := R) hX0 hpos
    have hBX : 0 < 2 ^ w * ((2 ^ w : Int) ^ k.toNat * D) := Int.mul_pos hpos hX0
    have r0 := Int.emod_nonneg R (show 2 ^ w * ((2 ^ w : Int) ^ k.toNat * D) ≠ 0 by omega)
    have r1 := Int.emod_lt_of_pos R hBX
    generalize hR1' : R % (2 ^ w * ((2 ^ w) ^ k.toNat * D)) = R1 at *
    have hxk : (2 ^ w : Int) ^ k.toNat * D < (2 ^ w) ^ (k.toNat + ds.length) := by rw [Int.pow_add]; exact Int.mul_lt_mul_of_pos_left hDlt (pow_pos' hpos _)
    have r2 : R1 < (2 ^ w) ^ (k.toNat + ds.length + 1) := by
      have := Int.mul_lt_mul_of_pos_left hxk hpos
      rw [Int.pow_succ, Int.mul_comm _ (2 ^ w)]
      omega
    have hzl := padL_len (2 ^ w) len R1
    have dzR := padL_dig hpos len R1
    have hzv := padL_val hpos len R1 r0 (Int.lt_of_lt_of_le r2 (pow_mono hB hkl))
    have t3 := top3 (p := k.toNat + ds.length - 2) hB dzR (by rw [hzl]; exact ix7 hsz hkl) hzv (by rw [ix6 hsz]; exact r2)
    have tl := take_lt hpos dzR (p := k.toNat + ds.length - 2) (by rw [hzl]; exact ix8 hkl)
    have tt2 := top2 (B := 2 ^ w) (p := ds.length - 2) (us := ds) (by omega)
    have tl2 := take_lt hpos dd (p := ds.length - 2) (by omega)
    have hfd := dd.getD hpos (ds.length - 1)
    have hsd := dd.getD hpos (ds.length - 2)
    have a0 := dzR.getD hpos (k.toNat + ds.length - 2)
    have a1 := dzR.getD hpos (k.toNat + ds.length - 2 + 1)
    have a2 := dzR.getD hpos (k.toNat + ds.length - 2 + 2)
    repeat' tb_start
    have ek2 : (k + (ds.length : Int) - 2).toNat = k.toNat + ds.length - 2 := ix1 h0 hsz
    have ek1 : (k + (ds.length : Int) + 1).toNat = k.toNat + ds.length - 2 + 3 := ix2 h0 hsz
    have es1 : ((ds.length : Int) - 1).toNat = ds.length - 1 := Int.toNat_sub ds.length 1
    have es2 : ((ds.length : Int) - 2).toNat = ds.length - 2 := Int.toNat_sub ds.length 2
    rw [ek1, ek2, es1, es2, Nat.add_sub_cancel_left]
    refine CL.mk (guessed_limb_ok G (m := m) w hw hw8 _ _ _ _ _ _ (by simp [hzl]; exact ix4 hsz hkl) (getD_cut _ _ 0 (by decide)) (getD_cut _ _ 1 (by decide)) (getD_cut _ _ 2 (by decide)) a0.1 a0.2 a1.1 a1.2 a2.1 a2.2 htop hfd.2 hsd.1 hsd.2) (by ktr_room) ?_
    rw [Nat.add_zero]
    rw [ix9 hsz] at tt2
    have hkp : k.toNat + ds.length - 2 = k.toNat + (ds.length - 2) := Nat.add_sub_assoc hsz _
    have hXe2 : (2 ^ w : Int) ^ k.toNat * D = (2 ^ w) ^ k.toNat * val (2 ^ w) (ds.take (ds.length - 2)) + (2 ^ w) ^ (k.toNat + ds.length - 2) * (ds.getD (ds.length - 1) 0 * 2 ^ w + ds.getD (ds.length - 2) 0) := by
      rw [hkp, Int.pow_add, Int.mul_assoc, ← Int.mul_add, ← tt2, hD]
    obtain ⟨kn1, kn2, _⟩ := knuth (B := 2 ^ w) hB (pow_pos' hpos (k.toNat + ds.length - 2)) t3 tl.1 tl.2 hXe2
      (Int.mul_nonneg (Int.le_of_lt (pow_pos' hpos _)) tl2.1)
      (by rw [hkp, Int.pow_add]; exact Int.mul_lt_mul_of_pos_left tl2.2 (pow_pos' hpos _))
      (by have := Int.mul_le_mul_of_nonneg_right (show 1 ≤ ds.getD (ds.length - 1) 0 by omega) (show (0 : Int) ≤ 2 ^ w by omega); omega) r1 r0 rfl
    have hlbB : min (((((padL (2 ^ w) len R1).getD (k.toNat + ds.length - 2 + 2) 0 * 2 ^ w + (padL (2 ^ w) len R1).getD (k.toNat + ds.length - 2 + 1) 0) * 2 ^ w + (padL (2 ^ w) len R1).getD (k.toNat + ds.length - 2) 0)) / (ds.getD (ds.length - 1) 0 * 2 ^ w + ds.getD (ds.length - 2) 0)) (2 ^ w - 1) < (2 : Int) ^ w := by omega
    generalize min (((((padL (2 ^ w) len R1).getD (k.toNat + ds.length - 2 + 2) 0 * 2 ^ w + (padL (2 ^ w) len R1).getD (k.toNat + ds.length - 2 + 1) 0) * 2 ^ w + (padL (2 ^ w) len R1).getD (k.toNat + ds.length - 2) 0)) / (ds.getD (ds.length - 1) 0 * 2 ^ w + ds.getD (ds.length - 2) 0)) (2 ^ w - 1) = lb at *
    clear t3 tl a0 a1 a2 dzR hzv hzl tl2 tt2 hXe2
    have qn : 0 ≤ R1 / ((2 ^ w) ^ k.toNat * D) := Int.ediv_nonneg r0 (by omega)
    have qB : R1 / ((2 ^ w) ^ k.toNat * D) < 2 ^ w := Int.ediv_lt_of_lt_mul hX0 r1
    have md1 := Int.mul_ediv_add_emod R1 ((2 ^ w) ^ k.toNat * D)
    have md2 := Int.emod_nonneg R1 (show (2 ^ w : Int) ^ k.toNat * D ≠ 0 by omega)
    have md3 := Int.emod_lt_of_pos R1 hX0
    have hlX : (2 ^ w : Int) ^ k.toNat * (lb * D) = (2 ^ w) ^ k.toNat * D * lb := by rw [Int.mul_comm lb, Int.mul_assoc]
    have hdrop : ∀ q : Int, zs.set k.toNat q = zs.set k.toNat q := fun _ => rfl
    have hpm : (2 ^ w : Int) ^ (k.toNat + ds.length) ≤ (2 ^ w) ^ (k.toNat + ds.length + 1) := pow_mono hB (Nat.le_succ _)
    have ekn : ((k.toNat : Nat) : Int) = k := Int.toNat_of_nonneg h0
    have fin : ∀ q : Int, q = R1 / ((2 ^ w) ^ k.toNat * D) → val (2 ^ w) ((zs.set k.toNat q).drop k.toNat) = R / ((2 ^ w) ^ k.toNat * D) := by
      rintro q rfl
      rw [val_drop _ (by simp; omega), getD_set (by omega), if_pos rfl, List.drop_set_of_lt (by omega), hval, q1]
    by_cases hlt : R1 < (2 ^ w) ^ k.toNat * (lb * D)
    · have hlb : lb = R1 / ((2 ^ w) ^ k.toNat * D) + 1 := by
        rcases Int.lt_or_le (R1 / ((2 ^ w) ^ k.toNat * D)) lb with h | h
        · omega
        · have h2 : lb = R1 / ((2 ^ w) ^ k.toNat * D) := by omega
          rw [hlX, h2] at hlt
          omega
      have hXl : (2 ^ w : Int) ^ k.toNat * D * lb = (2 ^ w) ^ k.toNat * D * (R1 / ((2 ^ w) ^ k.toNat * D)) + (2 ^ w) ^ k.toNat * D := by rw [hlb, Int.mul_add, Int.mul_one]
      have ta := take_away_ok G m w hw hw8 len k.toNat R1 lb ds r0 r2 (by omega) hlen2 (by omega) hlbB dd 1 (R1 - (2 ^ w) ^ k.toNat * D * lb + (2 ^ w) ^ (k.toNat + ds.length + 1)) (by rw [hD, if_pos hlt]) (by rw [hD, hlX, Int.mul_one])
      have pb := put_back_ok G m w hw hw8 len k.toNat (R1 - (2 ^ w) ^ k.toNat * D * lb + (2 ^ w) ^ (k.toNat + ds.length + 1)) ds (by omega) (by rw [hlX] at hlt; omega) (by omega) hlen2 dd (by rw [hD]; omega) (R % ((2 ^ w) ^ k.toNat * D)) (by rw [hD, q2]; omega)
      rw [ekn] at ta pb
      repeat' tb_start
      · refine CLM.mk ta (by nest_fact) (by ktr_room) ?_
        repeat' tb_start
        · refine CLM.mk pb (by nest_fact) (by ktr_room) ?_
          repeat' tb_start
          exact ⟨zs.set k.toNat (lb - 1), _, _, rfl, by rw [List.map_set], by simp [hz], dz.set (by omega) (by omega) _, fin _ (by omega)⟩
        · rename_i h; exact absurd rfl h
    · have hlb : lb = R1 / ((2 ^ w) ^ k.toNat * D) := by
        rcases Int.lt_or_le (R1 / ((2 ^ w) ^ k.toNat * D)) lb with h | h
        · have h2 : lb = R1 / ((2 ^ w) ^ k.toNat * D) + 1 := by omega
          rw [hlX, h2, Int.mul_add, Int.mul_one] at hlt
          omega
        · omega
      have ta := take_away_ok G m w hw hw8 len k.toNat R1 lb ds r0 r2 (by omega) hlen2 (by omega) hlbB dd 0 (R % ((2 ^ w) ^ k.toNat * D)) (by rw [hD, if_neg hlt]) (by rw [hD, hlX, q2, hlb]; omega)
      rw [ekn] at ta
      repeat' tb_start
      · refine CLM.mk ta (by nest_fact) (by ktr_room) ?_
        repeat' tb_start
        · rename_i h; cases h
        · exact ⟨zs.set k.toNat lb, _, _, rfl, by rw [List.map_set], by simp [hz], dz.set (by omega) (by omega) _, fin _ hlb⟩
  · rintro ρ₁ σ₁ ⟨g0, g1, zs, t1, t2, rfl, rfl, hz, dz, hval⟩
    refine SS_frzN (by rw [hX]; simp [hra]) (by ktr_unf) ?_
    have e0 : (0 : Int).toNat = 0 := rfl
    rw [e0, Int.pow_zero, Int.one_mul] at hval ⊢
    rw [List.drop_zero] at hval
    repeat' tb_start
    refine ⟨.inl ?_, rfl⟩
    rw [padL_of hpos dz hz hval]
theorem bits_lt {t : Int} (ht : 0 < t) : t < 2 ^ Builtin.Int.intBits t ∧ 1 ≤ Builtin.Int.intBits t ∧ ∀ m : Nat, t < 2 ^ m → Builtin.Int.intBits t ≤ m := by
  obtain ⟨n, rfl⟩ := Int.eq_ofNat_of_zero_le (Int.le_of_lt ht)
  have hn : n ≠ 0 := by omega
  have e : Builtin.Int.intBits (n : Int) = n.log2 + 1 := by
    unfold Builtin.Int.intBits
    rw [if_neg (by simp [hn])]
    rfl
  rw [e]
  refine ⟨?_, by omega, fun m hm => ?_⟩
  · rw [pow_cast]; exact Int.ofNat_lt.mpr Nat.lt_log2_self
  · rw [pow_cast] at hm
    exact (Nat.log2_lt hn).mpr (Int.ofNat_lt.mp hm)
theorem lim_len_pow {B n : Int} (hB : 2 ≤ B) (hn : 0 ≤ n) {k : Nat} (h : n < B ^ k) : (lim B n).length ≤ k := by
  rcases Nat.lt_or_ge k (lim B n).length with q | q
  · have h1 := val_ge (show 0 < B by omega) (lim_dig hB hn) (lim_canon hB hn) (fun z => by rw [z] at q; simp at q)
    rw [lim_val hB hn] at h1
    have := pow_mono hB (show k ≤ (lim B n).length - 1 by omega)
    omega
  · exact q
theorem lim_lt_pow {B n : Int} (hB : 2 ≤ B) (hn : 0 ≤ n) : n < B ^ (lim B n).length := by
  have := val_lt (show 0 < B by omega) (lim_dig hB hn)
  rw [lim_val hB hn] at this
  exact this
theorem lim_ge_pow {B n : Int} (hB : 2 ≤ B) (hn : 0 < n) : B ^ ((lim B n).length - 1) ≤ n := by
  have := val_ge (show 0 < B by omega) (lim_dig hB (Int.le_of_lt hn)) (lim_canon hB (Int.le_of_lt hn)) (lim_ne hB hn)
  rw [lim_val hB (Int.le_of_lt hn)] at this
  exact this
theorem lim_top {B n : Int} (hB : 2 ≤ B) (hn : 0 < n) : 0 < (lim B n).getD ((lim B n).length - 1) 0 ∧ n < ((lim B n).getD ((lim B n).length - 1) 0 + 1) * B ^ ((lim B n).length - 1) := by
  have hp : 0 < B := by omega
  have d := lim_dig hB (Int.le_of_lt hn)
  have c := lim_canon hB (Int.le_of_lt hn)
  have ne := lim_ne hB hn
  have v := lim_val hB (Int.le_of_lt hn)
  have ge := lim_ge_pow hB hn
  generalize lim B n = xs at *
  have hl : 0 < xs.length := List.length_pos_iff.mpr ne
  have hs := val_split B xs (xs.length - 1) (by omega)
  rw [val_drop B (show xs.length - 1 < xs.length by omega), List.drop_of_length_le (by omega)] at hs
  simp only [val, Int.mul_zero, Int.add_zero] at hs
  have tl := take_lt hp d (p := xs.length - 1) (by omega)
  have dg := d.getD hp (xs.length - 1)
  refine ⟨?_, ?_⟩
  · rcases Int.lt_or_le 0 (xs.getD (xs.length - 1) 0) with h | h
    · exact h
    · have : xs.getD (xs.length - 1) 0 = 0 := by omega
      rw [this, Int.mul_zero] at hs
      omega
  · rw [Int.add_mul, Int.one_mul, Int.mul_comm]
    omega
theorem divrem_school_ok {W : Wd} (G : Good W) (m w : Nat) (hw : 1 ≤ w) (hw8 : w ≤ 8) : DivOk W (m + 4) w (W.fn "divrem_school") := by
  intro a b ha hb hla hlb
  have hB := pow_ge2 hw
  have hpos : (0 : Int) < 2 ^ w := by omega
  have h256 := pow_le256 hw8
  have hbn := lim_ne hB hb
  have hbl := List.length_pos_iff.mpr hbn
  refine CallOk.of (G.defs _ (List.mem_of_getElem? (i := 27) rfl)) ["shift", "divisor", "rest", "quotient"] ["len", "DivisionByZero", "compare", "divrem_small", "bits", "shift_left", "divide_rows", "normal", "shift_right"] [("a", Li (lim (2 ^ w) a)), ("b", Li (lim (2 ^ w) b)), ("w", .int w), ("shift", .unb), ("divisor", .unb), ("rest", .unb), ("quotient", .unb)] rfl (by decide) rfl (fun vals hv pm cd doc => ?_) (fun C hW hn hX hg he => ?_)
  · obtain ⟨_, _, _, rfl⟩ := len3 hv
    rfl
  subst hW
  clear he
  dsimp only
  have f1 : Fn C.W "compare" := (G.defs _ (List.mem_of_getElem? (i := 1) rfl)).fn
  have f2 : Fn C.W "divrem_small" := (G.defs _ (List.mem_of_getElem? (i := 22) rfl)).fn
  have f3 : Fn C.W "bits" := (G.defs _ (List.mem_of_getElem? (i := 8) rfl)).fn
  have f4 : Fn C.W "shift_left" := (G.defs _ (List.mem_of_getElem? (i := 6) rfl)).fn
  have f5 : Fn C.W "divide_rows" := (G.defs _ (List.mem_of_getElem? (i := 26) rfl)).fn
  have f6 : Fn C.W "normal" := (G.defs _ (List.mem_of_getElem? (i := 0) rfl)).fn
  have f7 : Fn C.W "shift_right" := (G.defs _ (List.mem_of_getElem? (i := 7) rfl)).fn
  repeat' tb_start
  · exfalso; omega
  refine CL.mk (compare_ok G m (2 ^ w) hB a b ha (by omega) (by omega) (by omega)) (by ktr_room) ?_
  repeat' tb_start
  · rename_i hc
    have hab : a < b := by unfold cmpI at hc; split at hc <;> first | omega | (split at hc <;> omega)
    rw [Int.ediv_eq_zero_of_lt ha hab, Int.emod_eq_of_lt ha hab]
    exact RQ_same
  · rename_i hc h1
    have hlt := lim_lt_pow hB (show 0 ≤ b by omega)
    have h1' : (lim (2 ^ w) b).length = 1 := by omega
    rw [h1', Int.pow_one] at hlt
    have hbe : lim (2 ^ w) b = [b] := (lim_of hB (Dig.cons (by omega) hlt Dig.nil) (by simp [Canon]; omega) (by simp [val])).symm
    have hds := divrem_small_ok G m w hw hw8 a b ha hb hlt (by omega)
    rw [← hbe] at hds
    refine CL.mk hds (by ktr_room) ?_
    repeat' tb_start
  · rename_i hc h1
    have hab : b ≤ a := by unfold cmpI at hc; split at hc <;> first | omega | (split at hc <;> omega)
    have htop := lim_top hB hb
    have hbg := lim_ge_pow hB hb
    have hblt := lim_lt_pow hB (show 0 ≤ b by omega)
    have halt := lim_lt_pow hB ha
    have hdg := (lim_dig hB (show 0 ≤ b by omega)).getD hpos ((lim (2 ^ w) b).length - 1)
    generalize ht : (lim (2 ^ w) b).getD ((lim (2 ^ w) b).length - 1) 0 = t at *
    obtain ⟨b1, b2, b3⟩ := bits_lt htop.1
    have b4 := b3 w hdg.2
    have hlab : (lim (2 ^ w) b).length ≤ (lim (2 ^ w) a).length := by
      rcases Nat.lt_or_ge (lim (2 ^ w) a).length (lim (2 ^ w) b).length with q | q
      · have := pow_mono hB (show (lim (2 ^ w) a).length ≤ (lim (2 ^ w) b).length - 1 by omega)
        omega
      · exact q
    refine CL.mk (bits_ok G m w t) (by ktr_room) ?_
    repeat' tb_start
    have en : (w : Int) - ((Builtin.Int.intBits t : Nat) : Int) = ((w - Builtin.Int.intBits t : Nat) : Int) := by omega
    rw [en]
    obtain ⟨n, hnn⟩ : ∃ n, w - Builtin.Int.intBits t = n := ⟨_, rfl⟩
    have hnb : n + Builtin.Int.intBits t = w := by omega
    rw [hnn]
    have hp2 : (0 : Int) < 2 ^ n := Int.pow_pos (by decide)
    have hn2 : (2 : Int) ^ n ≤ 2 ^ w := pow_mono (B := 2) (by decide) (by omega)
    have hDl : (lim (2 ^ w) (b * 2 ^ n)).length = (lim (2 ^ w) b).length := by
      have u1 : b * 2 ^ n < (2 ^ w) ^ (lim (2 ^ w) b).length := by
        have h2 : b < 2 ^ Builtin.Int.intBits t * (2 ^ w) ^ ((lim (2 ^ w) b).length - 1) := Int.lt_of_lt_of_le htop.2 (Int.mul_le_mul_of_nonneg_right (by omega) (Int.le_of_lt (pow_pos' hpos _)))
        have h3 := Int.mul_lt_mul_of_pos_right h2 hp2
        have h4 : (2 : Int) ^ Builtin.Int.intBits t * (2 ^ w) ^ ((lim (2 ^ w) b).length - 1) * 2 ^ n = (2 ^ w) ^ (lim (2 ^ w) b).length := by
          rw [Int.mul_comm, ← Int.mul_assoc, ← Int.pow_add, hnb, ← Int.pow_succ', Nat.sub_add_cancel hbl]
        rwa [h4] at h3
      have u2 : b ≤ b * 2 ^ n := by
        have := Int.mul_le_mul_of_nonneg_left (show (1 : Int) ≤ 2 ^ n by omega) (show 0 ≤ b by omega)
        omega
      have u3 := lim_len_pow hB (show 0 ≤ b * 2 ^ n by omega) u1
      have u4 := lim_lt_pow hB (show 0 ≤ b * 2 ^ n by omega)
      rcases Nat.lt_or_ge (lim (2 ^ w) (b * 2 ^ n)).length (lim (2 ^ w) b).length with q | q
      · have := pow_mono hB (show (lim (2 ^ w) (b * 2 ^ n)).length ≤ (lim (2 ^ w) b).length - 1 by omega)
        omega
      · omega
    have hb2 : 0 < b * 2 ^ n := Int.mul_pos hb hp2
    have ha2 : 0 ≤ a * 2 ^ n := Int.mul_nonneg ha (by omega)
    have haB : a * 2 ^ n < (2 ^ w) ^ ((lim (2 ^ w) a).length + 1) := by
      rw [Int.pow_succ]
      exact Int.lt_of_lt_of_le (Int.mul_lt_mul_of_pos_right halt hp2) (Int.mul_le_mul_of_nonneg_left hn2 (by omega))
    have hla2 := lim_len_pow hB ha2 haB
    refine CL.mk (shift_left_ok G m w n hw hw8 (by omega) b (by omega) (by omega)) (by ktr_room) ?_
    repeat' tb_start
    refine CL.mk (shift_left_ok G m w n hw hw8 (by omega) a (by omega) (by omega)) (by ktr_room) ?_
    iterate 1 tb_start
    refine SS_assign (EE_bin ?_)
    iterate 1 tb_start
    refine EE_mulF ?_
    repeat' tb_start
    refine ⟨_, rfl, by omega, by omega, ?_⟩
    refine OP_catH (.li _) (.li _) (by simp; omega) fun r hr => ?_
    have hpad : (List.map V.int (lim (2 ^ w) (a * 2 ^ n)) ++ List.replicate (((lim (2 ^ w) a).length : Int) + 1 - ((lim (2 ^ w) (a * 2 ^ n)).length : Int)).toNat (V.int 0)) = (padL (2 ^ w) ((lim (2 ^ w) a).length + 1) (a * 2 ^ n)).map V.int := by
      rw [← padL_of (xs := lim (2 ^ w) (a * 2 ^ n) ++ List.replicate (((lim (2 ^ w) a).length : Int) + 1 - ((lim (2 ^ w) (a * 2 ^ n)).length : Int)).toNat 0) hpos ((lim_dig hB ha2).append (Dig.replicate hpos _)) (by simp; omega) (by rw [val_append, val_replicate, Int.mul_zero, Int.add_zero, lim_val hB ha2])]
      simp
    rw [hpad]
    have hRD : a * 2 ^ n / (b * 2 ^ n) = a / b := Int.mul_ediv_mul_of_pos_left a b hp2
    have hRm : a * 2 ^ n % (b * 2 ^ n) = a % b * 2 ^ n := by rw [Int.mul_comm a, Int.mul_comm b, Int.mul_emod_mul_of_pos _ _ hp2, Int.mul_comm]
    have hpl := padL_len (2 ^ w) ((lim (2 ^ w) a).length + 1)
    have top2' := lim_top hB hb2
    rw [hDl] at top2'
    have hRlt : a * 2 ^ n < (2 ^ w) ^ ((lim (2 ^ w) a).length + 1 - (lim (2 ^ w) (b * 2 ^ n)).length) * (b * 2 ^ n) := by
      rw [hDl, ← Int.mul_assoc]
      refine Int.mul_lt_mul_of_pos_right ?_ hp2
      refine Int.lt_of_lt_of_le halt ?_
      have h5 : (2 ^ w : Int) ^ (lim (2 ^ w) a).length = (2 ^ w) ^ ((lim (2 ^ w) a).length + 1 - (lim (2 ^ w) b).length) * (2 ^ w) ^ ((lim (2 ^ w) b).length - 1) := by
        rw [← Int.pow_add]; congr 1; omega
      rw [h5]
      exact Int.mul_le_mul_of_nonneg_left hbg (Int.le_of_lt (pow_pos' hpos _))
    have hdr := divide_rows_ok G m w hw hw8 ((lim (2 ^ w) a).length + 1) (a * 2 ^ n) (lim (2 ^ w) (b * 2 ^ n)) (b * 2 ^ n) (lim_val hB (by omega)) ha2 (by omega) (by omega) (by omega) hRlt (lim_dig hB (by omega)) (by rw [hDl]; exact top2'.1)
    rw [hRD, hRm] at hdr
    repeat' tb_start
    refine CLM.mk hdr (by nest_fact) (by ktr_room) ?_
    iterate 1 tb_start
    refine SS_frz hX (by ktr_unf) ?_
    repeat' tb_start
    refine CL.mk (normal_ok G m _ (by rw [padL_len]; omega)) (by ktr_room) ?_
    have hq0 : 0 ≤ a / b := Int.ediv_nonneg ha (by omega)
    have hqlt : a / b < (2 ^ w) ^ ((lim (2 ^ w) a).length + 1 - (lim (2 ^ w) (b * 2 ^ n)).length) := by
      rw [← hRD]; exact Int.ediv_lt_of_lt_mul hb2 hRlt
    rw [nrm_lim hB (padL_dig hpos _ _) (padL_val hpos _ _ hq0 hqlt)]
    repeat' tb_start
    refine CL.mk (normal_ok G m _ (by rw [padL_len]; omega)) (by ktr_room) ?_
    have hm0 := Int.emod_nonneg a (show b ≠ 0 by omega)
    have hm1 := Int.emod_lt_of_pos a hb
    have hm2 : 0 ≤ a % b * 2 ^ n := Int.mul_nonneg hm0 (by omega)
    have hm3 : a % b * 2 ^ n < (2 ^ w) ^ ((lim (2 ^ w) a).length + 1) := Int.lt_of_le_of_lt (Int.mul_le_mul_of_nonneg_right (show a % b ≤ a by omega) (by omega)) haB
    have hm4 := lim_len_pow hB hm2 hm3
    rw [nrm_lim hB (padL_dig hpos _ _) (padL_val hpos _ _ hm2 hm3)]
    repeat' tb_start
    have hsr := shift_right_ok G m w n hw hw8 (by omega) (a % b * 2 ^ n) hm2 (by omega)
    rw [Int.mul_ediv_cancel _ (by omega)] at hsr
    refine CL.mk hsr (by ktr_room) ?_
    repeat' tb_start
/-- what is plucked -/
def pluck (xs : List Int) (k many : Int) : Int := (if k + 1 ≤ xs.length then xs.getD k.toNat 0 else 7 * (k + 1) + (k + 1) / 2 + 5) % many
theorem law_plucked_ok {W : Wd} (G : Good W) (m : Nat) (xs : List Int) (k many : Int) (hl : xs.length ≤ 1000) (hk0 : 0 ≤ k) (hk1 : k ≤ 1000) (hm : 0 < many) :
    CallOkM W (m + 1) (W.fn "_law_plucked") [.int k, Li xs] [.int many] (.int (pluck xs k many)) [.int (k + 1), Li xs] := by
  refine CallOkM.of (G.defs _ (List.mem_of_getElem? (i := 28) rfl)) [] ["len"] (fun a => [("string", .hdl a), ("many", .int many)]) rfl (by decide) rfl (fun vals hv pm cd doc => ?_) (fun C hW hn a hX hg he => ?_)
  · obtain ⟨_, _, rfl⟩ := len2 hv
    rfl
  subst hW
  clear he
  dsimp only
  repeat' tb_start
  rw [show [V.int k, Li xs].set (Int.toNat 0) (V.int (k + 1)) = [V.int (k + 1), Li xs] from rfl]
  repeat' tb_start
  · rename_i h
    refine ⟨.inl ?_, rfl⟩
    have e : (k + 1 - 1).toNat = k.toNat := pred_add
    rw [Int.fmod_eq_emod_of_nonneg _ (by omega), e, pluck, if_pos h]
  · rename_i h
    refine ⟨.inl ?_, rfl⟩
    rw [Int.fmod_eq_emod_of_nonneg _ (by omega), Int.fdiv_eq_ediv_of_nonneg _ (by omega), pluck, if_neg h]
theorem law_limbs_ok {W : Wd} (G : Good W) (m w : Nat) (hw : 1 ≤ w) (hw8 : w ≤ 8) (N : Int) (hN : 0 ≤ N) (hN1 : N ≤ 1000) :
    CallOk W (m + 1) (W.fn "_law_limbs") [.int N, .int w] (Li (lim (2 ^ w) N)) := by
  have hB := pow_ge2 hw
  have hpos : (0 : Int) < 2 ^ w := by omega
  have h256 := pow_le256 hw8
  have hbits : ((Builtin.Int.intBits 2 : Nat) : Int) * (w : Int) ≤ 2 ^ 27 := by
    have : Builtin.Int.intBits 2 = 2 := by decide
    rw [this]; omega
  have hpw : (2 : Int) ^ ((w : Int)).toNat = 2 ^ w := by rw [Int.toNat_natCast]
  refine CallOk.of (G.defs _ (List.mem_of_getElem? (i := 29) rfl)) ["found"] [] [("number", .int N), ("w", .int w), ("found", .unb)] rfl (by decide) rfl (fun vals hv pm cd doc => ?_) (fun C hW hn hX hg he => ?_)
  · obtain ⟨_, _, rfl⟩ := len2 hv
    rfl
  subst hW
  clear he
  dsimp only
  refine SS_assign (EE_listH (EA_nil ⟨by decide, fun r hr => ?_⟩))
  repeat' tb_start
  refine SS_wh (fun n ρ σ => ∃ (zs : List Int) (v : Int), IsL ρ [("number", .int v), ("w", .int w), ("found", .hdl r)] ∧ σ = [(r, zs.map V.int)] ∧ n = v.toNat ∧ 0 ≤ v ∧ Dig (2 ^ w) zs ∧ (v = 0 → Canon zs) ∧ val (2 ^ w) zs + (2 ^ w) ^ zs.length * v = N ∧ zs.length + v.toNat ≤ 1000) N.toNat ⟨[], N, rfl, rfl, rfl, hN, Dig.nil, fun _ => by simp [Canon], by simp [val], by simp; omega⟩ ?_
  rintro n ρ₁ σ₁ ⟨zs, v, rfl, rfl, hn, hv0, dz, hc, hval, hlen⟩
  repeat' tb_start
  · rename_i hv
    rw [Int.toNat_natCast, Int.fmod_eq_emod_of_nonneg _ (by omega), Int.fdiv_eq_ediv_of_nonneg _ (by omega)]
    obtain ⟨d0, d1⟩ := div_small hB hv
    have md := Int.mul_ediv_add_emod v (2 ^ w)
    refine ⟨_, ?_, zs ++ [v % 2 ^ w], v / 2 ^ w, rfl, by simp, rfl, d0, dig_snoc hpos dz, fun q => ?_, ?_, ?_⟩
    · rw [hn]; exact (Int.toNat_lt_toNat (Int.lt_of_le_of_lt d0 d1)).mpr d1
    · rw [q, Int.mul_zero] at md
      exact canon_snoc (by omega)
    · rw [val_snoc rfl, List.length_append, List.length_singleton, Int.pow_succ, Int.mul_assoc, Int.add_assoc, ← Int.mul_add, ← hval]
      congr 2
      omega
    · rw [List.length_append]; exact lim_step hlen ((Int.toNat_lt_toNat (Int.lt_of_le_of_lt d0 d1)).mpr d1)
  · rename_i hv
    have hv' : v = 0 := by omega
    subst hv'
    rw [Int.mul_zero, Int.add_zero] at hval
    exact lim_of hB dz (hc rfl) hval
theorem law_signed_ok {W : Wd} (G : Good W) (m w : Nat) (hw : 1 ≤ w) (hw8 : w ≤ 8) (z : Int) (hz : z.natAbs ≤ 1000) :
    CallOk W (m + 2) (W.fn "_law_signed") [.int z, .int w] (sg (2 ^ w) z) := by
  refine CallOk.of (G.defs _ (List.mem_of_getElem? (i := 30) rfl)) [] ["_law_limbs", "abs"] [("number", .int z), ("w", .int w)] rfl (by decide) rfl (fun vals hv pm cd doc => ?_) (fun C hW hn hX hg he => ?_)
  · obtain ⟨_, _, rfl⟩ := len2 hv
    rfl
  subst hW
  clear he
  dsimp only
  have f1 : Fn C.W "_law_limbs" := (G.defs _ (List.mem_of_getElem? (i := 29) rfl)).fn
  have e : (if z < 0 then -z else z) = ((z.natAbs : Nat) : Int) := by split <;> omega
  repeat' tb_start
  rw [e]
  refine CL.mk (law_limbs_ok G m w hw hw8 _ (by omega) (by omega)) (by ktr_room) ?_
  repeat' tb_start
theorem law_worth_ok {W : Wd} (G : Good W) (m w : Nat) (hw : 1 ≤ w) (hw8 : w ≤ 8) (N : Int) (hN : 0 ≤ N) (hN1 : N < 2 ^ 60) :
    CallOk W (m + 1) (W.fn "_law_worth") [Li (lim (2 ^ w) N), .int w] (.int N) := by
  have hB := pow_ge2 hw
  have hpos : (0 : Int) < 2 ^ w := by omega
  have h256 := pow_le256 hw8
  have hbits : ((Builtin.Int.intBits 2 : Nat) : Int) * (w : Int) ≤ 2 ^ 27 := by
    have : Builtin.Int.intBits 2 = 2 := by decide
    rw [this]; omega
  have hpw : (2 : Int) ^ ((w : Int)).toNat = 2 ^ w := by rw [Int.toNat_natCast]
  have hv := lim_val hB hN
  have hd := lim_dig hB hN
  have hl := lim_len hB hN (k := 60) hN1
  generalize lim (2 ^ w) N = xs at *
  refine CallOk.of (G.defs _ (List.mem_of_getElem? (i := 31) rfl)) ["worth", "limb"] [] [("limbs", Li xs), ("w", .int w), ("worth", .unb), ("limb", .unb)] rfl (by decide) rfl (fun vals hv pm cd doc => ?_) (fun C hW hn hX hg he => ?_)
  · obtain ⟨_, _, rfl⟩ := len2 hv
    rfl
  subst hW
  clear he
  dsimp only
  repeat' tb_start
  refine SS_forI (EE_rev ?_)
  repeat' tb_start
  refine ⟨rfl, xs.map V.int, .li _, by simp; omega, xs.reverse, by rw [← List.map_reverse], fun k ρ σ => ∃ (t : V), IsL ρ [("limbs", Li xs), ("w", .int w), ("worth", .int (val (2 ^ w) (xs.drop (xs.length - k.toNat)))), ("limb", t)] ∧ σ = [], ⟨.unb, ?_, rfl⟩, ?_, ?_⟩
  · rw [show xs.length - (0 : Int).toNat = xs.length from rfl, List.drop_of_length_le (by omega)]; rfl
  · rintro k h0 h1 ρ₁ σ₁ ⟨t, rfl, rfl⟩
    rw [List.length_reverse] at h1
    have e1 : xs.length - k.toNat = xs.length - (k + 1).toNat + 1 := nsub1 h0 h1
    have hvd := val_drop (2 ^ w) (xs := xs) (i := xs.length - (k + 1).toNat) (nsub3 h0 h1)
    have hx : xs.reverse.getD k.toNat 0 = xs.getD (xs.length - (k + 1).toNat) 0 := by
      simp only [List.getD_eq_getElem?_getD]
      rw [List.getElem?_reverse (by omega)]
      congr 2
      exact nsub2 h0
    have hb : val (2 ^ w) (xs.drop (xs.length - k.toNat)) ≤ val (2 ^ w) xs := by
      have h1 := val_split (2 ^ w) xs (xs.length - k.toNat) (Nat.sub_le _ _)
      have h2 := val_nonneg hpos (hd.take (xs.length - k.toNat))
      have h3 := val_nonneg hpos (hd.drop (xs.length - k.toNat))
      have h4 := pow_pos' hpos (xs.length - k.toNat)
      have h5 := Int.mul_le_mul_of_nonneg_right (show 1 ≤ (2 ^ w : Int) ^ (xs.length - k.toNat) by omega) h3
      omega
    have hb0 := val_nonneg hpos (hd.drop (xs.length - k.toNat))
    repeat' tb_start
    refine ⟨.int (xs.reverse.getD k.toNat 0), ?_, rfl⟩
    rw [hvd, ← e1, hx, Int.toNat_natCast, Int.mul_comm, Int.add_comm]
  · rintro ρ₁ σ₁ ⟨t, rfl, rfl⟩
    repeat' tb_start
    rw [List.length_reverse, Int.toNat_natCast, Nat.sub_self, List.drop_zero]
    exact hv
/-- a pair of signed numbers -/
abbrev pr (B : Int) (z : Int × Int) : V := .tup [sg B z.1, sg B z.2]
def mulG (x y : Int × Int) : Int × Int := (x.1 * y.1 - x.2 * y.2, x.1 * y.2 + x.2 * y.1)
def szG (x : Int × Int) : Int := x.1 * x.1 + x.2 * x.2
def subG (x y : Int × Int) : Int × Int := (x.1 - y.1, x.2 - y.2)
/-- within bounds -/
def Mid (k : Nat) (z : Int × Int) : Prop := z.1.natAbs ≤ 2 ^ k ∧ z.2.natAbs ≤ 2 ^ k
theorem natAbs_mul_le {a b : Int} {i j : Nat} (ha : a.natAbs ≤ 2 ^ i) (hb : b.natAbs ≤ 2 ^ j) : (a * b).natAbs ≤ 2 ^ (i + j) := by
  rw [Int.natAbs_mul, Nat.pow_add]; exact Nat.mul_le_mul ha hb
theorem natAbs_add_le {a b : Int} {i : Nat} (ha : a.natAbs ≤ 2 ^ i) (hb : b.natAbs ≤ 2 ^ i) : (a + b).natAbs ≤ 2 ^ (i + 1) := by
  rw [Nat.pow_succ, Nat.mul_two]; exact Nat.le_trans (Int.natAbs_add_le a b) (Nat.add_le_add ha hb)
theorem natAbs_sub_le {a b : Int} {i : Nat} (ha : a.natAbs ≤ 2 ^ i) (hb : b.natAbs ≤ 2 ^ i) : (a - b).natAbs ≤ 2 ^ (i + 1) := by
  rw [Int.sub_eq_add_neg]; exact natAbs_add_le ha (by rw [Int.natAbs_neg]; exact hb)
theorem small_of {a : Int} {i : Nat} (ha : a.natAbs ≤ 2 ^ i) (hi : i ≤ 199) : Small a :=
  Nat.lt_of_le_of_lt ha (Nat.pow_lt_pow_right (by omega) (by omega))
theorem mulG_mid {x y : Int × Int} {i j : Nat} (hx : Mid i x) (hy : Mid j y) : Mid (i + j + 1) (mulG x y) :=
  ⟨natAbs_sub_le (natAbs_mul_le hx.1 hy.1) (natAbs_mul_le hx.2 hy.2), natAbs_add_le (natAbs_mul_le hx.1 hy.2) (natAbs_mul_le hx.2 hy.1)⟩
theorem szG_mid {x : Int × Int} {i : Nat} (hx : Mid i x) : (szG x).natAbs ≤ 2 ^ (i + i + 1) :=
  natAbs_add_le (natAbs_mul_le hx.1 hx.1) (natAbs_mul_le hx.2 hx.2)
theorem law_times_ok {W : Wd} (G : Good W) (m w : Nat) (hw : 1 ≤ w) (hw8 : w ≤ 8) (x y : Int × Int) (i j : Nat) (hx : Mid i x) (hy : Mid j y) (hij : i + j ≤ 190) :
    CallOk W (m + 5) (W.fn "_law_times") [pr (2 ^ w) x, pr (2 ^ w) y, .int w] (pr (2 ^ w) (mulG x y)) := by
  obtain ⟨x1, x2⟩ := x
  obtain ⟨y1, y2⟩ := y
  have hm := mulG_mid hx hy
  refine CallOk.of (G.defs _ (List.mem_of_getElem? (i := 32) rfl)) ["real"] ["s_sub", "s_mul", "mul_school", "s_add"] [("x", .tup [sg (2 ^ w) x1, sg (2 ^ w) x2]), ("y", .tup [sg (2 ^ w) y1, sg (2 ^ w) y2]), ("w", .int w), ("real", .unb)] rfl (by decide) rfl (fun vals hv pm cd doc => ?_) (fun C hW hn hX hg he => ?_)
  · obtain ⟨_, _, _, rfl⟩ := len3 hv
    rfl
  subst hW
  clear he
  dsimp only
  have f1 : Fn C.W "s_sub" := (G.defs _ (List.mem_of_getElem? (i := 15) rfl)).fn
  have f2 : Fn C.W "s_mul" := (G.defs _ (List.mem_of_getElem? (i := 16) rfl)).fn
  have f3 : Fn C.W "s_add" := (G.defs _ (List.mem_of_getElem? (i := 14) rfl)).fn
  have f4 : Fn C.W "mul_school" := (G.defs _ (List.mem_of_getElem? (i := 21) rfl)).fn
  have mk : ∀ a b : Int, a.natAbs ≤ 2 ^ i → b.natAbs ≤ 2 ^ j → CallOk C.W (m + 3) (C.W.fn "s_mul") [sg (2 ^ w) a, sg (2 ^ w) b, .int w, .raw (C.W.fn "mul_school")] (sg (2 ^ w) (a * b)) := fun a b ha hb =>
    s_mul_ok G (m + 1) w hw hw8 _ (mul_school_ok G m w hw hw8) a b (small_of ha (by omega)) (small_of hb (by omega)) (small_of (natAbs_mul_le ha hb) (by omega))
  repeat' tb_start
  refine CL.mk (mk x1 y1 hx.1 hy.1) (by ktr_room) ?_
  repeat' tb_start
  refine CL.mk (mk x2 y2 hx.2 hy.2) (by ktr_room) ?_
  repeat' tb_start
  refine CL.mk (s_sub_ok G m w hw hw8 _ _ (small_of (natAbs_mul_le hx.1 hy.1) (by omega)) (small_of (natAbs_mul_le hx.2 hy.2) (by omega)) (small_of hm.1 (by omega))) (by ktr_room) ?_
  repeat' tb_start
  refine CL.mk (mk x1 y2 hx.1 hy.2) (by ktr_room) ?_
  repeat' tb_start
  refine CL.mk (mk x2 y1 hx.2 hy.1) (by ktr_room) ?_
  repeat' tb_start
  refine CL.mk (s_add_ok G m w hw hw8 _ _ (small_of (natAbs_mul_le hx.1 hy.2) (by omega)) (small_of (natAbs_mul_le hx.2 hy.1) (by omega)) (small_of hm.2 (by omega))) (by ktr_room) ?_
  repeat' tb_start
  exact RQ_same
theorem law_size_ok {W : Wd} (G : Good W) (m w : Nat) (hw : 1 ≤ w) (hw8 : w ≤ 8) (x : Int × Int) (i : Nat) (hx : Mid i x) (hi : i ≤ 90) :
    CallOk W (m + 5) (W.fn "_law_size") [pr (2 ^ w) x, .int w] (sg (2 ^ w) (szG x)) := by
  have hm := szG_mid hx
  obtain ⟨x1, x2⟩ := x
  refine CallOk.of (G.defs _ (List.mem_of_getElem? (i := 33) rfl)) [] ["s_mul", "mul_school", "s_add"] [("x", .tup [sg (2 ^ w) x1, sg (2 ^ w) x2]), ("w", .int w)] rfl (by decide) rfl (fun vals hv pm cd doc => ?_) (fun C hW hn hX hg he => ?_)
  · obtain ⟨_, _, rfl⟩ := len2 hv
    rfl
  subst hW
  clear he
  dsimp only
  have f2 : Fn C.W "s_mul" := (G.defs _ (List.mem_of_getElem? (i := 16) rfl)).fn
  have f3 : Fn C.W "s_add" := (G.defs _ (List.mem_of_getElem? (i := 14) rfl)).fn
  have f4 : Fn C.W "mul_school" := (G.defs _ (List.mem_of_getElem? (i := 21) rfl)).fn
  have mk : ∀ a b : Int, a.natAbs ≤ 2 ^ i → b.natAbs ≤ 2 ^ i → CallOk C.W (m + 3) (C.W.fn "s_mul") [sg (2 ^ w) a, sg (2 ^ w) b, .int w, .raw (C.W.fn "mul_school")] (sg (2 ^ w) (a * b)) := fun a b ha hb =>
    s_mul_ok G (m + 1) w hw hw8 _ (mul_school_ok G m w hw hw8) a b (small_of ha (by omega)) (small_of hb (by omega)) (small_of (natAbs_mul_le ha hb) (by omega))
  repeat' tb_start
  refine CL.mk (mk x1 x1 hx.1 hx.1) (by ktr_room) ?_
  repeat' tb_start
  refine CL.mk (mk x2 x2 hx.2 hx.2) (by ktr_room) ?_
  repeat' tb_start
  refine CL.mk (s_add_ok G m w hw hw8 _ _ (small_of (natAbs_mul_le hx.1 hx.1) (by omega)) (small_of (natAbs_mul_le hx.2 hx.2) (by omega)) (small_of hm (by omega))) (by ktr_room) ?_
  repeat' tb_start
  exact RQ_same
theorem mid_up {x : Int × Int} {i j : Nat} (h : Mid i x) (hij : i ≤ j) : Mid j x :=
  ⟨Nat.le_trans h.1 (Nat.pow_le_pow_right (by omega) hij), Nat.le_trans h.2 (Nat.pow_le_pow_right (by omega) hij)⟩
theorem law_without_ok {W : Wd} (G : Good W) (m w : Nat) (hw : 1 ≤ w) (hw8 : w ≤ 8) (x n y : Int × Int) (i : Nat) (hx : Mid i x) (hn : Mid i n) (hy : Mid i y) (hi : i ≤ 90) :
    CallOk W (m + 6) (W.fn "_law_without") [pr (2 ^ w) x, pr (2 ^ w) n, pr (2 ^ w) y, .int w] (pr (2 ^ w) (subG x (mulG n y))) := by
  have hm := mulG_mid hn hy
  have hx' := mid_up hx (show i ≤ i + i + 1 by omega)
  have hlt := law_times_ok G m w hw hw8 n y i i hn hy (by omega)
  generalize hz : mulG n y = z at *
  obtain ⟨x1, x2⟩ := x
  obtain ⟨z1, z2⟩ := z
  obtain ⟨n1, n2⟩ := n
  obtain ⟨y1, y2⟩ := y
  refine CallOk.of (G.defs _ (List.mem_of_getElem? (i := 34) rfl)) ["taken"] ["_law_times", "s_sub"] [("x", .tup [sg (2 ^ w) x1, sg (2 ^ w) x2]), ("many", .tup [sg (2 ^ w) n1, sg (2 ^ w) n2]), ("y", .tup [sg (2 ^ w) y1, sg (2 ^ w) y2]), ("w", .int w), ("taken", .unb)] rfl (by decide) rfl (fun vals hv pm cd doc => ?_) (fun C hW hn hX hg he => ?_)
  · obtain ⟨_, _, _, _, rfl⟩ := len4 hv
    rfl
  subst hW
  clear he
  dsimp only
  have f2 : Fn C.W "_law_times" := (G.defs _ (List.mem_of_getElem? (i := 32) rfl)).fn
  have f3 : Fn C.W "s_sub" := (G.defs _ (List.mem_of_getElem? (i := 15) rfl)).fn
  repeat' tb_start
  refine CL.mk hlt (by ktr_room) ?_
  repeat' tb_start
  refine CL.mk (s_sub_ok G m w hw hw8 x1 z1 (small_of hx'.1 (by omega)) (small_of hm.1 (by omega)) (small_of (natAbs_sub_le hx'.1 hm.1) (by omega))) (by ktr_room) ?_
  repeat' tb_start
  refine CL.mk (s_sub_ok G m w hw hw8 x2 z2 (small_of hx'.2 (by omega)) (small_of hm.2 (by omega)) (small_of (natAbs_sub_le hx'.2 hm.2) (by omega))) (by ktr_room) ?_
  repeat' tb_start
  exact RQ_same
theorem datL_li : ∀ xs : List Int, DatL (xs.map V.int) (xs.map PyData.int)
  | [] => by simp only [List.map_nil, DatL]
  | x :: xs => by simp only [List.map_cons, DatL, Dat]; exact ⟨trivial, datL_li xs⟩
theorem dat_li (xs : List Int) : Dat (Li xs) (.list (xs.map PyData.int)) := by simp only [Dat]; exact ⟨_, rfl, datL_li xs⟩
theorem can_li : ∀ xs : List Int, PyData.canLayAll0 (xs.map PyData.int) = true
  | [] => by simp only [List.map_nil, PyData.canLayAll0]
  | x :: xs => by simp only [List.map_cons, PyData.canLayAll0, PyData.canLay0, can_li xs, Bool.and_self]
theorem dep_li : ∀ xs : List Int, PyData.depthAll (xs.map PyData.int) = 0
  | [] => by simp only [List.map_nil, PyData.depthAll]
  | x :: xs => by simp only [List.map_cons, PyData.depthAll, PyData.depth, dep_li xs, Nat.max_self]
theorem shaped_li (xs : List Int) : SeqAt.shaped (.list (xs.map PyData.int)) = true := by
  simp only [SeqAt.shaped, PyData.canLay0, can_li, PyData.depth, dep_li, Bool.true_and]; decide
theorem eqvAll_li : ∀ xs ys : List Int, PyData.eqvAll (xs.map PyData.int) (ys.map PyData.int) = (xs == ys)
  | [], [] => by simp [PyData.eqvAll]
  | [], _ :: _ => by simp [PyData.eqvAll]
  | _ :: _, [] => by simp [PyData.eqvAll]
  | x :: xs, y :: ys => by simp only [List.map_cons, PyData.eqvAll, PyData.eqv, eqvAll_li xs ys]; rfl
theorem eqv_li (xs ys : List Int) : (PyData.list (xs.map PyData.int)).eqv (.list (ys.map PyData.int)) = (xs == ys) := by simp only [PyData.eqv, eqvAll_li]
theorem mul_self_nonneg' (a : Int) : 0 ≤ a * a := by
  rcases Int.le_total 0 a with h | h
  · exact Int.mul_nonneg h h
  · exact Int.mul_nonneg_of_nonpos_of_nonpos h h
/-- does one divide other -/
def parts (x y : Int × Int) : Bool :=
  if szG x = 0 then y == (0, 0) else (y.1 * x.1 + y.2 * x.2) % szG x == 0 && (y.2 * x.1 - y.1 * x.2) % szG x == 0
theorem law_parts_ok {W : Wd} (G : Good W) (m : Nat) (x y : Int × Int) (hx : Mid 40 x) (hy : Mid 40 y) :
    CallOk W (m + 1) (W.fn "_law_parts") [Li [x.1, x.2], Li [y.1, y.2]] (.bool (parts x y)) := by
  obtain ⟨x1, x2⟩ := x
  obtain ⟨y1, y2⟩ := y
  obtain ⟨hx1, hx2⟩ := hx
  obtain ⟨hy1, hy2⟩ := hy
  obtain ⟨us, hus⟩ : ∃ us, us = [x1, x2] := ⟨_, rfl⟩
  obtain ⟨vs, hvs⟩ : ∃ vs, vs = [y1, y2] := ⟨_, rfl⟩
  have lu : us.length = 2 := by rw [hus]; rfl
  have lv : vs.length = 2 := by rw [hvs]; rfl
  have u0 : us.getD (0 : Int).toNat 0 = x1 := by rw [hus]; rfl
  have u1 : us.getD (1 : Int).toNat 0 = x2 := by rw [hus]; rfl
  have v0 : vs.getD (0 : Int).toNat 0 = y1 := by rw [hvs]; rfl
  have v1 : vs.getD (1 : Int).toNat 0 = y2 := by rw [hvs]; rfl
  dsimp only at hx1 hx2 hy1 hy2 ⊢
  have n0 : (us.getD (0 : Int).toNat 0).natAbs ≤ 2 ^ 40 := by rw [u0]; exact hx1
  have n1 : (us.getD (1 : Int).toNat 0).natAbs ≤ 2 ^ 40 := by rw [u1]; exact hx2
  have n2 : (vs.getD (0 : Int).toNat 0).natAbs ≤ 2 ^ 40 := by rw [v0]; exact hy1
  have n3 : (vs.getD (1 : Int).toNat 0).natAbs ≤ 2 ^ 40 := by rw [v1]; exact hy2
  rw [← hus, ← hvs]
  refine CallOk.of (G.defs _ (List.mem_of_getElem? (i := 36) rfl)) ["size"] [] [("one", Li us), ("other", Li vs), ("size", .unb)] rfl (by decide) rfl (fun vals hv pm cd doc => ?_) (fun C hW hn hX hg he => ?_)
  · obtain ⟨_, _, rfl⟩ := len2 hv
    rfl
  subst hW
  clear he
  dsimp only
  repeat' tb_start
  · rename_i h0
    rw [u0, u1] at h0
    refine OP_eqd (dat_li vs) (dat_li [0, 0]) (shaped_li _) (shaped_li [0, 0]) ?_
    repeat' tb_start
    rw [eqv_li, hvs, parts, if_pos (show szG (x1, x2) = 0 from h0)]
    rw [Bool.eq_iff_iff, beq_iff_eq, beq_iff_eq]
    simp
  · rename_i h0 h1
    rw [u0, u1] at h0 h1 ⊢
    rw [v0, v1] at h1 ⊢
    have hp : 0 ≤ x1 * x1 + x2 * x2 := Int.add_nonneg (mul_self_nonneg' x1) (mul_self_nonneg' x2)
    rw [Int.fmod_eq_emod_of_nonneg _ hp] at h1 ⊢
    rw [parts, if_neg (show ¬ szG (x1, x2) = 0 from h0)]
    simp only [szG, h1]
    simp
  · rename_i h0 h1
    rw [u0, u1] at h0 h1
    rw [v0, v1] at h1
    have hp : 0 ≤ x1 * x1 + x2 * x2 := Int.add_nonneg (mul_self_nonneg' x1) (mul_self_nonneg' x2)
    rw [Int.fmod_eq_emod_of_nonneg _ hp] at h1
    rw [parts, if_neg (show ¬ szG (x1, x2) = 0 from h0)]
    simp only [szG, beq_eq_false_iff_ne.mpr h1, Bool.false_and]
section
local macro_rules | `(tactic| tb_start) => `(tactic| with_reducible (show EE _ (.Name "w" _) [("part", _)] _ _; refine EE_cell (by assumption) (by assumption) (by assumption) (by decide) ?_))
theorem law_plain_ok {W : Wd} (G : Good W) (m w : Nat) (hw : 1 ≤ w) (hw8 : w ≤ 8) (z : Int × Int) (hz : Mid 40 z) :
    CallOk W (m + 2) (W.fn "_law_plain") [pr (2 ^ w) z, .int w] (Li [z.1, z.2]) := by
  refine CallOk.ofC (x := "x") (c := "w") (G.defs _ (List.mem_of_getElem? (i := 35) rfl)) G [] rfl rfl rfl (by decide) (fun _ => rfl) (fun y hy => by cases hy) (by decide) rfl rfl rfl (fun vals hv pm cd doc => ?_) (fun C hG hmg hn hX hg he => ?_)
  · obtain ⟨_, _, rfl⟩ := len2 hv
    rfl
  obtain ⟨L, fa, cd, he, hcell⟩ := he
  dsimp only
  refine SS_ret ?_
  refine EE_lc (x := "part") (cl := [("w", L + 1)]) (gn := ["_law_worth"]) ⟨by decide, rfl, by decide, rfl, by decide, by decide⟩ (by rw [he]; with_unfolding_all rfl) ?_ (by rw [he]; intro _; with_unfolding_all rfl)
  repeat' tb_start
  refine ⟨_, [.int z.1, .int z.2], .inr rfl, by simp, rfl, ?_, ?_⟩
  · intro i X Y hX hY D hD
    obtain ⟨a, ha, rfl, rfl⟩ : ∃ a : Int, a.natAbs ≤ 2 ^ 40 ∧ X = sg (2 ^ w) a ∧ Y = .int a := by
      match i, hX, hY with
      | 0, hX, hY => cases hX; cases hY; exact ⟨_, hz.1, rfl, rfl⟩
      | 1, hX, hY => cases hX; cases hY; exact ⟨_, hz.2, rfl, rfl⟩
      | _ + 2, hX, hY => simp at hY
    refine (?_ : ∀ C' : Cx, Good C'.W → C'.room = m + 1 → C'.gn = [("_law_worth" : Str)] → C'.env.kindOf "w" = some .cell → C'.env.cells.lookup ("w" : Str) = some (L + 1) → CellInt C'.W (L + 1) w → EE C' _ [("part", sg (2 ^ w) a)] [] _) (C.comp _ _ _ _ _ D hD) hG hn rfl ?_ rfl hcell
    · intro C' G' hn' hg' hk' hl' hc'
      have f1 : Fn C'.W "_law_worth" := (G'.defs _ (List.mem_of_getElem? (i := 31) rfl)).fn
      repeat' tb_rel
      · rename_i h0
        refine CL.mk (law_worth_ok G' m w hw hw8 a.natAbs (by omega) (by omega)) (by ktr_room) ?_
        repeat' tb_rel
        exact ⟨by congr 1; omega, rfl⟩
      · rename_i h0
        refine CL.mk (law_worth_ok G' m w hw hw8 a.natAbs (by omega) (by omega)) (by ktr_room) ?_
        repeat' tb_rel
        exact ⟨by congr 1; omega, rfl⟩
    · show List.lookup ("w" : Str) (relabel _ C.env).names = some .cell
      rw [he]
      with_unfolding_all rfl
  · exact RQ_same
end
open PySem PySem.Calls
def Dv (x y : Int × Int) : Prop := ∃ q : Int × Int, y = mulG x q
theorem szG_nn (x : Int × Int) : 0 ≤ szG x := Int.add_nonneg (mul_self_nonneg' _) (mul_self_nonneg' _)
theorem sq_zero {a : Int} (h : a * a = 0) : a = 0 := by
  rcases Int.mul_eq_zero.mp h with h | h <;> exact h
theorem szG_zero {x : Int × Int} (h : szG x = 0) : x = (0, 0) := by
  have h1 := mul_self_nonneg' x.1
  have h2 := mul_self_nonneg' x.2
  unfold szG at h
  have a := sq_zero (show x.1 * x.1 = 0 by omega)
  have b := sq_zero (show x.2 * x.2 = 0 by omega)
  exact Prod.ext a b
theorem parts_iff (x y : Int × Int) : parts x y = true ↔ Dv x y := by
  obtain ⟨x1, x2⟩ := x
  obtain ⟨y1, y2⟩ := y
  unfold parts
  by_cases h : szG (x1, x2) = 0
  · rw [if_pos h]
    have hx := szG_zero h
    cases hx
    simp only [beq_iff_eq]
    constructor
    · intro e; exact ⟨(0, 0), by simpa [mulG] using e⟩
    · rintro ⟨q, e⟩; simpa [mulG] using e
  · rw [if_neg h]
    simp only [Bool.and_eq_true, beq_iff_eq]
    constructor
    · rintro ⟨h1, h2⟩
      obtain ⟨a, ha⟩ := Int.dvd_of_emod_eq_zero h1
      obtain ⟨b, hb⟩ := Int.dvd_of_emod_eq_zero h2
      refine ⟨(a, b), ?_⟩
      have hn : 0 < x1 * x1 + x2 * x2 := by have := szG_nn (x1, x2); unfold szG at this h; simp only at this h; omega
      simp only [szG] at ha hb
      have e1 : (y1 - (x1 * a - x2 * b)) * (x1 * x1 + x2 * x2) = 0 := by grind
      have e2 : (y2 - (x1 * b + x2 * a)) * (x1 * x1 + x2 * x2) = 0 := by grind
      have f1 := (Int.mul_eq_zero.mp e1).resolve_right (by omega)
      have f2 := (Int.mul_eq_zero.mp e2).resolve_right (by omega)
      exact Prod.ext (by simp only [mulG]; omega) (by simp only [mulG]; omega)
    · rintro ⟨⟨a, b⟩, e⟩
      simp only [mulG, Prod.mk.injEq] at e
      obtain ⟨rfl, rfl⟩ := e
      simp only [szG]
      exact ⟨Int.emod_eq_zero_of_dvd ⟨a, by grind⟩, Int.emod_eq_zero_of_dvd ⟨b, by grind⟩⟩
open PySem PySem.Calls
def addG (x y : Int × Int) : Int × Int := (x.1 + y.1, x.2 + y.2)
structure Inv (b o x y s ls t lt : Int × Int) (k : Nat) : Prop where
  hx : x = addG (mulG s b) (mulG t o)
  hy : y = addG (mulG ls b) (mulG lt o)
  det : ∃ e : Int, e * e = 1 ∧ subG (mulG s lt) (mulG t ls) = (e, 0)
  nx : szG x ≤ 162
  ny : szG y * 2 ^ k ≤ 162
  ms : Mid (6 * k) s
  mls : Mid (6 * k) ls
  mt : Mid (6 * k) t
  mlt : Mid (6 * k) lt
def near (u n : Int) : Int := (2 * u + n) / (2 * n)
def many (x y : Int × Int) : Int × Int := (near (mulG x (y.1, -y.2)).1 (szG y), near (mulG x (y.1, -y.2)).2 (szG y))
theorem many_half {x y : Int × Int} (h : 0 < szG y) : 2 * szG (subG x (mulG (many x y) y)) ≤ szG y := by
  obtain ⟨x1, x2⟩ := x
  obtain ⟨y1, y2⟩ := y
  refine step_half (x1 := x1) (x2 := x2) (y1 := y1) (y2 := y2) (n := szG (y1, y2)) h rfl (u := (mulG (x1, x2) (y1, -y2)).1) (v := (mulG (x1, x2) (y1, -y2)).2) ?_ ?_ rfl rfl
  · simp only [mulG]; grind
  · simp only [mulG]; grind
theorem Inv.end_ {b o x y s ls t lt : Int × Int} {k : Nat} (I : Inv b o x y s ls t lt k) (h : y = (0, 0)) : Dv x b ∧ Dv x o := by
  obtain ⟨e, he, hd⟩ := I.det
  have hx := I.hx
  have hy := I.hy
  rw [h] at hy
  obtain ⟨b1, b2⟩ := b; obtain ⟨o1, o2⟩ := o; obtain ⟨x1, x2⟩ := x; obtain ⟨s1, s2⟩ := s; obtain ⟨t1, t2⟩ := t; obtain ⟨l1, l2⟩ := ls; obtain ⟨r1, r2⟩ := lt
  simp only [mulG, addG, subG, Prod.mk.injEq] at hx hy hd
  obtain ⟨hx1, hx2⟩ := hx
  obtain ⟨hy1, hy2⟩ := hy
  obtain ⟨hd1, hd2⟩ := hd
  clear I h
  have i1 : (s1 * b1 - s2 * b2 + (t1 * o1 - t2 * o2)) * r1 - (s1 * b2 + s2 * b1 + (t1 * o2 + t2 * o1)) * r2 - (t1 * (l1 * b1 - l2 * b2 + (r1 * o1 - r2 * o2)) - t2 * (l1 * b2 + l2 * b1 + (r1 * o2 + r2 * o1))) = (s1 * r1 - s2 * r2 - (t1 * l1 - t2 * l2)) * b1 - (s1 * r2 + s2 * r1 - (t1 * l2 + t2 * l1)) * b2 := by clear hx1 hx2 hy1 hy2 hd1 hd2 he; grind
  have i2 : (s1 * b1 - s2 * b2 + (t1 * o1 - t2 * o2)) * r2 + (s1 * b2 + s2 * b1 + (t1 * o2 + t2 * o1)) * r1 - (t1 * (l1 * b2 + l2 * b1 + (r1 * o2 + r2 * o1)) + t2 * (l1 * b1 - l2 * b2 + (r1 * o1 - r2 * o2))) = (s1 * r1 - s2 * r2 - (t1 * l1 - t2 * l2)) * b2 + (s1 * r2 + s2 * r1 - (t1 * l2 + t2 * l1)) * b1 := by clear hx1 hx2 hy1 hy2 hd1 hd2 he; grind
  have i3 : (s1 * (l1 * b1 - l2 * b2 + (r1 * o1 - r2 * o2)) - s2 * (l1 * b2 + l2 * b1 + (r1 * o2 + r2 * o1))) - ((s1 * b1 - s2 * b2 + (t1 * o1 - t2 * o2)) * l1 - (s1 * b2 + s2 * b1 + (t1 * o2 + t2 * o1)) * l2) = (s1 * r1 - s2 * r2 - (t1 * l1 - t2 * l2)) * o1 - (s1 * r2 + s2 * r1 - (t1 * l2 + t2 * l1)) * o2 := by clear hx1 hx2 hy1 hy2 hd1 hd2 he; grind
  have i4 : (s1 * (l1 * b2 + l2 * b1 + (r1 * o2 + r2 * o1)) + s2 * (l1 * b1 - l2 * b2 + (r1 * o1 - r2 * o2))) - ((s1 * b1 - s2 * b2 + (t1 * o1 - t2 * o2)) * l2 + (s1 * b2 + s2 * b1 + (t1 * o2 + t2 * o1)) * l1) = (s1 * r1 - s2 * r2 - (t1 * l1 - t2 * l2)) * o2 + (s1 * r2 + s2 * r1 - (t1 * l2 + t2 * l1)) * o1 := by clear hx1 hx2 hy1 hy2 hd1 hd2 he; grind
  rw [← hx1, ← hx2, ← hy1, ← hy2, hd1, hd2] at i1 i2 i3 i4
  clear hx1 hx2 hy1 hy2 hd1 hd2
  simp only [Int.mul_zero, Int.zero_mul, Int.sub_zero, Int.add_zero, Int.zero_sub] at i1 i2 i3 i4
  have back : ∀ c d : Int, d = e * c → c = e * d := fun c d h => by rw [h, ← Int.mul_assoc, he, Int.one_mul]
  have j1 := back _ _ i1
  have j2 := back _ _ i2
  have j3 := back _ _ i3
  have j4 := back _ _ i4
  refine ⟨⟨(e * r1, e * r2), ?_⟩, ⟨(-e * l1, -e * l2), ?_⟩⟩
  · refine Prod.ext ?_ ?_ <;> simp only [mulG]
    · rw [j1]; clear i1 i2 i3 i4 back j1 j2 j3 j4; grind
    · rw [j2]; clear i1 i2 i3 i4 back j1 j2 j3 j4; grind
  · refine Prod.ext ?_ ?_ <;> simp only [mulG]
    · rw [j3]; clear i1 i2 i3 i4 back j1 j2 j3 j4; grind
    · rw [j4]; clear i1 i2 i3 i4 back j1 j2 j3 j4; grind
theorem Inv.little {b o x y s ls t lt z : Int × Int} {k : Nat} (I : Inv b o x y s ls t lt k) (hb : Dv z b) (ho : Dv z o) : Dv z x := by
  obtain ⟨⟨p1, p2⟩, rfl⟩ := hb
  obtain ⟨⟨q1, q2⟩, rfl⟩ := ho
  have hx := I.hx
  obtain ⟨s1, s2⟩ := s; obtain ⟨t1, t2⟩ := t; obtain ⟨z1, z2⟩ := z
  refine ⟨(s1 * p1 - s2 * p2 + (t1 * q1 - t2 * q2), s1 * p2 + s2 * p1 + (t1 * q2 + t2 * q1)), ?_⟩
  rw [hx]
  refine Prod.ext ?_ ?_ <;> simp only [mulG, addG] <;> grind
open PySem PySem.Calls
theorem szG_mulG (x y : Int × Int) : szG (mulG x y) = szG x * szG y := by
  obtain ⟨a, b⟩ := x; obtain ⟨c, d⟩ := y
  exact sz_mul a b c d
theorem near_bound {u n : Int} (hn : 0 < n) (h : u * u ≤ 162 * n) : (near u n).natAbs ≤ 2 ^ 4 := by
  have h1 : u ≤ 13 * n ∧ -(13 * n) ≤ u := by
    have hb : ∀ v : Int, v * v ≤ 162 * n → v ≤ 13 * n := fun v hv => by
      rcases Int.lt_or_le (13 * n) v with q | q
      · have a1 : (13 * n) * (13 * n) ≤ v * v := Int.mul_le_mul (by omega) (by omega) (by omega) (by omega)
        have a2 : (13 * n) * (13 * n) = 169 * (n * n) := by rw [Int.mul_assoc, Int.mul_left_comm n]; omega
        have a3 : n ≤ n * n := by have := Int.mul_le_mul_of_nonneg_right (show 1 ≤ n by omega) (show 0 ≤ n by omega); omega
        omega
      · exact q
    have := hb u h
    have := hb (-u) (by rw [Int.neg_mul_neg]; exact h)
    omega
  have h2 : near u n ≤ 13 := by
    unfold near
    have := Int.ediv_lt_of_lt_mul (a := 2 * u + n) (b := 14) (c := 2 * n) (by omega) (by omega)
    omega
  have h3 : -13 ≤ near u n := by
    unfold near
    exact Int.le_ediv_of_mul_le (by omega) (by omega)
  omega
theorem many_mid {x y : Int × Int} (h : 0 < szG y) (hx : szG x ≤ 162) : Mid 4 (many x y) := by
  have e : szG (mulG x (y.1, -y.2)) = szG x * szG y := by
    rw [szG_mulG]
    congr 1
    simp only [szG, Int.neg_mul_neg]
  have hb : szG x * szG y ≤ 162 * szG y := Int.mul_le_mul_of_nonneg_right hx (by omega)
  have p1 := mul_self_nonneg' (mulG x (y.1, -y.2)).1
  have p2 := mul_self_nonneg' (mulG x (y.1, -y.2)).2
  have e' : szG (mulG x (y.1, -y.2)) = (mulG x (y.1, -y.2)).1 * (mulG x (y.1, -y.2)).1 + (mulG x (y.1, -y.2)).2 * (mulG x (y.1, -y.2)).2 := rfl
  exact ⟨near_bound h (by omega), near_bound h (by omega)⟩
theorem subG_mid {x y : Int × Int} {i : Nat} (hx : Mid i x) (hy : Mid i y) : Mid (i + 1) (subG x y) := ⟨natAbs_sub_le hx.1 hy.1, natAbs_sub_le hx.2 hy.2⟩
theorem addG_mid {x y : Int × Int} {i : Nat} (hx : Mid i x) (hy : Mid i y) : Mid (i + 1) (addG x y) := ⟨natAbs_add_le hx.1 hy.1, natAbs_add_le hx.2 hy.2⟩
theorem Inv.step {b o x y s ls t lt : Int × Int} {k : Nat} (I : Inv b o x y s ls t lt k) (h : 0 < szG y) :
    Inv b o y (subG x (mulG (many x y) y)) ls (subG s (mulG (many x y) ls)) lt (subG t (mulG (many x y) lt)) (k + 1) := by
  have hm := many_mid h I.nx
  have hh := many_half (x := x) h
  have hp : (1 : Int) ≤ 2 ^ k := by have : (0 : Int) < 2 ^ k := Int.pow_pos (by decide); omega
  have e6 : 6 * (k + 1) = 6 * k + 5 + 1 := by omega
  have hn2 := szG_nn (subG x (mulG (many x y) y))
  generalize many x y = m at *
  refine ⟨I.hy, ?_, ?_, ?_, ?_, mid_up I.mls (by omega), ?_, mid_up I.mlt (by omega), ?_⟩
  · rw [I.hx, I.hy]
    obtain ⟨b1, b2⟩ := b; obtain ⟨o1, o2⟩ := o; obtain ⟨s1, s2⟩ := s; obtain ⟨t1, t2⟩ := t; obtain ⟨l1, l2⟩ := ls; obtain ⟨r1, r2⟩ := lt; obtain ⟨m1, m2⟩ := m
    clear I hm hh hn2 h
    refine Prod.ext ?_ ?_ <;> simp only [mulG, addG, subG] <;> grind
  · obtain ⟨e, he, hd⟩ := I.det
    refine ⟨-e, by rw [Int.neg_mul_neg]; exact he, ?_⟩
    obtain ⟨s1, s2⟩ := s; obtain ⟨t1, t2⟩ := t; obtain ⟨l1, l2⟩ := ls; obtain ⟨r1, r2⟩ := lt; obtain ⟨m1, m2⟩ := m
    clear I hm hh hn2 h
    simp only [mulG, subG, Prod.mk.injEq] at hd ⊢
    obtain ⟨hd1, hd2⟩ := hd
    constructor <;> grind
  · have := Int.mul_le_mul_of_nonneg_left hp (show 0 ≤ szG y by omega)
    have := I.ny
    omega
  · rw [Int.pow_succ, Int.mul_comm (2 ^ k), ← Int.mul_assoc]
    have h1 := Int.mul_le_mul_of_nonneg_right hh (show (0 : Int) ≤ 2 ^ k by omega)
    rw [Int.mul_comm 2] at h1
    exact Int.le_trans h1 I.ny
  · rw [e6]; exact subG_mid (mid_up I.ms (by omega)) (by have := mulG_mid hm I.mls; exact mid_up this (by omega))
  · rw [e6]; exact subG_mid (mid_up I.mt (by omega)) (by have := mulG_mid hm I.mlt; exact mid_up this (by omega))
def turnOf (b : List Stmt) : List Stmt := match b.drop 9 with
  | .For _ _ b _ _ :: _ => b
  | _ => []
theorem mid_of_sz {x : Int × Int} (h : szG x ≤ 162) : Mid 4 x := by
  have h1 := mul_self_nonneg' x.1
  have h2 := mul_self_nonneg' x.2
  unfold szG at h
  have hb : ∀ a : Int, a * a ≤ 162 → a.natAbs ≤ 2 ^ 4 := fun a ha => by
    rcases Int.lt_or_le 12 a with q | q
    · have := Int.mul_le_mul (show 13 ≤ a by omega) (show 13 ≤ a by omega) (by omega) (by omega); omega
    · rcases Int.lt_or_le a (-12) with q' | q'
      · have := Int.mul_le_mul (show 13 ≤ -a by omega) (show 13 ≤ -a by omega) (by omega) (by omega)
        rw [Int.neg_mul_neg] at this; omega
      · omega
  exact ⟨hb _ (by omega), hb _ (by omega)⟩
theorem dat_sg (B z : Int) : Dat (sg B z) (.tuple [.bool (decide (z < 0)), .list ((lim B z.natAbs).map PyData.int)]) := by
  simp only [sg, Dat]; exact ⟨_, rfl, by simp only [DatL, Dat]; exact ⟨trivial, ⟨_, rfl, datL_li _⟩, trivial⟩⟩
def sgd (B z : Int) : PyData := .tuple [.bool (decide (z < 0)), .list ((lim B z.natAbs).map PyData.int)]
def prd (B : Int) (z : Int × Int) : PyData := .tuple [sgd B z.1, sgd B z.2]
theorem dat_pr (B : Int) (z : Int × Int) : Dat (pr B z) (prd B z) := by
  simp only [pr, Dat]; exact ⟨_, rfl, by simp only [DatL]; exact ⟨dat_sg _ _, dat_sg _ _, trivial⟩⟩
theorem shaped_pr (B : Int) (z : Int × Int) : SeqAt.shaped (prd B z) = true := by
  simp only [prd, sgd, SeqAt.shaped, PyData.canLay0, PyData.canLayAll0, can_li, PyData.depth, PyData.depthAll, dep_li, Bool.and_self, Bool.true_and]; decide
theorem eqv_pr (B : Int) (z : Int × Int) : (prd B z).eqv (prd B z) = true := by
  simp only [prd, sgd, PyData.eqv, PyData.eqvAll, eqvAll_li, beq_self_eq_true, Bool.and_self]
theorem law_turn {C : Cx} (G : Good C.W) (d : DefRec) (hd : (recsOf view0)[37]? = some d) (hroom : 60 ≤ C.room)
    (hg : C.gn = (["_law_plucked", "_law_signed", "range", "_law_size", "s_sign", "_law_times", "s_neg", "nearest_quotient", "divrem_school", "_law_without", "s_compare", "s_add", "_law_plain", "_law_parts"] : List Str))
    (he : ∃ L fa cd, C.env = envOf d.name d.scope L fa cd) (scr str nt un v1 v2 v3 v4 v5 v6 v7 : V) (w : Nat) (hw : 2 ≤ w) (hw8 : w ≤ 8) (b o x y s ls t lt : Int × Int) (k : Nat) (hk : k ≤ 11) (I : Inv b o x y s ls t lt k) (hb : Mid 4 b) (ho : Mid 4 o) (Q : QS)
    (hE : szG y = 0 → ∀ u1, Q .bk [("script", scr), ("string", str), ("w", .int w), ("first", Li [b.1, b.2]), ("second", Li [o.1, o.2]), ("begun", pr (2 ^ w) b), ("other", pr (2 ^ w) o), ("x", pr (2 ^ w) x), ("y", pr (2 ^ w) y), ("nought", nt), ("unit", un), ("s", pr (2 ^ w) s), ("later_s", pr (2 ^ w) ls), ("t", pr (2 ^ w) t), ("later_t", pr (2 ^ w) lt), ("turn", .int k), ("size", u1), ("turned", v2), ("real", v3), ("many", v4), ("left", v5), ("here", v6), ("there", v7), ("last", .unb), ("one", .unb)] [])
    (hN : ∀ x y s ls t lt : Int × Int, Inv b o x y s ls t lt (k + 1) → ∀ u1 u2 u3 u4 u5 u6 u7, Q .nx [("script", scr), ("string", str), ("w", .int w), ("first", Li [b.1, b.2]), ("second", Li [o.1, o.2]), ("begun", pr (2 ^ w) b), ("other", pr (2 ^ w) o), ("x", pr (2 ^ w) x), ("y", pr (2 ^ w) y), ("nought", nt), ("unit", un), ("s", pr (2 ^ w) s), ("later_s", pr (2 ^ w) ls), ("t", pr (2 ^ w) t), ("later_t", pr (2 ^ w) lt), ("turn", .int k), ("size", u1), ("turned", u2), ("real", u3), ("many", u4), ("left", u5), ("here", u6), ("there", u7), ("last", .unb), ("one", .unb)] []) :
    SS C (turnOf d.body) [("script", scr), ("string", str), ("w", .int w), ("first", Li [b.1, b.2]), ("second", Li [o.1, o.2]), ("begun", pr (2 ^ w) b), ("other", pr (2 ^ w) o), ("x", pr (2 ^ w) x), ("y", pr (2 ^ w) y), ("nought", nt), ("unit", un), ("s", pr (2 ^ w) s), ("later_s", pr (2 ^ w) ls), ("t", pr (2 ^ w) t), ("later_t", pr (2 ^ w) lt), ("turn", .int k), ("size", v1), ("turned", v2), ("real", v3), ("many", v4), ("left", v5), ("here", v6), ("there", v7), ("last", .unb), ("one", .unb)] [] Q := by
  cases hd
  obtain ⟨L, fa, cd, he⟩ := he
  dsimp only [turnOf, List.drop]
  have hw1 : 1 ≤ w := by omega
  have f1 : Fn C.W "_law_size" := (G.defs _ (List.mem_of_getElem? (i := 33) rfl)).fn
  have f2 : Fn C.W "s_sign" := (G.defs _ (List.mem_of_getElem? (i := 12) rfl)).fn
  have f3 : Fn C.W "_law_times" := (G.defs _ (List.mem_of_getElem? (i := 32) rfl)).fn
  have f4 : Fn C.W "s_neg" := (G.defs _ (List.mem_of_getElem? (i := 11) rfl)).fn
  have f5 : Fn C.W "nearest_quotient" := (G.defs _ (List.mem_of_getElem? (i := 20) rfl)).fn
  have f6 : Fn C.W "divrem_school" := (G.defs _ (List.mem_of_getElem? (i := 27) rfl)).fn
  have f7 : Fn C.W "_law_without" := (G.defs _ (List.mem_of_getElem? (i := 34) rfl)).fn
  have f8 : Fn C.W "s_compare" := (G.defs _ (List.mem_of_getElem? (i := 13) rfl)).fn
  have f9 : Fn C.W "s_add" := (G.defs _ (List.mem_of_getElem? (i := 14) rfl)).fn
  have hx4 : Mid 4 x := mid_of_sz I.nx
  have hp1 : (1 : Int) ≤ 2 ^ k := by have : (0 : Int) < 2 ^ k := Int.pow_pos (by decide); omega
  have hny : szG y ≤ 162 := by
    have := Int.mul_le_mul_of_nonneg_left hp1 (szG_nn y)
    have := I.ny
    omega
  have hy4 : Mid 4 y := mid_of_sz hny
  have sy := szG_nn y
  repeat' tb_start
  refine CL.mk (law_size_ok G 0 w hw1 hw8 y 4 hy4 (by decide)) (by ktr_room) ?_
  repeat' tb_start
  refine CL.mk (s_sign_ok G 0 w hw1 (szG y) (by unfold Small; omega)) (by ktr_room) ?_
  repeat' tb_start
  · rename_i h
    refine SS_break (hE ?_ _)
    split at h
    · assumption
    · split at h <;> omega
  rename_i h
  have hy0 : 0 < szG y := by
    rcases Int.lt_or_eq_of_le sy with q | q
    · exact q
    · exact absurd (if_pos q.symm) h
  clear h
  have hc4 : Mid 4 (y.1, -y.2) := ⟨hy4.1, by have := hy4.2; simp only; omega⟩
  have hm9 := mulG_mid hx4 hc4
  have hm := many_mid hy0 I.nx
  have hh := many_half (x := x) hy0
  have I' := I.step hy0
  have hq : ∀ u : Int, u.natAbs ≤ 2 ^ 9 → CallOk C.W 8 (C.W.fn "nearest_quotient") [sg (2 ^ w) u, sg (2 ^ w) (szG y), .int w, .raw (C.W.fn "divrem_school")] (sg (2 ^ w) (near u (szG y))) := fun u hu =>
    nearest_quotient_ok G 3 w hw hw8 _ (divrem_school_ok G 0 w hw1 hw8) u (szG y) (by unfold Small; omega) (by unfold Small; omega) (by unfold Small; omega) hy0
  refine CL.mk (s_neg_ok G 0 w hw1 y.2 (small_of hy4.2 (by decide))) (by ktr_room) ?_
  repeat' tb_start
  refine CL.mk (law_times_ok G 0 w hw1 hw8 x (y.1, -y.2) 4 4 hx4 hc4 (by decide)) (by ktr_room) ?_
  repeat' tb_start
  have hx'4 : Mid 4 (subG x (mulG (many x y) y)) := mid_of_sz (by have := szG_nn (subG x (mulG (many x y) y)); omega)
  have hmd : ∀ (i : Nat) {z : Int × Int}, Mid i z → i ≤ 72 → Mid 72 z := fun _ _ h hi => mid_up h hi
  refine CL.mk (hq _ hm9.1) (by ktr_room) ?_
  repeat' tb_start
  refine CL.mk (hq _ hm9.2) (by ktr_room) ?_
  repeat' tb_start
  refine SS_un ["x", "y"] ?_ (by rw [he]; with_unfolding_all rfl)
  repeat' tb_start
  refine CL.mk (law_without_ok G 0 w hw1 hw8 x (many x y) y 4 hx4 hm hy4 (by decide)) (by ktr_room) ?_
  repeat' tb_start
  refine SS_un ["s", "later_s"] ?_ (by rw [he]; with_unfolding_all rfl)
  repeat' tb_start
  refine CL.mk (law_without_ok G 0 w hw1 hw8 s (many x y) ls 72 (hmd _ I.ms (by omega)) (hmd _ hm (by omega)) (hmd _ I.mls (by omega)) (by decide)) (by ktr_room) ?_
  repeat' tb_start
  refine SS_un ["t", "later_t"] ?_ (by rw [he]; with_unfolding_all rfl)
  repeat' tb_start
  refine CL.mk (law_without_ok G 0 w hw1 hw8 t (many x y) lt 72 (hmd _ I.mt (by omega)) (hmd _ hm (by omega)) (hmd _ I.mlt (by omega)) (by decide)) (by ktr_room) ?_
  repeat' tb_start
  generalize subG x (mulG (many x y) y) = y' at *
  generalize subG s (mulG (many x y) ls) = ls' at *
  generalize subG t (mulG (many x y) lt) = lt' at *
  have sy' := szG_nn y'
  refine CL.mk (law_size_ok G 0 w hw1 hw8 y' 4 hx'4 (by decide)) (by ktr_room) ?_
  repeat' tb_start
  refine CL.mk (s_add_ok G 0 w hw1 hw8 (szG y') (szG y') (by unfold Small; omega) (by unfold Small; omega) (by unfold Small; omega)) (by ktr_room) ?_
  repeat' tb_start
  refine CL.mk (s_compare_ok G 0 w hw1 (szG y' + szG y') (szG y) (by unfold Small; omega) (by unfold Small; omega)) (by ktr_room) ?_
  repeat' tb_start
  · rename_i h
    exfalso
    unfold cmpI at h
    split at h
    · omega
    · split at h <;> omega
  have hls' : Mid 72 ls' := hmd _ I'.mls (by omega)
  have hlt' : Mid 72 lt' := hmd _ I'.mlt (by omega)
  have hml := mulG_mid hls' hb
  have hmt := mulG_mid hlt' ho
  refine SS_un ["here", "there"] ?_ (by rw [he]; with_unfolding_all rfl)
  repeat' tb_start
  refine CL.mk (law_times_ok G 0 w hw1 hw8 ls' b 72 4 hls' hb (by decide)) (by ktr_room) ?_
  repeat' tb_start
  refine CL.mk (law_times_ok G 0 w hw1 hw8 lt' o 72 4 hlt' ho (by decide)) (by ktr_room) ?_
  repeat' tb_start
  refine CL.mk (s_add_ok G 0 w hw1 hw8 (mulG ls' b).1 (mulG lt' o).1 (small_of hml.1 (by decide)) (small_of hmt.1 (by decide)) (small_of (natAbs_add_le hml.1 hmt.1) (by decide))) (by ktr_room) ?_
  repeat' tb_start
  refine CL.mk (s_add_ok G 0 w hw1 hw8 (mulG ls' b).2 (mulG lt' o).2 (small_of hml.2 (by decide)) (small_of hmt.2 (by decide)) (small_of (natAbs_add_le hml.2 hmt.2) (by decide))) (by ktr_room) ?_
  repeat' tb_start
  refine OP_ned (dat_pr (2 ^ w) (addG (mulG ls' b) (mulG lt' o))) (dat_pr (2 ^ w) y') (shaped_pr _ _) (shaped_pr _ _) ?_
  rw [← I'.hy, eqv_pr]
  rw [Bool.not_true]
  repeat' tb_start
  exact hN _ _ _ _ _ _ I' _ _ _ _ _ _ _
theorem law_end {C : Cx} (G : Good C.W) (d : DefRec) (hd : (recsOf view0)[37]? = some d) (hroom : 60 ≤ C.room)
    (hg : C.gn = (["_law_plucked", "_law_signed", "range", "_law_size", "s_sign", "_law_times", "s_neg", "nearest_quotient", "divrem_school", "_law_without", "s_compare", "s_add", "_law_plain", "_law_parts"] : List Str))
    (scr str nt un v0 v1 v2 v3 v4 v5 v6 v7 : V) (w : Nat) (hw : 2 ≤ w) (hw8 : w ≤ 8) (b o x y s ls t lt : Int × Int) (k : Nat) (I : Inv b o x y s ls t lt k) (hb : Mid 4 b) (ho : Mid 4 o) (hy : szG y = 0) :
    SS C (d.body.drop 10) [("script", scr), ("string", str), ("w", .int w), ("first", Li [b.1, b.2]), ("second", Li [o.1, o.2]), ("begun", pr (2 ^ w) b), ("other", pr (2 ^ w) o), ("x", pr (2 ^ w) x), ("y", pr (2 ^ w) y), ("nought", nt), ("unit", un), ("s", pr (2 ^ w) s), ("later_s", pr (2 ^ w) ls), ("t", pr (2 ^ w) t), ("later_t", pr (2 ^ w) lt), ("turn", v0), ("size", v1), ("turned", v2), ("real", v3), ("many", v4), ("left", v5), ("here", v6), ("there", v7), ("last", .unb), ("one", .unb)] [] (RetQ (.bool true)) := by
  cases hd
  dsimp only [List.drop]
  have hw1 : 1 ≤ w := by omega
  have f1 : Fn C.W "_law_size" := (G.defs _ (List.mem_of_getElem? (i := 33) rfl)).fn
  have f2 : Fn C.W "s_sign" := (G.defs _ (List.mem_of_getElem? (i := 12) rfl)).fn
  have f3 : Fn C.W "_law_plain" := (G.defs _ (List.mem_of_getElem? (i := 35) rfl)).fn
  have f4 : Fn C.W "_law_parts" := (G.defs _ (List.mem_of_getElem? (i := 36) rfl)).fn
  have hx4 : Mid 4 x := mid_of_sz I.nx
  have hy4 : Mid 4 y := mid_of_sz (by omega)
  have hx40 := mid_up hx4 (show 4 ≤ 40 by decide)
  have hb40 := mid_up hb (show 4 ≤ 40 by decide)
  have ho40 := mid_up ho (show 4 ≤ 40 by decide)
  obtain ⟨p1, p2⟩ := I.end_ (szG_zero hy)
  have q1 := law_parts_ok G 0 x b hx40 hb40
  have q2 := law_parts_ok G 0 x o hx40 ho40
  rw [(parts_iff x b).mpr p1] at q1
  rw [(parts_iff x o).mpr p2] at q2
  have q3 : ∀ z : Int × Int, parts z b = true → parts z o = true → parts z x = true := fun z h1 h2 => (parts_iff z x).mpr (I.little ((parts_iff z b).mp h1) ((parts_iff z o).mp h2))
  repeat' tb_start
  refine CL.mk (law_size_ok G 0 w hw1 hw8 y 4 hy4 (by decide)) (by ktr_room) ?_
  repeat' tb_start
  refine CL.mk (s_sign_ok G 0 w hw1 (szG y) (by unfold Small; omega)) (by ktr_room) ?_
  rw [if_pos hy]
  repeat' tb_start
  · rename_i h; exact absurd rfl h
  refine CL.mk (law_plain_ok G 0 w hw1 hw8 x hx40) (by ktr_room) ?_
  repeat' tb_start
  refine CL.mk q1 (by ktr_room) ?_
  repeat' tb_start
  refine CL.mk q2 (by ktr_room) ?_
  repeat' tb_start
  refine SS_up ?_
  repeat' tb_start
  refine ⟨rfl, by decide, by decide, by decide, by decide, fun r ρ σ => ∃ u1 u2 u3 : V, IsL ρ [("script", scr), ("string", str), ("w", .int w), ("first", Li [b.1, b.2]), ("second", Li [o.1, o.2]), ("begun", pr (2 ^ w) b), ("other", pr (2 ^ w) o), ("x", pr (2 ^ w) x), ("y", pr (2 ^ w) y), ("nought", nt), ("unit", un), ("s", pr (2 ^ w) s), ("later_s", pr (2 ^ w) ls), ("t", pr (2 ^ w) t), ("later_t", pr (2 ^ w) lt), ("turn", v0), ("size", v1), ("turned", u1), ("real", u2), ("many", v4), ("left", v5), ("here", v6), ("there", v7), ("last", Li [x.1, x.2]), ("one", u3)] ∧ σ = [], ⟨_, _, _, rfl, rfl⟩, ?_, ?_⟩
  · rintro r hr0 hr1 ρ₁ σ₁ ⟨u1, u2, u3, rfl, rfl⟩
    refine ⟨_, _, by nest_fact, ?_⟩
    refine SS_up ?_
    repeat' tb_start
    refine ⟨rfl, by decide, by decide, by decide, by decide, fun t₁ ρ σ => ∃ u1 u3 : V, IsL ρ [("script", scr), ("string", str), ("w", .int w), ("first", Li [b.1, b.2]), ("second", Li [o.1, o.2]), ("begun", pr (2 ^ w) b), ("other", pr (2 ^ w) o), ("x", pr (2 ^ w) x), ("y", pr (2 ^ w) y), ("nought", nt), ("unit", un), ("s", pr (2 ^ w) s), ("later_s", pr (2 ^ w) ls), ("t", pr (2 ^ w) t), ("later_t", pr (2 ^ w) lt), ("turn", v0), ("size", v1), ("turned", u1), ("real", .int r), ("many", v4), ("left", v5), ("here", v6), ("there", v7), ("last", Li [x.1, x.2]), ("one", u3)] ∧ σ = [], ⟨_, _, rfl, rfl⟩, ?_, ?_⟩
    · rintro t₁ ht0 ht1 ρ₁ σ₁ ⟨u1, u3, rfl, rfl⟩
      have hz : Mid 40 (r, t₁) := mid_up (i := 4) ⟨by simp only; omega, by simp only; omega⟩ (by decide)
      repeat' tb_start
      refine OP_ned (dat_li [r, t₁]) (dat_li [0, 0]) (shaped_li [r, t₁]) (shaped_li [0, 0]) ?_
      repeat' tb_start
      · exact ⟨_, _, rfl, rfl⟩
      refine CL.mk (law_parts_ok G 0 (r, t₁) b hz hb40) (by ktr_room) ?_
      repeat' tb_start
      · rename_i h1
        refine CL.mk (law_parts_ok G 0 (r, t₁) o hz ho40) (by ktr_room) ?_
        repeat' tb_start
        · rename_i h2
          have q4 := law_parts_ok G 0 (r, t₁) x hz hx40
          rw [q3 _ h1 h2] at q4
          refine CL.mk q4 (by ktr_room) ?_
          repeat' tb_start
          exact ⟨_, _, rfl, rfl⟩
        · exact ⟨_, _, rfl, rfl⟩
      · exact ⟨_, _, rfl, rfl⟩
    · rintro k hk ρ₁ σ₁ ⟨u1, u3, rfl, rfl⟩
      repeat' tb_start
      exact ⟨_, _, _, rfl, rfl⟩
  · rintro k hk ρ₁ σ₁ ⟨u1, u2, u3, rfl, rfl⟩
    repeat' tb_start
theorem sz9 {x : Int × Int} (h : x.1.natAbs ≤ 9 ∧ x.2.natAbs ≤ 9) : szG x ≤ 162 := by
  have h1 := sq_le (a := x.1) (n := 9) (by have := h.1; omega) (by have := h.1; omega)
  have h2 := sq_le (a := x.2) (n := 9) (by have := h.2; omega) (by have := h.2; omega)
  unfold szG
  omega
theorem Inv.start {b o : Int × Int} (hb : szG b ≤ 162) (ho : szG o ≤ 162) : Inv b o b o (1, 0) (0, 0) (0, 0) (1, 0) 0 := by
  refine ⟨?_, ?_, ⟨1, rfl, rfl⟩, hb, ?_, ⟨by decide, by decide⟩, ⟨by decide, by decide⟩, ⟨by decide, by decide⟩, ⟨by decide, by decide⟩⟩
  · exact Prod.ext (by simp [addG, mulG]) (by simp [addG, mulG])
  · exact Prod.ext (by simp [addG, mulG]) (by simp [addG, mulG])
  · rw [Int.pow_zero, Int.mul_one]; exact ho
theorem law_body {C : Cx} (G : Good C.W) (d : DefRec) (hd : (recsOf view0)[37]? = some d) (hroom : 60 ≤ C.room) (hX : C.X = [])
    (hg : C.gn = (["_law_plucked", "_law_signed", "range", "_law_size", "s_sign", "_law_times", "s_neg", "nearest_quotient", "divrem_school", "_law_without", "s_compare", "s_add", "_law_plain", "_law_parts"] : List Str))
    (he : ∃ L fa cd, C.env = envOf d.name d.scope L fa cd) (ns : List Int) (hl : ns.length ≤ 1000) :
    SS C d.body [("script", Li ns), ("string", .unb), ("w", .unb), ("first", .unb), ("second", .unb), ("begun", .unb), ("other", .unb), ("x", .unb), ("y", .unb), ("nought", .unb), ("unit", .unb), ("s", .unb), ("later_s", .unb), ("t", .unb), ("later_t", .unb), ("turn", .unb), ("size", .unb), ("turned", .unb), ("real", .unb), ("many", .unb), ("left", .unb), ("here", .unb), ("there", .unb), ("last", .unb), ("one", .unb)] [] (RetQ (.bool true)) := by
  have hend := fun scr str nt un v0 v1 v2 v3 v4 v5 v6 v7 w hw hw8 b o x y s ls t lt k I hb ho hy => law_end G d hd hroom hg scr str nt un v0 v1 v2 v3 v4 v5 v6 v7 w hw hw8 b o x y s ls t lt k I hb ho hy
  have hturn := fun scr str nt un v1 v2 v3 v4 v5 v6 v7 w hw hw8 b o x y s ls t lt k hk I hb ho Q hE hN => law_turn G d hd hroom hg he scr str nt un v1 v2 v3 v4 v5 v6 v7 w hw hw8 b o x y s ls t lt k hk I hb ho Q hE hN
  cases hd
  obtain ⟨L, fa, cd, he⟩ := he
  dsimp only [turnOf, List.drop] at hend hturn ⊢
  refine SS_assign (EE_listH (EA_cons (EE_int (EA_cons ?_))))
  refine EE_lc (x := "tone") (cl := []) (gn := ["abs", "int"]) ⟨by decide, rfl, by decide, rfl, by decide, by decide⟩ (by rw [he]; with_unfolding_all rfl) ?_ (by rw [he]; intro _; with_unfolding_all rfl)
  repeat' tb_start
  refine ⟨_, .li _, by simp; omega, ?_⟩
  rw [cut_map]
  obtain ⟨xs, hxs, hxl⟩ : ∃ xs : List Int, xs = (List.take ((some (5 : Int)).elim ns.length (clipAt ns.length) - (none : Option Int).elim 0 (clipAt ns.length)) (List.drop ((none : Option Int).elim 0 (clipAt ns.length)) ns)) ∧ xs.length ≤ 1000 := ⟨_, rfl, Nat.le_trans (List.length_take_le' _ _) (by rw [List.length_drop]; exact Nat.le_trans (Nat.sub_le _ _) hl)⟩
  rw [← hxs]
  clear hxs
  refine ⟨_, (xs.map fun t => if t < 0 then -t else t).map V.int, .inl rfl, by simp; omega, by simp, ?_, ?_⟩
  · intro i X Y hX hY D hD
    obtain ⟨z, rfl, rfl⟩ : ∃ z : Int, X = .int z ∧ Y = .int (if z < 0 then -z else z) := by
      rw [List.getElem?_map] at hX hY
      rw [List.getElem?_map] at hY
      cases q : xs[i]? with
      | none => rw [q] at hX; cases hX
      | some z => rw [q] at hX hY; cases hX; cases hY; exact ⟨z, rfl, rfl⟩
    refine (?_ : ∀ C' : Cx, Good C'.W → C'.gn = ([("abs" : Str), "int"] : List Str) → EE C' _ [("tone", .int z)] [] _) (C.comp _ _ _ _ _ D hD) G rfl
    intro C' G' hg'
    repeat' tb_start
  obtain ⟨ys, hys, hyl⟩ : ∃ ys : List Int, ys = (xs.map fun t => if t < 0 then -t else t) ∧ ys.length ≤ 1000 := ⟨_, rfl, by simp; omega⟩
  rw [← hys]
  clear hys hxl
  have f1 : Fn C.W "_law_plucked" := (G.defs _ (List.mem_of_getElem? (i := 28) rfl)).fn
  have f2 : Fn C.W "_law_signed" := (G.defs _ (List.mem_of_getElem? (i := 30) rfl)).fn
  have hpl : ∀ k many : Int, 0 ≤ k → k ≤ 1000 → 0 < many → CallOkM C.W 1 (C.W.fn "_law_plucked") [.int k, Li ys] [.int many] (.int (pluck ys k many)) [.int (k + 1), Li ys] := fun k many h1 h2 h3 => law_plucked_ok G 0 ys k many hyl h1 h2 h3
  have hpb : ∀ k many : Int, 0 < many → 0 ≤ pluck ys k many ∧ pluck ys k many < many := fun k many h => ⟨Int.emod_nonneg _ (by omega), Int.emod_lt_of_pos _ h⟩
  refine EA_nil ⟨by simp, fun a ha => ?_⟩
  repeat' tb_start
  refine CLM.mk (hpl 0 6 (by decide) (by decide) (by decide)) (by nest_fact) (by ktr_room) ?_
  repeat' tb_start
  obtain ⟨w, hwe, hw, hw8⟩ : ∃ w : Nat, (3 + pluck ys 0 6 : Int) = w ∧ 2 ≤ w ∧ w ≤ 8 := ⟨(3 + pluck ys 0 6).toNat, by have := hpb 0 6 (by decide); omega, by have := hpb 0 6 (by decide); omega, by have := hpb 0 6 (by decide); omega⟩
  rw [hwe]
  clear hwe
  refine CLM.mk (hpl (0 + 1) 19 (by decide) (by decide) (by decide)) (by nest_fact) (by ktr_room) ?_
  repeat' tb_start
  refine CLM.mk (hpl (0 + 1 + 1) 19 (by decide) (by decide) (by decide)) (by nest_fact) (by ktr_room) ?_
  repeat' tb_start
  obtain ⟨us, b, hub, hb⟩ : ∃ (us : List Int) (b : Int × Int), ([V.int (pluck ys (0 + 1) 19 - 9), V.int (pluck ys (0 + 1 + 1) 19 - 9)] = us.map V.int ∧ us = [b.1, b.2]) ∧ b.1.natAbs ≤ 9 ∧ b.2.natAbs ≤ 9 := ⟨_, (pluck ys (0 + 1) 19 - 9, pluck ys (0 + 1 + 1) 19 - 9), ⟨rfl, rfl⟩, by have := hpb (0 + 1) 19 (by decide); have := hpb (0 + 1 + 1) 19 (by decide); exact ⟨by simp only; omega, by simp only; omega⟩⟩
  rw [hub.1]
  replace hub := hub.2
  have lu : us.length = 2 := by rw [hub]; rfl
  have u0 : us.getD (0 : Int).toNat 0 = b.1 := by rw [hub]; rfl
  have u1 : us.getD (1 : Int).toNat 0 = b.2 := by rw [hub]; rfl
  refine CLM.mk (hpl (0 + 1 + 1 + 1) 19 (by decide) (by decide) (by decide)) (by nest_fact) (by ktr_room) ?_
  repeat' tb_start
  refine CLM.mk (hpl (0 + 1 + 1 + 1 + 1) 19 (by decide) (by decide) (by decide)) (by nest_fact) (by ktr_room) ?_
  repeat' tb_start
  obtain ⟨c, hcc, hc⟩ : ∃ c : Int × Int, ([V.int (pluck ys (0 + 1 + 1 + 1) 19 - 9), V.int (pluck ys (0 + 1 + 1 + 1 + 1) 19 - 9)] = [c.1, c.2].map V.int) ∧ c.1.natAbs ≤ 9 ∧ c.2.natAbs ≤ 9 := ⟨(pluck ys (0 + 1 + 1 + 1) 19 - 9, pluck ys (0 + 1 + 1 + 1 + 1) 19 - 9), rfl, by have := hpb (0 + 1 + 1 + 1) 19 (by decide); have := hpb (0 + 1 + 1 + 1 + 1) 19 (by decide); exact ⟨by simp only; omega, by simp only; omega⟩⟩
  rw [hcc]
  clear hcc hpb hpl
  obtain ⟨vs, o, hvo, ho, hor⟩ : ∃ (vs : List Int) (o : Int × Int), vs = [o.1, o.2] ∧ (o.1.natAbs ≤ 9 ∧ o.2.natAbs ≤ 9) ∧ ((c = (0, 0) ∧ o = (1, 0)) ∨ (c ≠ (0, 0) ∧ o = c)) := by
    by_cases q : c = (0, 0)
    · exact ⟨_, (1, 0), rfl, ⟨by decide, by decide⟩, .inl ⟨q, rfl⟩⟩
    · exact ⟨_, c, rfl, hc, .inr ⟨q, rfl⟩⟩
  have lv : vs.length = 2 := by rw [hvo]; rfl
  have v0 : vs.getD (0 : Int).toNat 0 = o.1 := by rw [hvo]; rfl
  have v1 : vs.getD (1 : Int).toNat 0 = o.2 := by rw [hvo]; rfl
  refine EE_ifj (Li vs) ?_ ?_
  · repeat' tb_start
    refine OP_eqd (dat_li [c.1, c.2]) (dat_li [0, 0]) (shaped_li [c.1, c.2]) (shaped_li [0, 0]) ?_
    rw [eqv_li]
    have hcq : ([c.1, c.2] == [(0 : Int), 0]) = true ↔ c = (0, 0) := by
      rw [beq_iff_eq]; constructor
      · intro q; injection q with q1 q2; injection q2 with q2 q3; exact Prod.ext q1 q2
      · rintro rfl; rfl
    refine TB.mk ⟨rfl, ⟨fun q => ?_, fun q => ?_⟩⟩
    · rcases hor with ⟨_, h⟩ | ⟨h, _⟩
      · subst h
        subst hvo
        repeat' tb_start
      · exact absurd (hcq.mp q) h
    · rcases hor with ⟨h, _⟩ | ⟨_, h⟩
      · rw [hcq.mpr h] at q; cases q
      · subst h
        subst hvo
        repeat' tb_start
  have hw1 : 1 ≤ w := by omega
  have ho1 : 1 ≤ szG o := by
    rcases hor with ⟨_, rfl⟩ | ⟨h, rfl⟩
    · decide
    · have := szG_nn o
      by_cases q : szG o = 0
      · exact absurd (szG_zero q) h
      · omega
  clear hor hc
  repeat' tb_start
  rw [u0]
  refine CL.mk (law_signed_ok G 0 w hw1 hw8 b.1 (by have := hb.1; omega)) (by ktr_room) ?_
  repeat' tb_start
  rw [u1]
  refine CL.mk (law_signed_ok G 0 w hw1 hw8 b.2 (by have := hb.2; omega)) (by ktr_room) ?_
  repeat' tb_start
  rw [v0]
  refine CL.mk (law_signed_ok G 0 w hw1 hw8 o.1 (by have := ho.1; omega)) (by ktr_room) ?_
  repeat' tb_start
  rw [v1]
  refine CL.mk (law_signed_ok G 0 w hw1 hw8 o.2 (by have := ho.2; omega)) (by ktr_room) ?_
  repeat' tb_start
  subst hub
  subst hvo
  refine SS_frz hX (by ktr_unf) ?_
  refine SS_up4 ?_
  repeat' tb_start
  refine SS_up4 ?_
  repeat' tb_start
  have hbm : Mid 4 b := ⟨by have := hb.1; omega, by have := hb.2; omega⟩
  have hom : Mid 4 o := ⟨by have := ho.1; omega, by have := ho.2; omega⟩
  have I0 := Inv.start (sz9 hb) (sz9 ho)
  have e1 : pr (2 ^ w) (1, 0) = .tup [.tup [.bool false, .li [.int 1]], .tup [.bool false, .li []]] := by
    show V.tup [.tup [.bool (decide ((1 : Int) < 0)), Li (lim (2 ^ w) 1)], .tup [.bool (decide ((0 : Int) < 0)), Li (lim (2 ^ w) 0)]] = _
    rw [lim_one (pow_ge2 hw1), lim_zero]; rfl
  have e0 : pr (2 ^ w) (0, 0) = .tup [.tup [.bool false, .li []], .tup [.bool false, .li []]] := by
    show V.tup [.tup [.bool (decide ((0 : Int) < 0)), Li (lim (2 ^ w) 0)], .tup [.bool (decide ((0 : Int) < 0)), Li (lim (2 ^ w) 0)]] = _
    rw [lim_zero]; rfl
  refine SS_up ?_
  repeat' tb_start
  refine ⟨rfl, by decide, by decide, by decide, by decide, fun k ρ σ => ∃ (x y s ls t lt : Int × Int) (u0 u1 u2 u3 u4 u5 u6 u7 : V), Inv b o x y s ls t lt k.toNat ∧ IsL ρ [("script", Li ns), ("string", .li [.int (0 + 1 + 1 + 1 + 1 + 1), Li ys]), ("w", .int w), ("first", Li [b.1, b.2]), ("second", Li [o.1, o.2]), ("begun", pr (2 ^ w) b), ("other", pr (2 ^ w) o), ("x", pr (2 ^ w) x), ("y", pr (2 ^ w) y), ("nought", .tup [.bool false, .li []]), ("unit", .tup [.bool false, .li [.int 1]]), ("s", pr (2 ^ w) s), ("later_s", pr (2 ^ w) ls), ("t", pr (2 ^ w) t), ("later_t", pr (2 ^ w) lt), ("turn", u0), ("size", u1), ("turned", u2), ("real", u3), ("many", u4), ("left", u5), ("here", u6), ("there", u7), ("last", .unb), ("one", .unb)] ∧ σ = [], ⟨b, o, (1, 0), (0, 0), (0, 0), (1, 0), .unb, .unb, .unb, .unb, .unb, .unb, .unb, .unb, I0, by rw [IsL, e1, e0], rfl⟩, ?_, ?_⟩
  · rintro k hk0 hk1 ρ₁ σ₁ ⟨x, y, s, ls, t, lt, u0, u1, u2, u3, u4, u5, u6, u7, I, rfl, rfl⟩
    refine ⟨_, _, by nest_fact, ?_⟩
    obtain ⟨k, rfl⟩ : ∃ n : Nat, k = n := ⟨k.toNat, by omega⟩
    rw [Int.toNat_natCast] at I
    refine hturn _ _ _ _ _ _ _ _ _ _ _ w hw hw8 b o x y s ls t lt k (by omega) I hbm hom _ (fun hy u1 => ?_) (fun x y s ls t lt I u1 u2 u3 u4 u5 u6 u7 => ?_)
    · exact hend _ _ _ _ _ _ _ _ _ _ _ _ w hw hw8 b o x y s ls t lt k I hbm hom hy
    · exact ⟨x, y, s, ls, t, lt, _, u1, u2, u3, u4, u5, u6, u7, by rwa [show ((k : Int) + 1).toNat = k + 1 by omega], rfl, rfl⟩
  · rintro k hk ρ₁ σ₁ ⟨x, y, s, ls, t, lt, u0, u1, u2, u3, u4, u5, u6, u7, I, rfl, rfl⟩
    have hk' : k.toNat = 12 := by rw [hk]; decide
    rw [hk'] at I
    refine hend _ _ _ _ _ _ _ _ _ _ _ _ w hw hw8 b o x y s ls t lt 12 I hbm hom ?_
    have h1 := I.ny
    have h2 := szG_nn y
    have h3 : szG y * 4096 ≤ 162 := h1
    omega
end Mine
end
section
open PySem PySem.Calls PyProof.Rows PySem.W
set_option linter.unusedVariables false
set_option maxRecDepth 100000
set_option maxHeartbeats 2000000
namespace Mine
theorem ints_rep {h : Heap} {S : List Addr} : ∀ {vals : List Value} {ns : List Int}, IntsAre vals ns → RepL h S (ns.map V.int) vals
  | _, _, .nil => by simp only [List.map_nil, RepL]
  | _, _, .cons n t r => by simp only [List.map_cons, RepL]; exact ⟨int_rep, ints_rep r⟩
def headW {loose : List Str} {mean : ExcName → Option Value} {mg mb : Str → Option Value} {h : Heap} (p : Program) (w : World) (T : Top view0 loose mean mg mb h) : Wd := ⟨p, w, h, mg, mb, T.g, T.b, T.nolimit⟩
theorem head_free : ∀ x ∈ (["len", "range", "enumerate", "min", "abs", "int"] : List Str), x ∉ startupNames ∧ x ∉ looseW view0 [] ∧ x ∉ (recsOf view0).map (·.name) ∧ x ∉ (litsOf view0).map (·.1) ∧ x ∉ (clssOf view0 (looseW view0 [])).map (·.name) ∧ x ≠ "__name__" := by decide +kernel
theorem head_res {mean : ExcName → Option Value} {mg mb : Str → Option Value} {h : Heap} (T : Top view0 (looseW view0 []) mean mg mb h) (x : Str) (hx : x ∈ (["len", "range", "enumerate", "min", "abs", "int"] : List Str)) (v : Value) (hv : bootBuiltins x = some v) : mg x = some v ∨ (mg x = none ∧ mb x = some v) :=
  let ⟨h1, h2, h3, h4, h5, h6⟩ := head_free x hx
  .inr ⟨T.free x h1 h2 h3 h4 h5, (T.builtins x h6).trans hv⟩
theorem head_good {mean : ExcName → Option Value} {mg mb : Str → Option Value} {h : Heap} (p : Program) (w : World) (T : Top view0 (looseW view0 []) mean mg mb h) : Good (headW p w T) where
  defs := fun d hd => T.fn d hd
  len := head_res T _ (by decide) _ rfl
  range := head_res T _ (by decide) _ rfl
  enum := head_res T _ (by decide) _ rfl
  min := head_res T _ (by decide) _ rfl
  abs := head_res T _ (by decide) _ rfl
  int := head_res T _ (by decide) _ rfl
theorem law_ok {W : Wd} (G : Good W) (ns : List Int) (hn : ns.length ≤ 1000) : CallOk W 61 (W.fn "law") [Li ns] (.bool true) := by
  refine CallOk.of (n := 60) (G.defs _ (List.mem_of_getElem? (i := 37) rfl)) ["string", "w", "first", "second", "begun", "other", "x", "y", "nought", "unit", "s", "later_s", "t", "later_t", "turn", "size", "turned", "real", "many", "left", "here", "there", "last", "one"] ["_law_plucked", "_law_signed", "range", "_law_size", "s_sign", "_law_times", "s_neg", "nearest_quotient", "divrem_school", "_law_without", "s_compare", "s_add", "_law_plain", "_law_parts"] _ rfl (by decide) rfl (fun vals hv pm cd doc => ?_) (fun C hW hm hX hg he => ?_)
  · match vals, hv with
    | [_], _ => rfl
  · subst hW
    exact law_body G _ rfl (by omega) hX hg he ns hn
theorem law_called {mean : ExcName → Option Value} {mg mb : Str → Option Value} {s₁ : Shared} (p : Program) (w : World) (T : Top view0 (looseW view0 []) mean mg mb s₁.heap) {f a : Addr} (hf : mg "law" = some (.ref f)) {vals : List Value} {ns : List Int} (hL : s₁.heap.IsList a vals.toArray) (hI : IntsAre vals ns) (hn : ns.length ≤ 1000) :
    codeAny (model p w) callerA (.call (.ref f) ⟨[.ref a], []⟩) (fun r s' => r = .ok (.ret (.bool true)) ∧ (∃ h tk, s' = { s₁ with heap := h, toks := tk }) ∧ ∀ b o, s₁.heap.get? b = some o → s'.heap.get? b = some o) s₁ := by
  have e : (headW p w T).fn "law" = .ref f := by unfold Wd.fn; show (mg "law").getD _ = _; rw [hf]; rfl
  have h := (law_ok (head_good p w T) ns hn).2 callerA s₁ [] [.ref a] ⟨rfl, by decide, by decide⟩ (fun _ _ e => e) (fun _ h => by cases h) (by simp only [RepL, Rep]; exact ⟨⟨a, vals, rfl, by simp, hL, ints_rep hI⟩, trivial⟩)
  rw [e] at h
  refine codeAny_mono h fun r s' h => ?_
  obtain ⟨v, rfl, h1, h2, h3⟩ := h
  cases rep_bool h3
  exact ⟨rfl, h1, h2⟩
end Mine
end
open PySem PySem.Calls PySem.W PyProof.Rows
set_option maxRecDepth 100000
namespace Mine
theorem post_true (args : List WData) : PySem.Challenge.rw_xm0406_01.row.claim.post args (.bool true) args = true := by
  show (WShape.has [] (.bool true) .bool && WTm.holds [] (.eq .res (.lit (.bool true))) { args := args, res := some (.bool true), after := args }) = true
  simp [WTm.holds, WTm.value, WShape.has, WShape.arms, same]
theorem head_some : (defOf view0 PySem.Challenge.rw_xm0406_01.row.name).isSome = true := by decide +kernel
theorem head_def : ∃ d kwd, defOf view0 PySem.Challenge.rw_xm0406_01.row.name = some (d, kwd) ∧ PySem.Challenge.rw_xm0406_01.row.prog.theDef PySem.Challenge.rw_xm0406_01.row.name = some (d.params, d.body, d.scope) ∧ kwWritten? d.params.kwonlyargs d.params.kw_defaults = some kwd :=
  ⟨(Option.get _ head_some).1, (Option.get _ head_some).2, by kernel_rfl, by kernel_rfl, by kernel_rfl⟩
end Mine
set_option maxHeartbeats 8000000 in
theorem PySem.Challenge.cw_xm0406_01_holds : PySem.Challenge.rw_xm0406_01.Holds := by
  refine holds_law Mine.head_said fun said => ?_
  obtain ⟨d, kwd, h1, h2, h3⟩ := Mine.head_def
  refine holds_open (q := Mine.view0) (loose := []) (Xt := fun s => xlAt Mine.view0 [] s && recOk (RowW.records PySem.Challenge.rw_xm0406_01.row.toRowW) s) (XP := XL Mine.view0 []) (Yf := Hook.obs Hook.none) (Ya := Hook.val Hook.none) (YP := Hook.says Hook.none) (N := 3926) Mine.head_left (Hook.of Hook.none) (Hook.keeps Hook.none) (fun s e => xl_of s (Bool.and_eq_true_iff.mp e).1) XL.keeps h1 h2 h3 (fun s e => recFacts_of (Bool.and_eq_true_iff.mp e).2) rfl said Mine.head_ok Mine.head_bare Mine.head_promised ?_
  intro w s₀ s₁ mg mb G Y a o pm cd doc dV kV ho hd hcd hD hmg hg args vals as hpre hlay hrd hwl hlo
  have T := G.T
  have hn := defOf_name h1
  rw [hn] at hmg
  clear ho hd hcd hD hn G
  wrow_args hpre hlay hrd hwl hlo
  refine enter_call ?_
  refine codeAny_mono (Mine.law_called _ w T hmg ‹Heap.IsList _ _ _› ‹IntsAre _ _› (by omega)) (fun r s' h => GoodW.toG ?_)
  obtain ⟨rfl, ⟨h, tk, rfl⟩, hk⟩ := h
  exact ⟨.inl ⟨_, _, _, rfl, fun _ => rfl, .bool true, Mine.post_true _, fun _ => ⟨List.nodup_nil, fun _ h => nomatch h⟩⟩, hk, rfl, hg⟩
