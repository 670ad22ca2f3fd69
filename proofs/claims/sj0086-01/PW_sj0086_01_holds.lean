import PyProof.Rows.All
import Wide.All
import OpenK.AllK
import Wide.FinOn
import Lean
import PySem.Challenge.RW_sj0086_01
open PySem PySem.Calls PySem.Spec PyProof.Rows PySem.W
set_option Elab.async false
set_option maxRecDepth 100000
set_option exponentiation.threshold 2000
set_option linter.unusedSimpArgs false
set_option linter.unusedVariables false

set_option genSizeOf false
set_option genSizeOfSpec false
namespace LM

/-- there are x, y, .. with p and q, in one piece. -/
inductive Ex1 {α : Type} (p q : α → Prop) : Prop
  | mk (x0 : α) (h : p x0) (k : q x0) : Ex1 p q
inductive Ex2 {α β : Type} (p q : α → β → Prop) : Prop
  | mk (x0 : α) (x1 : β) (h : p x0 x1) (k : q x0 x1) : Ex2 p q
inductive Ex3 {α β γ : Type} (p q : α → β → γ → Prop) : Prop
  | mk (x0 : α) (x1 : β) (x2 : γ) (h : p x0 x1 x2) (k : q x0 x1 x2) : Ex3 p q
inductive Ex4 {α β γ δ : Type} (p q : α → β → γ → δ → Prop) : Prop
  | mk (x0 : α) (x1 : β) (x2 : γ) (x3 : δ) (h : p x0 x1 x2 x3) (k : q x0 x1 x2 x3) : Ex4 p q
inductive Ex5 {α β γ δ ε : Type} (p q : α → β → γ → δ → ε → Prop) : Prop
  | mk (x0 : α) (x1 : β) (x2 : γ) (x3 : δ) (x4 : ε) (h : p x0 x1 x2 x3 x4) (k : q x0 x1 x2 x3 x4) : Ex5 p q
inductive Ex6 {α β γ δ ε ζ : Type} (p q : α → β → γ → δ → ε → ζ → Prop) : Prop
  | mk (x0 : α) (x1 : β) (x2 : γ) (x3 : δ) (x4 : ε) (x5 : ζ) (h : p x0 x1 x2 x3 x4 x5) (k : q x0 x1 x2 x3 x4 x5) : Ex6 p q
inductive Ex7 {α β γ δ ε ζ η : Type} (p q : α → β → γ → δ → ε → ζ → η → Prop) : Prop
  | mk (x0 : α) (x1 : β) (x2 : γ) (x3 : δ) (x4 : ε) (x5 : ζ) (x6 : η) (h : p x0 x1 x2 x3 x4 x5 x6) (k : q x0 x1 x2 x3 x4 x5 x6) : Ex7 p q
inductive Ex8 {α β γ δ ε ζ η θ : Type} (p q : α → β → γ → δ → ε → ζ → η → θ → Prop) : Prop
  | mk (x0 : α) (x1 : β) (x2 : γ) (x3 : δ) (x4 : ε) (x5 : ζ) (x6 : η) (x7 : θ) (h : p x0 x1 x2 x3 x4 x5 x6 x7) (k : q x0 x1 x2 x3 x4 x5 x6 x7) : Ex8 p q
inductive Ex9 {α β γ δ ε ζ η θ ι : Type} (p q : α → β → γ → δ → ε → ζ → η → θ → ι → Prop) : Prop
  | mk (x0 : α) (x1 : β) (x2 : γ) (x3 : δ) (x4 : ε) (x5 : ζ) (x6 : η) (x7 : θ) (x8 : ι) (h : p x0 x1 x2 x3 x4 x5 x6 x7 x8) (k : q x0 x1 x2 x3 x4 x5 x6 x7 x8) : Ex9 p q
inductive Ex10 {α β γ δ ε ζ η θ ι κ : Type} (p q : α → β → γ → δ → ε → ζ → η → θ → ι → κ → Prop) : Prop
  | mk (x0 : α) (x1 : β) (x2 : γ) (x3 : δ) (x4 : ε) (x5 : ζ) (x6 : η) (x7 : θ) (x8 : ι) (x9 : κ) (h : p x0 x1 x2 x3 x4 x5 x6 x7 x8 x9) (k : q x0 x1 x2 x3 x4 x5 x6 x7 x8 x9) : Ex10 p q
inductive Al3 (a b c : Prop) : Prop
  | mk (ha : a) (hb : b) (hc : c) : Al3 a b c
inductive Al4 (a b c d : Prop) : Prop
  | mk (ha : a) (hb : b) (hc : c) (hd : d) : Al4 a b c d
inductive Al5 (a b c d e : Prop) : Prop
  | mk (ha : a) (hb : b) (hc : c) (hd : d) (he : e) : Al5 a b c d e
inductive Al6 (a b c d e f : Prop) : Prop
  | mk (ha : a) (hb : b) (hc : c) (hd : d) (he : e) (hf : f) : Al6 a b c d e f
inductive Al7 (a b c d e f g : Prop) : Prop
  | mk (ha : a) (hb : b) (hc : c) (hd : d) (he : e) (hf : f) (hg : g) : Al7 a b c d e f g
inductive Al8 (a b c d e f g i : Prop) : Prop
  | mk (ha : a) (hb : b) (hc : c) (hd : d) (he : e) (hf : f) (hg : g) (hi : i) : Al8 a b c d e f g i


/-- pure data: what the law's values are. -/
inductive D where
  | none
  | bool (b : Bool)
  | int (i : Int)
  | list (l : List D)
  | tup (l : List D)
  | fn (f : Nat)
  deriving Inhabited

noncomputable abbrev Part := Addr → Option Obj

mutual
inductive Tells (fv : Nat → Value) (P : Part) : Value → D → Prop
  | none : Tells fv P Value.none D.none
  | bool (b : Bool) : Tells fv P (Value.bool b) (D.bool b)
  | int (i : Int) (t : Tok) : Tells fv P (Value.int i t) (D.int i)
  | fn (f : Nat) : Tells fv P (fv f) (D.fn f)
  | list {a : Addr} {o : Obj} {vs : List Value} {n : Nat} {l : List D} : P a = some o → o.cls = .type "list" → o.data = .seq vs.toArray n → TellsAll fv P vs l → Tells fv P (Value.ref a) (D.list l)
  | tup {a : Addr} {o : Obj} {vs : List Value} {n : Nat} {l : List D} : P a = some o → o.cls = .type "tuple" → o.data = .seq vs.toArray n → TellsAll fv P vs l → Tells fv P (Value.ref a) (D.tup l)
inductive TellsAll (fv : Nat → Value) (P : Part) : List Value → List D → Prop
  | nil : TellsAll fv P [] []
  | cons {v : Value} {vs : List Value} {d : D} {l : List D} : Tells fv P v d → TellsAll fv P vs l → TellsAll fv P (v :: vs) (d :: l)
end

section
variable {fv : Nat → Value} {P P' : Part}
mutual
theorem Tells.mono (hs : ∀ a o, P a = some o → P' a = some o) : ∀ {v : Value} {d : D}, Tells fv P v d → Tells fv P' v d
  | _, _, .none => .none
  | _, _, .bool b => .bool b
  | _, _, .int i t => .int i t
  | _, _, .fn f => .fn f
  | _, _, .list h1 h2 h3 r => .list (hs _ _ h1) h2 h3 (TellsAll.mono hs r)
  | _, _, .tup h1 h2 h3 r => .tup (hs _ _ h1) h2 h3 (TellsAll.mono hs r)
theorem TellsAll.mono (hs : ∀ a o, P a = some o → P' a = some o) : ∀ {vs : List Value} {l : List D}, TellsAll fv P vs l → TellsAll fv P' vs l
  | _, _, .nil => .nil
  | _, _, .cons h r => .cons (Tells.mono hs h) (TellsAll.mono hs r)
end

theorem TellsAll.length {vs : List Value} {l : List D} (h : TellsAll fv P vs l) : vs.length = l.length := by
  induction vs generalizing l with
  | nil => cases h; rfl
  | cons v vs ih => cases h with | cons _ r => simp [ih r]
theorem TellsAll.get {vs : List Value} {l : List D} (h : TellsAll fv P vs l) : ∀ {k : Nat} {d : D}, l[k]? = some d → ∃ v, vs[k]? = some v ∧ Tells fv P v d := by
  induction vs generalizing l with
  | nil => cases h; intro k d e; simp at e
  | cons v vs ih =>
    cases h with
    | cons h r =>
      intro k d e
      cases k with
      | zero => simp at e; subst e; exact ⟨v, rfl, h⟩
      | succ k => exact ih r (by simpa using e)
theorem TellsAll.get' {vs : List Value} {l : List D} (h : TellsAll fv P vs l) : ∀ {k : Nat} {v : Value}, vs[k]? = some v → ∃ d, l[k]? = some d ∧ Tells fv P v d := by
  induction vs generalizing l with
  | nil => intro k d e; simp at e
  | cons v vs ih =>
    cases h with
    | cons h r =>
      intro k u e
      cases k with
      | zero => simp at e; subst e; exact ⟨_, rfl, h⟩
      | succ k => exact ih r (by simpa using e)
theorem TellsAll.append {vs ws : List Value} {l m : List D} (h : TellsAll fv P vs l) (k : TellsAll fv P ws m) : TellsAll fv P (vs ++ ws) (l ++ m) := by
  induction vs generalizing l with
  | nil => cases h; exact k
  | cons v vs ih => cases h with | cons h r => exact .cons h (ih r)
theorem TellsAll.one {v : Value} {d : D} (h : Tells fv P v d) : TellsAll fv P [v] [d] := .cons h .nil
theorem TellsAll.set {vs : List Value} {l : List D} (h : TellsAll fv P vs l) {v : Value} {d : D} (hv : Tells fv P v d) : ∀ k, TellsAll fv P (vs.set k v) (l.set k d) := by
  induction vs generalizing l with
  | nil => cases h; intro k; exact .nil
  | cons u vs ih =>
    cases h with
    | cons h r =>
      intro k
      cases k with
      | zero => exact .cons hv r
      | succ k => exact .cons h (ih r k)
theorem TellsAll.pick {vs : List Value} {l : List D} (h : TellsAll fv P vs l) : ∀ is : List Nat, TellsAll fv P (is.filterMap (vs[·]?)) (is.filterMap (l[·]?)) := by
  intro is
  induction is with
  | nil => exact .nil
  | cons i is ih =>
    rw [List.filterMap_cons, List.filterMap_cons]
    cases hv : vs[i]? with
    | none =>
      have : l[i]? = none := by
        have := h.length
        rw [List.getElem?_eq_none_iff] at hv ⊢
        omega
      rw [this]; exact ih
    | some v =>
      obtain ⟨d, hd, t⟩ := h.get' hv
      rw [hd]; exact .cons t ih
theorem TellsAll.rep {v : Value} {d : D} (h : Tells fv P v d) : ∀ n, TellsAll fv P (List.replicate n v) (List.replicate n d)
  | 0 => .nil
  | n + 1 => .cons h (TellsAll.rep h n)
end

end LM

set_option genSizeOf false
set_option genSizeOfSpec false
namespace LM

/-- what an expression gives: pure data, or the owned list number k. -/
inductive Rv where
  | d (v : D)
  | c (k : Nat)
  deriving Inhabited

/-- the state of one frame: slots and owned lists. -/
structure Fs where
  ρ : List (Option Rv)
  σ : List (Option (List D))

noncomputable def RTells (fv : Nat → Value) (P : Part) (α : List Addr) (v : Value) : Rv → Prop
  | .d x => Tells fv P v x
  | .c k => ∃ b, α[k]? = some b ∧ v = .ref b

/-- what the whole text gives. -/
structure Gl where
  prog : Program
  w : World
  fns : List Str
  fv : Nat → Value
  mg : Str → Option Value
  mb : Str → Option Value
  hT : Heap
  exc : Value

structure Act where
  G : Gl
  A : Around
  env : Env
  fr : List Env
  lvl : Nat
  main : Bool
  vars : List Str
  muts : List Addr
  FA : List Addr
  K : Part
  P₀ : Part
  s₀ : Shared

structure St (a : Act) (Γ : Fs) (α : List Addr) (P : Part) (s : Shared) : Prop where
  rest : s.gens = a.s₀.gens ∧ s.drawn = a.s₀.drawn ∧ s.os = a.s₀.os
  top : ∀ b o, a.G.hT.get? b = some o → s.heap.get? b = some o
  hold : ∀ b o, a.K b = some o → (b ∉ a.FA → s.heap.get? b = some o) ∧ (b ∈ a.FA → ∃ sl, s.heap.get? b = some { o with slots := sl })
  part : ∀ b o, P b = some o → s.heap.get? b = some o
  ext : ∀ b o, a.P₀ b = some o → P b = some o
  grow : ∀ b, P b ≠ none → a.P₀ b ≠ none ∨ a.K b = none
  ns : Ex1 (fun m => s.heap.Ns a.env.locals m) (fun m => ∀ (i : Nat) (x : Str) (r : Rv), a.vars[i]? = some x → Γ.ρ[i]? = some (some r) → a.env.kindOf x = some .local → ∃ v, m x = some v ∧ RTells a.G.fv P α v r)
  cell : ∀ (x : Str) (c : Addr), a.env.cells.lookup x = some c → ∃ v, s.heap.IsCell c v
  cells : ∀ (i : Nat) (x : Str) (r : Rv), a.vars[i]? = some x → Γ.ρ[i]? = some (some r) → a.env.kindOf x ≠ some .local → Ex2 (fun c v => a.env.cells.lookup x = some c) (fun c v => s.heap.IsCell c (some v) ∧ RTells a.G.fv P α v r)
  own : ∀ (k : Nat) (l : List D), Γ.σ[k]? = some (some l) → Ex2 (fun b vs => α[k]? = some b) (fun b vs => s.heap.PlainList b vs.toArray ∧ TellsAll a.G.fv P vs l)
  len : α.length = Γ.σ.length
  nd : α.Nodup
  apart : ∀ b, b ∈ α → b ∉ a.muts
  there : ∀ b, b ∈ α → ∃ o, s.heap.get? b = some o
  mfree : ∀ b, b ∈ a.muts → a.K b = none ∧ P b = none ∧ a.G.hT.get? b = none
  afree : ∀ (k : Nat) (l : List D) (b : Addr), Γ.σ[k]? = some (some l) → α[k]? = some b → a.K b = none ∧ P b = none ∧ a.G.hT.get? b = none
  akf : ∀ b, b ∈ α → a.K b = none

/-- the facts of an activation that never turn. -/
structure ActOk (a : Act) : Prop where
  kind : a.env.scope.kind = .function
  loc : a.env.locals ∈ a.muts
  cel : a.main = true → ∀ x c, a.env.kindOf x = some .cell → a.env.cells.lookup x = some c → c ∈ a.muts ∧ c ≠ a.env.locals
  clos : ∀ x, a.env.kindOf x = some .cell → ∃ c, a.env.cells.lookup x = some c
  handled : a.A.handled = none
  frames : a.A.frames = some a.fr
  depth : a.A.depth + a.lvl < recursionLimit
  units : a.A.units + 8 * a.lvl + 200 < cLine
  glob : a.G.hT.Ns a.env.globals a.G.mg
  blt : a.G.hT.Ns a.env.builtins a.G.mb
  glob0 : a.env.globals = mainGlobals
  blt0 : a.env.builtins = builtinsNs
  frs : ∀ e ∈ a.fr, e.scope.kind ≠ .module ∧ Ex1 (fun L => e.frame = some L) (fun L => (L = a.env.locals ∨ (L ∈ a.FA ∧ ∃ o es ep, a.K L = some o ∧ o.data = .dict es ep)))
  cinj : ∀ x y c, a.env.cells.lookup x = some c → a.env.cells.lookup y = some c → x = y
  nodup : a.vars.Nodup
  fa : ∀ b, b ∈ a.FA → b ∉ a.muts ∧ a.G.hT.get? b = none ∧ a.P₀ b = none ∧ a.K b ≠ none
  mutIs : ∀ b, b ∈ a.muts → b = a.env.locals ∨ ∃ x, a.env.cells.lookup x = some b
  head : a.main = true → Ex2 (fun outer L => a.fr = a.env :: outer) (fun outer L => a.env.frame = some L)

theorem RTells.mono {fv : Nat → Value} {P P' : Part} {α α' : List Addr} {v : Value} {r : Rv} (hs : ∀ b o, P b = some o → P' b = some o) (ha : α <+: α') (h : RTells fv P α v r) : RTells fv P' α' v r := by
  cases r with
  | d x => exact Tells.mono hs h
  | c k =>
    obtain ⟨b, hb, e⟩ := h
    refine ⟨b, ?_, e⟩
    obtain ⟨t, rfl⟩ := ha
    rw [List.getElem?_append_left (List.getElem?_eq_some_iff.mp hb).1]
    exact hb

section
variable {a : Act} {Γ : Fs} {α : List Addr} {P : Part} {s : Shared}

theorem St.Llt (S : St a Γ α P s) : a.env.locals < s.heap.objs.size := let ⟨_, hn, _⟩ := S.ns; hn.lt

/-- the heap turns at addresses that the state does not speak of. -/
theorem St.change (S : St a Γ α P s) {h' : Heap} {tk : Nat} (W : Addr → Prop)
    (hk : ∀ b o, ¬ W b → s.heap.get? b = some o → h'.get? b = some o)
    (hW : ∀ b, W b → a.K b = none ∧ P b = none ∧ a.G.hT.get? b = none ∧ b ≠ a.env.locals ∧ b ∉ α ∧ ∀ x, a.env.cells.lookup x ≠ some b) :
    St a Γ α P { s with heap := h', toks := tk } where
  rest := S.rest
  top := fun b o e => hk b o (fun w => by rw [(hW b w).2.2.1] at e; cases e) (S.top b o e)
  hold := fun b o e => ⟨fun hb => hk b o (fun w => by rw [(hW b w).1] at e; cases e) ((S.hold b o e).1 hb), fun hb => let ⟨sl, h⟩ := (S.hold b o e).2 hb; ⟨sl, hk b _ (fun w => by rw [(hW b w).1] at e; cases e) h⟩⟩
  part := fun b o e => hk b o (fun w => by rw [(hW b w).2.1] at e; cases e) (S.part b o e)
  ext := S.ext
  grow := S.grow
  ns := by
    obtain ⟨m, ⟨o, es, ep, ho, r⟩, hv⟩ := S.ns
    exact ⟨m, ⟨o, es, ep, hk _ _ (fun w => (hW _ w).2.2.2.1 rfl) ho, r⟩, hv⟩
  cell := fun x c hc => by
    obtain ⟨v, o, ho, hd⟩ := S.cell x c hc
    exact ⟨v, o, hk _ _ (fun w => (hW _ w).2.2.2.2.2 x hc) ho, hd⟩
  cells := fun i x r hx hr hl => by
    obtain ⟨c, v, hc, ⟨o, ho, hd⟩, t⟩ := S.cells i x r hx hr hl
    exact ⟨c, v, hc, ⟨o, hk _ _ (fun w => (hW _ w).2.2.2.2.2 x hc) ho, hd⟩, t⟩
  own := fun k l hl => by
    obtain ⟨b, vs, hb, ⟨n, hp⟩, t⟩ := S.own k l hl
    exact ⟨b, vs, hb, ⟨n, hk _ _ (fun w => (hW _ w).2.2.2.2.1 (List.mem_of_getElem? hb)) hp⟩, t⟩
  len := S.len
  nd := S.nd
  apart := S.apart
  there := fun b hb => let ⟨o, ho⟩ := S.there b hb; ⟨o, hk _ _ (fun w => (hW _ w).2.2.2.2.1 hb) ho⟩
  mfree := S.mfree
  afree := S.afree
  akf := S.akf

theorem St.keeps (S : St a Γ α P s) {h' : Heap} {tk : Nat} (hk : ∀ b o, s.heap.get? b = some o → h'.get? b = some o) : St a Γ α P { s with heap := h', toks := tk } :=
  S.change (fun _ => False) (fun b o _ e => hk b o e) (fun _ w => w.elim)
theorem St.tok (S : St a Γ α P s) (tk : Nat) : St a Γ α P { s with toks := tk } := S.keeps (h' := s.heap) fun _ _ e => e
theorem St.push (S : St a Γ α P s) (o : Obj) {tk : Nat} : St a Γ α P { s with heap := s.heap.push o, toks := tk } := S.keeps fun _ _ e => Heap.get?_push_of_some o e

theorem fresh_none {h : Heap} : h.get? h.objs.size = none := by
  cases e : h.get? h.objs.size with
  | none => rfl
  | some o => exact absurd (Heap.lt_size e) (Nat.lt_irrefl _)

theorem none_of_keep {h h' : Heap} {b : Addr} (k : ∀ b o, h.get? b = some o → h'.get? b = some o) (hn : h'.get? b = none) : h.get? b = none := by
  cases e : h.get? b with
  | none => rfl
  | some o => rw [k b o e] at hn; cases hn

/-- an address that the heap does not hold. -/
theorem St.out (S : St a Γ α P s) {b : Addr} (hb : s.heap.get? b = none) : a.K b = none ∧ P b = none ∧ a.G.hT.get? b = none ∧ b ≠ a.env.locals ∧ b ∉ α ∧ ∀ x, a.env.cells.lookup x ≠ some b := by
  refine ⟨?_, ?_, ?_, ?_, ?_, ?_⟩
  · cases e : a.K b with
    | none => rfl
    | some o =>
      by_cases hf : b ∈ a.FA
      · obtain ⟨sl, h⟩ := (S.hold b o e).2 hf; rw [hb] at h; cases h
      · have h := (S.hold b o e).1 hf; rw [hb] at h; cases h
  · cases e : P b with
    | none => rfl
    | some o => have h := S.part b o e; rw [hb] at h; cases h
  · exact none_of_keep S.top hb
  · rintro rfl
    obtain ⟨m, ⟨o, es, ep, ho, _⟩, _⟩ := S.ns
    rw [hb] at ho; cases ho
  · intro hm
    obtain ⟨o, ho⟩ := S.there b hm
    rw [hb] at ho; cases ho
  · intro x hx
    obtain ⟨v, o, ho, _⟩ := S.cell x b hx
    rw [hb] at ho; cases ho

noncomputable def Part.add (P : Part) (n : Addr) (o : Obj) : Part := fun b => if b = n then some o else P b
theorem Part.add_self {P : Part} {n : Addr} {o : Obj} : P.add n o n = some o := if_pos rfl
theorem Part.add_keep {P : Part} {n : Addr} {o : Obj} (hn : P n = none) : ∀ b o', P b = some o' → P.add n o b = some o' := fun b o' e => by
  unfold Part.add
  rw [if_neg (fun q => by rw [q, hn] at e; cases e)]
  exact e

/-- P grows by an object that stands in the heap at an address of no other part. -/
theorem St.addPart (S : St a Γ α P s) {n : Addr} {o : Obj} (ho : s.heap.get? n = some o) (hP : P n = none) (hK : a.K n = none) (hm : n ∉ a.muts) (hα : ∀ (k : Nat) (l : List D), Γ.σ[k]? = some (some l) → α[k]? ≠ some n) : St a Γ α (P.add n o) s where
  rest := S.rest
  top := S.top
  hold := S.hold
  part := fun b o' e => by
    by_cases q : b = n
    · subst q; rw [Part.add_self] at e; cases e; exact ho
    · unfold Part.add at e; rw [if_neg q] at e; exact S.part b o' e
  ext := fun b o' e => Part.add_keep hP b o' (S.ext b o' e)
  grow := fun b e => by
    by_cases q : b = n
    · subst q; exact .inr hK
    · unfold Part.add at e; rw [if_neg q] at e; exact S.grow b e
  ns := by
    obtain ⟨m, hn, hv⟩ := S.ns
    exact ⟨m, hn, fun i x r hx hr hl => let ⟨v, h1, h2⟩ := hv i x r hx hr hl; ⟨v, h1, h2.mono (Part.add_keep hP) (List.prefix_refl _)⟩⟩
  cell := S.cell
  cells := fun i x r hx hr hl => let ⟨c, v, h1, h2, h3⟩ := S.cells i x r hx hr hl; ⟨c, v, h1, h2, h3.mono (Part.add_keep hP) (List.prefix_refl _)⟩
  own := fun k l hl => let ⟨b, vs, h1, h2, h3⟩ := S.own k l hl; ⟨b, vs, h1, h2, h3.mono (Part.add_keep hP)⟩
  len := S.len
  nd := S.nd
  apart := S.apart
  there := S.there
  mfree := fun b hb => by
    obtain ⟨h1, h2, h3⟩ := S.mfree b hb
    refine ⟨h1, ?_, h3⟩
    have q : b ≠ n := fun q => hm (by rw [← q]; exact hb)
    unfold Part.add
    rw [if_neg q]
    exact h2
  afree := fun k l b hl hb => by
    obtain ⟨h1, h2, h3⟩ := S.afree k l b hl hb
    refine ⟨h1, ?_, h3⟩
    have q : b ≠ n := fun q => hα k l hl (by rw [← q]; exact hb)
    unfold Part.add
    rw [if_neg q]
    exact h2
  akf := S.akf

theorem St.fresh_muts (S : St a Γ α P s) (ok : ActOk a) {b : Addr} (hb : s.heap.get? b = none) : b ∉ a.muts := fun h => by
  obtain ⟨_, _, _, h1, _, h2⟩ := S.out hb
  rcases ok.mutIs b h with e | ⟨x, e⟩
  · exact h1 e
  · exact h2 x e
end

end LM

namespace LM

noncomputable def Fs.put (Γ : Fs) (i : Nat) (r : Rv) : Fs := { Γ with ρ := Γ.ρ.set i (some r) }
noncomputable def Fs.own (Γ : Fs) (l : List D) : Fs := { Γ with σ := Γ.σ ++ [some l] }
noncomputable def Fs.setσ (Γ : Fs) (k : Nat) (l : List D) : Fs := { Γ with σ := Γ.σ.set k (some l) }

noncomputable def Rv.frz (k : Nat) (l : List D) : Rv → Rv
  | .c j => if j = k then .d (.list l) else .c j
  | r => r
/-- the owned list number k turns to plain data. -/
noncomputable def Fs.frz (Γ : Fs) (k : Nat) (l : List D) : Fs := ⟨Γ.ρ.map (Option.map (Rv.frz k l)), Γ.σ.set k none⟩

theorem nodup_at {β : Type} : ∀ {l : List β}, l.Nodup → ∀ {i j : Nat} {x : β}, l[i]? = some x → l[j]? = some x → i = j
  | [], _, i, j, x, hi, _ => by simp at hi
  | y :: l, h, 0, 0, x, _, _ => rfl
  | y :: l, h, 0, j + 1, x, hi, hj => by
    simp at hi hj; subst hi
    exact absurd (List.mem_of_getElem? hj) (List.nodup_cons.mp h).1
  | y :: l, h, i + 1, 0, x, hi, hj => by
    simp at hi hj; subst hj
    exact absurd (List.mem_of_getElem? hi) (List.nodup_cons.mp h).1
  | y :: l, h, i + 1, j + 1, x, hi, hj => by
    simp at hi hj
    rw [nodup_at (List.nodup_cons.mp h).2 hi hj]
theorem nodup_get {l : List Str} (h : l.Nodup) {i j : Nat} {x y : Str} (hi : l[i]? = some x) (hj : l[j]? = some y) (hij : i ≠ j) : x ≠ y := by
  intro e
  subst e
  exact hij (nodup_at h hi hj)
theorem nodup_addr {l : List Addr} (h : l.Nodup) {i j : Nat} {x : Addr} (hi : l[i]? = some x) (hj : l[j]? = some x) : i = j := nodup_at h hi hj

section
variable {a : Act} {Γ : Fs} {α : List Addr} {P : Part} {s : Shared}

theorem get?_at {h h' : Heap} {b c : Addr} (hs : Heap.SameBut c h h') (hbc : b ≠ c) : h'.get? b = h.get? b := hs.2 b hbc

/-- a local name is stored. -/
theorem St.storeLocal (S : St a Γ α P s) (ok : ActOk a) {i : Nat} {x : Str} {r : Rv} {v : Value} {m : Str → Option Value} {h' : Heap} {tk : Nat} (hx : a.vars[i]? = some x)
    (hm : ∀ (j : Nat) (y : Str) (q : Rv), a.vars[j]? = some y → Γ.ρ[j]? = some (some q) → a.env.kindOf y = some .local → ∃ u, m y = some u ∧ RTells a.G.fv P α u q)
    (hn : h'.Ns a.env.locals (fun y => if y = x then some v else m y)) (hs : Heap.SameBut a.env.locals s.heap h') (hkx : a.env.kindOf x = some .local) (hr : RTells a.G.fv P α v r) :
    St a (Γ.put i r) α P { s with heap := h', toks := tk } := by
  have hL := S.mfree _ ok.loc
  have hne : ∀ {b : Addr} {o : Obj}, P b = some o → b ≠ a.env.locals := fun e q => by rw [q, hL.2.1] at e; cases e
  have hcell : ∀ {y : Str} {c : Addr} {w : Option Value}, a.env.cells.lookup y = some c → s.heap.IsCell c w → c ≠ a.env.locals := fun hc ⟨o, ho, hd⟩ q => by
    obtain ⟨m', ⟨o', es, ep, ho', hd', _⟩, _⟩ := S.ns
    rw [q, ho'] at ho; cases ho; rw [hd'] at hd; cases hd
  refine ⟨S.rest, fun b o e => ?_, fun b o e => ?_, fun b o e => ?_, S.ext, S.grow, ⟨_, hn, ?_⟩, ?_, ?_, ?_, S.len, S.nd, S.apart, fun b hb => ?_, S.mfree, S.afree, S.akf⟩
  · exact (get?_at hs (fun q => by rw [q, hL.2.2] at e; cases e)).trans (S.top b o e)
  · have hb : b ≠ a.env.locals := fun q => by rw [q, hL.1] at e; cases e
    exact ⟨fun hf => (get?_at hs hb).trans ((S.hold b o e).1 hf), fun hf => let ⟨sl, h⟩ := (S.hold b o e).2 hf; ⟨sl, (get?_at hs hb).trans h⟩⟩
  · exact (get?_at hs (hne e)).trans (S.part b o e)
  · intro j y q hy hq hl
    by_cases hij : i = j
    · subst hij
      rw [hx] at hy; cases hy
      have hq' : (Γ.ρ.set i (some r))[i]? = some (some q) := hq
      rw [List.getElem?_set_self'] at hq'
      cases hg : Γ.ρ[i]? with
      | none => rw [hg] at hq'; cases hq'
      | some z => rw [hg] at hq'; cases hq'; exact ⟨v, if_pos rfl, hr⟩
    · have hq' : (Γ.ρ.set i (some r))[j]? = some (some q) := hq
      rw [List.getElem?_set_ne hij] at hq'
      obtain ⟨u, h1, h2⟩ := hm j y q hy hq' hl
      exact ⟨u, (if_neg (nodup_get ok.nodup hy hx (Ne.symm hij))).trans h1, h2⟩
  · intro y c hc
    obtain ⟨w, o, ho, hd⟩ := S.cell y c hc
    exact ⟨w, o, (get?_at hs (hcell hc ⟨o, ho, hd⟩)).trans ho, hd⟩
  · intro j y q hy hq hl
    have hij : i ≠ j := fun e => by subst e; rw [hx] at hy; cases hy; exact hl hkx
    have hq' : (Γ.ρ.set i (some r))[j]? = some (some q) := hq
    rw [List.getElem?_set_ne hij] at hq'
    obtain ⟨c, w, hc, ⟨o, ho, hd⟩, t⟩ := S.cells j y q hy hq' hl
    exact ⟨c, w, hc, ⟨o, (get?_at hs (hcell hc ⟨o, ho, hd⟩)).trans ho, hd⟩, t⟩
  · intro k l hl
    obtain ⟨b, vs, hb, ⟨n, hp⟩, t⟩ := S.own k l hl
    exact ⟨b, vs, hb, ⟨n, (get?_at hs (fun q => S.apart b (List.mem_of_getElem? hb) (by rw [q]; exact ok.loc))).trans hp⟩, t⟩
  · obtain ⟨o, ho⟩ := S.there b hb
    exact ⟨o, (get?_at hs (fun q => S.apart b hb (by rw [q]; exact ok.loc))).trans ho⟩

/-- a cell name is stored. -/
theorem St.storeCell (S : St a Γ α P s) (ok : ActOk a) {i : Nat} {x : Str} {r : Rv} {v : Value} {c : Addr} {h' : Heap} {tk : Nat} (hx : a.vars[i]? = some x)
    (hkx : a.env.kindOf x = some .cell) (hc : a.env.cells.lookup x = some c) (hn : h'.IsCell c (some v)) (hs : Heap.SameBut c s.heap h') (hr : RTells a.G.fv P α v r) (hmain : a.main = true) :
    St a (Γ.put i r) α P { s with heap := h', toks := tk } := by
  obtain ⟨hcm, hcL⟩ := ok.cel hmain x c hkx hc
  have hL := S.mfree _ hcm
  refine ⟨S.rest, fun b o e => ?_, fun b o e => ?_, fun b o e => ?_, S.ext, S.grow, ?_, ?_, ?_, ?_, S.len, S.nd, S.apart, fun b hb => ?_, S.mfree, S.afree, S.akf⟩
  · exact (get?_at hs (fun q => by rw [q, hL.2.2] at e; cases e)).trans (S.top b o e)
  · have hb : b ≠ c := fun q => by rw [q, hL.1] at e; cases e
    exact ⟨fun hf => (get?_at hs hb).trans ((S.hold b o e).1 hf), fun hf => let ⟨sl, h⟩ := (S.hold b o e).2 hf; ⟨sl, (get?_at hs hb).trans h⟩⟩
  · exact (get?_at hs (fun q => by rw [q, hL.2.1] at e; cases e)).trans (S.part b o e)
  · obtain ⟨m, ⟨o, es, ep, ho, r'⟩, hv⟩ := S.ns
    refine ⟨m, ⟨o, es, ep, (get?_at hs (Ne.symm hcL)).trans ho, r'⟩, ?_⟩
    intro j y q hy hq hl
    have hij : i ≠ j := fun e => by subst e; rw [hx] at hy; cases hy; rw [hkx] at hl; cases hl
    have hq' : (Γ.ρ.set i (some r))[j]? = some (some q) := hq
    rw [List.getElem?_set_ne hij] at hq'
    exact hv j y q hy hq' hl
  · intro y d hd
    by_cases q : d = c
    · subst q; exact ⟨_, hn⟩
    · obtain ⟨w, o, ho, hdd⟩ := S.cell y d hd
      exact ⟨w, o, (get?_at hs q).trans ho, hdd⟩
  · intro j y q hy hq hl
    by_cases hij : i = j
    · subst hij
      rw [hx] at hy; cases hy
      have hq' : (Γ.ρ.set i (some r))[i]? = some (some q) := hq
      rw [List.getElem?_set_self'] at hq'
      cases hg : Γ.ρ[i]? with
      | none => rw [hg] at hq'; cases hq'
      | some z => rw [hg] at hq'; cases hq'; exact ⟨c, v, hc, hn, hr⟩
    · have hq' : (Γ.ρ.set i (some r))[j]? = some (some q) := hq
      rw [List.getElem?_set_ne hij] at hq'
      obtain ⟨d, w, hd, ⟨o, ho, hdd⟩, t⟩ := S.cells j y q hy hq' hl
      have hdc : d ≠ c := fun e => nodup_get ok.nodup hy hx (Ne.symm hij) (ok.cinj y x c (e ▸ hd) hc)
      exact ⟨d, w, hd, ⟨o, (get?_at hs hdc).trans ho, hdd⟩, t⟩
  · intro k l hl
    obtain ⟨b, vs, hb, ⟨n, hp⟩, t⟩ := S.own k l hl
    exact ⟨b, vs, hb, ⟨n, (get?_at hs (fun q => S.apart b (List.mem_of_getElem? hb) (by rw [q]; exact hcm))).trans hp⟩, t⟩
  · obtain ⟨o, ho⟩ := S.there b hb
    exact ⟨o, (get?_at hs (fun q => S.apart b hb (by rw [q]; exact hcm))).trans ho⟩

/-- a new object becomes plain data. -/
theorem St.pushPart (S : St a Γ α P s) (ok : ActOk a) {o : Obj} {tk : Nat} (ho : o.isFreed = false) : St a Γ α (P.add s.heap.objs.size o) { s with heap := s.heap.push o, toks := tk } := by
  have out := S.out (b := s.heap.objs.size) fresh_none
  refine (S.push o).addPart (Heap.get?_push_size _ ho) out.2.1 out.1 (S.fresh_muts ok fresh_none) fun k l _ hk => out.2.2.2.2.1 (List.mem_of_getElem? hk)

/-- a list of no other part becomes an owned one. -/
theorem St.addOwn (S' : St a Γ α P s) {b : Addr} {vs : List Value} {l : List D} (t : TellsAll a.G.fv P vs l) (hb : s.heap.PlainList b vs.toArray) (hK : a.K b = none) (hP : P b = none) (hT : a.G.hT.get? b = none) (hα : b ∉ α) (hm : b ∉ a.muts) :
    St a (Γ.own l) (α ++ [b]) P s := by
  have hpre : α <+: α ++ [b] := List.prefix_append _ _
  have hget : ∀ (k : Nat) (x : List D), (Γ.σ ++ [some l])[k]? = some (some x) → (Γ.σ[k]? = some (some x)) ∨ (k = Γ.σ.length ∧ x = l) := fun k x e => by
    by_cases hk : k < Γ.σ.length
    · rw [List.getElem?_append_left hk] at e; exact .inl e
    · rw [List.getElem?_append_right (Nat.le_of_not_lt hk)] at e
      have hlt := (List.getElem?_eq_some_iff.mp e).1
      simp at hlt
      have hk0 : k - Γ.σ.length = 0 := by omega
      rw [hk0] at e
      simp at e
      exact .inr ⟨by lia, e.symm⟩
  refine ⟨S'.rest, S'.top, S'.hold, S'.part, S'.ext, S'.grow, ?_, S'.cell, ?_, ?_, ?_, ?_, ?_, ?_, S'.mfree, ?_, ?_⟩
  · obtain ⟨m, hn, hv⟩ := S'.ns
    exact ⟨m, hn, fun i x r hx hr hl => let ⟨v, h1, h2⟩ := hv i x r hx hr hl; ⟨v, h1, h2.mono (fun _ _ e => e) hpre⟩⟩
  · exact fun i x r hx hr hl => let ⟨c, v, h1, h2, h3⟩ := S'.cells i x r hx hr hl; ⟨c, v, h1, h2, h3.mono (fun _ _ e => e) hpre⟩
  · intro k x hk
    rcases hget k x hk with h | ⟨rfl, rfl⟩
    · obtain ⟨b, ws, hb, hp, tt⟩ := S'.own k x h
      exact ⟨b, ws, by rw [List.getElem?_append_left (List.getElem?_eq_some_iff.mp hb).1]; exact hb, hp, tt⟩
    · refine ⟨b, vs, ?_, hb, t⟩
      rw [List.getElem?_append_right (by rw [S'.len]; exact Nat.le_refl _), S'.len]; simp
  · show (α ++ [b]).length = (Γ.σ ++ [some l]).length
    simp [S'.len]
  · exact List.nodup_append.mpr ⟨S'.nd, by simp, fun c hc d hd => by simp at hd; subst hd; exact fun e => hα (e ▸ hc)⟩
  · intro c hc
    rcases List.mem_append.mp hc with hc | hc
    · exact S'.apart c hc
    · simp at hc; subst hc; exact hm
  · intro c hc
    rcases List.mem_append.mp hc with hc | hc
    · exact S'.there c hc
    · simp at hc; subst hc; obtain ⟨n, hb⟩ := hb; exact ⟨_, hb⟩
  · intro k x c hk hc
    rcases hget k x hk with h | ⟨rfl, rfl⟩
    · have hlt : k < α.length := by rw [S'.len]; exact (List.getElem?_eq_some_iff.mp h).1
      rw [List.getElem?_append_left hlt] at hc
      exact S'.afree k x c h hc
    · rw [List.getElem?_append_right (by rw [S'.len]; exact Nat.le_refl _), S'.len] at hc
      simp at hc; subst hc
      exact ⟨hK, hP, hT⟩
  · intro c hc
    rcases List.mem_append.mp hc with hc | hc
    · exact S'.akf c hc
    · simp at hc; subst hc; exact hK

/-- a new list becomes an owned one. -/
theorem St.pushOwn (S : St a Γ α P s) (ok : ActOk a) {vs : List Value} {l : List D} {n tk : Nat} (t : TellsAll a.G.fv P vs l) :
    St a (Γ.own l) (α ++ [s.heap.objs.size]) P { s with heap := s.heap.push { cls := .type "list", data := .seq vs.toArray n }, toks := tk } := by
  have out := S.out (b := s.heap.objs.size) fresh_none
  exact (S.push { cls := .type "list", data := .seq vs.toArray n } (tk := tk)).addOwn t ⟨n, Heap.get?_push_size _ rfl⟩ out.1 out.2.1 out.2.2.1 out.2.2.2.2.1 (S.fresh_muts ok fresh_none)

/-- an owned list turns. -/
theorem St.setOwn (S : St a Γ α P s) (ok : ActOk a) {k : Nat} {b : Addr} {l₀ l : List D} {vs : List Value} {h' : Heap} {tk : Nat} (hl : Γ.σ[k]? = some (some l₀)) (hb : α[k]? = some b)
    (hp : h'.PlainList b vs.toArray) (hs : Heap.SameBut b s.heap h') (t : TellsAll a.G.fv P vs l) : St a (Γ.setσ k l) α P { s with heap := h', toks := tk } := by
  obtain ⟨f1, f2, f3⟩ := S.afree k l₀ b hl hb
  have hbm := List.mem_of_getElem? hb
  have hbL : a.env.locals ≠ b := fun q => S.apart b hbm (q ▸ ok.loc)
  have hbc : ∀ {y : Str} {c : Addr} {w : Option Value}, a.env.cells.lookup y = some c → s.heap.IsCell c w → c ≠ b := fun hc ⟨o, ho, hd⟩ q => by
    obtain ⟨b', vs', hb', ⟨n, hp'⟩, _⟩ := S.own k l₀ hl
    rw [hb] at hb'; cases hb'
    rw [q, hp'] at ho; cases ho; cases hd
  refine ⟨S.rest, fun c o e => ?_, fun c o e => ?_, fun c o e => ?_, S.ext, S.grow, ?_, ?_, ?_, ?_, ?_, S.nd, S.apart, fun c hc => ?_, S.mfree, ?_, S.akf⟩
  · exact (get?_at hs (fun q => by rw [q, f3] at e; cases e)).trans (S.top c o e)
  · have hcb : c ≠ b := fun q => by rw [q, f1] at e; cases e
    exact ⟨fun hf => (get?_at hs hcb).trans ((S.hold c o e).1 hf), fun hf => let ⟨sl, h⟩ := (S.hold c o e).2 hf; ⟨sl, (get?_at hs hcb).trans h⟩⟩
  · exact (get?_at hs (fun q => by rw [q, f2] at e; cases e)).trans (S.part c o e)
  · obtain ⟨m, ⟨o, es, ep, ho, r'⟩, hv⟩ := S.ns
    exact ⟨m, ⟨o, es, ep, (get?_at hs hbL).trans ho, r'⟩, hv⟩
  · intro y c hc
    obtain ⟨w, o, ho, hd⟩ := S.cell y c hc
    exact ⟨w, o, (get?_at hs (hbc hc ⟨o, ho, hd⟩)).trans ho, hd⟩
  · intro i x r hx hr hlx
    obtain ⟨c, w, hc, ⟨o, ho, hd⟩, tt⟩ := S.cells i x r hx hr hlx
    exact ⟨c, w, hc, ⟨o, (get?_at hs (hbc hc ⟨o, ho, hd⟩)).trans ho, hd⟩, tt⟩
  · intro j x hj
    have hj' : (Γ.σ.set k (some l))[j]? = some (some x) := hj
    by_cases hkj : k = j
    · subst hkj
      rw [List.getElem?_set_self (List.getElem?_eq_some_iff.mp hl).1] at hj'
      cases hj'
      exact ⟨b, vs, hb, hp, t⟩
    · rw [List.getElem?_set_ne hkj] at hj'
      obtain ⟨c, ws, hc, ⟨n, hpc⟩, tt⟩ := S.own j x hj'
      exact ⟨c, ws, hc, ⟨n, (get?_at hs (fun q => hkj (nodup_addr S.nd hb (q ▸ hc)))).trans hpc⟩, tt⟩
  · show α.length = (Γ.σ.set k (some l)).length
    rw [List.length_set, S.len]
  · by_cases q : c = b
    · subst q; obtain ⟨n, hp⟩ := hp; exact ⟨_, hp⟩
    · obtain ⟨o, ho⟩ := S.there c hc
      exact ⟨o, (get?_at hs q).trans ho⟩
  · intro j x c hj hc
    have hj' : (Γ.σ.set k (some l))[j]? = some (some x) := hj
    by_cases hkj : k = j
    · subst hkj; exact S.afree k l₀ c hl hc
    · rw [List.getElem?_set_ne hkj] at hj'
      exact S.afree j x c hj' hc

theorem RTells.frz {fv : Nat → Value} {P P' : Part} {k : Nat} {b : Addr} {l : List D} (hs : ∀ b o, P b = some o → P' b = some o) (hb : α[k]? = some b) (ht : Tells fv P' (.ref b) (.list l)) {v : Value} {r : Rv} (h : RTells fv P α v r) :
    RTells fv P' α v (r.frz k l) := by
  cases r with
  | d x => exact Tells.mono hs h
  | c j =>
    obtain ⟨c, hc, e⟩ := h
    show RTells fv P' α v (if j = k then .d (.list l) else .c j)
    by_cases q : j = k
    · rw [if_pos q]
      subst q
      rw [hb] at hc; cases hc
      rw [e]; exact ht
    · rw [if_neg q]; exact ⟨c, hc, e⟩

/-- an owned list is frozen. -/
theorem St.freeze (S : St a Γ α P s) {k : Nat} {l : List D} (hl : Γ.σ[k]? = some (some l)) : ∃ b o, α[k]? = some b ∧ P b = none ∧ Tells a.G.fv (P.add b o) (.ref b) (.list l) ∧ St a (Γ.frz k l) α (P.add b o) s := by
  obtain ⟨b, vs, hb, ⟨n, hp⟩, t⟩ := S.own k l hl
  obtain ⟨f1, f2, f3⟩ := S.afree k l b hl hb
  have hbm := List.mem_of_getElem? hb
  have keep := Part.add_keep (o := ({ cls := .type "list", data := .seq vs.toArray n } : Obj)) f2
  have ht : Tells a.G.fv (P.add b { cls := .type "list", data := .seq vs.toArray n }) (.ref b) (.list l) := .list Part.add_self rfl rfl (t.mono keep)
  refine ⟨b, _, hb, f2, ht, ?_⟩
  have hget : ∀ (j : Nat) (x : List D), (Γ.σ.set k none)[j]? = some (some x) → j ≠ k ∧ Γ.σ[j]? = some (some x) := fun j x e => by
    by_cases q : k = j
    · subst q; rw [List.getElem?_set_self (List.getElem?_eq_some_iff.mp hl).1] at e; cases e
    · rw [List.getElem?_set_ne q] at e; exact ⟨Ne.symm q, e⟩
  have hρ : ∀ (i : Nat) (r : Rv), (Γ.ρ.map (Option.map (Rv.frz k l)))[i]? = some (some r) → ∃ r₀, Γ.ρ[i]? = some (some r₀) ∧ r = r₀.frz k l := fun i r e => by
    rw [List.getElem?_map] at e
    cases hg : Γ.ρ[i]? with
    | none => rw [hg] at e; cases e
    | some z =>
      rw [hg] at e
      cases z with
      | none => cases e
      | some r₀ => cases e; exact ⟨r₀, rfl, rfl⟩
  refine ⟨S.rest, S.top, S.hold, fun c o e => ?_, fun c o e => keep c o (S.ext c o e), fun c e => ?_, ?_, S.cell, ?_, ?_, ?_, S.nd, S.apart, S.there, fun c hc => ?_, ?_, S.akf⟩
  · by_cases q : c = b
    · subst q; rw [Part.add_self] at e; cases e; exact hp
    · unfold Part.add at e; rw [if_neg q] at e; exact S.part c o e
  · by_cases q : c = b
    · subst q; exact .inr f1
    · unfold Part.add at e; rw [if_neg q] at e; exact S.grow c e
  · obtain ⟨m, hn, hv⟩ := S.ns
    refine ⟨m, hn, fun i x r hx hr hlx => ?_⟩
    obtain ⟨r₀, hr₀, rfl⟩ := hρ i r hr
    obtain ⟨v, h1, h2⟩ := hv i x r₀ hx hr₀ hlx
    exact ⟨v, h1, h2.frz keep hb ht⟩
  · intro i x r hx hr hlx
    obtain ⟨r₀, hr₀, rfl⟩ := hρ i r hr
    obtain ⟨c, v, h1, h2, h3⟩ := S.cells i x r₀ hx hr₀ hlx
    exact ⟨c, v, h1, h2, h3.frz keep hb ht⟩
  · intro j x hj
    obtain ⟨hjk, hj'⟩ := hget j x hj
    obtain ⟨c, ws, hc, hpc, tt⟩ := S.own j x hj'
    exact ⟨c, ws, hc, hpc, tt.mono keep⟩
  · show α.length = (Γ.σ.set k none).length
    rw [List.length_set, S.len]
  · obtain ⟨h1, h2, h3⟩ := S.mfree c hc
    have q : c ≠ b := fun q => S.apart b hbm (q ▸ hc)
    refine ⟨h1, ?_, h3⟩
    unfold Part.add; rw [if_neg q]; exact h2
  · intro j x c hj hc
    obtain ⟨hjk, hj'⟩ := hget j x hj
    obtain ⟨h1, h2, h3⟩ := S.afree j x c hj' hc
    have q : c ≠ b := fun q => hjk (nodup_addr S.nd (q ▸ hc) hb)
    refine ⟨h1, ?_, h3⟩
    unfold Part.add; rw [if_neg q]; exact h2
end

end LM

set_option genSizeOf false
set_option genSizeOfSpec false
set_option genInjectivity false
namespace LM

inductive Bop where
  | add | sub | mul | fdiv | mod | shl | shr | band | bor | pow
  deriving DecidableEq
inductive Cop where
  | lt | gt | le | ge | eq | ne
  deriving DecidableEq
inductive Tgt where
  | one (i : Nat) | two (i j : Nat) | nest (i j k : Nat)

mutual
inductive PE where
  | var (i : Nat)
  | fnm (f : Nat)
  | int (i : Int)
  | neg (i : Int)
  | bool (b : Bool)
  | none
  | bin (op : Bop) (a b : PE)
  | not (a : PE)
  | cmp (op : Cop) (a b : PE)
  | isnot (a : PE)
  | and (a b : PE)
  | or (a b : PE)
  | or3 (a b c : PE)
  | ite (c a b : PE)
  | len (a : PE)
  | min2 (a b : PE)
  | abs (a : PE)
  | toInt (a : PE)
  | sum (a : PE)
  | any (a : PE)
  | bitlen (a : PE)
  | call (f : Nat) (es : PEs)
  | callv (i : Nat) (es : PEs)
  | callio (f i : Nat) (es : PEs)
  | item (a i : PE)
  | slice (a lo hi st : PE)
  | tup (es : PEs)
  | lst (es : PEs)
  | cell (es : PEs)
  | rep (e n : PE)
  | repc (e n : PE)
  | addc (a b : PE)
  | comp (tn : List Str) (fs : List Nat) (tg : Tgt) (it : PIt) (e : PE)
inductive PEs where
  | nil
  | cons (e : PE) (es : PEs)
inductive PIt where
  | lst (e : PE)
  | enum (e : PE)
  | zip (a b : PE)
  | range1 (a : PE)
  | range2 (a b : PE)
  | range3 (a b c : PE)
end

mutual
inductive PS where
  | assign (i : Nat) (e : PE)
  | assignT (is : List Nat) (es : PEs)
  | unpack (is : List Nat) (e : PE)
  | store (i : Nat) (ix e : PE)
  | aug (i : Nat) (op : Bop) (e : PE)
  | append (i : Nat) (e : PE)
  | expr (e : PE)
  | ite (c : PE) (a b : PSs)
  | whil (c : PE) (b : PSs)
  | forr (tg : Tgt) (it : PIt) (b : PSs)
  | ret (e : PE)
  | raise (own : Bool)
  | cont
  | tryRet (e : PE)
inductive PSs where
  | nil
  | cons (s : PS) (r : PSs)
  | frz (k : Nat) (r : PSs)
end

/-- what a def promises: of its arguments and the content of a list that it may turn. none: it raises NoInverse. -/
noncomputable abbrev Spec := List D → Option (List D) → (Option D → Option (List D) → Prop) → Prop

noncomputable def onD (r : Rv) (k : D → Prop) : Prop := match r with | .d x => k x | .c _ => False
noncomputable def onI (r : Rv) (k : Int → Prop) : Prop := match r with | .d (.int i) => k i | _ => False
noncomputable def onB (r : Rv) (k : Bool → Prop) : Prop := match r with | .d (.bool i) => k i | _ => False
/-- a list, plain or owned. -/
noncomputable def onL (Γ : Fs) (r : Rv) (k : List D → Prop) : Prop := match r with
  | .d (.list l) => k l
  | .c j => (match Γ.σ[j]? with | some (some l) => k l | _ => False)
  | _ => False
/-- a list or a tuple. -/
noncomputable def onQ (Γ : Fs) (r : Rv) (k : List D → Prop) : Prop := match r with
  | .d (.list l) => k l
  | .d (.tup l) => k l
  | .c j => (match Γ.σ[j]? with | some (some l) => k l | _ => False)
  | _ => False
/-- a bound of a slice: none, or an int. -/
noncomputable def onO (r : Rv) (k : Option Int → Prop) : Prop := match r with | .d (.int i) => k (some i) | .d .none => k .none | _ => False

/-- an int, or else. -/
noncomputable def ifI (x : D) (f : Int → Prop) (g : Prop) : Prop := match x with | .int i => f i | _ => g
noncomputable def ifB (x : D) (f : Bool → Prop) (g : Prop) : Prop := match x with | .bool i => f i | _ => g
noncomputable def rvI (r : Rv) (f : Int → Prop) (g : Prop) : Prop := match r with | .d x => ifI x f g | .c _ => g
/-- a tuple of two. -/
noncomputable def two1 (x : D) (l : List D) (k : D → D → Prop) : Prop := match l with | [] => False | y :: l => (match l with | [] => k x y | _ :: _ => False)
noncomputable def two2 (l : List D) (k : D → D → Prop) : Prop := match l with | x :: l => two1 x l k | [] => False
noncomputable def onT (d : D) (k : D → D → Prop) : Prop := match d with | .tup l => two2 l k | _ => False

noncomputable def allD : List Rv → (List D → Prop) → Prop
  | [], k => k []
  | .d x :: r, k => allD r fun xs => k (x :: xs)
  | .c _ :: _, _ => False

noncomputable def wBin (op : Bop) (Γ : Fs) (ra rb : Rv) (k : D → Prop) : Prop := match op with
  | .add => rvI ra (fun x => onI rb fun y => k (.int (x + y))) (onL Γ ra fun l => onL Γ rb fun m => l.length + m.length ≤ 2 ^ 20 ∧ k (.list (l ++ m)))
  | .sub => onI ra fun x => onI rb fun y => k (.int (x - y))
  | .mul => onI ra fun x => onI rb fun y => (x.natAbs < 2 ^ 62 ∧ y.natAbs < 2 ^ 62) ∧ k (.int (x * y))
  | .fdiv => onI ra fun x => onI rb fun y => (y ≠ 0 ∧ y.natAbs < 2 ^ 30) ∧ k (.int (x.fdiv y))
  | .mod => onI ra fun x => onI rb fun y => y ≠ 0 ∧ k (.int (x.fmod y))
  | .shl => onI ra fun x => onI rb fun y => (0 ≤ y ∧ y ≤ 1000000 ∧ x.natAbs < 2 ^ 62) ∧ k (.int (x * 2 ^ y.toNat))
  | .shr => onI ra fun x => onI rb fun y => 0 ≤ y ∧ k (.int (x.fdiv (2 ^ y.toNat)))
  | .band => onI ra fun x => onI rb fun y => k (.int (Builtin.bitAnd x y))
  | .bor => onI ra fun x => onI rb fun y => k (.int (Builtin.bitOr x y))
  | .pow => onI ra fun x => onI rb fun y => (0 ≤ y ∧ y ≤ 1000000 ∧ x.natAbs < 2 ^ 62) ∧ k (.int (x ^ y.toNat))

mutual
noncomputable def D.plain : Nat → D → Bool
  | _, .none => true
  | _, .int _ => true
  | n + 1, .list l => D.plains n l
  | n + 1, .tup l => D.plains n l
  | _, _ => false
noncomputable def D.plains : Nat → List D → Bool
  | _, [] => true
  | n, d :: l => D.plain n d && D.plains n l
end

open Classical in
noncomputable def D.same (x y : D) : Bool := decide (x = y)

noncomputable def eqP (x y : D) (k : Bool → Prop) : Prop := (D.plain 5 x = true ∧ D.plain 5 y = true) ∧ k (D.same x y)
noncomputable def wEq (ra rb : Rv) (k : Bool → Prop) : Prop := onD ra fun x => onD rb fun y =>
  ifI x (fun a => ifI y (fun b => k (decide (a = b))) (eqP x y k)) (ifB x (fun a => ifB y (fun b => k (decide (a = b))) (eqP x y k)) (eqP x y k))

noncomputable def wCmp (op : Cop) (ra rb : Rv) (k : Bool → Prop) : Prop := match op with
  | .lt => onI ra fun x => onI rb fun y => k (decide (x < y))
  | .gt => onI ra fun x => onI rb fun y => k (decide (y < x))
  | .le => onI ra fun x => onI rb fun y => k (decide (x ≤ y))
  | .ge => onI ra fun x => onI rb fun y => k (decide (y ≤ x))
  | .eq => wEq ra rb k
  | .ne => wEq ra rb fun b => k (!b)

/-- Python's place i in n items. -/
noncomputable def place (n : Nat) (i : Int) : Option Nat := if 0 ≤ i then (if i < n then some i.toNat else none) else (if 0 ≤ i + n then some (i + n).toNat else none)

noncomputable def wIdx (l : List D) (i : Int) (k : D → Prop) : Prop := l.length < 2 ^ 62 ∧ ∃ d, (place l.length i).bind (l[·]?) = some d ∧ k d

/-- a slice's items. -/
noncomputable def pick (l : List D) (lo hi st : Option Int) : List D :=
  let (a, b, c) := sliceBounds lo hi st l.length
  (sliceRange a b c).filterMap (l[·]?)

noncomputable def bindT (tg : Tgt) (d : D) (ρ : List (Option Rv)) (k : List (Option Rv) → Prop) : Prop := match tg with
  | .one i => k (ρ.set i (some (.d d)))
  | .two i j => onT d fun x y => k ((ρ.set i (some (.d x))).set j (some (.d y)))
  | .nest i j m => onT d fun u z => onT u fun x y => k (((ρ.set i (some (.d x))).set j (some (.d y))).set m (some (.d z)))

noncomputable def wComp (f : D → (D → Prop) → Prop) : List D → (List D → Prop) → Prop
  | [], k => k []
  | d :: ds, k => f d fun o => wComp f ds fun os => k (o :: os)

noncomputable def enumD : Nat → List D → List D
  | _, [] => []
  | n, d :: l => .tup [.int n, d] :: enumD (n + 1) l
noncomputable def zipD : List D → List D → List D
  | x :: l, y :: m => .tup [x, y] :: zipD l m
  | _, _ => []
noncomputable def rangeD (a c : Int) (n : Nat) : List D := (List.range n).map fun i : Nat => .int (a + (i : Int) * c)
/-- how many ints a range gives (step c ≠ 0). -/
noncomputable def rangeN (a b c : Int) : Nat := (Builtin.Range.rangeSize a b c).toNat
noncomputable def small (x : Int) : Prop := -(2 ^ 40) < x ∧ x < 2 ^ 40

/-- an iterator that turns its own tuple wants a tuple of names. -/
noncomputable def itN : PIt → Bool
  | .enum _ => false
  | .zip .. => false
  | _ => true
noncomputable def itT (it : PIt) : Tgt → Bool
  | .one _ => itN it
  | .two .. => true
  | .nest .. => true

/-- the slots of a comprehension's frame. -/
noncomputable def compρ (tn : List Str) (fs : List Nat) (Γ : Fs) : List (Option Rv) :=
  tn.map (fun _ => none) ++ fs.map fun i => (match Γ.ρ[i]? with | some (some (.d x)) => some (.d x) | _ => none)

noncomputable def useSpec (sp : Option Spec) (ds : List D) (c : Option (List D)) (k : Option D → Option (List D) → Prop) : Prop := match sp with
  | some sp => sp ds c k
  | none => False

section
variable (T : Nat → Option Spec)

mutual
noncomputable def wE : PE → Fs → (Rv → Fs → Prop) → Prop → Prop
  | .var i, Γ, Q, _ => (match Γ.ρ[i]? with | some (some r) => Q r Γ | _ => False)
  | .fnm f, Γ, Q, _ => Q (.d (.fn f)) Γ
  | .int i, Γ, Q, _ => Q (.d (.int i)) Γ
  | .neg i, Γ, Q, _ => Q (.d (.int (-i))) Γ
  | .bool b, Γ, Q, _ => Q (.d (.bool b)) Γ
  | .none, Γ, Q, _ => Q (.d .none) Γ
  | .bin op a b, Γ, Q, X => wE a Γ (fun ra Γ₁ => wE b Γ₁ (fun rb Γ₂ => wBin op Γ₂ ra rb fun d => Q (.d d) Γ₂) X) X
  | .not a, Γ, Q, X => wE a Γ (fun r Γ₁ => onB r fun x => Q (.d (.bool (!x))) Γ₁) X
  | .cmp op a b, Γ, Q, X => wE a Γ (fun ra Γ₁ => wE b Γ₁ (fun rb Γ₂ => wCmp op ra rb fun x => Q (.d (.bool x)) Γ₂) X) X
  | .isnot a, Γ, Q, X => wE a Γ (fun r Γ₁ => onD r fun x => match x with | .none => Q (.d (.bool false)) Γ₁ | .tup _ => Q (.d (.bool true)) Γ₁ | _ => False) X
  | .and a b, Γ, Q, X => wE a Γ (fun r Γ₁ => onB r fun x => if x = true then wE b Γ₁ Q X else Q (.d (.bool false)) Γ₁) X
  | .or a b, Γ, Q, X => wE a Γ (fun r Γ₁ => onB r fun x => if x = true then Q (.d (.bool true)) Γ₁ else wE b Γ₁ Q X) X
  | .or3 a b c, Γ, Q, X => wE a Γ (fun r Γ₁ => onB r fun x => if x = true then Q (.d (.bool true)) Γ₁ else
      wE b Γ₁ (fun r Γ₂ => onB r fun x => if x = true then Q (.d (.bool true)) Γ₂ else wE c Γ₂ Q X) X) X
  | .ite c a b, Γ, Q, X => wE c Γ (fun r Γ₁ => onB r fun x => if x = true then wE a Γ₁ Q X else wE b Γ₁ Q X) X
  | .len a, Γ, Q, X => wE a Γ (fun r Γ₁ => onQ Γ₁ r fun l => l.length < 2 ^ 62 ∧ Q (.d (.int l.length)) Γ₁) X
  | .min2 a b, Γ, Q, X => wE a Γ (fun ra Γ₁ => wE b Γ₁ (fun rb Γ₂ => onI ra fun x => onI rb fun y => Q (.d (.int (if y < x then y else x))) Γ₂) X) X
  | .abs a, Γ, Q, X => wE a Γ (fun r Γ₁ => onI r fun x => Q (.d (.int (if x < 0 then -x else x))) Γ₁) X
  | .toInt a, Γ, Q, X => wE a Γ (fun r Γ₁ => onI r fun x => Q (.d (.int x)) Γ₁) X
  | .sum a, Γ, Q, X => wE a Γ (fun r Γ₁ => onD r fun x => ∃ ns : List Int, x = .list (ns.map .int) ∧ ns.length ≤ 2 ^ 20 ∧ Q (.d (.int ns.sum)) Γ₁) X
  | .any a, Γ, Q, X => wE a Γ (fun r Γ₁ => onD r fun x => ∃ bs : List Bool, x = .list (bs.map .bool) ∧ bs.length ≤ 2 ^ 20 ∧ Q (.d (.bool (bs.any id))) Γ₁) X
  | .bitlen a, Γ, Q, X => wE a Γ (fun r Γ₁ => onI r fun x => Q (.d (.int (Builtin.Int.intBits x))) Γ₁) X
  | .call f es, Γ, Q, X => wEs es Γ (fun rs Γ₁ => allD rs fun ds => useSpec (T f) ds none fun r _ => match r with | some d => Q (.d d) Γ₁ | none => X) X
  | .callv i es, Γ, Q, X => (match Γ.ρ[i]? with
      | some (some (.d (.fn f))) => wEs es Γ (fun rs Γ₁ => allD rs fun ds => useSpec (T f) ds none fun r _ => match r with | some d => Q (.d d) Γ₁ | none => X) X
      | _ => False)
  | .callio f i es, Γ, Q, X => (match Γ.ρ[i]? with
      | some (some (.c k)) => wEs es Γ (fun rs Γ₁ => allD rs fun ds => (match Γ₁.σ[k]? with
          | some (some l) => useSpec (T f) ds (some l) fun r c => match r, c with | some d, some l' => Q (.d d) (Γ₁.setσ k l') | _, _ => False
          | _ => False)) X
      | _ => False)
  | .item a i, Γ, Q, X => wE a Γ (fun ra Γ₁ => wE i Γ₁ (fun ri Γ₂ => onQ Γ₂ ra fun l => onI ri fun k => wIdx l k fun d => Q (.d d) Γ₂) X) X
  | .slice a lo hi st, Γ, Q, X => wE a Γ (fun ra Γ₁ => wE lo Γ₁ (fun rl Γ₂ => wE hi Γ₂ (fun rh Γ₃ => wE st Γ₃ (fun rs Γ₄ =>
      onL Γ₄ ra fun l => onO rl fun lo => onO rh fun hi => onO rs fun st => (l.length ≤ 2 ^ 20 ∧ st ≠ some 0) ∧ Q (.d (.list (pick l lo hi st))) Γ₄) X) X) X) X
  | .tup es, Γ, Q, X => wEs es Γ (fun rs Γ₁ => allD rs fun ds => ds.length ≤ 2 ^ 20 ∧ Q (.d (.tup ds)) Γ₁) X
  | .lst es, Γ, Q, X => wEs es Γ (fun rs Γ₁ => allD rs fun ds => ds.length ≤ 2 ^ 20 ∧ Q (.d (.list ds)) Γ₁) X
  | .cell es, Γ, Q, X => wEs es Γ (fun rs Γ₁ => allD rs fun ds => ds.length ≤ 2 ^ 20 ∧ Q (.c Γ₁.σ.length) (Γ₁.own ds)) X
  | .rep e n, Γ, Q, X => wE e Γ (fun r Γ₁ => onD r fun d => wE n Γ₁ (fun rn Γ₂ => onI rn fun k => (-2 ^ 62 ≤ k ∧ k ≤ 2 ^ 20) ∧ Q (.d (.list (List.replicate k.toNat d))) Γ₂) X) X
  | .repc e n, Γ, Q, X => wE e Γ (fun r Γ₁ => onD r fun d => wE n Γ₁ (fun rn Γ₂ => onI rn fun k => (-2 ^ 62 ≤ k ∧ k ≤ 2 ^ 20) ∧ Q (.c Γ₂.σ.length) (Γ₂.own (List.replicate k.toNat d))) X) X
  | .addc a b, Γ, Q, X => wE a Γ (fun ra Γ₁ => wE b Γ₁ (fun rb Γ₂ => onL Γ₂ ra fun l => onL Γ₂ rb fun m => l.length + m.length ≤ 2 ^ 20 ∧ Q (.c Γ₂.σ.length) (Γ₂.own (l ++ m))) X) X
  | .comp tn fs tg it e, Γ, Q, X => wI it Γ (fun ds Γ₁ => ds.length ≤ 2 ^ 20 ∧
      wComp (fun d k => bindT tg d (compρ tn fs Γ₁) fun ρ => wE e ⟨ρ, []⟩ (fun r _ => onD r k) False) ds fun os => Q (.d (.list os)) Γ₁) X
noncomputable def wEs : PEs → Fs → (List Rv → Fs → Prop) → Prop → Prop
  | .nil, Γ, Q, _ => Q [] Γ
  | .cons e es, Γ, Q, X => wE e Γ (fun r Γ₁ => wEs es Γ₁ (fun rs Γ₂ => Q (r :: rs) Γ₂) X) X
noncomputable def wI : PIt → Fs → (List D → Fs → Prop) → Prop → Prop
  | .lst e, Γ, Q, X => wE e Γ (fun r Γ₁ => onD r fun x => match x with | .list l => Q l Γ₁ | _ => False) X
  | .enum e, Γ, Q, X => wE e Γ (fun r Γ₁ => onD r fun x => match x with | .list l => Q (enumD 0 l) Γ₁ | _ => False) X
  | .zip a b, Γ, Q, X => wE a Γ (fun ra Γ₁ => wE b Γ₁ (fun rb Γ₂ => onD ra fun x => onD rb fun y => match x, y with | .list l, .list m => Q (zipD l m) Γ₂ | _, _ => False) X) X
  | .range1 a, Γ, Q, X => wE a Γ (fun r Γ₁ => onI r fun n => small n ∧ Q (rangeD 0 1 n.toNat) Γ₁) X
  | .range2 a b, Γ, Q, X => wE a Γ (fun ra Γ₁ => wE b Γ₁ (fun rb Γ₂ => onI ra fun x => onI rb fun y => (small x ∧ small y) ∧ Q (rangeD x 1 (y - x).toNat) Γ₂) X) X
  | .range3 a b c, Γ, Q, X => wE a Γ (fun ra Γ₁ => wE b Γ₁ (fun rb Γ₂ => wE c Γ₂ (fun rc Γ₃ => onI ra fun x => onI rb fun y => onI rc fun z =>
      (small x ∧ small y ∧ z.natAbs < 2 ^ 30 ∧ z ≠ 0) ∧ Q (rangeD x z (rangeN x y z)) Γ₃) X) X) X
end

inductive Out where
  | next | brk | cont | ret (d : D)

noncomputable def wFor (step : D → Fs → (Out → Fs → Prop) → Prop) : List D → Fs → (Out → Fs → Prop) → Prop
  | [], Γ, Q => Q .next Γ
  | d :: ds, Γ, Q => step d Γ fun o Γ₁ => match o with
    | .next => wFor step ds Γ₁ Q
    | .cont => wFor step ds Γ₁ Q
    | .brk => Q .next Γ₁
    | .ret x => Q (.ret x) Γ₁

noncomputable def Fs.puts : Fs → List Nat → List Rv → Fs
  | Γ, i :: is, r :: rs => (Γ.put i r).puts is rs
  | Γ, _, _ => Γ

mutual
noncomputable def wS : PS → Fs → (Out → Fs → Prop) → Prop → Prop
  | .assign i e, Γ, Q, X => wE T e Γ (fun r Γ₁ => Q .next (Γ₁.put i r)) X
  | .assignT is es, Γ, Q, X => wEs T es Γ (fun rs Γ₁ => rs.length = is.length ∧ Q .next (Γ₁.puts is rs)) X
  | .unpack is e, Γ, Q, X => wE T e Γ (fun r Γ₁ => onD r fun x => match x with | .tup ds => ds.length = is.length ∧ Q .next (Γ₁.puts is (ds.map .d)) | _ => False) X
  | .store i ix e, Γ, Q, X => wE T e Γ (fun r Γ₁ => onD r fun d => (match Γ₁.ρ[i]? with
      | some (some (.c j)) => wE T ix Γ₁ (fun ri Γ₂ => onI ri fun k => (match Γ₂.σ[j]? with
          | some (some l) => (0 ≤ k ∧ k < l.length ∧ l.length < 2 ^ 62) ∧ Q .next (Γ₂.setσ j (l.set k.toNat d))
          | _ => False)) X
      | _ => False)) X
  | .aug i op e, Γ, Q, X => (match Γ.ρ[i]? with
      | some (some (.d (.int x))) => wE T e Γ (fun r Γ₁ => onI r fun y => wBin op Γ₁ (.d (.int x)) (.d (.int y)) fun d => Q .next (Γ₁.put i (.d d))) X
      | _ => False)
  | .append i e, Γ, Q, X => (match Γ.ρ[i]? with
      | some (some (.c j)) => (Γ.σ[j]?).join.isSome = true ∧ wE T e Γ (fun r Γ₁ => onD r fun d => (match Γ₁.σ[j]? with
          | some (some l) => l.length < 2 ^ 20 ∧ Q .next (Γ₁.setσ j (l ++ [d]))
          | _ => False)) X
      | _ => False)
  | .expr e, Γ, Q, X => wE T e Γ (fun r Γ₁ => onD r fun d => match d with | .none => Q .next Γ₁ | _ => False) X
  | .ite c a b, Γ, Q, X => wE T c Γ (fun r Γ₁ => onB r fun x => if x = true then wSs a Γ₁ Q X else wSs b Γ₁ Q X) X
  | .whil c b, Γ, Q, X => ∃ I : Nat → Fs → Prop, (∃ n, I n Γ) ∧ ∀ n Γ', I n Γ' → wE T c Γ' (fun r Γ₁ => onB r fun x =>
      if x = true then wSs b Γ₁ (fun o Γ₂ => match o with
        | .next => ∃ m, m < n ∧ I m Γ₂
        | .cont => ∃ m, m < n ∧ I m Γ₂
        | .brk => Q .next Γ₂
        | .ret d => Q (.ret d) Γ₂) X
      else Q .next Γ₁) X
  | .forr tg it b, Γ, Q, X => wI T it Γ (fun ds Γ₁ => wFor (fun d Γ' k => bindT tg d Γ'.ρ fun ρ => wSs b ⟨ρ, Γ'.σ⟩ k X) ds Γ₁ Q) X
  | .ret e, Γ, Q, X => wE T e Γ (fun r Γ₁ => onD r fun d => Q (.ret d) Γ₁) X
  | .raise own, _, _, X => (match own with | true => X | false => False)
  | .cont, Γ, Q, _ => Q .cont Γ
  | .tryRet e, Γ, Q, _ => Γ.σ = [] ∧ wE T e Γ (fun r Γ₁ => onD r fun d => Q (.ret d) Γ₁) (∀ Γ', Q (.ret .none) Γ')
noncomputable def wSs : PSs → Fs → (Out → Fs → Prop) → Prop → Prop
  | .nil, Γ, Q, _ => Q .next Γ
  | .cons s r, Γ, Q, X => wS s Γ (fun o Γ₁ => match o with | .next => wSs r Γ₁ Q X | o => Q o Γ₁) X
  | .frz k r, Γ, Q, X => (match Γ.σ[k]? with | some (some l) => wSs r (Γ.frz k l) Q X | _ => False)
end
theorem Ka {i Γ Q X} : wE T (.var i) Γ Q X = ((match Γ.ρ[i]? with | some (some r) => Q r Γ | _ => False)) := rfl
theorem Kb {f Γ Q X} : wE T (.fnm f) Γ Q X = (Q (.d (.fn f)) Γ) := rfl
theorem Kc {i Γ Q X} : wE T (.int i) Γ Q X = (Q (.d (.int i)) Γ) := rfl
theorem Kd {i Γ Q X} : wE T (.neg i) Γ Q X = (Q (.d (.int (-i))) Γ) := rfl
theorem Ke {b Γ Q X} : wE T (.bool b) Γ Q X = (Q (.d (.bool b)) Γ) := rfl
theorem Kf {Γ Q X} : wE T .none Γ Q X = (Q (.d .none) Γ) := rfl
theorem Kg {op a b Γ Q X} : wE T (.bin op a b) Γ Q X = (wE T a Γ (fun ra Γ₁ => wE T b Γ₁ (fun rb Γ₂ => wBin op Γ₂ ra rb fun d => Q (.d d) Γ₂) X) X) := rfl
theorem Kh {a Γ Q X} : wE T (.not a) Γ Q X = (wE T a Γ (fun r Γ₁ => onB r fun x => Q (.d (.bool (!x))) Γ₁) X) := rfl
theorem Ki {op a b Γ Q X} : wE T (.cmp op a b) Γ Q X = (wE T a Γ (fun ra Γ₁ => wE T b Γ₁ (fun rb Γ₂ => wCmp op ra rb fun x => Q (.d (.bool x)) Γ₂) X) X) := rfl
theorem Kj {a Γ Q X} : wE T (.isnot a) Γ Q X = (wE T a Γ (fun r Γ₁ => onD r fun x => match x with | .none => Q (.d (.bool false)) Γ₁ | .tup _ => Q (.d (.bool true)) Γ₁ | _ => False) X) := rfl
theorem Kk {a b Γ Q X} : wE T (.and a b) Γ Q X = (wE T a Γ (fun r Γ₁ => onB r fun x => if x = true then wE T b Γ₁ Q X else Q (.d (.bool false)) Γ₁) X) := rfl
theorem Kl {a b Γ Q X} : wE T (.or a b) Γ Q X = (wE T a Γ (fun r Γ₁ => onB r fun x => if x = true then Q (.d (.bool true)) Γ₁ else wE T b Γ₁ Q X) X) := rfl
theorem Km {a b c Γ Q X} : wE T (.or3 a b c) Γ Q X = (wE T a Γ (fun r Γ₁ => onB r fun x => if x = true then Q (.d (.bool true)) Γ₁ else
      wE T b Γ₁ (fun r Γ₂ => onB r fun x => if x = true then Q (.d (.bool true)) Γ₂ else wE T c Γ₂ Q X) X) X) := rfl
theorem Kn {c a b Γ Q X} : wE T (.ite c a b) Γ Q X = (wE T c Γ (fun r Γ₁ => onB r fun x => if x = true then wE T a Γ₁ Q X else wE T b Γ₁ Q X) X) := rfl
theorem Ko {a Γ Q X} : wE T (.len a) Γ Q X = (wE T a Γ (fun r Γ₁ => onQ Γ₁ r fun l => l.length < 2 ^ 62 ∧ Q (.d (.int l.length)) Γ₁) X) := rfl
theorem Kp {a b Γ Q X} : wE T (.min2 a b) Γ Q X = (wE T a Γ (fun ra Γ₁ => wE T b Γ₁ (fun rb Γ₂ => onI ra fun x => onI rb fun y => Q (.d (.int (if y < x then y else x))) Γ₂) X) X) := rfl
theorem Kq {a Γ Q X} : wE T (.abs a) Γ Q X = (wE T a Γ (fun r Γ₁ => onI r fun x => Q (.d (.int (if x < 0 then -x else x))) Γ₁) X) := rfl
theorem Kr {a Γ Q X} : wE T (.toInt a) Γ Q X = (wE T a Γ (fun r Γ₁ => onI r fun x => Q (.d (.int x)) Γ₁) X) := rfl
theorem Ks {a Γ Q X} : wE T (.sum a) Γ Q X = (wE T a Γ (fun r Γ₁ => onD r fun x => ∃ ns : List Int, x = .list (ns.map .int) ∧ ns.length ≤ 2 ^ 20 ∧ Q (.d (.int ns.sum)) Γ₁) X) := rfl
theorem Kt {a Γ Q X} : wE T (.any a) Γ Q X = (wE T a Γ (fun r Γ₁ => onD r fun x => ∃ bs : List Bool, x = .list (bs.map .bool) ∧ bs.length ≤ 2 ^ 20 ∧ Q (.d (.bool (bs.any id))) Γ₁) X) := rfl
theorem Ku {a Γ Q X} : wE T (.bitlen a) Γ Q X = (wE T a Γ (fun r Γ₁ => onI r fun x => Q (.d (.int (Builtin.Int.intBits x))) Γ₁) X) := rfl
theorem Kv {f es Γ Q X} : wE T (.call f es) Γ Q X = (wEs T es Γ (fun rs Γ₁ => allD rs fun ds => useSpec (T f) ds none fun r _ => match r with | some d => Q (.d d) Γ₁ | none => X) X) := rfl
theorem Kw {i es Γ Q X} : wE T (.callv i es) Γ Q X = ((match Γ.ρ[i]? with
      | some (some (.d (.fn f))) => wEs T es Γ (fun rs Γ₁ => allD rs fun ds => useSpec (T f) ds none fun r _ => match r with | some d => Q (.d d) Γ₁ | none => X) X
      | _ => False)) := rfl
theorem Kx {f i es Γ Q X} : wE T (.callio f i es) Γ Q X = ((match Γ.ρ[i]? with
      | some (some (.c k)) => wEs T es Γ (fun rs Γ₁ => allD rs fun ds => (match Γ₁.σ[k]? with
          | some (some l) => useSpec (T f) ds (some l) fun r c => match r, c with | some d, some l' => Q (.d d) (Γ₁.setσ k l') | _, _ => False
          | _ => False)) X
      | _ => False)) := rfl
theorem Ky {a i Γ Q X} : wE T (.item a i) Γ Q X = (wE T a Γ (fun ra Γ₁ => wE T i Γ₁ (fun ri Γ₂ => onQ Γ₂ ra fun l => onI ri fun k => wIdx l k fun d => Q (.d d) Γ₂) X) X) := rfl
theorem Kz {a lo hi st Γ Q X} : wE T (.slice a lo hi st) Γ Q X = (wE T a Γ (fun ra Γ₁ => wE T lo Γ₁ (fun rl Γ₂ => wE T hi Γ₂ (fun rh Γ₃ => wE T st Γ₃ (fun rs Γ₄ =>
      onL Γ₄ ra fun l => onO rl fun lo => onO rh fun hi => onO rs fun st => (l.length ≤ 2 ^ 20 ∧ st ≠ some 0) ∧ Q (.d (.list (pick l lo hi st))) Γ₄) X) X) X) X) := rfl
theorem Ma {es Γ Q X} : wE T (.tup es) Γ Q X = (wEs T es Γ (fun rs Γ₁ => allD rs fun ds => ds.length ≤ 2 ^ 20 ∧ Q (.d (.tup ds)) Γ₁) X) := rfl
theorem Mb {es Γ Q X} : wE T (.lst es) Γ Q X = (wEs T es Γ (fun rs Γ₁ => allD rs fun ds => ds.length ≤ 2 ^ 20 ∧ Q (.d (.list ds)) Γ₁) X) := rfl
theorem Mc {es Γ Q X} : wE T (.cell es) Γ Q X = (wEs T es Γ (fun rs Γ₁ => allD rs fun ds => ds.length ≤ 2 ^ 20 ∧ Q (.c Γ₁.σ.length) (Γ₁.own ds)) X) := rfl
theorem Md {e n Γ Q X} : wE T (.rep e n) Γ Q X = (wE T e Γ (fun r Γ₁ => onD r fun d => wE T n Γ₁ (fun rn Γ₂ => onI rn fun k => (-2 ^ 62 ≤ k ∧ k ≤ 2 ^ 20) ∧ Q (.d (.list (List.replicate k.toNat d))) Γ₂) X) X) := rfl
theorem Me {e n Γ Q X} : wE T (.repc e n) Γ Q X = (wE T e Γ (fun r Γ₁ => onD r fun d => wE T n Γ₁ (fun rn Γ₂ => onI rn fun k => (-2 ^ 62 ≤ k ∧ k ≤ 2 ^ 20) ∧ Q (.c Γ₂.σ.length) (Γ₂.own (List.replicate k.toNat d))) X) X) := rfl
theorem Mf {a b Γ Q X} : wE T (.addc a b) Γ Q X = (wE T a Γ (fun ra Γ₁ => wE T b Γ₁ (fun rb Γ₂ => onL Γ₂ ra fun l => onL Γ₂ rb fun m => l.length + m.length ≤ 2 ^ 20 ∧ Q (.c Γ₂.σ.length) (Γ₂.own (l ++ m))) X) X) := rfl
theorem Mg {tn fs tg it e Γ Q X} : wE T (.comp tn fs tg it e) Γ Q X = (wI T it Γ (fun ds Γ₁ => ds.length ≤ 2 ^ 20 ∧
      wComp (fun d k => bindT tg d (compρ tn fs Γ₁) fun ρ => wE T e ⟨ρ, []⟩ (fun r _ => onD r k) False) ds fun os => Q (.d (.list os)) Γ₁) X) := rfl
theorem Mh {Γ Q X} : wEs T .nil Γ Q X = (Q [] Γ) := rfl
theorem Mi {e es Γ Q X} : wEs T (.cons e es) Γ Q X = (wE T e Γ (fun r Γ₁ => wEs T es Γ₁ (fun rs Γ₂ => Q (r :: rs) Γ₂) X) X) := rfl
theorem Mj {e Γ Q X} : wI T (.lst e) Γ Q X = (wE T e Γ (fun r Γ₁ => onD r fun x => match x with | .list l => Q l Γ₁ | _ => False) X) := rfl
theorem Mk {e Γ Q X} : wI T (.enum e) Γ Q X = (wE T e Γ (fun r Γ₁ => onD r fun x => match x with | .list l => Q (enumD 0 l) Γ₁ | _ => False) X) := rfl
theorem Ml {a b Γ Q X} : wI T (.zip a b) Γ Q X = (wE T a Γ (fun ra Γ₁ => wE T b Γ₁ (fun rb Γ₂ => onD ra fun x => onD rb fun y => match x, y with | .list l, .list m => Q (zipD l m) Γ₂ | _, _ => False) X) X) := rfl
theorem Mm {a Γ Q X} : wI T (.range1 a) Γ Q X = (wE T a Γ (fun r Γ₁ => onI r fun n => small n ∧ Q (rangeD 0 1 n.toNat) Γ₁) X) := rfl
theorem Mn {a b Γ Q X} : wI T (.range2 a b) Γ Q X = (wE T a Γ (fun ra Γ₁ => wE T b Γ₁ (fun rb Γ₂ => onI ra fun x => onI rb fun y => (small x ∧ small y) ∧ Q (rangeD x 1 (y - x).toNat) Γ₂) X) X) := rfl
theorem Mo {a b c Γ Q X} : wI T (.range3 a b c) Γ Q X = (wE T a Γ (fun ra Γ₁ => wE T b Γ₁ (fun rb Γ₂ => wE T c Γ₂ (fun rc Γ₃ => onI ra fun x => onI rb fun y => onI rc fun z =>
      (small x ∧ small y ∧ z.natAbs < 2 ^ 30 ∧ z ≠ 0) ∧ Q (rangeD x z (rangeN x y z)) Γ₃) X) X) X) := rfl
theorem Mp {i e Γ Q X} : wS T (.assign i e) Γ Q X = (wE T e Γ (fun r Γ₁ => Q .next (Γ₁.put i r)) X) := rfl
theorem Mq {is es Γ Q X} : wS T (.assignT is es) Γ Q X = (wEs T es Γ (fun rs Γ₁ => rs.length = is.length ∧ Q .next (Γ₁.puts is rs)) X) := rfl
theorem Mr {is e Γ Q X} : wS T (.unpack is e) Γ Q X = (wE T e Γ (fun r Γ₁ => onD r fun x => match x with | .tup ds => ds.length = is.length ∧ Q .next (Γ₁.puts is (ds.map .d)) | _ => False) X) := rfl
theorem Ms {i ix e Γ Q X} : wS T (.store i ix e) Γ Q X = (wE T e Γ (fun r Γ₁ => onD r fun d => (match Γ₁.ρ[i]? with
      | some (some (.c j)) => wE T ix Γ₁ (fun ri Γ₂ => onI ri fun k => (match Γ₂.σ[j]? with
          | some (some l) => (0 ≤ k ∧ k < l.length ∧ l.length < 2 ^ 62) ∧ Q .next (Γ₂.setσ j (l.set k.toNat d))
          | _ => False)) X
      | _ => False)) X) := rfl
theorem Mt {i op e Γ Q X} : wS T (.aug i op e) Γ Q X = ((match Γ.ρ[i]? with
      | some (some (.d (.int x))) => wE T e Γ (fun r Γ₁ => onI r fun y => wBin op Γ₁ (.d (.int x)) (.d (.int y)) fun d => Q .next (Γ₁.put i (.d d))) X
      | _ => False)) := rfl
theorem Mu {i e Γ Q X} : wS T (.append i e) Γ Q X = ((match Γ.ρ[i]? with
      | some (some (.c j)) => (Γ.σ[j]?).join.isSome = true ∧ wE T e Γ (fun r Γ₁ => onD r fun d => (match Γ₁.σ[j]? with
          | some (some l) => l.length < 2 ^ 20 ∧ Q .next (Γ₁.setσ j (l ++ [d]))
          | _ => False)) X
      | _ => False)) := rfl
theorem Mv {e Γ Q X} : wS T (.expr e) Γ Q X = (wE T e Γ (fun r Γ₁ => onD r fun d => match d with | .none => Q .next Γ₁ | _ => False) X) := rfl
theorem Mw {c a b Γ Q X} : wS T (.ite c a b) Γ Q X = (wE T c Γ (fun r Γ₁ => onB r fun x => if x = true then wSs T a Γ₁ Q X else wSs T b Γ₁ Q X) X) := rfl
theorem Mx {c b Γ Q X} : wS T (.whil c b) Γ Q X = (∃ I : Nat → Fs → Prop, (∃ n, I n Γ) ∧ ∀ n Γ', I n Γ' → wE T c Γ' (fun r Γ₁ => onB r fun x =>
      if x = true then wSs T b Γ₁ (fun o Γ₂ => match o with
        | .next => ∃ m, m < n ∧ I m Γ₂
        | .cont => ∃ m, m < n ∧ I m Γ₂
        | .brk => Q .next Γ₂
        | .ret d => Q (.ret d) Γ₂) X
      else Q .next Γ₁) X) := rfl
theorem My {tg it b Γ Q X} : wS T (.forr tg it b) Γ Q X = (wI T it Γ (fun ds Γ₁ => wFor (fun d Γ' k => bindT tg d Γ'.ρ fun ρ => wSs T b ⟨ρ, Γ'.σ⟩ k X) ds Γ₁ Q) X) := rfl
theorem Mz {e Γ Q X} : wS T (.ret e) Γ Q X = (wE T e Γ (fun r Γ₁ => onD r fun d => Q (.ret d) Γ₁) X) := rfl
theorem Ya {own Y0 Y1 X} : wS T (.raise own) Y0 Y1 X = ((match own with | true => X | false => False)) := rfl
theorem Yb {Γ Q X} : wS T .cont Γ Q X = (Q .cont Γ) := rfl
theorem Yc {e Γ Q X} : wS T (.tryRet e) Γ Q X = (Γ.σ = [] ∧ wE T e Γ (fun r Γ₁ => onD r fun d => Q (.ret d) Γ₁) (∀ Γ', Q (.ret .none) Γ')) := rfl
theorem Yd {Γ Q X} : wSs T .nil Γ Q X = (Q .next Γ) := rfl
theorem Ye {s r Γ Q X} : wSs T (.cons s r) Γ Q X = (wS T s Γ (fun o Γ₁ => match o with | .next => wSs T r Γ₁ Q X | o => Q o Γ₁) X) := rfl
theorem Yf {k r Γ Q X} : wSs T (.frz k r) Γ Q X = ((match Γ.σ[k]? with | some (some l) => wSs T r (Γ.frz k l) Q X | _ => False)) := rfl
theorem Yg {x k} : onD (.d x) k = k x := rfl
theorem Yh {x k} : onI (.d (.int x)) k = k x := rfl
theorem Yi {x k} : onB (.d (.bool x)) k = k x := rfl
theorem Yj {Γ l k} : onL Γ (.d (.list l)) k = k l := rfl
theorem Yk {Γ j k} : onL Γ (.c j) k = (match Γ.σ[j]? with | some (some l) => k l | _ => False) := rfl
theorem Yl {Γ l k} : onQ Γ (.d (.list l)) k = k l := rfl
theorem Ym {Γ l k} : onQ Γ (.d (.tup l)) k = k l := rfl
theorem Yn {Γ j k} : onQ Γ (.c j) k = (match Γ.σ[j]? with | some (some l) => k l | _ => False) := rfl
theorem Yo {x k} : onO (.d (.int x)) k = k (some x) := rfl
theorem Yp {k} : onO (.d .none) k = k .none := rfl
theorem Yq {k} : allD [] k = k [] := rfl
theorem Yr {x r k} : allD (.d x :: r) k = allD r fun xs => k (x :: xs) := rfl
theorem Ys {x y k} : wEq (.d (.int x)) (.d (.int y)) k = k (decide (x = y)) := rfl
theorem Yt {x y k} : wEq (.d (.bool x)) (.d (.bool y)) k = k (decide (x = y)) := rfl
theorem Yu {x y l k} : wEq (.d (.tup (x :: l))) (.d y) k = eqP (.tup (x :: l)) y k := rfl
theorem Yv {ra rb k} : wCmp .lt ra rb k = onI ra fun x => onI rb fun y => k (decide (x < y)) := rfl
theorem Yw {ra rb k} : wCmp .gt ra rb k = onI ra fun x => onI rb fun y => k (decide (y < x)) := rfl
theorem Yx {ra rb k} : wCmp .le ra rb k = onI ra fun x => onI rb fun y => k (decide (x ≤ y)) := rfl
theorem Yy {ra rb k} : wCmp .ge ra rb k = onI ra fun x => onI rb fun y => k (decide (y ≤ x)) := rfl
theorem Yz {ra rb k} : wCmp .eq ra rb k = wEq ra rb k := rfl
theorem Za {ra rb k} : wCmp .ne ra rb k = wEq ra rb fun b => k (!b) := rfl
theorem Zb {Γ x y k} : wBin .add Γ (.d (.int x)) (.d (.int y)) k = k (.int (x + y)) := rfl
theorem Zc {Γ l rb k} : wBin .add Γ (.d (.list l)) rb k = onL Γ rb fun m => l.length + m.length ≤ 2 ^ 20 ∧ k (.list (l ++ m)) := rfl
theorem Zd {Γ ra rb k} : wBin .sub Γ ra rb k = onI ra fun x => onI rb fun y => k (.int (x - y)) := rfl
theorem Ze {Γ ra rb k} : wBin .mul Γ ra rb k = onI ra fun x => onI rb fun y => (x.natAbs < 2 ^ 62 ∧ y.natAbs < 2 ^ 62) ∧ k (.int (x * y)) := rfl
theorem Zf {Γ ra rb k} : wBin .fdiv Γ ra rb k = onI ra fun x => onI rb fun y => (y ≠ 0 ∧ y.natAbs < 2 ^ 30) ∧ k (.int (x.fdiv y)) := rfl
theorem Zg {Γ ra rb k} : wBin .mod Γ ra rb k = onI ra fun x => onI rb fun y => y ≠ 0 ∧ k (.int (x.fmod y)) := rfl
theorem Zh {Γ ra rb k} : wBin .shl Γ ra rb k = onI ra fun x => onI rb fun y => (0 ≤ y ∧ y ≤ 1000000 ∧ x.natAbs < 2 ^ 62) ∧ k (.int (x * 2 ^ y.toNat)) := rfl
theorem Zi {Γ ra rb k} : wBin .shr Γ ra rb k = onI ra fun x => onI rb fun y => 0 ≤ y ∧ k (.int (x.fdiv (2 ^ y.toNat))) := rfl
theorem Zj {Γ ra rb k} : wBin .band Γ ra rb k = onI ra fun x => onI rb fun y => k (.int (Builtin.bitAnd x y)) := rfl
theorem Zk {Γ ra rb k} : wBin .bor Γ ra rb k = onI ra fun x => onI rb fun y => k (.int (Builtin.bitOr x y)) := rfl
theorem Zl {Γ ra rb k} : wBin .pow Γ ra rb k = onI ra fun x => onI rb fun y => (0 ≤ y ∧ y ≤ 1000000 ∧ x.natAbs < 2 ^ 62) ∧ k (.int (x ^ y.toNat)) := rfl
theorem Zm {i d ρ k} : bindT (.one i) d ρ k = k (ρ.set i (some (.d d))) := rfl
theorem Zn {i j x y ρ k} : bindT (.two i j) (.tup [x, y]) ρ k = k ((ρ.set i (some (.d x))).set j (some (.d y))) := rfl
theorem Zo {i j m x y z ρ k} : bindT (.nest i j m) (.tup [.tup [x, y], z]) ρ k = k (((ρ.set i (some (.d x))).set j (some (.d y))).set m (some (.d z))) := rfl
theorem Zp {step Γ Q} : wFor step [] Γ Q = Q .next Γ := rfl
theorem Zq {step d ds Γ Q} : wFor step (d :: ds) Γ Q = step d Γ fun o Γ₁ => match o with | .next => wFor step ds Γ₁ Q | .cont => wFor step ds Γ₁ Q | .brk => Q .next Γ₁ | .ret x => Q (.ret x) Γ₁ := rfl
theorem Zr {f k} : wComp f [] k = k [] := rfl
theorem Zs {f d ds k} : wComp f (d :: ds) k = f d fun o => wComp f ds fun os => k (o :: os) := rfl
theorem Zt {Γ j rb k} : wBin .add Γ (.c j) rb k = onL Γ (.c j) fun l => onL Γ rb fun m => l.length + m.length ≤ 2 ^ 20 ∧ k (.list (l ++ m)) := rfl
theorem ifI_is {x : D} {f : Int → Prop} {g : Prop} (h : ifI x f g) : (∃ i, x = .int i ∧ f i) ∨ g := by
  cases x with
  | int i => exact .inl ⟨i, rfl, h⟩
  | _ => exact .inr h
theorem ifB_is {x : D} {f : Bool → Prop} {g : Prop} (h : ifB x f g) : (∃ i, x = .bool i ∧ f i) ∨ g := by
  cases x with
  | bool i => exact .inl ⟨i, rfl, h⟩
  | _ => exact .inr h
theorem rvI_is {r : Rv} {f : Int → Prop} {g : Prop} (h : rvI r f g) : (∃ i, r = .d (.int i) ∧ f i) ∨ g := by
  cases r with
  | d x => rcases ifI_is h with ⟨i, rfl, h⟩ | h; exact .inl ⟨i, rfl, h⟩; exact .inr h
  | c _ => exact .inr h
theorem onT_is {d : D} {k : D → D → Prop} (h : onT d k) : ∃ x y, d = .tup [x, y] ∧ k x y := by
  cases d with
  | tup l =>
    cases l with
    | nil => exact h.elim
    | cons x l => cases l with
      | nil => exact h.elim
      | cons y l => cases l with
        | nil => exact ⟨x, y, rfl, h⟩
        | cons _ _ => exact h.elim
  | _ => exact h.elim
end

end LM

set_option genSizeOf false
set_option genSizeOfSpec false
set_option genInjectivity false
namespace LM

/-- what the checker knows of a frame. -/
structure Cfg where
  fns : List Str
  vars : List Str
  sc : Scope
  main : Bool

noncomputable def envS (sc : Scope) : Env := { scope := sc, locals := 0, globals := 0, cells := [] }

noncomputable def opOf : Bop → Operator
  | .add => .Add | .sub => .Sub | .mul => .Mult | .fdiv => .FloorDiv | .mod => .Mod | .shl => .LShift | .shr => .RShift | .band => .BitAnd | .bor => .BitOr | .pow => .Pow
noncomputable def cmpOf : Cop → CmpOp
  | .lt => .Lt | .gt => .Gt | .le => .LtE | .ge => .GtE | .eq => .Eq | .ne => .NotEq

noncomputable def kindIn (c : Cfg) (x : Str) : Option NameKind := c.sc.names.lookup x
/-- slot i is read. -/
noncomputable def nm (c : Cfg) (i : Nat) (x : Str) : Bool := (c.vars[i]? == some x) && !(x == ("__debug__" : Str)) && (match kindIn c x with
  | some .local => true
  | some .cell => true
  | _ => false)
/-- slot i is stored. -/
noncomputable def nmS (c : Cfg) (i : Nat) (x : Str) : Bool := (c.vars[i]? == some x) && (match kindIn c x with
  | some .local => true
  | some .cell => c.main
  | _ => false)
/-- slot i is stored: a plain local. -/
noncomputable def nmL (c : Cfg) (i : Nat) (x : Str) : Bool := (c.vars[i]? == some x) && (kindIn c x == some .local)
noncomputable def fnIs (c : Cfg) (f : Nat) (x : Str) : Bool := (c.fns[f]? == some x) && !(x == ("__debug__" : Str)) && (kindIn c x == some .globalImplicit)
noncomputable def bi (c : Cfg) (y : String) (x : Str) : Bool := (x == Str.ofString y) && (kindIn c x == some .globalImplicit)

noncomputable def nst : Expr → Bool
  | .Starred .. => false
  | _ => true
noncomputable def ncomp : Expr → Bool
  | .ListComp .. => false
  | .SetComp .. => false
  | .DictComp .. => false
  | _ => true
noncomputable def nslice : Expr → Bool
  | .Slice .. => false
  | _ => true
/-- no call without arguments: no super(). -/
noncomputable def ncall : Expr → Bool
  | .Call .. => false
  | _ => true

theorem any_is {β : Type} {o : Option β} {f : β → Bool} (h : o.any f = true) : ∃ t, f t = true := by
  cases o with
  | none => cases h
  | some t => exact ⟨t, h⟩
theorem any_is2 {β : Type} {o : Option β} {f : β → Bool} (h : o.any f = true) : ∃ t, o = some t ∧ f t = true := by
  cases o with
  | none => cases h
  | some t => exact ⟨t, rfl, h⟩
noncomputable def asT_one (e : Expr) : Option {t : Str × Pos // e = (.Name t.1 t.2)} := match e with
  | (.Name x z1) => some ⟨(x, z1), rfl⟩
  | _ => none
noncomputable def asT_two (e : Expr) : Option {t : Str × Pos × Str × Pos × Nat × Pos // e = (.Tuple [(.Name t.1 t.2.1), (.Name t.2.2.1 t.2.2.2.1)] t.2.2.2.2.1 t.2.2.2.2.2)} := match e with
  | (.Tuple [(.Name x z1), (.Name y z3)] z4 z5) => some ⟨(x, z1, y, z3, z4, z5), rfl⟩
  | _ => none
noncomputable def asT_nest (e : Expr) : Option {t : Str × Pos × Str × Pos × Nat × Pos × Str × Pos × Nat × Pos // e = (.Tuple [(.Tuple [(.Name t.1 t.2.1), (.Name t.2.2.1 t.2.2.2.1)] t.2.2.2.2.1 t.2.2.2.2.2.1), (.Name t.2.2.2.2.2.2.1 t.2.2.2.2.2.2.2.1)] t.2.2.2.2.2.2.2.2.1 t.2.2.2.2.2.2.2.2.2)} := match e with
  | (.Tuple [(.Tuple [(.Name x z1), (.Name y z3)] z4 z5), (.Name z z7)] z8 z9) => some ⟨(x, z1, y, z3, z4, z5, z, z7, z8, z9), rfl⟩
  | _ => none
noncomputable def asE_int (e : Expr) : Option {t : Int × Nat × Pos // e = (.Constant (.int t.1) t.2.1 t.2.2)} := match e with
  | (.Constant (.int j) z1 z2) => some ⟨(j, z1, z2), rfl⟩
  | _ => none
noncomputable def asE_neg (e : Expr) : Option {t : Int × Nat × Pos × Pos // e = (.UnaryOp .USub (.Constant (.int t.1) t.2.1 t.2.2.1) t.2.2.2)} := match e with
  | (.UnaryOp .USub (.Constant (.int j) z1 z2) z3) => some ⟨(j, z1, z2, z3), rfl⟩
  | _ => none
noncomputable def asE_bool (e : Expr) : Option {t : Bool × Nat × Pos // e = (.Constant (.bool t.1) t.2.1 t.2.2)} := match e with
  | (.Constant (.bool j) z1 z2) => some ⟨(j, z1, z2), rfl⟩
  | _ => none
noncomputable def asE_none (e : Expr) : Option {t : Nat × Pos // e = (.Constant .none t.1 t.2)} := match e with
  | (.Constant .none z0 z1) => some ⟨(z0, z1), rfl⟩
  | _ => none
noncomputable def asE_bin (e : Expr) : Option {t : Expr × Operator × Expr × Pos // e = (.BinOp t.1 t.2.1 t.2.2.1 t.2.2.2)} := match e with
  | (.BinOp x o y z3) => some ⟨(x, o, y, z3), rfl⟩
  | _ => none
noncomputable def asE_not (e : Expr) : Option {t : Expr × Pos // e = (.UnaryOp .Not t.1 t.2)} := match e with
  | (.UnaryOp .Not x z1) => some ⟨(x, z1), rfl⟩
  | _ => none
noncomputable def asE_cmp (e : Expr) : Option {t : Expr × CmpOp × Expr × Pos // e = (.Compare t.1 [t.2.1] [t.2.2.1] t.2.2.2)} := match e with
  | (.Compare x [o] [y] z3) => some ⟨(x, o, y, z3), rfl⟩
  | _ => none
noncomputable def asE_isnot (e : Expr) : Option {t : Expr × Nat × Pos × Pos // e = (.Compare t.1 [.IsNot] [(.Constant .none t.2.1 t.2.2.1)] t.2.2.2)} := match e with
  | (.Compare x [.IsNot] [(.Constant .none z1 z2)] z3) => some ⟨(x, z1, z2, z3), rfl⟩
  | _ => none
noncomputable def asE_and (e : Expr) : Option {t : Expr × Expr × Pos // e = (.BoolOp .And [t.1, t.2.1] t.2.2)} := match e with
  | (.BoolOp .And [x, y] z2) => some ⟨(x, y, z2), rfl⟩
  | _ => none
noncomputable def asE_or (e : Expr) : Option {t : Expr × Expr × Pos // e = (.BoolOp .Or [t.1, t.2.1] t.2.2)} := match e with
  | (.BoolOp .Or [x, y] z2) => some ⟨(x, y, z2), rfl⟩
  | _ => none
noncomputable def asE_or3 (e : Expr) : Option {t : Expr × Expr × Expr × Pos // e = (.BoolOp .Or [t.1, t.2.1, t.2.2.1] t.2.2.2)} := match e with
  | (.BoolOp .Or [x, y, z] z3) => some ⟨(x, y, z, z3), rfl⟩
  | _ => none
noncomputable def asE_ite (e : Expr) : Option {t : Expr × Expr × Expr × Pos // e = (.IfExp t.1 t.2.1 t.2.2.1 t.2.2.2)} := match e with
  | (.IfExp z x y z3) => some ⟨(z, x, y, z3), rfl⟩
  | _ => none
noncomputable def asE_len (e : Expr) : Option {t : Str × Pos × Expr × Pos // e = (.Call (.Name t.1 t.2.1) [t.2.2.1] [] t.2.2.2)} := match e with
  | (.Call (.Name n z1) [x] [] z3) => some ⟨(n, z1, x, z3), rfl⟩
  | _ => none
noncomputable def asE_min2 (e : Expr) : Option {t : Str × Pos × Expr × Expr × Pos // e = (.Call (.Name t.1 t.2.1) [t.2.2.1, t.2.2.2.1] [] t.2.2.2.2)} := match e with
  | (.Call (.Name n z1) [x, y] [] z4) => some ⟨(n, z1, x, y, z4), rfl⟩
  | _ => none
noncomputable def asE_bitlen (e : Expr) : Option {t : Expr × Str × Pos × Pos // e = (.Call (.Attribute t.1 t.2.1 t.2.2.1) [] [] t.2.2.2)} := match e with
  | (.Call (.Attribute x n ap) [] [] p) => some ⟨(x, n, ap, p), rfl⟩
  | _ => none
noncomputable def asE_call (e : Expr) : Option {t : Str × Pos × Expr × List Expr × Pos // e = (.Call (.Name t.1 t.2.1) (t.2.2.1 :: t.2.2.2.1) [] t.2.2.2.2)} := match e with
  | (.Call (.Name n z1) (x :: xs) [] z4) => some ⟨(n, z1, x, xs, z4), rfl⟩
  | _ => none
noncomputable def asE_callio (e : Expr) : Option {t : Str × Pos × Str × Pos × List Expr × Pos // e = (.Call (.Name t.1 t.2.1) ((.Name t.2.2.1 t.2.2.2.1) :: t.2.2.2.2.1) [] t.2.2.2.2.2)} := match e with
  | (.Call (.Name n z1) ((.Name y z3) :: xs) [] z5) => some ⟨(n, z1, y, z3, xs, z5), rfl⟩
  | _ => none
noncomputable def asE_item (e : Expr) : Option {t : Expr × Expr × Pos // e = (.Subscript t.1 t.2.1 t.2.2)} := match e with
  | (.Subscript x y z2) => some ⟨(x, y, z2), rfl⟩
  | _ => none
noncomputable def asE_slice (e : Expr) : Option {t : Expr × Option Expr × Option Expr × Option Expr × Pos × Pos // e = (.Subscript t.1 (.Slice t.2.1 t.2.2.1 t.2.2.2.1 t.2.2.2.2.1) t.2.2.2.2.2)} := match e with
  | (.Subscript x (.Slice l u s z4) z5) => some ⟨(x, l, u, s, z4, z5), rfl⟩
  | _ => none
noncomputable def asE_tup (e : Expr) : Option {t : List Expr × Nat × Pos // e = (.Tuple t.1 t.2.1 t.2.2)} := match e with
  | (.Tuple xs z1 z2) => some ⟨(xs, z1, z2), rfl⟩
  | _ => none
noncomputable def asE_lst (e : Expr) : Option {t : List Expr × Pos // e = (.List t.1 t.2)} := match e with
  | (.List xs z1) => some ⟨(xs, z1), rfl⟩
  | _ => none
noncomputable def asE_rep (e : Expr) : Option {t : Expr × Pos × Expr × Pos // e = (.BinOp (.List [t.1] t.2.1) .Mult t.2.2.1 t.2.2.2)} := match e with
  | (.BinOp (.List [x] z1) .Mult y z3) => some ⟨(x, z1, y, z3), rfl⟩
  | _ => none
noncomputable def asE_addc (e : Expr) : Option {t : Expr × Expr × Pos // e = (.BinOp t.1 .Add t.2.1 t.2.2)} := match e with
  | (.BinOp x .Add y z2) => some ⟨(x, y, z2), rfl⟩
  | _ => none
noncomputable def asE_comp (e : Expr) : Option {t : Expr × Expr × Expr × Int × Scope × Pos // e = (.ListComp t.1 [⟨t.2.1, t.2.2.1, [], t.2.2.2.1⟩] t.2.2.2.2.1 t.2.2.2.2.2)} := match e with
  | (.ListComp x [⟨te, ie, [], d⟩] scope z5) => some ⟨(x, te, ie, d, scope, z5), rfl⟩
  | _ => none
noncomputable def asI_range3 (e : Expr) : Option {t : Str × Pos × Expr × Expr × Expr × Pos // e = (.Call (.Name t.1 t.2.1) [t.2.2.1, t.2.2.2.1, t.2.2.2.2.1] [] t.2.2.2.2.2)} := match e with
  | (.Call (.Name n z1) [x, y, z] [] z5) => some ⟨(n, z1, x, y, z, z5), rfl⟩
  | _ => none
noncomputable def asS_assign (e : Stmt) : Option {t : Str × Pos × Expr × Pos // e = (.Assign [(.Name t.1 t.2.1)] t.2.2.1 t.2.2.2)} := match e with
  | (.Assign [(.Name x p)] v q) => some ⟨(x, p, v, q), rfl⟩
  | _ => none
noncomputable def asS_assignT (e : Stmt) : Option {t : List Expr × Nat × Pos × List Expr × Nat × Pos × Pos // e = (.Assign [(.Tuple t.1 t.2.1 t.2.2.1)] (.Tuple t.2.2.2.1 t.2.2.2.2.1 t.2.2.2.2.2.1) t.2.2.2.2.2.2)} := match e with
  | (.Assign [(.Tuple ts k p)] (.Tuple vs k' p') z6) => some ⟨(ts, k, p, vs, k', p', z6), rfl⟩
  | _ => none
noncomputable def asS_unpack (e : Stmt) : Option {t : List Expr × Nat × Pos × Expr × Pos // e = (.Assign [(.Tuple t.1 t.2.1 t.2.2.1)] t.2.2.2.1 t.2.2.2.2)} := match e with
  | (.Assign [(.Tuple ts k p)] v z4) => some ⟨(ts, k, p, v, z4), rfl⟩
  | _ => none
noncomputable def asS_store (e : Stmt) : Option {t : Str × Pos × Expr × Pos × Expr × Pos // e = (.Assign [(.Subscript (.Name t.1 t.2.1) t.2.2.1 t.2.2.2.1)] t.2.2.2.2.1 t.2.2.2.2.2)} := match e with
  | (.Assign [(.Subscript (.Name x z1) y z3)] v z5) => some ⟨(x, z1, y, z3, v, z5), rfl⟩
  | _ => none
noncomputable def asS_aug (e : Stmt) : Option {t : Str × Pos × Operator × Expr × Pos // e = (.AugAssign (.Name t.1 t.2.1) t.2.2.1 t.2.2.2.1 t.2.2.2.2)} := match e with
  | (.AugAssign (.Name x z1) o v z4) => some ⟨(x, z1, o, v, z4), rfl⟩
  | _ => none
noncomputable def asS_append (e : Stmt) : Option {t : Str × Pos × Str × Pos × Expr × Pos × Pos // e = (.Expr (.Call (.Attribute (.Name t.1 t.2.1) t.2.2.1 t.2.2.2.1) [t.2.2.2.2.1] [] t.2.2.2.2.2.1) t.2.2.2.2.2.2)} := match e with
  | (.Expr (.Call (.Attribute (.Name x z1) n ap) [v] [] p) z6) => some ⟨(x, z1, n, ap, v, p, z6), rfl⟩
  | _ => none
noncomputable def asS_expr (e : Stmt) : Option {t : Expr × Pos // e = (.Expr t.1 t.2)} := match e with
  | (.Expr v z1) => some ⟨(v, z1), rfl⟩
  | _ => none
noncomputable def asS_ite (e : Stmt) : Option {t : Expr × List Stmt × List Stmt × Pos // e = (.If t.1 t.2.1 t.2.2.1 t.2.2.2)} := match e with
  | (.If e x y z3) => some ⟨(e, x, y, z3), rfl⟩
  | _ => none
noncomputable def asS_whil (e : Stmt) : Option {t : Expr × List Stmt × Pos // e = (.While t.1 t.2.1 [] t.2.2)} := match e with
  | (.While e x [] z2) => some ⟨(e, x, z2), rfl⟩
  | _ => none
noncomputable def asS_forr (e : Stmt) : Option {t : Expr × Expr × List Stmt × Pos // e = (.For t.1 t.2.1 t.2.2.1 [] t.2.2.2)} := match e with
  | (.For t i x [] z3) => some ⟨(t, i, x, z3), rfl⟩
  | _ => none
noncomputable def asS_ret (e : Stmt) : Option {t : Expr × Pos // e = (.Return (some t.1) t.2)} := match e with
  | (.Return (some v) z1) => some ⟨(v, z1), rfl⟩
  | _ => none
noncomputable def asS_raise (e : Stmt) : Option {t : Str × Pos × Str × Nat × Pos × Pos × Pos // e = (.Raise (some (.Call (.Name t.1 t.2.1) [(.Constant (.str t.2.2.1) t.2.2.2.1 t.2.2.2.2.1)] [] t.2.2.2.2.2.1)) .none t.2.2.2.2.2.2)} := match e with
  | (.Raise (some (.Call (.Name x z1) [(.Constant (.str z2) z3 z4)] [] z5)) .none z6) => some ⟨(x, z1, z2, z3, z4, z5, z6), rfl⟩
  | _ => none
noncomputable def asS_cont (e : Stmt) : Option {t : Pos // e = (.Continue t)} := match e with
  | (.Continue z0) => some ⟨(z0), rfl⟩
  | _ => none
noncomputable def asS_tryRet (e : Stmt) : Option {t : Expr × Pos × Str × Pos × Nat × Pos × Pos × Pos × Pos // e = (.Try [(.Return (some t.1) t.2.1)] [(.ExceptHandler (some (.Name t.2.2.1 t.2.2.2.1)) .none [(.Return (some (.Constant .none t.2.2.2.2.1 t.2.2.2.2.2.1)) t.2.2.2.2.2.2.1)] t.2.2.2.2.2.2.2.1)] [] [] t.2.2.2.2.2.2.2.2)} := match e with
  | (.Try [(.Return (some v) z1)] [(.ExceptHandler (some (.Name x z3)) .none [(.Return (some (.Constant .none z4 z5)) z6)] z7)] [] [] z8) => some ⟨(v, z1, x, z3, z4, z5, z6, z7, z8), rfl⟩
  | _ => none

noncomputable def chkT (c : Cfg) : Tgt → Expr → Bool
  | .one i, e => ((asT_one e).any fun q9 => nmS c i q9.1.1)
  | .two i j, e => ((asT_two e).any fun q9 => nmS c i q9.1.1 && nmS c j q9.1.2.2.1)
  | .nest i j m, e => ((asT_nest e).any fun q9 => nmS c i q9.1.1 && nmS c j q9.1.2.2.1 && nmS c m q9.1.2.2.2.2.2.2.1)

noncomputable def compScope (c : Cfg) (scope : Scope) (tn : List Str) (fs : List Nat) : Bool :=
  (scope.kind == .function) && scope.names.all (fun x => x.2 != .cell) && scope.names.all (fun x => x.2 != .local || scope.names.lookup x.1 == some .local) &&
  scope.names.all (fun x => x.2 != .free || (c.sc.names.lookup x.1 == some .cell)) && (c.sc.kind == .function) &&
  decide (tn ++ fs.map (fun i => c.vars.getD i default)).Nodup && fs.all (fun i => decide (i < c.vars.length) && (kindIn c (c.vars.getD i default) == some .cell) && (scope.names.lookup (c.vars.getD i default) == some .free)) &&
  tn.all (fun x => scope.names.lookup x == some .local)

mutual
noncomputable def chkE : PE → Cfg → Expr → Bool
  | .var i, c, e => ((asT_one e).any fun q9 => nm c i q9.1.1)
  | .fnm f, c, e => ((asT_one e).any fun q9 => fnIs c f q9.1.1)
  | .int i, _, e => ((asE_int e).any fun q9 => i == q9.1.1)
  | .neg i, _, e => ((asE_neg e).any fun q9 => i == q9.1.1)
  | .bool b, _, e => ((asE_bool e).any fun q9 => b == q9.1.1)
  | .none, _, e => ((asE_none e).any fun q9 => true)
  | .bin op a b, c, e => ((asE_bin e).any fun q9 => decide (q9.1.2.1 = opOf op) && chkE a c q9.1.1 && chkE b c q9.1.2.2.1)
  | .not a, c, e => ((asE_not e).any fun q9 => chkE a c q9.1.1)
  | .cmp op a b, c, e => ((asE_cmp e).any fun q9 => decide (q9.1.2.1 = cmpOf op) && !(behindInMarks q9.1.2.1 q9.1.2.2.1) && chkE a c q9.1.1 && chkE b c q9.1.2.2.1)
  | .isnot a, c, e => ((asE_isnot e).any fun q9 => chkE a c q9.1.1)
  | .and a b, c, e => ((asE_and e).any fun q9 => chkE a c q9.1.1 && chkE b c q9.1.2.1)
  | .or a b, c, e => ((asE_or e).any fun q9 => chkE a c q9.1.1 && chkE b c q9.1.2.1)
  | .or3 a b d, c, e => ((asE_or3 e).any fun q9 => chkE a c q9.1.1 && chkE b c q9.1.2.1 && chkE d c q9.1.2.2.1)
  | .ite t a b, c, e => ((asE_ite e).any fun q9 => chkE t c q9.1.1 && chkE a c q9.1.2.1 && chkE b c q9.1.2.2.1)
  | .len a, c, e => ((asE_len e).any fun q9 => bi c "len" q9.1.1 && nst q9.1.2.2.1 && chkE a c q9.1.2.2.1)
  | .min2 a b, c, e => ((asE_min2 e).any fun q9 => bi c "min" q9.1.1 && nst q9.1.2.2.1 && nst q9.1.2.2.2.1 && chkE a c q9.1.2.2.1 && chkE b c q9.1.2.2.2.1)
  | .abs a, c, e => ((asE_len e).any fun q9 => bi c "abs" q9.1.1 && nst q9.1.2.2.1 && chkE a c q9.1.2.2.1)
  | .toInt a, c, e => ((asE_len e).any fun q9 => bi c "int" q9.1.1 && nst q9.1.2.2.1 && chkE a c q9.1.2.2.1)
  | .sum a, c, e => ((asE_len e).any fun q9 => bi c "sum" q9.1.1 && nst q9.1.2.2.1 && chkE a c q9.1.2.2.1)
  | .any a, c, e => ((asE_len e).any fun q9 => bi c "any" q9.1.1 && nst q9.1.2.2.1 && chkE a c q9.1.2.2.1)
  | .bitlen a, c, e => ((asE_bitlen e).any fun q9 => (q9.1.2.1 == ("bit_length" : Str)) && (q9.1.2.2.1.endLine == q9.1.2.2.2.line) && ncall q9.1.1 && chkE a c q9.1.1)
  | .call f es, c, e => ((asE_call e).any fun q9 => fnIs c f q9.1.1 && chkEs es c (q9.1.2.2.1 :: q9.1.2.2.2.1))
  | .callv i es, c, e => ((asE_call e).any fun q9 => nm c i q9.1.1 && chkEs es c (q9.1.2.2.1 :: q9.1.2.2.2.1))
  | .callio f i es, c, e => ((asE_callio e).any fun q9 => fnIs c f q9.1.1 && nm c i q9.1.2.2.1 && chkEs es c q9.1.2.2.2.2.1)
  | .item a i, c, e => ((asE_item e).any fun q9 => nslice q9.1.2.1 && chkE a c q9.1.1 && chkE i c q9.1.2.1)
  | .slice a lo hi st, c, e => ((asE_slice e).any fun q9 => chkE a c q9.1.1 && chkO lo c q9.1.2.1 && chkO hi c q9.1.2.2.1 && chkO st c q9.1.2.2.2.1)
  | .tup es, c, e => ((asE_tup e).any fun q9 => chkEs es c q9.1.1)
  | .lst es, c, e => ((asE_lst e).any fun q9 => chkEs es c q9.1.1)
  | .cell es, c, e => ((asE_lst e).any fun q9 => chkEs es c q9.1.1)
  | .rep a n, c, e => ((asE_rep e).any fun q9 => nst q9.1.1 && chkE a c q9.1.1 && chkE n c q9.1.2.2.1)
  | .repc a n, c, e => ((asE_rep e).any fun q9 => nst q9.1.1 && chkE a c q9.1.1 && chkE n c q9.1.2.2.1)
  | .addc a b, c, e => ((asE_addc e).any fun q9 => chkE a c q9.1.1 && chkE b c q9.1.2.1)
  | .comp tn fs tg it a, c, e => ((asE_comp e).any fun q9 => (q9.1.2.2.2.1 == 0) && itT it tg && compScope c q9.1.2.2.2.2.1 tn fs && chkI it c q9.1.2.2.1 && chkT ⟨c.fns, tn ++ fs.map (fun i => c.vars.getD i default), relabel q9.1.2.2.2.2.1 (envS c.sc), false⟩ tg q9.1.2.1 && chkE a ⟨c.fns, tn ++ fs.map (fun i => c.vars.getD i default), relabel q9.1.2.2.2.2.1 (envS c.sc), false⟩ q9.1.1)
noncomputable def chkO : PE → Cfg → Option Expr → Bool
  | .none, _, e => e.isNone
  | .var i, c, e => e.any fun x => (asT_one x).any fun t => nm c i t.1.1
  | .int i, _, e => e.any fun x => (asE_int x).any fun t => i == t.1.1
  | .neg i, _, e => e.any fun x => (asE_neg x).any fun t => i == t.1.1
  | .bin op a b, c, e => e.any fun x => (asE_bin x).any fun t => decide (t.1.2.1 = opOf op) && chkE a c t.1.1 && chkE b c t.1.2.2.1
  | _, _, _ => false
noncomputable def chkEs : PEs → Cfg → List Expr → Bool
  | .nil, _, l => (match l with | [] => true | _ => false)
  | .cons e es, c, l => (match l with | x :: xs => nst x && chkE e c x && chkEs es c xs | _ => false)
noncomputable def chkI : PIt → Cfg → Expr → Bool
  | .lst e, c, x => (match x with | .Set .. => false | _ => true) && chkE e c x
  | .enum a, c, e => ((asE_len e).any fun q9 => bi c "enumerate" q9.1.1 && nst q9.1.2.2.1 && chkE a c q9.1.2.2.1)
  | .zip a b, c, e => ((asE_min2 e).any fun q9 => bi c "zip" q9.1.1 && nst q9.1.2.2.1 && nst q9.1.2.2.2.1 && chkE a c q9.1.2.2.1 && chkE b c q9.1.2.2.2.1)
  | .range1 a, c, e => ((asE_len e).any fun q9 => bi c "range" q9.1.1 && nst q9.1.2.2.1 && chkE a c q9.1.2.2.1)
  | .range2 a b, c, e => ((asE_min2 e).any fun q9 => bi c "range" q9.1.1 && nst q9.1.2.2.1 && nst q9.1.2.2.2.1 && chkE a c q9.1.2.2.1 && chkE b c q9.1.2.2.2.1)
  | .range3 a b d, c, e => ((asI_range3 e).any fun q9 => bi c "range" q9.1.1 && nst q9.1.2.2.1 && nst q9.1.2.2.2.1 && nst q9.1.2.2.2.2.1 && chkE a c q9.1.2.2.1 && chkE b c q9.1.2.2.2.1 && chkE d c q9.1.2.2.2.2.1)
end

/-- names of a target tuple. -/
noncomputable def namesT : List Expr → Option (List Str)
  | [] => some []
  | .Name x _ :: r => (namesT r).map (x :: ·)
  | _ :: _ => none
noncomputable def chkNames (c : Cfg) : List Nat → List Str → Bool
  | [], [] => true
  | i :: is, x :: xs => nmS c i x && chkNames c is xs
  | _, _ => false
noncomputable def swNone (ts : List Expr) (v : Expr) (c : Cfg) : Bool := match swappedStores ts v (envS c.sc) with
  | .pure none => true
  | _ => false
noncomputable def swSome (ts : List Expr) (v : Expr) (c : Cfg) (xs : List Str) : Bool := match swappedStores ts v (envS c.sc) with
  | .pure (some ys) => decide (ys = xs)
  | _ => false
noncomputable def swComp (v t : Expr) (line : Nat) (c : Cfg) (b : Bool) : Bool := match swapsWith v (some t) line (envS c.sc) with
  | .pure d => d == b
  | _ => false

mutual
noncomputable def chkS : PS → Cfg → Stmt → Bool
  | .assign i e, c, s => ((asS_assign s).any fun q9 => nmS c i q9.1.1 && chkE e c q9.1.2.2.1 && (ncomp q9.1.2.2.1 || (swComp q9.1.2.2.1 (.Name q9.1.1 q9.1.2.1) q9.1.2.2.2.line c false) || (swComp q9.1.2.2.1 (.Name q9.1.1 q9.1.2.1) q9.1.2.2.2.line c true && nmL c i q9.1.1)))
  | .assignT is es, c, s => ((asS_assignT s).any fun q9 => decide (is.length ≤ 10) && chkEs es c q9.1.2.2.2.1 && (match namesT q9.1.1 with | some xs => chkNames c is xs && decide xs.Nodup && (swNone [.Tuple q9.1.1 q9.1.2.1 q9.1.2.2.1] (.Tuple q9.1.2.2.2.1 q9.1.2.2.2.2.1 q9.1.2.2.2.2.2.1) c || (swSome [.Tuple q9.1.1 q9.1.2.1 q9.1.2.2.1] (.Tuple q9.1.2.2.2.1 q9.1.2.2.2.2.1 q9.1.2.2.2.2.2.1) c xs && xs.all (fun x => kindIn c x == some .local))) | none => false))
  | .unpack is e, c, s => ((asS_unpack s).any fun q9 => chkE e c q9.1.2.2.2.1 && ncomp q9.1.2.2.2.1 && (match namesT q9.1.1 with | some xs => chkNames c is xs && decide xs.Nodup && swNone [.Tuple q9.1.1 q9.1.2.1 q9.1.2.2.1] q9.1.2.2.2.1 c | none => false))
  | .store i ix e, c, s => ((asS_store s).any fun q9 => nm c i q9.1.1 && nslice q9.1.2.2.1 && chkE ix c q9.1.2.2.1 && chkE e c q9.1.2.2.2.2.1 && ncomp q9.1.2.2.2.2.1)
  | .aug i op e, c, s => ((asS_aug s).any fun q9 => nm c i q9.1.1 && nmS c i q9.1.1 && decide (q9.1.2.2.1 = opOf op) && chkE e c q9.1.2.2.2.1)
  | .append i e, c, s => ((asS_append s).any fun q9 => nm c i q9.1.1 && (q9.1.2.2.1 == ("append" : Str)) && (q9.1.2.2.2.1.endLine == q9.1.2.2.2.2.2.1.line) && nst q9.1.2.2.2.2.1 && chkE e c q9.1.2.2.2.2.1)
  | .expr e, c, s => ((asS_expr s).any fun q9 => (match q9.1.1 with | .Call .. => true | _ => false) && chkE e c q9.1.1)
  | .ite t a b, c, s => ((asS_ite s).any fun q9 => chkE t c q9.1.1 && chkSs a c q9.1.2.1 && chkSs b c q9.1.2.2.1)
  | .whil t b, c, s => ((asS_whil s).any fun q9 => chkE t c q9.1.1 && chkSs b c q9.1.2.1)
  | .forr tg it b, c, s => ((asS_forr s).any fun q9 => itT it tg && chkT c tg q9.1.1 && chkI it c q9.1.2.1 && chkSs b c q9.1.2.2.1)
  | .ret e, c, s => ((asS_ret s).any fun q9 => chkE e c q9.1.1)
  | .raise own, c, s => ((asS_raise s).any fun q9 => (!own || (q9.1.1 == ("NoInverse" : Str))) && (kindIn c q9.1.1 == some .globalImplicit))
  | .cont, _, s => ((asS_cont s).any fun q9 => true)
  | .tryRet e, c, s => ((asS_tryRet s).any fun q9 => c.main && (q9.1.2.2.1 == ("NoInverse" : Str)) && (kindIn c q9.1.2.2.1 == some .globalImplicit) && chkE e c q9.1.1)
noncomputable def chkSs : PSs → Cfg → List Stmt → Bool
  | .nil, _, l => (match l with | [] => true | _ => false)
  | .cons s r, c, l => (match l with | x :: xs => chkS s c x && chkSs r c xs | _ => false)
  | .frz _ r, c, l => chkSs r c l
end

theorem invT_one : ∀ {i} {c : Cfg} {e : Expr}, chkT c (.one i) e = true → Ex2 (fun x z1 => e = (.Name x z1)) (fun x z1 => (nmS c i x) = true) :=
  fun h => (any_is h).elim fun q9 h => ⟨q9.1.1, q9.1.2, q9.2, h⟩
theorem invT_two : ∀ {i j} {c : Cfg} {e : Expr}, chkT c (.two i j) e = true → Ex6 (fun x z1 y z3 z4 z5 => e = (.Tuple [(.Name x z1), (.Name y z3)] z4 z5)) (fun x z1 y z3 z4 z5 => (nmS c i x && nmS c j y) = true) :=
  fun h => (any_is h).elim fun q9 h => ⟨q9.1.1, q9.1.2.1, q9.1.2.2.1, q9.1.2.2.2.1, q9.1.2.2.2.2.1, q9.1.2.2.2.2.2, q9.2, h⟩
theorem invT_nest : ∀ {i j m} {c : Cfg} {e : Expr}, chkT c (.nest i j m) e = true → Ex10 (fun x z1 y z3 z4 z5 z z7 z8 z9 => e = (.Tuple [(.Tuple [(.Name x z1), (.Name y z3)] z4 z5), (.Name z z7)] z8 z9)) (fun x z1 y z3 z4 z5 z z7 z8 z9 => (nmS c i x && nmS c j y && nmS c m z) = true) :=
  fun h => (any_is h).elim fun q9 h => ⟨q9.1.1, q9.1.2.1, q9.1.2.2.1, q9.1.2.2.2.1, q9.1.2.2.2.2.1, q9.1.2.2.2.2.2.1, q9.1.2.2.2.2.2.2.1, q9.1.2.2.2.2.2.2.2.1, q9.1.2.2.2.2.2.2.2.2.1, q9.1.2.2.2.2.2.2.2.2.2, q9.2, h⟩
theorem invE_var : ∀ {i} {c : Cfg} {e : Expr}, chkE (.var i) c e = true → Ex2 (fun x z1 => e = (.Name x z1)) (fun x z1 => (nm c i x) = true) :=
  fun h => (any_is h).elim fun q9 h => ⟨q9.1.1, q9.1.2, q9.2, h⟩
theorem invE_fnm : ∀ {f} {c : Cfg} {e : Expr}, chkE (.fnm f) c e = true → Ex2 (fun x z1 => e = (.Name x z1)) (fun x z1 => (fnIs c f x) = true) :=
  fun h => (any_is h).elim fun q9 h => ⟨q9.1.1, q9.1.2, q9.2, h⟩
theorem invE_int : ∀ {i} {c0 : Cfg} {e : Expr}, chkE (.int i) c0 e = true → Ex3 (fun j z1 z2 => e = (.Constant (.int j) z1 z2)) (fun j z1 z2 => (i == j) = true) :=
  fun h => (any_is h).elim fun q9 h => ⟨q9.1.1, q9.1.2.1, q9.1.2.2, q9.2, h⟩
theorem invE_neg : ∀ {i} {c0 : Cfg} {e : Expr}, chkE (.neg i) c0 e = true → Ex4 (fun j z1 z2 z3 => e = (.UnaryOp .USub (.Constant (.int j) z1 z2) z3)) (fun j z1 z2 z3 => (i == j) = true) :=
  fun h => (any_is h).elim fun q9 h => ⟨q9.1.1, q9.1.2.1, q9.1.2.2.1, q9.1.2.2.2, q9.2, h⟩
theorem invE_bool : ∀ {b} {c0 : Cfg} {e : Expr}, chkE (.bool b) c0 e = true → Ex3 (fun j z1 z2 => e = (.Constant (.bool j) z1 z2)) (fun j z1 z2 => (b == j) = true) :=
  fun h => (any_is h).elim fun q9 h => ⟨q9.1.1, q9.1.2.1, q9.1.2.2, q9.2, h⟩
theorem invE_none : ∀ {c0 : Cfg} {e : Expr}, chkE (.none) c0 e = true → Ex2 (fun z0 z1 => e = (.Constant .none z0 z1)) (fun z0 z1 => (true) = true) :=
  fun h => (any_is h).elim fun q9 h => ⟨q9.1.1, q9.1.2, q9.2, h⟩
theorem invE_bin : ∀ {op a b} {c : Cfg} {e : Expr}, chkE (.bin op a b) c e = true → Ex4 (fun x o y z3 => e = (.BinOp x o y z3)) (fun x o y z3 => (decide (o = opOf op) && chkE a c x && chkE b c y) = true) :=
  fun h => (any_is h).elim fun q9 h => ⟨q9.1.1, q9.1.2.1, q9.1.2.2.1, q9.1.2.2.2, q9.2, h⟩
theorem invE_not : ∀ {a} {c : Cfg} {e : Expr}, chkE (.not a) c e = true → Ex2 (fun x z1 => e = (.UnaryOp .Not x z1)) (fun x z1 => (chkE a c x) = true) :=
  fun h => (any_is h).elim fun q9 h => ⟨q9.1.1, q9.1.2, q9.2, h⟩
theorem invE_cmp : ∀ {op a b} {c : Cfg} {e : Expr}, chkE (.cmp op a b) c e = true → Ex4 (fun x o y z3 => e = (.Compare x [o] [y] z3)) (fun x o y z3 => (decide (o = cmpOf op) && !(behindInMarks o y) && chkE a c x && chkE b c y) = true) :=
  fun h => (any_is h).elim fun q9 h => ⟨q9.1.1, q9.1.2.1, q9.1.2.2.1, q9.1.2.2.2, q9.2, h⟩
theorem invE_isnot : ∀ {a} {c : Cfg} {e : Expr}, chkE (.isnot a) c e = true → Ex4 (fun x z1 z2 z3 => e = (.Compare x [.IsNot] [(.Constant .none z1 z2)] z3)) (fun x z1 z2 z3 => (chkE a c x) = true) :=
  fun h => (any_is h).elim fun q9 h => ⟨q9.1.1, q9.1.2.1, q9.1.2.2.1, q9.1.2.2.2, q9.2, h⟩
theorem invE_and : ∀ {a b} {c : Cfg} {e : Expr}, chkE (.and a b) c e = true → Ex3 (fun x y z2 => e = (.BoolOp .And [x, y] z2)) (fun x y z2 => (chkE a c x && chkE b c y) = true) :=
  fun h => (any_is h).elim fun q9 h => ⟨q9.1.1, q9.1.2.1, q9.1.2.2, q9.2, h⟩
theorem invE_or : ∀ {a b} {c : Cfg} {e : Expr}, chkE (.or a b) c e = true → Ex3 (fun x y z2 => e = (.BoolOp .Or [x, y] z2)) (fun x y z2 => (chkE a c x && chkE b c y) = true) :=
  fun h => (any_is h).elim fun q9 h => ⟨q9.1.1, q9.1.2.1, q9.1.2.2, q9.2, h⟩
theorem invE_or3 : ∀ {a b d} {c : Cfg} {e : Expr}, chkE (.or3 a b d) c e = true → Ex4 (fun x y z z3 => e = (.BoolOp .Or [x, y, z] z3)) (fun x y z z3 => (chkE a c x && chkE b c y && chkE d c z) = true) :=
  fun h => (any_is h).elim fun q9 h => ⟨q9.1.1, q9.1.2.1, q9.1.2.2.1, q9.1.2.2.2, q9.2, h⟩
theorem invE_ite : ∀ {t a b} {c : Cfg} {e : Expr}, chkE (.ite t a b) c e = true → Ex4 (fun z x y z3 => e = (.IfExp z x y z3)) (fun z x y z3 => (chkE t c z && chkE a c x && chkE b c y) = true) :=
  fun h => (any_is h).elim fun q9 h => ⟨q9.1.1, q9.1.2.1, q9.1.2.2.1, q9.1.2.2.2, q9.2, h⟩
theorem invE_len : ∀ {a} {c : Cfg} {e : Expr}, chkE (.len a) c e = true → Ex4 (fun n z1 x z3 => e = (.Call (.Name n z1) [x] [] z3)) (fun n z1 x z3 => (bi c "len" n && nst x && chkE a c x) = true) :=
  fun h => (any_is h).elim fun q9 h => ⟨q9.1.1, q9.1.2.1, q9.1.2.2.1, q9.1.2.2.2, q9.2, h⟩
theorem invE_min2 : ∀ {a b} {c : Cfg} {e : Expr}, chkE (.min2 a b) c e = true → Ex5 (fun n z1 x y z4 => e = (.Call (.Name n z1) [x, y] [] z4)) (fun n z1 x y z4 => (bi c "min" n && nst x && nst y && chkE a c x && chkE b c y) = true) :=
  fun h => (any_is h).elim fun q9 h => ⟨q9.1.1, q9.1.2.1, q9.1.2.2.1, q9.1.2.2.2.1, q9.1.2.2.2.2, q9.2, h⟩
theorem invE_abs : ∀ {a} {c : Cfg} {e : Expr}, chkE (.abs a) c e = true → Ex4 (fun n z1 x z3 => e = (.Call (.Name n z1) [x] [] z3)) (fun n z1 x z3 => (bi c "abs" n && nst x && chkE a c x) = true) :=
  fun h => (any_is h).elim fun q9 h => ⟨q9.1.1, q9.1.2.1, q9.1.2.2.1, q9.1.2.2.2, q9.2, h⟩
theorem invE_toInt : ∀ {a} {c : Cfg} {e : Expr}, chkE (.toInt a) c e = true → Ex4 (fun n z1 x z3 => e = (.Call (.Name n z1) [x] [] z3)) (fun n z1 x z3 => (bi c "int" n && nst x && chkE a c x) = true) :=
  fun h => (any_is h).elim fun q9 h => ⟨q9.1.1, q9.1.2.1, q9.1.2.2.1, q9.1.2.2.2, q9.2, h⟩
theorem invE_sum : ∀ {a} {c : Cfg} {e : Expr}, chkE (.sum a) c e = true → Ex4 (fun n z1 x z3 => e = (.Call (.Name n z1) [x] [] z3)) (fun n z1 x z3 => (bi c "sum" n && nst x && chkE a c x) = true) :=
  fun h => (any_is h).elim fun q9 h => ⟨q9.1.1, q9.1.2.1, q9.1.2.2.1, q9.1.2.2.2, q9.2, h⟩
theorem invE_any : ∀ {a} {c : Cfg} {e : Expr}, chkE (.any a) c e = true → Ex4 (fun n z1 x z3 => e = (.Call (.Name n z1) [x] [] z3)) (fun n z1 x z3 => (bi c "any" n && nst x && chkE a c x) = true) :=
  fun h => (any_is h).elim fun q9 h => ⟨q9.1.1, q9.1.2.1, q9.1.2.2.1, q9.1.2.2.2, q9.2, h⟩
theorem invE_bitlen : ∀ {a} {c : Cfg} {e : Expr}, chkE (.bitlen a) c e = true → Ex4 (fun x n ap p => e = (.Call (.Attribute x n ap) [] [] p)) (fun x n ap p => ((n == ("bit_length" : Str)) && (ap.endLine == p.line) && ncall x && chkE a c x) = true) :=
  fun h => (any_is h).elim fun q9 h => ⟨q9.1.1, q9.1.2.1, q9.1.2.2.1, q9.1.2.2.2, q9.2, h⟩
theorem invE_call : ∀ {f es} {c : Cfg} {e : Expr}, chkE (.call f es) c e = true → Ex5 (fun n z1 x xs z4 => e = (.Call (.Name n z1) (x :: xs) [] z4)) (fun n z1 x xs z4 => (fnIs c f n && chkEs es c (x :: xs)) = true) :=
  fun h => (any_is h).elim fun q9 h => ⟨q9.1.1, q9.1.2.1, q9.1.2.2.1, q9.1.2.2.2.1, q9.1.2.2.2.2, q9.2, h⟩
theorem invE_callv : ∀ {i es} {c : Cfg} {e : Expr}, chkE (.callv i es) c e = true → Ex5 (fun n z1 x xs z4 => e = (.Call (.Name n z1) (x :: xs) [] z4)) (fun n z1 x xs z4 => (nm c i n && chkEs es c (x :: xs)) = true) :=
  fun h => (any_is h).elim fun q9 h => ⟨q9.1.1, q9.1.2.1, q9.1.2.2.1, q9.1.2.2.2.1, q9.1.2.2.2.2, q9.2, h⟩
theorem invE_callio : ∀ {f i es} {c : Cfg} {e : Expr}, chkE (.callio f i es) c e = true → Ex6 (fun n z1 y z3 xs z5 => e = (.Call (.Name n z1) ((.Name y z3) :: xs) [] z5)) (fun n z1 y z3 xs z5 => (fnIs c f n && nm c i y && chkEs es c xs) = true) :=
  fun h => (any_is h).elim fun q9 h => ⟨q9.1.1, q9.1.2.1, q9.1.2.2.1, q9.1.2.2.2.1, q9.1.2.2.2.2.1, q9.1.2.2.2.2.2, q9.2, h⟩
theorem invE_item : ∀ {a i} {c : Cfg} {e : Expr}, chkE (.item a i) c e = true → Ex3 (fun x y z2 => e = (.Subscript x y z2)) (fun x y z2 => (nslice y && chkE a c x && chkE i c y) = true) :=
  fun h => (any_is h).elim fun q9 h => ⟨q9.1.1, q9.1.2.1, q9.1.2.2, q9.2, h⟩
theorem invE_slice : ∀ {a lo hi st} {c : Cfg} {e : Expr}, chkE (.slice a lo hi st) c e = true → Ex6 (fun x l u s z4 z5 => e = (.Subscript x (.Slice l u s z4) z5)) (fun x l u s z4 z5 => (chkE a c x && chkO lo c l && chkO hi c u && chkO st c s) = true) :=
  fun h => (any_is h).elim fun q9 h => ⟨q9.1.1, q9.1.2.1, q9.1.2.2.1, q9.1.2.2.2.1, q9.1.2.2.2.2.1, q9.1.2.2.2.2.2, q9.2, h⟩
theorem invE_tup : ∀ {es} {c : Cfg} {e : Expr}, chkE (.tup es) c e = true → Ex3 (fun xs z1 z2 => e = (.Tuple xs z1 z2)) (fun xs z1 z2 => (chkEs es c xs) = true) :=
  fun h => (any_is h).elim fun q9 h => ⟨q9.1.1, q9.1.2.1, q9.1.2.2, q9.2, h⟩
theorem invE_lst : ∀ {es} {c : Cfg} {e : Expr}, chkE (.lst es) c e = true → Ex2 (fun xs z1 => e = (.List xs z1)) (fun xs z1 => (chkEs es c xs) = true) :=
  fun h => (any_is h).elim fun q9 h => ⟨q9.1.1, q9.1.2, q9.2, h⟩
theorem invE_cell : ∀ {es} {c : Cfg} {e : Expr}, chkE (.cell es) c e = true → Ex2 (fun xs z1 => e = (.List xs z1)) (fun xs z1 => (chkEs es c xs) = true) :=
  fun h => (any_is h).elim fun q9 h => ⟨q9.1.1, q9.1.2, q9.2, h⟩
theorem invE_rep : ∀ {a n} {c : Cfg} {e : Expr}, chkE (.rep a n) c e = true → Ex4 (fun x z1 y z3 => e = (.BinOp (.List [x] z1) .Mult y z3)) (fun x z1 y z3 => (nst x && chkE a c x && chkE n c y) = true) :=
  fun h => (any_is h).elim fun q9 h => ⟨q9.1.1, q9.1.2.1, q9.1.2.2.1, q9.1.2.2.2, q9.2, h⟩
theorem invE_repc : ∀ {a n} {c : Cfg} {e : Expr}, chkE (.repc a n) c e = true → Ex4 (fun x z1 y z3 => e = (.BinOp (.List [x] z1) .Mult y z3)) (fun x z1 y z3 => (nst x && chkE a c x && chkE n c y) = true) :=
  fun h => (any_is h).elim fun q9 h => ⟨q9.1.1, q9.1.2.1, q9.1.2.2.1, q9.1.2.2.2, q9.2, h⟩
theorem invE_addc : ∀ {a b} {c : Cfg} {e : Expr}, chkE (.addc a b) c e = true → Ex3 (fun x y z2 => e = (.BinOp x .Add y z2)) (fun x y z2 => (chkE a c x && chkE b c y) = true) :=
  fun h => (any_is h).elim fun q9 h => ⟨q9.1.1, q9.1.2.1, q9.1.2.2, q9.2, h⟩
theorem invE_comp : ∀ {tn fs tg it a} {c : Cfg} {e : Expr}, chkE (.comp tn fs tg it a) c e = true → Ex6 (fun x te ie d scope z5 => e = (.ListComp x [⟨te, ie, [], d⟩] scope z5)) (fun x te ie d scope z5 => ((d == 0) && itT it tg && compScope c scope tn fs && chkI it c ie && chkT ⟨c.fns, tn ++ fs.map (fun i => c.vars.getD i default), relabel scope (envS c.sc), false⟩ tg te && chkE a ⟨c.fns, tn ++ fs.map (fun i => c.vars.getD i default), relabel scope (envS c.sc), false⟩ x) = true) :=
  fun h => (any_is h).elim fun q9 h => ⟨q9.1.1, q9.1.2.1, q9.1.2.2.1, q9.1.2.2.2.1, q9.1.2.2.2.2.1, q9.1.2.2.2.2.2, q9.2, h⟩
theorem invI_enum : ∀ {a} {c : Cfg} {e : Expr}, chkI (.enum a) c e = true → Ex4 (fun n z1 x z3 => e = (.Call (.Name n z1) [x] [] z3)) (fun n z1 x z3 => (bi c "enumerate" n && nst x && chkE a c x) = true) :=
  fun h => (any_is h).elim fun q9 h => ⟨q9.1.1, q9.1.2.1, q9.1.2.2.1, q9.1.2.2.2, q9.2, h⟩
theorem invI_zip : ∀ {a b} {c : Cfg} {e : Expr}, chkI (.zip a b) c e = true → Ex5 (fun n z1 x y z4 => e = (.Call (.Name n z1) [x, y] [] z4)) (fun n z1 x y z4 => (bi c "zip" n && nst x && nst y && chkE a c x && chkE b c y) = true) :=
  fun h => (any_is h).elim fun q9 h => ⟨q9.1.1, q9.1.2.1, q9.1.2.2.1, q9.1.2.2.2.1, q9.1.2.2.2.2, q9.2, h⟩
theorem invI_range1 : ∀ {a} {c : Cfg} {e : Expr}, chkI (.range1 a) c e = true → Ex4 (fun n z1 x z3 => e = (.Call (.Name n z1) [x] [] z3)) (fun n z1 x z3 => (bi c "range" n && nst x && chkE a c x) = true) :=
  fun h => (any_is h).elim fun q9 h => ⟨q9.1.1, q9.1.2.1, q9.1.2.2.1, q9.1.2.2.2, q9.2, h⟩
theorem invI_range2 : ∀ {a b} {c : Cfg} {e : Expr}, chkI (.range2 a b) c e = true → Ex5 (fun n z1 x y z4 => e = (.Call (.Name n z1) [x, y] [] z4)) (fun n z1 x y z4 => (bi c "range" n && nst x && nst y && chkE a c x && chkE b c y) = true) :=
  fun h => (any_is h).elim fun q9 h => ⟨q9.1.1, q9.1.2.1, q9.1.2.2.1, q9.1.2.2.2.1, q9.1.2.2.2.2, q9.2, h⟩
theorem invI_range3 : ∀ {a b d} {c : Cfg} {e : Expr}, chkI (.range3 a b d) c e = true → Ex6 (fun n z1 x y z z5 => e = (.Call (.Name n z1) [x, y, z] [] z5)) (fun n z1 x y z z5 => (bi c "range" n && nst x && nst y && nst z && chkE a c x && chkE b c y && chkE d c z) = true) :=
  fun h => (any_is h).elim fun q9 h => ⟨q9.1.1, q9.1.2.1, q9.1.2.2.1, q9.1.2.2.2.1, q9.1.2.2.2.2.1, q9.1.2.2.2.2.2, q9.2, h⟩
theorem invS_assign : ∀ {i e} {c : Cfg} {s : Stmt}, chkS (.assign i e) c s = true → Ex4 (fun x p v q => s = (.Assign [(.Name x p)] v q)) (fun x p v q => (nmS c i x && chkE e c v && (ncomp v || (swComp v (.Name x p) q.line c false) || (swComp v (.Name x p) q.line c true && nmL c i x))) = true) :=
  fun h => (any_is h).elim fun q9 h => ⟨q9.1.1, q9.1.2.1, q9.1.2.2.1, q9.1.2.2.2, q9.2, h⟩
theorem invS_assignT : ∀ {is es} {c : Cfg} {s : Stmt}, chkS (.assignT is es) c s = true → Ex7 (fun ts k p vs k' p' z6 => s = (.Assign [(.Tuple ts k p)] (.Tuple vs k' p') z6)) (fun ts k p vs k' p' z6 => (decide (is.length ≤ 10) && chkEs es c vs && (match namesT ts with | some xs => chkNames c is xs && decide xs.Nodup && (swNone [.Tuple ts k p] (.Tuple vs k' p') c || (swSome [.Tuple ts k p] (.Tuple vs k' p') c xs && xs.all (fun x => kindIn c x == some .local))) | none => false)) = true) :=
  fun h => (any_is h).elim fun q9 h => ⟨q9.1.1, q9.1.2.1, q9.1.2.2.1, q9.1.2.2.2.1, q9.1.2.2.2.2.1, q9.1.2.2.2.2.2.1, q9.1.2.2.2.2.2.2, q9.2, h⟩
theorem invS_unpack : ∀ {is e} {c : Cfg} {s : Stmt}, chkS (.unpack is e) c s = true → Ex5 (fun ts k p v z4 => s = (.Assign [(.Tuple ts k p)] v z4)) (fun ts k p v z4 => (chkE e c v && ncomp v && (match namesT ts with | some xs => chkNames c is xs && decide xs.Nodup && swNone [.Tuple ts k p] v c | none => false)) = true) :=
  fun h => (any_is h).elim fun q9 h => ⟨q9.1.1, q9.1.2.1, q9.1.2.2.1, q9.1.2.2.2.1, q9.1.2.2.2.2, q9.2, h⟩
theorem invS_store : ∀ {i ix e} {c : Cfg} {s : Stmt}, chkS (.store i ix e) c s = true → Ex6 (fun x z1 y z3 v z5 => s = (.Assign [(.Subscript (.Name x z1) y z3)] v z5)) (fun x z1 y z3 v z5 => (nm c i x && nslice y && chkE ix c y && chkE e c v && ncomp v) = true) :=
  fun h => (any_is h).elim fun q9 h => ⟨q9.1.1, q9.1.2.1, q9.1.2.2.1, q9.1.2.2.2.1, q9.1.2.2.2.2.1, q9.1.2.2.2.2.2, q9.2, h⟩
theorem invS_aug : ∀ {i op e} {c : Cfg} {s : Stmt}, chkS (.aug i op e) c s = true → Ex5 (fun x z1 o v z4 => s = (.AugAssign (.Name x z1) o v z4)) (fun x z1 o v z4 => (nm c i x && nmS c i x && decide (o = opOf op) && chkE e c v) = true) :=
  fun h => (any_is h).elim fun q9 h => ⟨q9.1.1, q9.1.2.1, q9.1.2.2.1, q9.1.2.2.2.1, q9.1.2.2.2.2, q9.2, h⟩
theorem invS_append : ∀ {i e} {c : Cfg} {s : Stmt}, chkS (.append i e) c s = true → Ex7 (fun x z1 n ap v p z6 => s = (.Expr (.Call (.Attribute (.Name x z1) n ap) [v] [] p) z6)) (fun x z1 n ap v p z6 => (nm c i x && (n == ("append" : Str)) && (ap.endLine == p.line) && nst v && chkE e c v) = true) :=
  fun h => (any_is h).elim fun q9 h => ⟨q9.1.1, q9.1.2.1, q9.1.2.2.1, q9.1.2.2.2.1, q9.1.2.2.2.2.1, q9.1.2.2.2.2.2.1, q9.1.2.2.2.2.2.2, q9.2, h⟩
theorem invS_expr : ∀ {e} {c : Cfg} {s : Stmt}, chkS (.expr e) c s = true → Ex2 (fun v z1 => s = (.Expr v z1)) (fun v z1 => ((match v with | .Call .. => true | _ => false) && chkE e c v) = true) :=
  fun h => (any_is h).elim fun q9 h => ⟨q9.1.1, q9.1.2, q9.2, h⟩
theorem invS_ite : ∀ {t a b} {c : Cfg} {s : Stmt}, chkS (.ite t a b) c s = true → Ex4 (fun e x y z3 => s = (.If e x y z3)) (fun e x y z3 => (chkE t c e && chkSs a c x && chkSs b c y) = true) :=
  fun h => (any_is h).elim fun q9 h => ⟨q9.1.1, q9.1.2.1, q9.1.2.2.1, q9.1.2.2.2, q9.2, h⟩
theorem invS_whil : ∀ {t b} {c : Cfg} {s : Stmt}, chkS (.whil t b) c s = true → Ex3 (fun e x z2 => s = (.While e x [] z2)) (fun e x z2 => (chkE t c e && chkSs b c x) = true) :=
  fun h => (any_is h).elim fun q9 h => ⟨q9.1.1, q9.1.2.1, q9.1.2.2, q9.2, h⟩
theorem invS_forr : ∀ {tg it b} {c : Cfg} {s : Stmt}, chkS (.forr tg it b) c s = true → Ex4 (fun t i x z3 => s = (.For t i x [] z3)) (fun t i x z3 => (itT it tg && chkT c tg t && chkI it c i && chkSs b c x) = true) :=
  fun h => (any_is h).elim fun q9 h => ⟨q9.1.1, q9.1.2.1, q9.1.2.2.1, q9.1.2.2.2, q9.2, h⟩
theorem invS_ret : ∀ {e} {c : Cfg} {s : Stmt}, chkS (.ret e) c s = true → Ex2 (fun v z1 => s = (.Return (some v) z1)) (fun v z1 => (chkE e c v) = true) :=
  fun h => (any_is h).elim fun q9 h => ⟨q9.1.1, q9.1.2, q9.2, h⟩
theorem invS_raise : ∀ {own} {c : Cfg} {s : Stmt}, chkS (.raise own) c s = true → Ex7 (fun x z1 z2 z3 z4 z5 z6 => s = (.Raise (some (.Call (.Name x z1) [(.Constant (.str z2) z3 z4)] [] z5)) .none z6)) (fun x z1 z2 z3 z4 z5 z6 => ((!own || (x == ("NoInverse" : Str))) && (kindIn c x == some .globalImplicit)) = true) :=
  fun h => (any_is h).elim fun q9 h => ⟨q9.1.1, q9.1.2.1, q9.1.2.2.1, q9.1.2.2.2.1, q9.1.2.2.2.2.1, q9.1.2.2.2.2.2.1, q9.1.2.2.2.2.2.2, q9.2, h⟩
theorem invS_cont : ∀ {c0 : Cfg} {s : Stmt}, chkS (.cont) c0 s = true → Ex1 (fun z0 => s = (.Continue z0)) (fun z0 => (true) = true) :=
  fun h => (any_is h).elim fun q9 h => ⟨q9.1, q9.2, h⟩
theorem invS_tryRet : ∀ {e} {c : Cfg} {s : Stmt}, chkS (.tryRet e) c s = true → Ex9 (fun v z1 x z3 z4 z5 z6 z7 z8 => s = (.Try [(.Return (some v) z1)] [(.ExceptHandler (some (.Name x z3)) .none [(.Return (some (.Constant .none z4 z5)) z6)] z7)] [] [] z8)) (fun v z1 x z3 z4 z5 z6 z7 z8 => (c.main && (x == ("NoInverse" : Str)) && (kindIn c x == some .globalImplicit) && chkE e c v) = true) :=
  fun h => (any_is h).elim fun q9 h => ⟨q9.1.1, q9.1.2.1, q9.1.2.2.1, q9.1.2.2.2.1, q9.1.2.2.2.2.1, q9.1.2.2.2.2.2.1, q9.1.2.2.2.2.2.2.1, q9.1.2.2.2.2.2.2.2.1, q9.1.2.2.2.2.2.2.2.2, q9.2, h⟩
end LM

set_option genSizeOf false
set_option genSizeOfSpec false
set_option genInjectivity false
namespace LM

noncomputable abbrev addrs (fr : List Env) : List Addr := fr.filterMap (·.frame)

/-- an exception of class cls is on its way through the frames fr; all that stood in h stands, frames up to their slots. -/
noncomputable def Raised (fr : List Env) (cls : Value) (h : Heap) (e : Addr) (h' : Heap) : Prop :=
  Heap.Flying (TI.gone h (addrs fr)) fr e cls h' ∧ ∀ b, b ∈ addrs fr → ∀ o, h.get? b = some o → ∃ sl, h'.get? b = some { o with slots := sl }

/-- all that stood in h but the address of W stands, frames up to their slots. -/
noncomputable def Kept (FA : List Addr) (W : Option Addr) (h h' : Heap) : Prop :=
  ∀ b o, some b ≠ W → h.get? b = some o → (b ∉ FA → h'.get? b = some o) ∧ (b ∈ FA → ∃ sl, h'.get? b = some { o with slots := sl })

noncomputable def SameRest (s s' : Shared) : Prop := s'.gens = s.gens ∧ s'.drawn = s.drawn ∧ s'.os = s.os

structure CallOk (G : Gl) (A : Around) (fr : List Env) (n : Nat) (s : Shared) : Prop where
  handled : A.handled = none
  frames : A.frames = some fr
  depth : A.depth + n < recursionLimit
  units : A.units + 8 * n + 200 < cLine
  top : ∀ b o, G.hT.get? b = some o → s.heap.get? b = some o
  frs : ∀ e ∈ fr, e.scope.kind ≠ .module ∧ Ex4 (fun L o es ep => e.frame = some L) (fun L o es ep => Al3 (G.hT.get? L = none) (s.heap.get? L = some o) (o.data = .dict es ep))

/-- the cell handed first, and what it holds. -/
noncomputable def CellIn (G : Gl) (P : Part) (fr : List Env) (s : Shared) : Option (Addr × List D) → List Value → List Value → Prop
  | none, vs, args => args = vs
  | some (b, l), vs, args => args = .ref b :: vs ∧ P b = none ∧ G.hT.get? b = none ∧ b ∉ addrs fr ∧ Ex1 (fun ws => s.heap.PlainList b ws.toArray) (fun ws => TellsAll G.fv P ws l)
noncomputable def CellOut (G : Gl) (P' : Part) (s' : Shared) : Option (Addr × List D) → Option (List D) → Prop
  | none, _ => True
  | some (b, _), some l' => Ex1 (fun ws => s'.heap.PlainList b ws.toArray) (fun ws => TellsAll G.fv P' ws l')
  | some _, none => False

noncomputable def Contract (G : Gl) (n f : Nat) (sp : LM.Spec) : Prop :=
  ∀ (A : Around) (fr : List Env) (s : Shared) (P : Part) (ds : List D) (vs args : List Value) (c : Option (Addr × List D)) (post : Option D → Option (List D) → Prop) (Q E : Value → Shared → Prop),
    CallOk G A fr n s → (∀ b o, P b = some o → s.heap.get? b = some o) → (∀ b, b ∈ addrs fr → P b = none) → TellsAll G.fv P vs ds → CellIn G P fr s c vs args → sp ds (c.map (·.2)) post →
    (∀ v d c' P' s', post (some d) c' → SameRest s s' → Kept (addrs fr) (c.map (·.1)) s.heap s'.heap → (∀ b o, P b = some o → P' b = some o) → (∀ b o, P' b = some o → s'.heap.get? b = some o) →
      (∀ b, P' b ≠ none → P b ≠ none ∨ s.heap.get? b = none) → Tells G.fv P' v d → CellOut G P' s' c c' → Q v s') →
    (∀ e s', (∃ c', post none c') → c = none → SameRest s s' → Raised fr G.exc s.heap e s'.heap → E (.ref e) s') →
    wpAny (model G.prog G.w) A (call (G.fv f) args) Q E s

structure GlOk (G : Gl) : Prop where
  g : G.hT.Ns mainGlobals G.mg
  b : G.hT.Ns builtinsNs G.mb
  nolimit : G.hT.NoLimit
  fns : ∀ (f : Nat) (x : Str), G.fns[f]? = some x → G.mg x = some (G.fv f)
  all : ∀ f : Nat, Ex3 (fun a o fd => G.fv f = .ref a) (fun a o fd => G.hT.get? a = some o ∧ o.data = .func fd)
  bfn : ∀ y : String, y ∈ ["len", "min", "abs", "sum", "any"] → G.mg (Str.ofString y) = none ∧ G.mb (Str.ofString y) = some (.builtin y)
  btp : ∀ y : String, y ∈ ["int", "enumerate", "zip", "range"] → G.mg (Str.ofString y) = none ∧ G.mb (Str.ofString y) = some (.type y)
  exc : Ex5 (fun C bm newId B initId => G.exc = .ref C) (fun C bm newId B initId => OwnClsQ (Str.ofString "NoInverse") C bm newId G.mg G.hT ∧ ExcBaseFacts B newId initId bm)

/-- the exception's way out of an activation. -/
structure ExOk (a : Act) (E : Value → Shared → Prop) (X : Prop) : Prop where
  pass : PassesOwn (model a.G.prog a.G.w) a.A a.env E
  on : X → ∀ s s' e, (∃ Γ α P, St a Γ α P s) → SameRest s s' → Raised a.fr a.G.exc s.heap e s'.heap → E (.ref e) s'
  made : X → ∀ s h' e vs, (∃ Γ α P, St a Γ α P s) → Heap.MadeExcOf s.heap h' e a.G.exc vs → E (.ref e) { s with heap := h' }

theorem ExOk.never {a : Act} : ExOk a (fun _ _ => False) False := ⟨PassesOwn.never, fun h => h.elim, fun h => h.elim⟩

structure CkOk (T : Nat → Option LM.Spec) (a : Act) (c : Cfg) : Prop where
  fns : c.fns = a.G.fns
  vars : c.vars = a.vars
  sc : c.sc = a.env.scope
  main : c.main = a.main
  T : ∀ f sp, T f = some sp → ∃ n, n ≤ a.lvl ∧ Contract a.G n f sp

inductive Post (a : Act) (α : List Addr) (P : Part) (Q : Rv → Fs → Prop) (v : Value) (s' : Shared) : Prop
  | mk (r : Rv) (Γ' : Fs) (α' : List Addr) (P' : Part) (q : Q r Γ') (S : St a Γ' α' P' s') (pa : α <+: α') (pp : ∀ b o, P b = some o → P' b = some o) (t : RTells a.G.fv P' α' v r) : Post a α P Q v s'
theorem Post.trans {a : Act} {α α' : List Addr} {P P' : Part} {Q : Rv → Fs → Prop} {v : Value} {s' : Shared} (ha : α <+: α') (hP : ∀ b o, P b = some o → P' b = some o) (h : Post a α' P' Q v s') : Post a α P Q v s' := by
  obtain ⟨r, Γ', α₂, P₂, q, S, h1, h2, t⟩ := h
  exact ⟨r, Γ', α₂, P₂, q, S, ha.trans h1, fun b o e => h2 b o (hP b o e), t⟩
theorem Post.here {a : Act} {α : List Addr} {P : Part} {Q : Rv → Fs → Prop} {r : Rv} {Γ : Fs} {v : Value} {s : Shared} (q : Q r Γ) (S : St a Γ α P s) (t : RTells a.G.fv P α v r) : Post a α P Q v s :=
  ⟨r, Γ, α, P, q, S, List.prefix_refl _, fun _ _ e => e, t⟩

noncomputable def SndE (T : Nat → Option LM.Spec) (pe : PE) : Prop := ∀ c e, chkE pe c e = true → ∀ a, GlOk a.G → ActOk a → CkOk T a c → ∀ Γ Q X α P s E, wE T pe Γ Q X → St a Γ α P s → ExOk a E X →
  wpAny (model a.G.prog a.G.w) a.A (eval e a.env) (Post a α P Q) E s

section
variable {T : Nat → Option LM.Spec} {a : Act} {c : Cfg} {Γ : Fs} {α : List Addr} {P : Part} {s : Shared} {E : Value → Shared → Prop}

theorem kindIn_eq (ck : CkOk T a c) (x : Str) : kindIn c x = a.env.kindOf x := by unfold kindIn Env.kindOf; rw [ck.sc]

/-- a slot is read. -/
theorem ld_slot (ok : ActOk a) (ck : CkOk T a c) (S : St a Γ α P s) {i : Nat} {x : Str} {pos : Pos} {r : Rv} {Q : Value → Shared → Prop} (hn : nm c i x = true) (hr : Γ.ρ[i]? = some (some r))
    (h : ∀ v, RTells a.G.fv P α v r → Q v s) : wpAny (model a.G.prog a.G.w) a.A (eval (.Name x pos) a.env) Q E s := by
  unfold nm at hn
  rw [kindIn_eq ck] at hn
  simp only [Bool.and_eq_true, beq_iff_eq, Bool.not_eq_true'] at hn
  obtain ⟨⟨hx, hd⟩, hk⟩ := hn
  rw [ck.vars] at hx
  have hd' : (x == ("__debug__" : Str)) = false := hd
  refine wpAny_Name ?_ hd'
  split at hk
  · rename_i e
    obtain ⟨m, hns, hv⟩ := S.ns
    obtain ⟨v, h1, h2⟩ := hv i x r hx hr e
    exact wpAny_loadName_local ok.kind e hns h1 (h v h2)
  · rename_i e
    obtain ⟨cc, v, h1, h2, h3⟩ := S.cells i x r hx hr (by rw [e]; decide)
    exact wpAny_loadName_cell ok.kind e h1 h2 (h v h3)
  · cases hk

theorem ld_fn (gk : GlOk a.G) (ok : ActOk a) (ck : CkOk T a c) (S : St a Γ α P s) {f : Nat} {x : Str} {pos : Pos} {Q : Value → Shared → Prop} (hn : fnIs c f x = true) (h : Q (a.G.fv f) s) :
    wpAny (model a.G.prog a.G.w) a.A (eval (.Name x pos) a.env) Q E s := by
  unfold fnIs at hn
  rw [kindIn_eq ck] at hn
  simp only [Bool.and_eq_true, beq_iff_eq, Bool.not_eq_true'] at hn
  obtain ⟨⟨hx, hd⟩, hk⟩ := hn
  rw [ck.fns] at hx
  exact Calls.Name_function_global ok.kind hk (Calls.loadGlobal_global (ok.glob.keeps S.top) (gk.fns f x hx) h) hd

theorem ld_bi (ok : ActOk a) (ck : CkOk T a c) (S : St a Γ α P s) {y : String} {x : Str} {pos : Pos} {v : Value} {Q : Value → Shared → Prop} (hn : bi c y x = true) (hv : a.G.mg (Str.ofString y) = none ∧ a.G.mb (Str.ofString y) = some v) (h : Q v s)
    (hd : (Str.ofString y == ("__debug__" : Str)) = false := by decide) : wpAny (model a.G.prog a.G.w) a.A (eval (.Name x pos) a.env) Q E s := by
  unfold bi at hn
  rw [kindIn_eq ck] at hn
  simp only [Bool.and_eq_true, beq_iff_eq] at hn
  obtain ⟨rfl, hk⟩ := hn
  exact Calls.Name_function_global ok.kind hk (Calls.loadGlobal_builtin (ok.glob.keeps S.top) hv.1 (ok.blt.keeps S.top) hv.2 h) hd

/-- lists and tuples that stand in the heap. -/
theorem St.isList (S : St a Γ α P s) {v : Value} {l : List D} (t : Tells a.G.fv P v (.list l)) : Ex2 (fun b vs => v = .ref b) (fun b vs => s.heap.IsList b vs.toArray ∧ TellsAll a.G.fv P vs l) := by
  cases t with
  | list h1 h2 h3 r => exact ⟨_, _, rfl, ⟨_, S.part _ _ h1, h2, _, h3⟩, r⟩
theorem St.isTup (S : St a Γ α P s) {v : Value} {l : List D} (t : Tells a.G.fv P v (.tup l)) : Ex2 (fun b vs => v = .ref b) (fun b vs => IsTup s.heap b vs.toArray ∧ TellsAll a.G.fv P vs l) := by
  cases t with
  | tup h1 h2 h3 r => exact ⟨_, _, rfl, ⟨_, S.part _ _ h1, h2, _, h3⟩, r⟩
theorem tells_int {fv : Nat → Value} {P : Part} {v : Value} {i : Int} (t : Tells fv P v (.int i)) : ∃ u, v = .int i u := by cases t; exact ⟨_, rfl⟩
theorem tells_bool {fv : Nat → Value} {P : Part} {v : Value} {i : Bool} (t : Tells fv P v (.bool i)) : v = .bool i := by cases t; rfl
theorem tells_none {fv : Nat → Value} {P : Part} {v : Value} (t : Tells fv P v .none) : v = .none := by cases t; rfl
theorem tells_fn {fv : Nat → Value} {P : Part} {v : Value} {f : Nat} (t : Tells fv P v (.fn f)) : v = fv f := by cases t; rfl

/-- what onL, onQ, onI .. say. -/
theorem onL_is (S : St a Γ α P s) {v : Value} {r : Rv} {k : List D → Prop} (t : RTells a.G.fv P α v r) (h : onL Γ r k) : Ex3 (fun b vs l => v = .ref b) (fun b vs l => Al3 (s.heap.IsList b vs.toArray) (TellsAll a.G.fv P vs l) (k l)) := by
  cases r with
  | d x =>
    cases x with
    | list l =>
      obtain ⟨b, vs, h1, h2, h3⟩ := S.isList t
      exact ⟨b, vs, l, h1, h2, h3, h⟩
    | _ => exact h.elim
  | c j =>
    unfold onL at h
    dsimp only at h
    split at h
    · rename_i l hl
      obtain ⟨b, hb, rfl⟩ := t
      obtain ⟨b', vs, hb', hp, tt⟩ := S.own j l hl
      rw [hb] at hb'; cases hb'
      exact ⟨b, vs, l, rfl, hp.isList, tt, h⟩
    · exact h.elim
theorem onQ_is (S : St a Γ α P s) {v : Value} {r : Rv} {k : List D → Prop} (t : RTells a.G.fv P α v r) (h : onQ Γ r k) : Ex3 (fun b vs l => v = .ref b) (fun b vs l => Al3 ((s.heap.IsList b vs.toArray ∨ IsTup s.heap b vs.toArray)) (TellsAll a.G.fv P vs l) (k l)) := by
  cases r with
  | d x =>
    cases x with
    | list l =>
      obtain ⟨b, vs, h1, h2, h3⟩ := S.isList t
      exact ⟨b, vs, l, h1, .inl h2, h3, h⟩
    | tup l =>
      obtain ⟨b, vs, h1, h2, h3⟩ := S.isTup t
      exact ⟨b, vs, l, h1, .inr h2, h3, h⟩
    | _ => exact h.elim
  | c j =>
    obtain ⟨b, vs, l, h1, h2, h3, h4⟩ := onL_is S (k := k) t h
    exact ⟨b, vs, l, h1, .inl h2, h3, h4⟩
theorem onI_is {v : Value} {r : Rv} {k : Int → Prop} (t : RTells a.G.fv P α v r) (h : onI r k) : Ex2 (fun i u => v = .int i u) (fun i u => k i) := by
  cases r with
  | d x =>
    cases x with
    | int i => obtain ⟨u, rfl⟩ := tells_int t; exact ⟨i, u, rfl, h⟩
    | _ => exact h.elim
  | c j => exact h.elim
theorem onB_is {v : Value} {r : Rv} {k : Bool → Prop} (t : RTells a.G.fv P α v r) (h : onB r k) : Ex1 (fun i => v = .bool i) (fun i => k i) := by
  cases r with
  | d x =>
    cases x with
    | bool i => cases tells_bool t; exact ⟨i, rfl, h⟩
    | _ => exact h.elim
  | c j => exact h.elim
theorem onD_is {v : Value} {r : Rv} {k : D → Prop} (t : RTells a.G.fv P α v r) (h : onD r k) : Ex1 (fun d => Tells a.G.fv P v d) (fun d => k d) := by
  cases r with
  | d x => exact ⟨x, t, h⟩
  | c j => exact h.elim
theorem onO_is {v : Value} {r : Rv} {k : Option Int → Prop} (t : RTells a.G.fv P α v r) (h : onO r k) : Ex1 (fun i => IsPart v i) (fun i => k i) := by
  cases r with
  | d x =>
    cases x with
    | int i => obtain ⟨u, rfl⟩ := tells_int t; exact ⟨some i, .int i u, h⟩
    | none => cases tells_none t; exact ⟨none, .none, h⟩
    | _ => exact h.elim
  | c j => exact h.elim
end

end LM

namespace LM

section
variable {T : Nat → Option LM.Spec} {a : Act} {c : Cfg} {Γ : Fs} {α : List Addr} {P : Part} {s : Shared} {E : Value → Shared → Prop}

/-- all that a heap holds, but one address. -/
noncomputable def allOf (h : Heap) (L : Addr) : List (Addr × Obj) := (List.range h.objs.size).filterMap fun b => if b = L then none else (h.get? b).map fun o => (b, o)
theorem mem_allOf {h : Heap} {L b : Addr} {o : Obj} : (b, o) ∈ allOf h L ↔ b ≠ L ∧ h.get? b = some o := by
  unfold allOf
  rw [List.mem_filterMap]
  constructor
  · rintro ⟨x, hx, e⟩
    by_cases q : x = L
    · rw [if_pos q] at e; cases e
    · rw [if_neg q] at e
      cases hg : h.get? x with
      | none => rw [hg] at e; cases e
      | some y => rw [hg] at e; cases e; exact ⟨q, hg⟩
  · rintro ⟨q, e⟩
    exact ⟨b, List.mem_range.mpr (Heap.lt_size e), by rw [if_neg q, e]; rfl⟩
theorem empty_get (b : Addr) : ({} : Heap).get? b = none := by unfold Heap.get?; simp
theorem fr_of {h : Heap} {L : Addr} {m : Str → Option Value} (hn : h.Ns L m) : Fr {} L h m := ⟨hn, fun b o e => (by rw [empty_get] at e; cases e), Nat.zero_le _⟩
theorem news_of {h : Heap} {L : Addr} : News {} L h (allOf h L) := fun p hp => by
  obtain ⟨b, o⟩ := p
  obtain ⟨h1, h2⟩ := mem_allOf.mp hp
  exact ⟨h2, h1, empty_get _⟩

/-- the library's own rules over a frame and a ledger: all that stood stands. -/
theorem St.ledger0 (S : St a Γ α P s) (ok : ActOk a) {m : Str → Option Value} {h' : Heap} {q : Addr × Obj} {tk : Nat} (hn : s.heap.Ns a.env.locals m)
    (F : Fr {} a.env.locals h' m) (N : News {} a.env.locals h' (q :: allOf s.heap a.env.locals)) : St a Γ α P { s with heap := h', toks := tk } := by
  have hk : ∀ b o, b ≠ a.env.locals → s.heap.get? b = some o → h'.get? b = some o := fun b o hb e => (N (b, o) (List.mem_cons_of_mem _ (mem_allOf.mpr ⟨hb, e⟩))).1
  have hm : ∀ b, P b ≠ none → b ≠ a.env.locals := fun b hb q => hb (by rw [q]; exact (S.mfree _ ok.loc).2.1)
  have hcell : ∀ {y : Str} {c : Addr} {w : Option Value}, a.env.cells.lookup y = some c → s.heap.IsCell c w → c ≠ a.env.locals := fun hc ⟨o, ho, hd⟩ q => by
    obtain ⟨m', ⟨o', es, ep, ho', hd', _⟩, _⟩ := S.ns
    rw [q, ho'] at ho; cases ho; rw [hd'] at hd; cases hd
  have hL := S.mfree _ ok.loc
  · refine ⟨S.rest, fun b o e => hk b o (fun q => by rw [q, hL.2.2] at e; cases e) (S.top b o e), fun b o e => ?_, fun b o e => hk b o (hm b (by rw [e]; simp)) (S.part b o e), S.ext, S.grow, ?_, ?_, ?_, ?_, S.len, S.nd, S.apart, fun b hb => ?_, S.mfree, S.afree, S.akf⟩
    · have hb : b ≠ a.env.locals := fun q => by rw [q, hL.1] at e; cases e
      exact ⟨fun hf => hk b o hb ((S.hold b o e).1 hf), fun hf => let ⟨sl, h⟩ := (S.hold b o e).2 hf; ⟨sl, hk b _ hb h⟩⟩
    · obtain ⟨m', hn', hv⟩ := S.ns
      obtain rfl : m' = m := by
        obtain ⟨o1, es1, ep1, g1, d1, _, f1⟩ := hn'
        obtain ⟨o2, es2, ep2, g2, d2, _, f2⟩ := hn
        rw [g1] at g2; cases g2; rw [d1] at d2; cases d2
        funext x; rw [← f1, f2]
      exact ⟨m', F.ns, hv⟩
    · intro y d hd
      obtain ⟨w, o, ho, hdd⟩ := S.cell y d hd
      exact ⟨w, o, hk d o (hcell hd ⟨o, ho, hdd⟩) ho, hdd⟩
    · intro i x r hx hr hlx
      obtain ⟨d, w, hd, ⟨o, ho, hdd⟩, t⟩ := S.cells i x r hx hr hlx
      exact ⟨d, w, hd, ⟨o, hk d o (hcell hd ⟨o, ho, hdd⟩) ho, hdd⟩, t⟩
    · intro k l hl
      obtain ⟨b, vs, hb, ⟨n, hp⟩, t⟩ := S.own k l hl
      exact ⟨b, vs, hb, ⟨n, hk b _ (fun q => S.apart b (List.mem_of_getElem? hb) (by rw [q]; exact ok.loc)) hp⟩, t⟩
    · obtain ⟨o, ho⟩ := S.there b hb
      exact ⟨o, hk b o (fun q => S.apart b hb (by rw [q]; exact ok.loc)) ho⟩

/-- one object more. -/
theorem St.ledger (S : St a Γ α P s) (ok : ActOk a) {m : Str → Option Value} {h' : Heap} {q : Addr × Obj} {tk : Nat} (hn : s.heap.Ns a.env.locals m)
    (F : Fr {} a.env.locals h' m) (N : News {} a.env.locals h' (q :: allOf s.heap a.env.locals)) (hq : s.heap.get? q.1 = none) :
    St a Γ α (P.add q.1 q.2) { s with heap := h', toks := tk } ∧ ∀ b o, P b = some o → P.add q.1 q.2 b = some o := by
  have S' := S.ledger0 ok (tk := tk) hn F N
  have out := S.out hq
  have hg : h'.get? q.1 = some q.2 := (N q (.head _)).1
  exact ⟨S'.addPart hg out.2.1 out.1 (S.fresh_muts ok hq) fun k l _ hk => out.2.2.2.2.1 (List.mem_of_getElem? hk), Part.add_keep out.2.1⟩

theorem ckCell (h : CkOk T a c) : c.sc = a.env.scope := h.sc

theorem snd_var {i : Nat} : SndE T (.var i) := by
  intro c e h a gk ok ck Γ Q X α P s E hw S hE
  replace h := invE_var h
  obtain ⟨_, _, rfl, h⟩ := h
  · rename_i x pos
    simp only [Ka] at hw
    split at hw
    · rename_i r hr
      exact ld_slot ok ck S h hr fun v t => .here hw S t
    · exact hw.elim
theorem snd_fnm {f : Nat} : SndE T (.fnm f) := by
  intro c e h a gk ok ck Γ Q X α P s E hw S hE
  replace h := invE_fnm h
  obtain ⟨_, _, rfl, h⟩ := h
  · simp only [Kb] at hw
    exact ld_fn gk ok ck S h (.here hw S (.fn f))
theorem snd_int {i : Int} : SndE T (.int i) := by
  intro c e h a gk ok ck Γ Q X α P s E hw S hE
  replace h := invE_int h
  obtain ⟨_, _, _, rfl, h⟩ := h
  · simp only [Kc] at hw
    rename_i j k pos
    cases beq_iff_eq.mp h
    exact wpAny_Constant_int (.here hw (S.tok _) (.int _ _))
theorem snd_neg {i : Int} : SndE T (.neg i) := by
  intro c e h a gk ok ck Γ Q X α P s E hw S hE
  replace h := invE_neg h
  obtain ⟨_, _, _, _, rfl, h⟩ := h
  · simp only [Kd] at hw
    rename_i j k pos pos'
    cases beq_iff_eq.mp h
    exact UnaryOp_ (wpAny_Constant_int (PyProof.Rows.neg_int (.here hw ((S.tok _).tok _) (.int _ _))))
theorem snd_bool {b : Bool} : SndE T (.bool b) := by
  intro c e h a gk ok ck Γ Q X α P s E hw S hE
  replace h := invE_bool h
  obtain ⟨_, _, _, rfl, h⟩ := h
  · simp only [Ke] at hw
    cases beq_iff_eq.mp h
    exact Constant_bool (.here hw S (.bool _))
theorem snd_none : SndE T .none := by
  intro c e h a gk ok ck Γ Q X α P s E hw S hE
  replace h := invE_none h
  obtain ⟨_, _, rfl, h⟩ := h
  · simp only [Kf] at hw
    exact Constant_none (.here hw S .none)

theorem bits_small {x : Int} (h : x.natAbs < 2 ^ 62) : x.natAbs < 2 ^ 64 := Nat.lt_trans h (by decide)

/-- an operator gives a datum. -/
inductive PostD (a : Act) (Γ : Fs) (α : List Addr) (P : Part) (k : D → Prop) (v : Value) (s' : Shared) : Prop
  | mk (d : D) (P' : Part) (q : k d) (S : St a Γ α P' s') (pp : ∀ b o, P b = some o → P' b = some o) (t : Tells a.G.fv P' v d) : PostD a Γ α P k v s'
theorem PostD.int (S : St a Γ α P s) {k : D → Prop} {x : Int} {t : Tok} {tk : Nat} (h : k (.int x)) : PostD a Γ α P k (.int x t) { s with toks := tk } := ⟨_, P, h, S.tok _, fun _ _ e => e, .int _ _⟩

theorem bin_ok (ok : ActOk a) (S : St a Γ α P s) {op : Bop} {va vb : Value} {ra rb : Rv} {k : D → Prop} (ta : RTells a.G.fv P α va ra) (tb : RTells a.G.fv P α vb rb) (h : wBin op Γ ra rb k) :
    wpAny (model a.G.prog a.G.w) a.A (binaryOp (opOf op) va vb) (PostD a Γ α P k) E s := by
  have twoI : ∀ {g : Int → Int → Prop}, (onI ra fun x => onI rb fun y => g x y) → Ex4 (fun x t y u => va = .int x t) (fun x t y u => vb = .int y u ∧ g x y) := fun h => by
    obtain ⟨x, t, rfl, h⟩ := onI_is ta h
    obtain ⟨y, u, rfl, h⟩ := onI_is tb h
    exact ⟨x, t, y, u, rfl, rfl, h⟩
  cases op with
  | add =>
    rcases rvI_is h with ⟨x, rfl, h⟩ | h
    · obtain ⟨y, u, rfl, h⟩ := onI_is tb h
      obtain ⟨t, rfl⟩ := tells_int ta
      exact wpAny_add_int (PostD.int S h)
    · obtain ⟨b, vs, l, rfl, hl, tl, h⟩ := onL_is S ta h
      obtain ⟨b', ws, m, rfl, hm, tm, h⟩ := onL_is S tb h
      obtain ⟨mm, hn, hv⟩ := S.ns
      have e1 := tl.length
      have e2 := tm.length
      have e3 : (2 : Nat) ^ 20 ≤ sizeLine := by decide
      have h1 := h.1
      refine add_arrays (fr_of hn) news_of hl hm (fun h' F N => ?_) (by simp only [List.size_toArray]; (clear h; lia))
      obtain ⟨S', keep⟩ := S.ledger ok (tk := s.toks) hn F N fresh_none
      exact ⟨_, _, h.2, S', keep, .list Part.add_self rfl rfl ((tl.append tm).mono keep)⟩
  | sub => obtain ⟨x, t, y, u, rfl, rfl, h⟩ := twoI h; exact sub_int' (PostD.int S h)
  | mul =>
    obtain ⟨x, t, y, u, rfl, rfl, h⟩ := twoI h
    exact PyProof.Rows.mul_int (PostD.int S h.2) (.of_left (by
      have := bits_small h.1.1
      unfold Builtin.Int.intBits
      by_cases h0 : x = 0
      · subst h0; decide
      · have hb : (x == 0) = false := by simpa using h0
        rw [hb]
        simp only [Bool.false_eq_true, if_false]
        have h1 : x.natAbs ≠ 0 := by (clear h this; refine fun h => ?_; lia)
        have := (Nat.log2_lt h1).mpr this
        assumption))
  | fdiv =>
    obtain ⟨x, t, y, u, rfl, rfl, h⟩ := twoI h
    exact floordiv_int h.1.1 (PostD.int S h.2) (.inl (PyProof.noPylong_small (by have := h.1.2; omega)))
  | mod => obtain ⟨x, t, y, u, rfl, rfl, h⟩ := twoI h; exact mod_int' h.1 (PostD.int S h.2)
  | shl => obtain ⟨x, t, y, u, rfl, rfl, h⟩ := twoI h; exact lshift_int_small h.1.1 h.1.2.1 (bits_small h.1.2.2) (PostD.int S h.2)
  | shr => obtain ⟨x, t, y, u, rfl, rfl, h⟩ := twoI h; exact rshift_int h.1 (PostD.int S h.2)
  | band => obtain ⟨x, t, y, u, rfl, rfl, h⟩ := twoI h; exact and_int (PostD.int S h)
  | bor => obtain ⟨x, t, y, u, rfl, rfl, h⟩ := twoI h; exact or_int (PostD.int S h)
  | pow => obtain ⟨x, t, y, u, rfl, rfl, h⟩ := twoI h; exact pow_int_small h.1.1 h.1.2.1 (bits_small h.1.2.2) (PostD.int S h.2)

/-- on ints alone, in place. -/
theorem inplace_ok (S : St a Γ α P s) {op : Bop} {x y : Int} {t u : Tok} {k : D → Prop} (h : wBin op Γ (.d (.int x)) (.d (.int y)) k) :
    wpAny (model a.G.prog a.G.w) a.A (inplaceOp (opOf op) (.int x t) (.int y u)) (PostD a Γ α P k) E s := by
  cases op with
  | add => exact wpAny_iadd_int (PostD.int S h)
  | sub => exact isub_int (PostD.int S h)
  | mul =>
    have h : (x.natAbs < 2 ^ 62 ∧ y.natAbs < 2 ^ 62) ∧ k (.int (x * y)) := h
    exact PyProof.Rows.imul_int (PostD.int S h.2) (.of_left (by
      have := bits_small h.1.1
      unfold Builtin.Int.intBits
      by_cases h0 : x = 0
      · subst h0; decide
      · have hb : (x == 0) = false := by simpa using h0
        rw [hb]
        simp only [Bool.false_eq_true, if_false]
        have h1 : x.natAbs ≠ 0 := by (clear h this; refine fun h => ?_; lia)
        have := (Nat.log2_lt h1).mpr this
        assumption))
  | fdiv =>
    have h : (y ≠ 0 ∧ y.natAbs < 2 ^ 30) ∧ k (.int (x.fdiv y)) := h
    exact ifloordiv_int h.1.1 (PostD.int S h.2) (.inl (PyProof.noPylong_small (by have := h.1.2; omega)))
  | mod => exact imod_int h.1 (PostD.int S h.2)
  | shl => exact ilshift_int_small h.1.1 h.1.2.1 (bits_small h.1.2.2) (PostD.int S h.2)
  | shr => exact irshift_int h.1 (PostD.int S h.2)
  | band => exact iand_int (PostD.int S h)
  | bor => exact ior_int (PostD.int S h)
  | pow => exact ipow_int_small h.1.1 h.1.2.1 (bits_small h.1.2.2) (PostD.int S h.2)
end

end LM

namespace LM

mutual
noncomputable def toDat : D → Dat
  | .none => .none
  | .bool b => .bool b
  | .int i => .int i
  | .list l => .list (toDats l)
  | .tup l => .tuple (toDats l)
  | .fn _ => .none
noncomputable def toDats : List D → List Dat
  | [] => []
  | d :: l => toDat d :: toDats l
end

theorem plain_ok : ∀ n, (∀ d, D.plain n d = true → kqdOk n (toDat d) = true) ∧ (∀ l, D.plains n l = true → ∀ d ∈ toDats l, kqdOk n d = true) := by
  intro n
  induction n with
  | zero =>
    have h1 : ∀ d, D.plain 0 d = true → kqdOk 0 (toDat d) = true := fun d h => by
      cases d <;> simp_all [D.plain, toDat, kqdOk]
    refine ⟨h1, fun l => ?_⟩
    induction l with
    | nil => intro _ d hd; simp [toDats] at hd
    | cons x l ih =>
      intro h d hd
      simp only [D.plains, Bool.and_eq_true] at h
      simp only [toDats, List.mem_cons] at hd
      rcases hd with rfl | hd
      · exact h1 x h.1
      · exact ih h.2 d hd
  | succ n ih =>
    have h1 : ∀ d, D.plain (n + 1) d = true → kqdOk (n + 1) (toDat d) = true := fun d h => by
      cases d with
      | list l => simp only [toDat, kqdOk, List.all_eq_true]; exact ih.2 l (by simpa [D.plain] using h)
      | tup l => simp only [toDat, kqdOk, List.all_eq_true]; exact ih.2 l (by simpa [D.plain] using h)
      | _ => simp_all [D.plain, toDat, kqdOk]
    refine ⟨h1, fun l => ?_⟩
    induction l with
    | nil => intro _ d hd; simp [toDats] at hd
    | cons x l ihl =>
      intro h d hd
      simp only [D.plains, Bool.and_eq_true] at h
      simp only [toDats, List.mem_cons] at hd
      rcases hd with rfl | hd
      · exact h1 x h.1
      · exact ihl h.2 d hd

theorem toDat_inj : ∀ n, (∀ d e, D.plain n d = true → D.plain n e = true → toDat d = toDat e → d = e) ∧ (∀ l m, D.plains n l = true → D.plains n m = true → toDats l = toDats m → l = m) := by
  intro n
  induction n with
  | zero =>
    have h1 : ∀ d e, D.plain 0 d = true → D.plain 0 e = true → toDat d = toDat e → d = e := fun d e h1 h2 h => by
      cases d <;> cases e <;> simp_all [D.plain, toDat]
    refine ⟨h1, fun l => ?_⟩
    induction l with
    | nil => intro m _ _ h; cases m <;> simp_all [toDats]
    | cons x l ih =>
      intro m h2 h3 h
      cases m with
      | nil => simp [toDats] at h
      | cons y m =>
        simp only [D.plains, Bool.and_eq_true] at h2 h3
        simp only [toDats, List.cons.injEq] at h
        rw [h1 x y h2.1 h3.1 h.1, ih m h2.2 h3.2 h.2]
  | succ n ih =>
    have h1 : ∀ d e, D.plain (n + 1) d = true → D.plain (n + 1) e = true → toDat d = toDat e → d = e := fun d e h1 h2 h => by
      cases d with
      | list l => cases e with
        | list m => simp only [toDat, Dat.list.injEq] at h; rw [ih.2 l m (by simpa [D.plain] using h1) (by simpa [D.plain] using h2) h]
        | _ => simp_all [D.plain, toDat]
      | tup l => cases e with
        | tup m => simp only [toDat, Dat.tuple.injEq] at h; rw [ih.2 l m (by simpa [D.plain] using h1) (by simpa [D.plain] using h2) h]
        | _ => simp_all [D.plain, toDat]
      | _ => cases e <;> simp_all [D.plain, toDat]
    refine ⟨h1, fun l => ?_⟩
    induction l with
    | nil => intro m _ _ h; cases m <;> simp_all [toDats]
    | cons x l ihl =>
      intro m h2 h3 h
      cases m with
      | nil => simp [toDats] at h
      | cons y m =>
        simp only [D.plains, Bool.and_eq_true] at h2 h3
        simp only [toDats, List.cons.injEq] at h
        rw [h1 x y h2.1 h3.1 h.1, ihl m h2.2 h3.2 h.2]

section
variable {fv : Nat → Value} {P : Part} {h : Heap}
mutual
theorem tells_reads (hP : ∀ b o, P b = some o → h.get? b = some o) : ∀ {v : Value} {d : D} (n : Nat), Tells fv P v d → D.plain n d = true → ∃ as, Reads h v (kqdP (toDat d)) as
  | _, _, _, .none, _ => ⟨_, Reads.none⟩
  | _, _, n, .bool b, hk => by cases n <;> simp [D.plain] at hk
  | _, _, _, .int i t, _ => ⟨_, Reads.int i t⟩
  | _, _, n, .fn f, hk => by cases n <;> simp [D.plain] at hk
  | _, _, 0, .list _ _ _ _, hk => by simp [D.plain] at hk
  | _, _, 0, .tup _ _ _ _, hk => by simp [D.plain] at hk
  | _, _, n + 1, .list h1 h2 h3 r, hk => by
    obtain ⟨as, q⟩ := tells_readsAll hP n r (by simpa [D.plain] using hk)
    rw [toDat, kqdP]
    exact ⟨_, reads_list_at (hP _ _ h1) h2 h3 (by simpa using q)⟩
  | _, _, n + 1, .tup h1 h2 h3 r, hk => by
    obtain ⟨as, q⟩ := tells_readsAll hP n r (by simpa [D.plain] using hk)
    rw [toDat, kqdP]
    exact ⟨_, reads_tuple_at (hP _ _ h1) h2 h3 (by simpa using q)⟩
theorem tells_readsAll (hP : ∀ b o, P b = some o → h.get? b = some o) : ∀ {vs : List Value} {l : List D} (n : Nat), TellsAll fv P vs l → D.plains n l = true → ∃ as, ReadsAll h vs (kqdPs (toDats l)) as
  | _, _, _, .nil, _ => ⟨_, ReadsAll.nil⟩
  | _, _, n, .cons hd r, hk => by
    simp only [D.plains, Bool.and_eq_true] at hk
    obtain ⟨as, q⟩ := tells_reads hP n hd hk.1
    obtain ⟨bs, p⟩ := tells_readsAll hP n r hk.2
    rw [toDats, kqdPs]
    exact ⟨_, ReadsAll.cons q p⟩
end
end

section
variable {T : Nat → Option LM.Spec} {a : Act} {c : Cfg} {Γ : Fs} {α : List Addr} {P : Part} {s : Shared} {E : Value → Shared → Prop}

theorem shaped_of {d : D} (h : D.plain 5 d = true) : SeqAt.shaped (kqdP (toDat d)) = true := by
  have l := kqd_lay 5 (toDat d) ((plain_ok 5).1 d h)
  unfold SeqAt.shaped
  rw [l.1, Bool.true_and]
  exact decide_eq_true (Nat.le_trans l.2 (by decide))
open Classical in
theorem same_of {x y : D} (hx : D.plain 5 x = true) (hy : D.plain 5 y = true) : PyData.eqv (kqdP (toDat x)) (kqdP (toDat y)) = D.same x y := by
  have q := kqd_eqv 5 (toDat x) (toDat y) 5 ((plain_ok 5).1 x hx) ((plain_ok 5).1 y hy)
  unfold D.same
  by_cases e : x = y
  · rw [decide_eq_true e]; exact q.mpr (by rw [e])
  · rw [decide_eq_false e]
    exact Bool.eq_false_iff.mpr fun z => e ((toDat_inj 5).1 x y hx hy (q.mp z))

theorem eqP_ok (ok : ActOk a) (S : St a Γ α P s) {va vb : Value} {x y : D} {k : Bool → Prop} (ta : Tells a.G.fv P va x) (tb : Tells a.G.fv P vb y) (h : eqP x y k) :
    wpAny (model a.G.prog a.G.w) a.A (compareOp .Eq va vb) (fun v s' => Ex1 (fun b => v = .bool b) (fun b => k b ∧ s' = s)) E s ∧
    wpAny (model a.G.prog a.G.w) a.A (compareOp .NotEq va vb) (fun v s' => Ex1 (fun b => v = .bool (!b)) (fun b => k b ∧ s' = s)) E s := by
  have hu : a.A.units + 64 < cLine := by have := ok.units; (refine Nat.lt_of_not_le fun h => ?_; lia)
  obtain ⟨⟨h1, h2⟩, h⟩ := h
  obtain ⟨as, ra⟩ := tells_reads S.part 5 ta h1
  obtain ⟨bs, rb⟩ := tells_reads S.part 5 tb h2
  refine ⟨eq_dataH ra rb (shaped_of h1) (shaped_of h2) hu ⟨_, rfl, ?_, rfl⟩, ne_dataH ra rb (shaped_of h1) (shaped_of h2) hu ⟨_, rfl, ?_, rfl⟩⟩
  · rw [same_of h1 h2]; exact h
  · rw [same_of h1 h2]; exact h
theorem eq_ok (ok : ActOk a) (S : St a Γ α P s) {va vb : Value} {ra rb : Rv} {k : Bool → Prop} (ta : RTells a.G.fv P α va ra) (tb : RTells a.G.fv P α vb rb) (h : wEq ra rb k) :
    wpAny (model a.G.prog a.G.w) a.A (compareOp .Eq va vb) (fun v s' => Ex1 (fun b => v = .bool b) (fun b => k b ∧ s' = s)) E s ∧
    wpAny (model a.G.prog a.G.w) a.A (compareOp .NotEq va vb) (fun v s' => Ex1 (fun b => v = .bool (!b)) (fun b => k b ∧ s' = s)) E s := by
  obtain ⟨x, ta, h⟩ := onD_is ta h
  obtain ⟨y, tb, h⟩ := onD_is tb h
  rcases ifI_is h with ⟨x, rfl, h⟩ | h
  · rcases ifI_is h with ⟨y, rfl, h⟩ | h
    · obtain ⟨t, rfl⟩ := tells_int ta
      obtain ⟨u, rfl⟩ := tells_int tb
      refine ⟨eq_int ⟨_, rfl, ?_, rfl⟩, ne_int ⟨decide (x = y), ?_, h, rfl⟩⟩
      · have e : (x == y) = decide (x = y) := by by_cases q : x = y <;> simp [q]
        rw [e]; exact h
      · have e : (x != y) = !decide (x = y) := by by_cases q : x = y <;> simp [q]
        rw [e]
    · exact eqP_ok ok S ta tb h
  · rcases ifB_is h with ⟨x, rfl, h⟩ | h
    · rcases ifB_is h with ⟨y, rfl, h⟩ | h
      · cases tells_bool ta
        cases tells_bool tb
        refine ⟨eq_bool ⟨_, rfl, ?_, rfl⟩, ne_bool ⟨decide (x = y), ?_, h, rfl⟩⟩
        · have e : (x == y) = decide (x = y) := by cases x <;> cases y <;> rfl
          rw [e]; exact h
        · cases x <;> cases y <;> rfl
      · exact eqP_ok ok S ta tb h
    · exact eqP_ok ok S ta tb h

theorem cmp_ok (ok : ActOk a) (S : St a Γ α P s) {op : Cop} {va vb : Value} {ra rb : Rv} {k : Bool → Prop} (ta : RTells a.G.fv P α va ra) (tb : RTells a.G.fv P α vb rb) (h : wCmp op ra rb k) :
    wpAny (model a.G.prog a.G.w) a.A (compareOp (cmpOf op) va vb) (fun v s' => Ex1 (fun b => v = .bool b) (fun b => k b ∧ s' = s)) E s := by
  have twoI : ∀ {g : Int → Int → Prop}, (onI ra fun x => onI rb fun y => g x y) → Ex4 (fun x t y u => va = .int x t) (fun x t y u => vb = .int y u ∧ g x y) := fun h => by
    obtain ⟨x, t, rfl, h⟩ := onI_is ta h
    obtain ⟨y, u, rfl, h⟩ := onI_is tb h
    exact ⟨x, t, y, u, rfl, rfl, h⟩
  cases op with
  | lt => obtain ⟨x, t, y, u, rfl, rfl, h⟩ := twoI h; exact lt_int ⟨_, rfl, h, rfl⟩
  | gt => obtain ⟨x, t, y, u, rfl, rfl, h⟩ := twoI h; exact gt_int ⟨_, rfl, h, rfl⟩
  | le => obtain ⟨x, t, y, u, rfl, rfl, h⟩ := twoI h; exact le_int ⟨_, rfl, h, rfl⟩
  | ge => obtain ⟨x, t, y, u, rfl, rfl, h⟩ := twoI h; exact ge_int ⟨_, rfl, h, rfl⟩
  | eq => exact (eq_ok ok S ta tb h).1
  | ne => exact wpAny_mono (eq_ok ok S (k := fun b => k (!b)) ta tb h).2 (fun v s' ⟨b, h1, h2, h3⟩ => ⟨!b, h1, h2, h3⟩) fun _ _ e => e

theorem snd_bin {op : Bop} {x y : PE} (hx : SndE T x) (hy : SndE T y) : SndE T (.bin op x y) := by
  intro c e h a gk ok ck Γ Q X α P s E hw S hE
  replace h := invE_bin h
  obtain ⟨_, _, _, _, rfl, h⟩ := h
  · simp only [Bool.and_eq_true, decide_eq_true_eq] at h
    obtain ⟨⟨rfl, h1⟩, h2⟩ := h
    simp only [Kg] at hw
    refine wpAny_BinOp (wpAny_mono (hx c _ h1 a gk ok ck _ _ _ _ _ _ _ hw S hE) (fun va s₁ h₁ => ?_) fun _ _ e => e)
    obtain ⟨ra, Γ₁, α₁, P₁, hw, S₁, p₁, q₁, ta⟩ := h₁
    refine wpAny_mono (hy c _ h2 a gk ok ck _ _ _ _ _ _ _ hw S₁ hE) (fun vb s₂ h₂ => ?_) fun _ _ e => e
    obtain ⟨rb, Γ₂, α₂, P₂, hw, S₂, p₂, q₂, tb⟩ := h₂
    refine wpAny_mono (bin_ok ok S₂ (ta.mono q₂ p₂) tb hw) (fun v s₃ h₃ => ?_) fun _ _ e => e
    obtain ⟨d, P₃, hq, S₃, q₃, t⟩ := h₃
    exact ⟨.d d, Γ₂, α₂, P₃, hq, S₃, p₁.trans p₂, fun b o e => q₃ b o (q₂ b o (q₁ b o e)), t⟩

theorem snd_cmp {op : Cop} {x y : PE} (hx : SndE T x) (hy : SndE T y) : SndE T (.cmp op x y) := by
  intro c e h a gk ok ck Γ Q X α P s E hw S hE
  replace h := invE_cmp h
  obtain ⟨_, _, _, _, rfl, h⟩ := h
  · simp only [Bool.and_eq_true, decide_eq_true_eq, Bool.not_eq_true'] at h
    obtain ⟨⟨⟨rfl, hm⟩, h1⟩, h2⟩ := h
    simp only [Ki] at hw
    refine wpAny_Compare1 (hm := hm) (wpAny_mono (hx c _ h1 a gk ok ck _ _ _ _ _ _ _ hw S hE) (fun va s₁ h₁ => ?_) fun _ _ e => e)
    obtain ⟨ra, Γ₁, α₁, P₁, hw, S₁, p₁, q₁, ta⟩ := h₁
    refine wpAny_mono (hy c _ h2 a gk ok ck _ _ _ _ _ _ _ hw S₁ hE) (fun vb s₂ h₂ => ?_) fun _ _ e => e
    obtain ⟨rb, Γ₂, α₂, P₂, hw, S₂, p₂, q₂, tb⟩ := h₂
    refine wpAny_mono (cmp_ok ok S₂ (ta.mono q₂ p₂) tb hw) (fun v s₃ h₃ => ?_) fun _ _ e => e
    obtain ⟨b, rfl, hq, rfl⟩ := h₃
    exact ⟨.d (.bool b), Γ₂, α₂, P₂, hq, S₂, p₁.trans p₂, fun b o e => q₂ b o (q₁ b o e), .bool b⟩

theorem snd_isnot {x : PE} (hx : SndE T x) : SndE T (.isnot x) := by
  intro c e h a gk ok ck Γ Q X α P s E hw S hE
  replace h := invE_isnot h
  obtain ⟨_, _, _, _, rfl, h⟩ := h
  · simp only [Kj] at hw
    refine wpAny_Compare1 (hm := by with_unfolding_all rfl) (wpAny_mono (hx c _ h a gk ok ck _ _ _ _ _ _ _ hw S hE) (fun va s₁ h₁ => ?_) fun _ _ e => e)
    obtain ⟨ra, Γ₁, α₁, P₁, hw, S₁, p₁, q₁, ta⟩ := h₁
    obtain ⟨d, td, hw⟩ := onD_is ta hw
    refine Constant_none ?_
    cases d with
    | none => cases tells_none td; exact isnot_none_none ⟨_, _, _, _, hw, S₁, p₁, q₁, .bool _⟩
    | tup l => obtain ⟨b, vs, rfl, _⟩ := S₁.isTup td; exact isnot_ref_none ⟨_, _, _, _, hw, S₁, p₁, q₁, .bool _⟩
    | _ => exact hw.elim

/-- a test. -/
inductive PostT (a : Act) (α : List Addr) (P : Part) (k : Bool → Fs → Prop) (b : Bool) (s' : Shared) : Prop
  | mk (Γ' : Fs) (α' : List Addr) (P' : Part) (q : k b Γ') (S : St a Γ' α' P' s') (pa : α <+: α') (pp : ∀ b o, P b = some o → P' b = some o) : PostT a α P k b s'

noncomputable def SndT (T : Nat → Option LM.Spec) (pe : PE) : Prop := ∀ c e, chkE pe c e = true → ∀ a, GlOk a.G → ActOk a → CkOk T a c → ∀ Γ (k : Bool → Fs → Prop) X α P s E whole, whole = eval e a.env →
  wE T pe Γ (fun r Γ₁ => onB r fun b => k b Γ₁) X → St a Γ α P s → ExOk a E X →
  wpAny (model a.G.prog a.G.w) a.A (isTrue e a.env whole) (PostT a α P k) E s

theorem sndT_plain {pe : PE} (hs : SndE T pe) (hp : ∀ c e, chkE pe c e = true → ∀ env whole, isTrue e env whole = (do let v ← whole; standAt e.pos; holding [v] (truthy v))) : SndT T pe := by
  intro c e h a gk ok ck Γ k X α P s E whole hwh hw S hE
  subst hwh
  refine isTrue_plain (wpAny_mono (hs c e h a gk ok ck _ _ _ _ _ _ _ hw S hE) (fun v s₁ h₁ => ?_) fun _ _ e => e) (hp c e h _ _)
  obtain ⟨r, Γ₁, α₁, P₁, hw, S₁, p₁, q₁, t⟩ := h₁
  obtain ⟨b, rfl, hk⟩ := onB_is t hw
  exact wpAny_truthy_bool ⟨Γ₁, α₁, P₁, hk, S₁, p₁, q₁⟩

theorem sndT_cmp {op : Cop} {x y : PE} (hx : SndE T x) (hy : SndE T y) : SndT T (.cmp op x y) := by
  intro c e h a gk ok ck Γ k X α P s E whole hwh hw S hE
  replace h := invE_cmp h
  obtain ⟨_, _, _, _, rfl, h⟩ := h
  · simp only [Bool.and_eq_true, decide_eq_true_eq, Bool.not_eq_true'] at h
    obtain ⟨⟨⟨rfl, hm⟩, h1⟩, h2⟩ := h
    simp only [Ki] at hw
    refine wpAny_isTrue_Compare1 (hm := hm) (wpAny_mono (hx c _ h1 a gk ok ck _ _ _ _ _ _ _ hw S hE) (fun va s₁ h₁ => ?_) fun _ _ e => e)
    obtain ⟨ra, Γ₁, α₁, P₁, hw, S₁, p₁, q₁, ta⟩ := h₁
    refine wpAny_mono (hy c _ h2 a gk ok ck _ _ _ _ _ _ _ hw S₁ hE) (fun vb s₂ h₂ => ?_) fun _ _ e => e
    obtain ⟨rb, Γ₂, α₂, P₂, hw, S₂, p₂, q₂, tb⟩ := h₂
    refine wpAny_mono (cmp_ok ok S₂ (ta.mono q₂ p₂) tb hw) (fun v s₃ h₃ => ?_) fun _ _ e => e
    obtain ⟨b, rfl, hq, rfl⟩ := h₃
    exact wpAny_truthy_bool ⟨Γ₂, α₂, P₂, hq, S₂, p₁.trans p₂, fun b o e => q₂ b o (q₁ b o e)⟩
theorem sndT_isnot {x : PE} (hx : SndE T x) : SndT T (.isnot x) := by
  intro c e h a gk ok ck Γ k X α P s E whole hwh hw S hE
  replace h := invE_isnot h
  obtain ⟨_, _, _, _, rfl, h⟩ := h
  · simp only [Kj] at hw
    refine wpAny_isTrue_Compare1 (hm := by with_unfolding_all rfl) (wpAny_mono (hx c _ h a gk ok ck _ _ _ _ _ _ _ hw S hE) (fun va s₁ h₁ => ?_) fun _ _ e => e)
    obtain ⟨ra, Γ₁, α₁, P₁, hw, S₁, p₁, q₁, ta⟩ := h₁
    obtain ⟨d, td, hw⟩ := onD_is ta hw
    refine Constant_none ?_
    cases d with
    | none => cases tells_none td; exact isnot_none_none (wpAny_truthy_bool ⟨_, _, _, hw, S₁, p₁, q₁⟩)
    | tup l => obtain ⟨b, vs, rfl, _⟩ := S₁.isTup td; exact isnot_ref_none (wpAny_truthy_bool ⟨_, _, _, hw, S₁, p₁, q₁⟩)
    | _ => exact hw.elim
theorem sndT_not {x : PE} (hx : SndT T x) : SndT T (.not x) := by
  intro c e h a gk ok ck Γ k X α P s E whole hwh hw S hE
  replace h := invE_not h
  obtain ⟨_, _, rfl, h⟩ := h
  · simp only [Kh] at hw
    exact isTrue_not (wpAny_mono (hx c _ h a gk ok ck Γ (fun b Γ₁ => k (!b) Γ₁) X _ _ _ _ _ rfl hw S hE) (fun b s₁ ⟨Γ₁, α₁, P₁, q, S₁, p₁, q₁⟩ => ⟨Γ₁, α₁, P₁, q, S₁, p₁, q₁⟩) fun _ _ e => e)
theorem sndT_and {x y : PE} (hx : SndT T x) (hy : SndT T y) : SndT T (.and x y) := by
  intro c e h a gk ok ck Γ k X α P s E whole hwh hw S hE
  replace h := invE_and h
  obtain ⟨_, _, _, rfl, h⟩ := h
  · simp only [Bool.and_eq_true] at h
    simp only [Kk] at hw
    refine isTrue_and (wpAny_mono (hx c _ h.1 a gk ok ck Γ (fun b Γ₁ => if b = true then wE T y Γ₁ (fun r Γ₁ => onB r fun b => k b Γ₁) X else k false Γ₁) X _ _ _ _ _ rfl hw S hE) (fun b s₁ h₁ => ?_) fun _ _ e => e)
    obtain ⟨Γ₁, α₁, P₁, hw, S₁, p₁, q₁⟩ := h₁
    cases b with
    | false => exact ⟨Γ₁, α₁, P₁, hw, S₁, p₁, q₁⟩
    | true =>
      refine isTrue_and (wpAny_mono (hy c _ h.2 a gk ok ck Γ₁ k X _ _ _ _ _ rfl hw S₁ hE) (fun b s₂ h₂ => ?_) fun _ _ e => e)
      obtain ⟨Γ₂, α₂, P₂, hw, S₂, p₂, q₂⟩ := h₂
      cases b with
      | false => exact ⟨Γ₂, α₂, P₂, hw, S₂, p₁.trans p₂, fun b o e => q₂ b o (q₁ b o e)⟩
      | true => exact isTrue_and_nil ⟨Γ₂, α₂, P₂, hw, S₂, p₁.trans p₂, fun b o e => q₂ b o (q₁ b o e)⟩
theorem sndT_or {x y : PE} (hx : SndT T x) (hy : SndT T y) : SndT T (.or x y) := by
  intro c e h a gk ok ck Γ k X α P s E whole hwh hw S hE
  replace h := invE_or h
  obtain ⟨_, _, _, rfl, h⟩ := h
  · simp only [Bool.and_eq_true] at h
    simp only [Kl] at hw
    refine isTrue_or (wpAny_mono (hx c _ h.1 a gk ok ck Γ (fun b Γ₁ => if b = true then k true Γ₁ else wE T y Γ₁ (fun r Γ₁ => onB r fun b => k b Γ₁) X) X _ _ _ _ _ rfl hw S hE) (fun b s₁ h₁ => ?_) fun _ _ e => e)
    obtain ⟨Γ₁, α₁, P₁, hw, S₁, p₁, q₁⟩ := h₁
    cases b with
    | true => exact ⟨Γ₁, α₁, P₁, hw, S₁, p₁, q₁⟩
    | false =>
      refine isTrue_or (wpAny_mono (hy c _ h.2 a gk ok ck Γ₁ k X _ _ _ _ _ rfl hw S₁ hE) (fun b s₂ h₂ => ?_) fun _ _ e => e)
      obtain ⟨Γ₂, α₂, P₂, hw, S₂, p₂, q₂⟩ := h₂
      cases b with
      | true => exact ⟨Γ₂, α₂, P₂, hw, S₂, p₁.trans p₂, fun b o e => q₂ b o (q₁ b o e)⟩
      | false => exact isTrue_or_nil ⟨Γ₂, α₂, P₂, hw, S₂, p₁.trans p₂, fun b o e => q₂ b o (q₁ b o e)⟩
theorem sndT_or3 {x y z : PE} (hx : SndT T x) (hy : SndT T y) (hz : SndT T z) : SndT T (.or3 x y z) := by
  intro c e h a gk ok ck Γ k X α P s E whole hwh hw S hE
  replace h := invE_or3 h
  obtain ⟨_, _, _, _, rfl, h⟩ := h
  · simp only [Bool.and_eq_true] at h
    simp only [Km] at hw
    refine isTrue_or (wpAny_mono (hx c _ h.1.1 a gk ok ck Γ (fun b Γ₁ => if b = true then k true Γ₁ else wE T y Γ₁ (fun r Γ₂ => onB r fun x => if x = true then k true Γ₂ else wE T z Γ₂ (fun r Γ₁ => onB r fun b => k b Γ₁) X) X) X _ _ _ _ _ rfl hw S hE) (fun b s₁ h₁ => ?_) fun _ _ e => e)
    obtain ⟨Γ₁, α₁, P₁, hw, S₁, p₁, q₁⟩ := h₁
    cases b with
    | true => exact ⟨Γ₁, α₁, P₁, hw, S₁, p₁, q₁⟩
    | false =>
      refine isTrue_or (wpAny_mono (hy c _ h.1.2 a gk ok ck Γ₁ (fun b Γ₂ => if b = true then k true Γ₂ else wE T z Γ₂ (fun r Γ₁ => onB r fun b => k b Γ₁) X) X _ _ _ _ _ rfl hw S₁ hE) (fun b s₂ h₂ => ?_) fun _ _ e => e)
      obtain ⟨Γ₂, α₂, P₂, hw, S₂, p₂, q₂⟩ := h₂
      cases b with
      | true => exact ⟨Γ₂, α₂, P₂, hw, S₂, p₁.trans p₂, fun b o e => q₂ b o (q₁ b o e)⟩
      | false =>
        refine isTrue_or (wpAny_mono (hz c _ h.2 a gk ok ck Γ₂ k X _ _ _ _ _ rfl hw S₂ hE) (fun b s₃ h₃ => ?_) fun _ _ e => e)
        obtain ⟨Γ₃, α₃, P₃, hw, S₃, p₃, q₃⟩ := h₃
        cases b with
        | true => exact ⟨Γ₃, α₃, P₃, hw, S₃, (p₁.trans p₂).trans p₃, fun b o e => q₃ b o (q₂ b o (q₁ b o e))⟩
        | false => exact isTrue_or_nil ⟨Γ₃, α₃, P₃, hw, S₃, (p₁.trans p₂).trans p₃, fun b o e => q₃ b o (q₂ b o (q₁ b o e))⟩
theorem sndT_ite {t x y : PE} (ht : SndT T t) (hx : SndT T x) (hy : SndT T y) : SndT T (.ite t x y) := by
  intro c e h a gk ok ck Γ k X α P s E whole hwh hw S hE
  replace h := invE_ite h
  obtain ⟨_, _, _, _, rfl, h⟩ := h
  · simp only [Bool.and_eq_true] at h
    simp only [Kn] at hw
    refine isTrue_IfExp (wpAny_mono (ht c _ h.1.1 a gk ok ck Γ (fun b Γ₁ => if b = true then wE T x Γ₁ (fun r Γ₁ => onB r fun b => k b Γ₁) X else wE T y Γ₁ (fun r Γ₁ => onB r fun b => k b Γ₁) X) X _ _ _ _ _ rfl hw S hE) (fun b s₁ h₁ => ?_) fun _ _ e => e)
    obtain ⟨Γ₁, α₁, P₁, hw, S₁, p₁, q₁⟩ := h₁
    cases b with
    | true =>
      refine wpAny_mono (hx c _ h.1.2 a gk ok ck Γ₁ k X _ _ _ _ _ rfl hw S₁ hE) (fun b s₂ h₂ => ?_) fun _ _ e => e
      obtain ⟨Γ₂, α₂, P₂, hw, S₂, p₂, q₂⟩ := h₂
      exact ⟨Γ₂, α₂, P₂, hw, S₂, p₁.trans p₂, fun b o e => q₂ b o (q₁ b o e)⟩
    | false =>
      refine wpAny_mono (hy c _ h.2 a gk ok ck Γ₁ k X _ _ _ _ _ rfl hw S₁ hE) (fun b s₂ h₂ => ?_) fun _ _ e => e
      obtain ⟨Γ₂, α₂, P₂, hw, S₂, p₂, q₂⟩ := h₂
      exact ⟨Γ₂, α₂, P₂, hw, S₂, p₁.trans p₂, fun b o e => q₂ b o (q₁ b o e)⟩

/-- the operators as values. -/
theorem snd_not {x : PE} (hx : SndE T x) : SndE T (.not x) := by
  intro c e h a gk ok ck Γ Q X α P s E hw S hE
  replace h := invE_not h
  obtain ⟨_, _, rfl, h⟩ := h
  · simp only [Kh] at hw
    refine UnaryOp_ (wpAny_mono (hx c _ h a gk ok ck _ _ _ _ _ _ _ hw S hE) (fun va s₁ h₁ => ?_) fun _ _ e => e)
    obtain ⟨ra, Γ₁, α₁, P₁, hw, S₁, p₁, q₁, ta⟩ := h₁
    obtain ⟨b, rfl, hw⟩ := onB_is ta hw
    exact not_of (wpAny_truthy_bool ⟨_, _, _, _, hw, S₁, p₁, q₁, .bool _⟩)
theorem snd_and {x y : PE} (hx : SndE T x) (hy : SndE T y) : SndE T (.and x y) := by
  intro c e h a gk ok ck Γ Q X α P s E hw S hE
  replace h := invE_and h
  obtain ⟨_, _, _, rfl, h⟩ := h
  · simp only [Bool.and_eq_true] at h
    simp only [Kk] at hw
    refine wpAny_And2 (wpAny_mono (hx c _ h.1 a gk ok ck _ _ _ _ _ _ _ hw S hE) (fun va s₁ h₁ => ?_) fun _ _ e => e)
    obtain ⟨ra, Γ₁, α₁, P₁, hw, S₁, p₁, q₁, ta⟩ := h₁
    obtain ⟨b, rfl, hw⟩ := onB_is ta hw
    refine wpAny_truthy_bool ?_
    cases b with
    | false => exact ⟨_, _, _, _, hw, S₁, p₁, q₁, .bool _⟩
    | true => exact wpAny_mono (hy c _ h.2 a gk ok ck _ _ _ _ _ _ _ hw S₁ hE) (fun v s₂ h₂ => h₂.trans p₁ q₁) fun _ _ e => e
theorem snd_or {x y : PE} (hx : SndE T x) (hy : SndE T y) : SndE T (.or x y) := by
  intro c e h a gk ok ck Γ Q X α P s E hw S hE
  replace h := invE_or h
  obtain ⟨_, _, _, rfl, h⟩ := h
  · simp only [Bool.and_eq_true] at h
    simp only [Kl] at hw
    refine wpAny_Or2 (wpAny_mono (hx c _ h.1 a gk ok ck _ _ _ _ _ _ _ hw S hE) (fun va s₁ h₁ => ?_) fun _ _ e => e)
    obtain ⟨ra, Γ₁, α₁, P₁, hw, S₁, p₁, q₁, ta⟩ := h₁
    obtain ⟨b, rfl, hw⟩ := onB_is ta hw
    refine wpAny_truthy_bool ?_
    cases b with
    | true => exact ⟨_, _, _, _, hw, S₁, p₁, q₁, .bool _⟩
    | false => exact wpAny_mono (hy c _ h.2 a gk ok ck _ _ _ _ _ _ _ hw S₁ hE) (fun v s₂ h₂ => h₂.trans p₁ q₁) fun _ _ e => e
theorem snd_or3 {x y z : PE} (hx : SndE T x) (hy : SndE T y) (hz : SndE T z) : SndE T (.or3 x y z) := by
  intro c e h a gk ok ck Γ Q X α P s E hw S hE
  replace h := invE_or3 h
  obtain ⟨_, _, _, _, rfl, h⟩ := h
  · simp only [Bool.and_eq_true] at h
    simp only [Km] at hw
    refine BoolOp_or (wpAny_mono (hx c _ h.1.1 a gk ok ck _ _ _ _ _ _ _ hw S hE) (fun va s₁ h₁ => ?_) fun _ _ e => e)
    obtain ⟨ra, Γ₁, α₁, P₁, hw, S₁, p₁, q₁, ta⟩ := h₁
    obtain ⟨b, rfl, hw⟩ := onB_is ta hw
    refine wpAny_truthy_bool ?_
    cases b with
    | true => exact ⟨_, _, _, _, hw, S₁, p₁, q₁, .bool _⟩
    | false =>
      refine BoolOp_or (wpAny_mono (hy c _ h.1.2 a gk ok ck _ _ _ _ _ _ _ hw S₁ hE) (fun v s₂ h₂ => ?_) fun _ _ e => e)
      obtain ⟨rb, Γ₂, α₂, P₂, hw, S₂, p₂, q₂, tb⟩ := h₂
      obtain ⟨b, rfl, hw⟩ := onB_is tb hw
      refine wpAny_truthy_bool ?_
      cases b with
      | true => exact ⟨_, _, _, _, hw, S₂, p₁.trans p₂, fun b o e => q₂ b o (q₁ b o e), .bool _⟩
      | false => exact BoolOp_one (wpAny_mono (hz c _ h.2 a gk ok ck _ _ _ _ _ _ _ hw S₂ hE) (fun v s₃ h₃ => (h₃.trans p₂ q₂).trans p₁ q₁) fun _ _ e => e)
theorem snd_ite {t x y : PE} (ht : SndT T t) (hx : SndE T x) (hy : SndE T y) : SndE T (.ite t x y) := by
  intro c e h a gk ok ck Γ Q X α P s E hw S hE
  replace h := invE_ite h
  obtain ⟨_, _, _, _, rfl, h⟩ := h
  · simp only [Bool.and_eq_true] at h
    simp only [Kn] at hw
    refine IfExp_ (wpAny_mono (ht c _ h.1.1 a gk ok ck Γ (fun b Γ₁ => if b = true then wE T x Γ₁ Q X else wE T y Γ₁ Q X) X _ _ _ _ _ rfl hw S hE) (fun b s₁ h₁ => ?_) fun _ _ e => e)
    obtain ⟨Γ₁, α₁, P₁, hw, S₁, p₁, q₁⟩ := h₁
    cases b with
    | true => exact wpAny_mono (hx c _ h.1.2 a gk ok ck _ _ _ _ _ _ _ hw S₁ hE) (fun v s₂ h₂ => h₂.trans p₁ q₁) fun _ _ e => e
    | false => exact wpAny_mono (hy c _ h.2 a gk ok ck _ _ _ _ _ _ _ hw S₁ hE) (fun v s₂ h₂ => h₂.trans p₁ q₁) fun _ _ e => e
end

end LM

namespace LM

noncomputable def RTellsAll (fv : Nat → Value) (P : Part) (α : List Addr) : List Value → List Rv → Prop
  | [], [] => True
  | v :: vs, r :: rs => RTells fv P α v r ∧ RTellsAll fv P α vs rs
  | _, _ => False
theorem RTellsAll.mono {fv : Nat → Value} {P P' : Part} {α α' : List Addr} (hs : ∀ b o, P b = some o → P' b = some o) (ha : α <+: α') : ∀ {vs : List Value} {rs : List Rv}, RTellsAll fv P α vs rs → RTellsAll fv P' α' vs rs
  | [], [], _ => trivial
  | _ :: _, _ :: _, h => ⟨h.1.mono hs ha, RTellsAll.mono hs ha h.2⟩
  | [], _ :: _, h => h.elim
  | _ :: _, [], h => h.elim
theorem allD_is {fv : Nat → Value} {P : Part} {α : List Addr} : ∀ {vs : List Value} {rs : List Rv} {k : List D → Prop}, RTellsAll fv P α vs rs → allD rs k → Ex1 (fun ds => TellsAll fv P vs ds) (fun ds => k ds ∧ rs = ds.map .d)
  | [], [], k, _, h => ⟨[], .nil, h, rfl⟩
  | v :: vs, .d x :: rs, k, t, h => by
    obtain ⟨ds, h1, h2, h3⟩ := allD_is (k := fun xs => k (x :: xs)) t.2 h
    exact ⟨x :: ds, .cons t.1 h1, h2, by rw [h3]; rfl⟩
  | _ :: _, .c _ :: _, _, _, h => h.elim
  | [], _ :: _, _, t, _ => t.elim
  | _ :: _, [], _, t, _ => t.elim

section
variable {T : Nat → Option LM.Spec} {a : Act} {c : Cfg} {Γ : Fs} {α : List Addr} {P : Part} {s : Shared} {E : Value → Shared → Prop}

inductive PostL (a : Act) (α : List Addr) (P : Part) (Q : List Rv → Fs → Prop) (vs : List Value) (s' : Shared) : Prop
  | mk (rs : List Rv) (Γ' : Fs) (α' : List Addr) (P' : Part) (q : Q rs Γ') (S : St a Γ' α' P' s') (pa : α <+: α') (pp : ∀ b o, P b = some o → P' b = some o) (t : RTellsAll a.G.fv P' α' vs rs) : PostL a α P Q vs s'

noncomputable def SndEs (T : Nat → Option LM.Spec) (pes : PEs) : Prop := ∀ c xs, chkEs pes c xs = true → ∀ a, GlOk a.G → ActOk a → CkOk T a c → ∀ Γ Q X α P s E pos, wEs T pes Γ Q X → St a Γ α P s → ExOk a E X →
  wpAny (model a.G.prog a.G.w) a.A (spliced (backTo pos (starEach xs a.env))) (PostL a α P Q) E s

theorem starEach_nst {x : Expr} {r : List Expr} {env : Env} (h : nst x = true) : starEach (x :: r) env = (false, eval x env) :: starEach r env := by
  cases x <;> first | rfl | cases h
theorem backTo_plain {pos : Pos} {t : Sem Value} {r : List (Bool × Sem Value)} : backTo pos ((false, t) :: r) = (false, t) :: backTo pos r := rfl

theorem sndEs_nil : SndEs T .nil := by
  intro c xs h a gk ok ck Γ Q X α P s E pos hw S hE
  simp only [chkEs] at h
  split at h
  · simp only [Mh] at hw
    exact Calls.spliced_nil ⟨[], Γ, α, P, hw, S, List.prefix_refl _, fun _ _ e => e, trivial⟩
  · cases h
theorem sndEs_cons {x : PE} {xs : PEs} (hx : SndE T x) (hxs : SndEs T xs) : SndEs T (.cons x xs) := by
  intro c l h a gk ok ck Γ Q X α P s E pos hw S hE
  simp only [chkEs] at h
  split at h
  · simp only [Bool.and_eq_true] at h
    simp only [Mi] at hw
    rw [starEach_nst h.1.1, backTo_plain]
    refine Calls.spliced_cons (wpAny_mono (hx c _ h.1.2 a gk ok ck _ _ _ _ _ _ _ hw S hE) (fun v s₁ h₁ => ?_) fun _ _ e => e)
    obtain ⟨r, Γ₁, α₁, P₁, hw, S₁, p₁, q₁, t⟩ := h₁
    refine wpAny_mono (hxs c _ h.2 a gk ok ck _ _ _ _ _ _ _ pos hw S₁ hE) (fun vs s₂ h₂ => ?_) fun _ _ e => e
    obtain ⟨rs, Γ₂, α₂, P₂, hw, S₂, p₂, q₂, ts⟩ := h₂
    exact ⟨r :: rs, Γ₂, α₂, P₂, hw, S₂, p₁.trans p₂, fun b o e => q₂ b o (q₁ b o e), ⟨t.mono q₂ p₂, ts⟩⟩
  · cases h

/-- nothing starred among the checked arguments. -/
theorem plain_args : ∀ {pes : PEs} {c : Cfg} {xs : List Expr} {env : Env} {pos : Pos}, chkEs pes c xs = true → (backTo pos (starEach xs env)).any (·.1) = false
  | .nil, c, xs, env, pos, h => by
    simp only [chkEs] at h
    split at h
    · rfl
    · cases h
  | .cons x r, c, xs, env, pos, h => by
    simp only [chkEs] at h
    split at h
    · simp only [Bool.and_eq_true] at h
      rw [starEach_nst h.1.1, backTo_plain]
      simp only [List.any_cons, Bool.false_or]
      exact plain_args h.2
    · cases h

section builtins
variable {M : Model} {A : Around} {env : Env} {n : Str} {np pos : Pos} {x y z : Expr} {Q : Value → Shared → Prop}

theorem callB1 {id : String} (hx : nst x = true) (h : wpAny M A (eval (.Name n np) env) (fun f s₁ => f = .builtin id ∧ wpAny M A (eval x env) (fun v s₂ => wpAny M A (call (.builtin id) [v]) Q E s₂) E s₁) E s) :
    wpAny M A (eval (.Call (.Name n np) [x] [] pos) env) Q E s := by
  refine wpAny_Call_NameR (wpAny_mono h (fun f s₁ h₁ => ?_) fun _ _ e => e)
  obtain ⟨rfl, h₁⟩ := h₁
  rw [starEach_nst hx, backTo_plain]
  exact Calls.callWith_builtin rfl (Calls.evalArgs_plain (Calls.spliced_cons (wpAny_mono h₁ (fun v s₂ h₂ => Calls.spliced_nil h₂) fun _ _ e => e)))
theorem callB2 {id : String} (hx : nst x = true) (hy : nst y = true) (h : wpAny M A (eval (.Name n np) env) (fun f s₁ => f = .builtin id ∧ wpAny M A (eval x env) (fun v s₂ => wpAny M A (eval y env) (fun u s₃ => wpAny M A (call (.builtin id) [v, u]) Q E s₃) E s₂) E s₁) E s) :
    wpAny M A (eval (.Call (.Name n np) [x, y] [] pos) env) Q E s := by
  refine wpAny_Call_NameR (wpAny_mono h (fun f s₁ h₁ => ?_) fun _ _ e => e)
  obtain ⟨rfl, h₁⟩ := h₁
  rw [starEach_nst hx, backTo_plain, starEach_nst hy, backTo_plain]
  exact Calls.callWith_builtin rfl (Calls.evalArgs_plain (Calls.spliced_cons (wpAny_mono h₁ (fun v s₂ h₂ => Calls.spliced_cons (wpAny_mono h₂ (fun u s₃ h₃ => Calls.spliced_nil h₃) fun _ _ e => e)) fun _ _ e => e)))
theorem callT1 {id : String} (hx : nst x = true) (h : wpAny M A (eval (.Name n np) env) (fun f s₁ => f = .type id ∧ wpAny M A (eval x env) (fun v s₂ => wpAny M A (call (.type id) [v]) Q E s₂) E s₁) E s) :
    wpAny M A (eval (.Call (.Name n np) [x] [] pos) env) Q E s := by
  refine wpAny_Call_NameR (wpAny_mono h (fun f s₁ h₁ => ?_) fun _ _ e => e)
  obtain ⟨rfl, h₁⟩ := h₁
  rw [starEach_nst hx, backTo_plain]
  exact PySem.callWith_type rfl (Calls.evalArgs_plain (Calls.spliced_cons (wpAny_mono h₁ (fun v s₂ h₂ => Calls.spliced_nil h₂) fun _ _ e => e)))
theorem callT2 {id : String} (hx : nst x = true) (hy : nst y = true) (h : wpAny M A (eval (.Name n np) env) (fun f s₁ => f = .type id ∧ wpAny M A (eval x env) (fun v s₂ => wpAny M A (eval y env) (fun u s₃ => wpAny M A (call (.type id) [v, u]) Q E s₃) E s₂) E s₁) E s) :
    wpAny M A (eval (.Call (.Name n np) [x, y] [] pos) env) Q E s := by
  refine wpAny_Call_NameR (wpAny_mono h (fun f s₁ h₁ => ?_) fun _ _ e => e)
  obtain ⟨rfl, h₁⟩ := h₁
  rw [starEach_nst hx, backTo_plain, starEach_nst hy, backTo_plain]
  exact PySem.callWith_type rfl (Calls.evalArgs_plain (Calls.spliced_cons (wpAny_mono h₁ (fun v s₂ h₂ => Calls.spliced_cons (wpAny_mono h₂ (fun u s₃ h₃ => Calls.spliced_nil h₃) fun _ _ e => e)) fun _ _ e => e)))
theorem callT3 {id : String} (hx : nst x = true) (hy : nst y = true) (hz : nst z = true) (h : wpAny M A (eval (.Name n np) env) (fun f s₁ => f = .type id ∧ wpAny M A (eval x env) (fun v s₂ => wpAny M A (eval y env) (fun u s₃ => wpAny M A (eval z env) (fun t s₄ => wpAny M A (call (.type id) [v, u, t]) Q E s₄) E s₃) E s₂) E s₁) E s) :
    wpAny M A (eval (.Call (.Name n np) [x, y, z] [] pos) env) Q E s := by
  refine wpAny_Call_NameR (wpAny_mono h (fun f s₁ h₁ => ?_) fun _ _ e => e)
  obtain ⟨rfl, h₁⟩ := h₁
  rw [starEach_nst hx, backTo_plain, starEach_nst hy, backTo_plain, starEach_nst hz, backTo_plain]
  exact PySem.callWith_type rfl (Calls.evalArgs_plain (Calls.spliced_cons (wpAny_mono h₁ (fun v s₂ h₂ => Calls.spliced_cons (wpAny_mono h₂ (fun u s₃ h₃ => Calls.spliced_cons (wpAny_mono h₃ (fun t s₄ h₄ => Calls.spliced_nil h₄) fun _ _ e => e)) fun _ _ e => e)) fun _ _ e => e)))
end builtins

theorem snd_len {x : PE} (hx : SndE T x) : SndE T (.len x) := by
  intro c e h a gk ok ck Γ Q X α P s E hw S hE
  replace h := invE_len h
  obtain ⟨_, _, _, _, rfl, h⟩ := h
  · simp only [Bool.and_eq_true] at h
    simp only [Ko] at hw
    refine callB1 h.1.2 (ld_bi ok ck S h.1.1 (gk.bfn "len" (by simp)) ⟨rfl, wpAny_mono (hx c _ h.2 a gk ok ck _ _ _ _ _ _ _ hw S hE) (fun v s₁ h₁ => ?_) fun _ _ e => e⟩)
    obtain ⟨r, Γ₁, α₁, P₁, hw, S₁, p₁, q₁, t⟩ := h₁
    obtain ⟨b, vs, l, rfl, hl, tl, hb, hw⟩ := onQ_is S₁ t hw
    have e1 := tl.length
    rcases hl with hl | hl
    · refine len_list hl (by simp only [List.size_toArray]; omega) ?_
      rw [List.size_toArray, e1]
      exact ⟨_, _, _, _, hw, (S₁.tok _), p₁, q₁, .int _ _⟩
    · refine len_tuple hl (by simp only [List.size_toArray]; omega) ?_
      rw [List.size_toArray, e1]
      exact ⟨_, _, _, _, hw, (S₁.tok _), p₁, q₁, .int _ _⟩
theorem snd_min2 {x y : PE} (hx : SndE T x) (hy : SndE T y) : SndE T (.min2 x y) := by
  intro c e h a gk ok ck Γ Q X α P s E hw S hE
  replace h := invE_min2 h
  obtain ⟨_, _, _, _, _, rfl, h⟩ := h
  · simp only [Bool.and_eq_true] at h
    simp only [Kp] at hw
    refine callB2 h.1.1.1.2 h.1.1.2 (ld_bi ok ck S h.1.1.1.1 (gk.bfn "min" (by simp)) ⟨rfl, wpAny_mono (hx c _ h.1.2 a gk ok ck _ _ _ _ _ _ _ hw S hE) (fun v s₁ h₁ => ?_) fun _ _ e => e⟩)
    obtain ⟨r, Γ₁, α₁, P₁, hw, S₁, p₁, q₁, t⟩ := h₁
    refine wpAny_mono (hy c _ h.2 a gk ok ck _ _ _ _ _ _ _ hw S₁ hE) (fun u s₂ h₂ => ?_) fun _ _ e => e
    obtain ⟨r', Γ₂, α₂, P₂, hw, S₂, p₂, q₂, t'⟩ := h₂
    obtain ⟨x, tx, rfl, hw⟩ := onI_is (t.mono q₂ p₂) hw
    obtain ⟨y, ty, rfl, hw⟩ := onI_is t' hw
    refine min_two_ints ok.handled fun h' tk hk => ?_
    have S₃ := S₂.keeps (tk := tk) hk
    by_cases q : y < x
    · rw [if_pos q] at hw ⊢
      exact ⟨_, _, _, _, hw, S₃, p₁.trans p₂, fun b o e => q₂ b o (q₁ b o e), .int _ _⟩
    · rw [if_neg q] at hw ⊢
      exact ⟨_, _, _, _, hw, S₃, p₁.trans p₂, fun b o e => q₂ b o (q₁ b o e), .int _ _⟩
theorem snd_abs {x : PE} (hx : SndE T x) : SndE T (.abs x) := by
  intro c e h a gk ok ck Γ Q X α P s E hw S hE
  replace h := invE_abs h
  obtain ⟨_, _, _, _, rfl, h⟩ := h
  · simp only [Bool.and_eq_true] at h
    simp only [Kq] at hw
    refine callB1 h.1.2 (ld_bi ok ck S h.1.1 (gk.bfn "abs" (by simp)) ⟨rfl, wpAny_mono (hx c _ h.2 a gk ok ck _ _ _ _ _ _ _ hw S hE) (fun v s₁ h₁ => ?_) fun _ _ e => e⟩)
    obtain ⟨r, Γ₁, α₁, P₁, hw, S₁, p₁, q₁, t⟩ := h₁
    obtain ⟨x, tx, rfl, hw⟩ := onI_is t hw
    exact call_abs_int fun u tk => ⟨_, _, _, _, hw, S₁.tok _, p₁, q₁, .int _ _⟩
theorem snd_toInt {x : PE} (hx : SndE T x) : SndE T (.toInt x) := by
  intro c e h a gk ok ck Γ Q X α P s E hw S hE
  replace h := invE_toInt h
  obtain ⟨_, _, _, _, rfl, h⟩ := h
  · simp only [Bool.and_eq_true] at h
    simp only [Kr] at hw
    refine callT1 h.1.2 (ld_bi ok ck S h.1.1 (gk.btp "int" (by simp)) ⟨rfl, wpAny_mono (hx c _ h.2 a gk ok ck _ _ _ _ _ _ _ hw S hE) (fun v s₁ h₁ => ?_) fun _ _ e => e⟩)
    obtain ⟨r, Γ₁, α₁, P₁, hw, S₁, p₁, q₁, t⟩ := h₁
    obtain ⟨x, tx, rfl, hw⟩ := onI_is t hw
    exact call_int_int ⟨_, _, _, _, hw, S₁, p₁, q₁, .int _ _⟩

theorem tells_ints {fv : Nat → Value} {P : Part} : ∀ {vs : List Value} {ns : List Int}, TellsAll fv P vs (ns.map .int) → AllInts vs.toArray ∧ numsOf vs = ns
  | _, [], h => by cases h; exact ⟨fun v hv => by simp at hv, rfl⟩
  | _, n :: ns, h => by
    cases h with
    | cons h r =>
      obtain ⟨t, rfl⟩ := tells_int h
      obtain ⟨h1, h2⟩ := tells_ints r
      refine ⟨fun v hv => ?_, by simp [numsOf, h2]⟩
      simp at hv
      rcases hv with rfl | hv
      · exact ⟨_, _, rfl⟩
      · exact h1 v (by simpa using hv)
theorem snd_sum {x : PE} (hx : SndE T x) : SndE T (.sum x) := by
  intro c e h a gk ok ck Γ Q X α P s E hw S hE
  replace h := invE_sum h
  obtain ⟨_, _, _, _, rfl, h⟩ := h
  · simp only [Bool.and_eq_true] at h
    simp only [Ks] at hw
    refine callB1 h.1.2 (ld_bi ok ck S h.1.1 (gk.bfn "sum" (by simp)) ⟨rfl, wpAny_mono (hx c _ h.2 a gk ok ck _ _ _ _ _ _ _ hw S hE) (fun v s₁ h₁ => ?_) fun _ _ e => e⟩)
    obtain ⟨r, Γ₁, α₁, P₁, hw, S₁, p₁, q₁, t⟩ := h₁
    obtain ⟨d, td, ns, rfl, _, hw⟩ := onD_is t hw
    obtain ⟨b, vs, rfl, hl, tl⟩ := S₁.isList td
    obtain ⟨h1, h2⟩ := tells_ints tl
    obtain ⟨xs, hxs⟩ := h1.items
    rw [hxs] at hl
    refine PySem.sum_intListG ok.handled hl fun h' tk t' hk => ?_
    have e2 : preSum (numAt xs) xs.size = ns.sum := by
      have e3 := nums_intItems xs
      rw [← hxs, List.toList_toArray, h2] at e3
      rw [preSum_eq, List.take_of_length_le (by simp), e3]
    rw [e2]
    exact ⟨_, _, _, _, hw, S₁.keeps hk, p₁, q₁, .int _ _⟩
theorem snd_any {x : PE} (hx : SndE T x) : SndE T (.any x) := by
  intro c e h a gk ok ck Γ Q X α P s E hw S hE
  replace h := invE_any h
  obtain ⟨_, _, _, _, rfl, h⟩ := h
  · simp only [Bool.and_eq_true] at h
    simp only [Kt] at hw
    refine callB1 h.1.2 (ld_bi ok ck S h.1.1 (gk.bfn "any" (by simp)) ⟨rfl, wpAny_mono (hx c _ h.2 a gk ok ck _ _ _ _ _ _ _ hw S hE) (fun v s₁ h₁ => ?_) fun _ _ e => e⟩)
    obtain ⟨r, Γ₁, α₁, P₁, hw, S₁, p₁, q₁, t⟩ := h₁
    obtain ⟨d, td, bs, rfl, _, hw⟩ := onD_is t hw
    obtain ⟨b, vs, rfl, hl, tl⟩ := S₁.isList td
    have hlt : b < s₁.heap.objs.size := by obtain ⟨_, e, _⟩ := hl; exact Heap.lt_size e
    have hlen := tl.length
    rw [List.length_map] at hlen
    refine call_any_walk (wpAny_pyIter_list hl ?_)
    refine ⟨_, _, _, _, _, _, fun i => bs.getD i false, rfl, Walks.list (A := a.A.in1) ok.handled _ b (Nat.ne_of_lt hlt) vs.toArray, ⟨⟨_, Heap.get?_push_size _ rfl, rfl, rfl⟩, hl.push _⟩, ?_, ?_⟩
    · intro i v s₂ Q₂ E₂ hv hq
      obtain ⟨d, hd, tv⟩ := tl.get' (by simpa using hv)
      rw [List.getElem?_map] at hd
      cases hg : bs[i]? with
      | none => rw [hg] at hd; cases hd
      | some x =>
        rw [hg] at hd; cases hd
        cases tells_bool tv
        refine wpAny_truthy_bool ?_
        have : bs.getD i false = x := by rw [List.getD_eq_getElem?_getD, hg]; rfl
        have hq : Q₂ (bs.getD i false) s₂ := hq
        rw [this] at hq; exact hq
    · intro h' tk hk
      have e2 : ((List.range vs.toArray.size).any fun i => bs.getD i false) = bs.any id := by
        rw [List.size_toArray, hlen]
        clear hlen hk hw tl td
        have : (List.range bs.length).map (fun i => bs.getD i false) = bs := by
          apply List.ext_getElem
          · simp
          · intro i h1 h2; simp [List.getD_eq_getElem?_getD, List.getElem?_eq_getElem h2]
        conv => rhs; rw [← this]
        rw [List.any_map]; rfl
      rw [e2]
      refine ⟨_, _, _, _, hw, S₁.keeps (fun c o e => ?_), p₁, q₁, .bool _⟩
      refine hk c o (fun hm => ?_) (Heap.get?_push_of_some _ e)
      rcases List.mem_cons.mp hm with e1 | hm
      · exact absurd (e1 ▸ Heap.lt_size e) (Nat.lt_irrefl _)
      · cases hm

/-- the tail of a subscript. -/
theorem tail_of {value slice : Expr} {o i : Value} {U id : String} {ops : List Value} {Q : Value → Shared → Prop} (hT : s.TypeIs o U)
    (hl : typeLookup (.type U) "__getitem__" = pure (some (.builtin id))) (h : wpAny (model a.G.prog a.G.w) a.A (getItem o i) Q E s)
    (hs : subscripted slice false o i = operate ops (getItem o i)) : wpAny (model a.G.prog a.G.w) a.A (subscriptTail value slice o i) Q E s := by
  unfold subscriptTail
  refine wpAny_bind ?_
  rw [getitemInPython_of_ne hT.not_modules]
  refine wpAny_bind (wpAny_specialOf hT hl ?_)
  have fin : wpAny (model a.G.prog a.G.w) a.A (subscripted slice false o i) (fun r s₃ => wpAny (model a.G.prog a.G.w) a.A (letTemporaryGo value o r >>= fun _ => pure r) Q E s₃) E s := by
    rw [hs]
    exact wpAny_operating (wpAny_mono h (fun r s₃ h₃ => wpAny_bind (wpAny_letTemporaryGo (wpAny_pure h₃))) fun _ _ x => x)
  first
    | exact wpAny_pure (wpAny_bind fin)
    | exact wpAny_bind (wpAny_pure (wpAny_bind fin))
    | exact wpAny_bind fin
theorem subscripted_plain {y : Expr} {o i : Value} (h : nslice y = true) : subscripted y false o i = operate [o, i] (getItem o i) := by
  cases y <;> first | rfl | cases h

theorem place_is {n : Nat} {i : Int} {k : Nat} (h : place n i = some k) : k < n ∧ ((0 ≤ i ∧ i < n ∧ k = i.toNat) ∨ (i < 0 ∧ -(n : Int) ≤ i ∧ k = (i + n).toNat)) := by
  unfold place at h
  split at h
  · split at h
    · cases h; (constructor <;> first | (refine Int.lt_of_not_ge fun h => ?_; lia) | (refine Nat.lt_of_not_le fun h => ?_; lia) | lia)
    · cases h
  · split at h
    · cases h; (constructor <;> first | (refine Int.lt_of_not_ge fun h => ?_; lia) | (refine Nat.lt_of_not_le fun h => ?_; lia) | lia)
    · cases h

theorem snd_item {x y : PE} (hx : SndE T x) (hy : SndE T y) : SndE T (.item x y) := by
  intro c e h a gk ok ck Γ Q X α P s E hw S hE
  replace h := invE_item h
  obtain ⟨_, _, _, rfl, h⟩ := h
  · simp only [Bool.and_eq_true] at h
    simp only [Ky] at hw
    refine Subscript_ (wpAny_mono (hx c _ h.1.2 a gk ok ck _ _ _ _ _ _ _ hw S hE) (fun v s₁ h₁ => ?_) fun _ _ e => e)
    obtain ⟨r, Γ₁, α₁, P₁, hw, S₁, p₁, q₁, t⟩ := h₁
    refine wpAny_mono (hy c _ h.2 a gk ok ck _ _ _ _ _ _ _ hw S₁ hE) (fun u s₂ h₂ => ?_) fun _ _ e => e
    obtain ⟨r', Γ₂, α₂, P₂, hw, S₂, p₂, q₂, t'⟩ := h₂
    obtain ⟨b, vs, l, rfl, hl, tl, hw⟩ := onQ_is S₂ (t.mono q₂ p₂) hw
    obtain ⟨i, ti, rfl, hb, d, hd, hw⟩ := onI_is t' hw
    cases hp : place l.length i with
    | none => rw [hp] at hd; cases hd
    | some k =>
      rw [hp] at hd
      have hd : l[k]? = some d := hd
      obtain ⟨v, hv, tv⟩ := tl.get hd
      obtain ⟨hk, hi⟩ := place_is hp
      have e1 := tl.length
      have fin : Post a α P Q v s₂ := ⟨.d d, Γ₂, α₂, P₂, hw, S₂, p₁.trans p₂, fun b o e => q₂ b o (q₁ b o e), tv⟩
      rcases hl with hl | hl
      · refine tail_of hl.typeIs slot_list_getitem.lookup ?_ (subscripted_plain h.1.1)
        rcases hi with ⟨h1, h2, h3⟩ | ⟨h1, h2, h3⟩
        · exact wpAny_getItem_list hl h1 (by (refine Int.lt_of_not_ge fun h => ?_; lia)) (by simpa [← h3] using hv) fin
        · refine wpAny_getItem_list_neg hl h1 (by simp only [List.size_toArray]; lia) (by lia) ?_ fin
          rw [List.size_toArray, e1, ← h3]; simpa using hv
      · refine tail_of hl.typeIs slot_tuple_getitem.lookup ?_ (subscripted_plain h.1.1)
        refine getItem_tuple hl (j := k) (by lia) (by (clear e1; omega)) ?_ (by simpa using hv) fin
        rw [List.size_toArray, e1]
        unfold seqIndex?
        rcases hi with ⟨h1, h2, h3⟩ | ⟨h1, h2, h3⟩
        · simp [Int.not_lt.mpr h1, h1, h2, h3]
        · have : 0 ≤ i + (l.length : Int) := by lia
          have h5 : i + (l.length : Int) < l.length := by (refine Int.lt_of_not_ge fun h => ?_; lia)
          simp [h1, this, h5, h3]

noncomputable def SndO (T : Nat → Option LM.Spec) (pe : PE) : Prop := ∀ c e, chkO pe c e = true → ∀ a, GlOk a.G → ActOk a → CkOk T a c → ∀ Γ Q X α P s E, wE T pe Γ Q X → St a Γ α P s → ExOk a E X →
  wpAny (model a.G.prog a.G.w) a.A (valueOrNone (evalOpt e a.env)) (Post a α P Q) E s
theorem sndO_of {pe : PE} (h : SndE T pe) : SndO T pe := by
  intro c e hc a gk ok ck Γ Q X α P s E hw S hE
  have some' : ∀ x, e = some x → chkE pe c x = true → wpAny (model a.G.prog a.G.w) a.A (valueOrNone (evalOpt e a.env)) (Post a α P Q) E s := fun x hx hk => by
    subst hx
    exact h c x hk a gk ok ck _ _ _ _ _ _ _ hw S hE
  cases pe with
  | none =>
    cases e with
    | some x => cases hc
    | none =>
      simp only [Kf] at hw
      show wpAny _ _ (pure Value.none) _ _ _
      exact wpAny_pure (.here hw S .none)
  | var i => obtain ⟨x, hx, hc⟩ := any_is2 hc; exact some' x hx hc
  | int i => obtain ⟨x, hx, hc⟩ := any_is2 hc; exact some' x hx hc
  | neg i => obtain ⟨x, hx, hc⟩ := any_is2 hc; exact some' x hx hc
  | bin op x y => obtain ⟨x, hx, hc⟩ := any_is2 hc; exact some' x hx hc
  | _ => cases hc

theorem snd_slice {x lo hi st : PE} (hx : SndE T x) (hlo : SndO T lo) (hhi : SndO T hi) (hst : SndO T st) : SndE T (.slice x lo hi st) := by
  intro c e h a gk ok ck Γ Q X α P s E hw S hE
  replace h := invE_slice h
  obtain ⟨_, _, _, _, _, _, rfl, h⟩ := h
  · rename_i x' l' u' st' sp pos
    simp only [Bool.and_eq_true] at h
    simp only [Kz] at hw
    refine Subscript_ (wpAny_mono (hx c _ h.1.1.1 a gk ok ck _ _ _ _ _ _ _ hw S hE) (fun v s₁ h₁ => ?_) fun _ _ e => e)
    obtain ⟨r, Γ₁, α₁, P₁, hw, S₁, p₁, q₁, t⟩ := h₁
    show wpAny _ _ (do
      let l ← valueOrNone (evalOpt l' a.env)
      let u ← holding [l] (valueOrNone (evalOpt u' a.env))
      let s ← holding [l, u] (valueOrNone (evalOpt st' a.env))
      newFields "slice" [l, u, s]) _ _ _
    refine wpAny_bind (wpAny_mono (hlo c _ h.1.1.2 a gk ok ck _ _ _ _ _ _ _ hw S₁ hE) (fun vl s₂ h₂ => ?_) fun _ _ e => e)
    obtain ⟨rl, Γ₂, α₂, P₂, hw, S₂, p₂, q₂, tl⟩ := h₂
    refine wpAny_bind (wpAny_holding (wpAny_mono (hhi c _ h.1.2 a gk ok ck _ _ _ _ _ _ _ hw S₂ hE) (fun vh s₃ h₃ => ?_) fun _ _ e => e))
    obtain ⟨rh, Γ₃, α₃, P₃, hw, S₃, p₃, q₃, th⟩ := h₃
    refine wpAny_bind (wpAny_holding (wpAny_mono (hst c _ h.2 a gk ok ck _ _ _ _ _ _ _ hw S₃ hE) (fun vk s₄ h₄ => ?_) fun _ _ e => e))
    obtain ⟨rk, Γ₄, α₄, P₄, hw, S₄, p₄, q₄, tk⟩ := h₄
    have q34 : ∀ b o, P₂ b = some o → P₄ b = some o := fun b o e => q₄ b o (q₃ b o e)
    have q24 : ∀ b o, P₁ b = some o → P₄ b = some o := fun b o e => q34 b o (q₂ b o e)
    obtain ⟨b, vs, l, rfl, hl, tll, hw⟩ := onL_is S₄ (t.mono q24 ((p₂.trans p₃).trans p₄)) hw
    obtain ⟨lo, pl, hw⟩ := onO_is (tl.mono q34 (p₃.trans p₄)) hw
    obtain ⟨hi, ph, hw⟩ := onO_is (th.mono q₄ p₄) hw
    obtain ⟨st, pk, ⟨hb, h0⟩, hw⟩ := onO_is tk hw
    unfold newFields
    refine wpAny_newObj_type ?_ (by size_fits)
    have S₅ := S₄.push { cls := .type "slice", data := .fields #[vl, vh, vk] } (tk := s₄.toks)
    have hl₅ : (s₄.heap.push { cls := .type "slice", data := .fields #[vl, vh, vk] }).IsList b vs.toArray := hl.push _
    have e1 := tll.length
    have e3 : (2 : Nat) ^ 20 ≤ sizeLine := by decide
    have hsub : ∀ (o i : Value), ∃ ops, subscripted (.Slice l' u' st' sp) false o i = operate ops (getItem o i) := fun o i => by
      cases st' <;> exact ⟨_, rfl⟩
    obtain ⟨ops, hops⟩ := hsub (.ref b) (.ref s₄.heap.objs.size)
    refine tail_of (s := { s₄ with heap := _ }) hl₅.typeIs slot_list_getitem.lookup (wpAny_getItem_list_slice hl₅ (Heap.IsSliceOf.new ..) pl ph pk h0 ?_ (by simp only [List.size_toArray]; (exact Nat.le_trans (Nat.le_trans (Nat.le_of_eq e1) hb) e3))) hops
    have S₆ := S₅.pushPart ok (o := { cls := .type "list", data := .seq (slicePick vs.toArray lo hi st) }) (tk := s₄.toks) rfl
    have hpick : TellsAll a.G.fv P₄ (slicePick vs.toArray lo hi st).toList (pick l lo hi st) := by
      have := tll.pick (sliceRange (sliceBounds lo hi st vs.length).1 (sliceBounds lo hi st vs.length).2.1 (sliceBounds lo hi st vs.length).2.2)
      unfold pick
      rw [e1] at this
      simpa [slicePick, e1] using this
    have out := S₅.out fresh_none
    have keep := Part.add_keep (o := ({ cls := .type "list", data := .seq (slicePick vs.toArray lo hi st) } : Obj)) out.2.1
    refine ⟨_, _, _, _, hw, S₆, ((p₁.trans p₂).trans p₃).trans p₄, fun b o e => keep b o (q24 b o (q₁ b o e)), .list (vs := (slicePick vs.toArray lo hi st).toList) (n := 0) Part.add_self rfl ?_ (hpick.mono keep)⟩
    simp

theorem sizes {n : Nat} (h : n ≤ 2 ^ 20) : n ≤ sizeLine := Nat.le_trans h (by decide)

theorem snd_tup {xs : PEs} (hx : SndEs T xs) : SndE T (.tup xs) := by
  intro c e h a gk ok ck Γ Q X α P s E hw S hE
  replace h := invE_tup h
  obtain ⟨_, _, _, rfl, h⟩ := h
  · simp only [Ma] at hw
    refine Tuple_ (wpAny_mono (hx c _ h a gk ok ck _ _ _ _ _ _ _ _ hw S hE) (fun vs s₁ h₁ => ?_) fun _ _ e => e)
    obtain ⟨rs, Γ₁, α₁, P₁, hw, S₁, p₁, q₁, t⟩ := h₁
    obtain ⟨ds, td, ⟨hb, hq⟩, rfl⟩ := allD_is t hw
    have out := S₁.out fresh_none
    have S₂ := S₁.pushPart ok (o := { cls := .type "tuple", data := .seq vs.toArray }) (tk := s₁.toks) rfl
    have keep := Part.add_keep (o := ({ cls := .type "tuple", data := .seq vs.toArray } : Obj)) out.2.1
    exact wpAny_newTuple ⟨.d (.tup ds), _, _, _, hq, S₂, p₁, fun b o e => keep b o (q₁ b o e), Tells.tup (n := 0) Part.add_self rfl rfl (td.mono keep)⟩ (sizes (by rw [td.length]; exact hb))
theorem snd_lst {xs : PEs} (hx : SndEs T xs) : SndE T (.lst xs) := by
  intro c e h a gk ok ck Γ Q X α P s E hw S hE
  replace h := invE_lst h
  obtain ⟨_, _, rfl, h⟩ := h
  · simp only [Mb] at hw
    refine List_ (wpAny_mono (hx c _ h a gk ok ck _ _ _ _ _ _ _ _ hw S hE) (fun vs s₁ h₁ => ?_) fun _ _ e => e)
    obtain ⟨rs, Γ₁, α₁, P₁, hw, S₁, p₁, q₁, t⟩ := h₁
    obtain ⟨ds, td, ⟨hb, hq⟩, rfl⟩ := allD_is t hw
    have out := S₁.out fresh_none
    have S₂ := S₁.pushPart ok (o := { cls := .type "list", data := .seq vs.toArray }) (tk := s₁.toks) rfl
    have keep := Part.add_keep (o := ({ cls := .type "list", data := .seq vs.toArray } : Obj)) out.2.1
    exact wpAny_newList ⟨.d (.list ds), _, _, _, hq, S₂, p₁, fun b o e => keep b o (q₁ b o e), Tells.list (n := 0) Part.add_self rfl rfl (td.mono keep)⟩ (sizes (by rw [td.length]; exact hb))
theorem snd_cell {xs : PEs} (hx : SndEs T xs) : SndE T (.cell xs) := by
  intro c e h a gk ok ck Γ Q X α P s E hw S hE
  replace h := invE_cell h
  obtain ⟨_, _, rfl, h⟩ := h
  · simp only [Mc] at hw
    refine List_ (wpAny_mono (hx c _ h a gk ok ck _ _ _ _ _ _ _ _ hw S hE) (fun vs s₁ h₁ => ?_) fun _ _ e => e)
    obtain ⟨rs, Γ₁, α₁, P₁, hw, S₁, p₁, q₁, t⟩ := h₁
    obtain ⟨ds, td, ⟨hb, hq⟩, rfl⟩ := allD_is t hw
    have S₂ := S₁.pushOwn ok (n := 0) (tk := s₁.toks) td
    refine wpAny_newList ⟨.c Γ₁.σ.length, _, _, _, hq, S₂, p₁.trans (List.prefix_append _ _), q₁, s₁.heap.objs.size, ?_, rfl⟩ (sizes (by rw [td.length]; exact hb))
    rw [← S₁.len]; simp

theorem foldl_replicate (items : Array Value) : ∀ (n : Nat) (acc : Array Value), List.foldl (fun x1 x2 => x1 ++ x2) acc (List.replicate n items) = acc ++ (List.replicate n items.toList).flatten.toArray
  | 0, acc => by simp
  | n + 1, acc => by
    rw [List.replicate_succ, List.foldl_cons, foldl_replicate items n, List.replicate_succ, List.flatten_cons]
    apply Array.ext'
    simp
theorem flatten_one {β : Type} (v : β) : ∀ n : Nat, (List.replicate n [v]).flatten = List.replicate n v
  | 0 => rfl
  | n + 1 => by rw [List.replicate_succ, List.flatten_cons, flatten_one v n, List.replicate_succ]; rfl

/-- [x] * n. -/
theorem rep_ok {x n : PE} (hx : SndE T x) (hn : SndE T n) {c : Cfg} {e n' : Expr} {lp pos : Pos} (h1 : nst e = true) (h2 : chkE x c e = true) (h3 : chkE n c n' = true) (gk : GlOk a.G) (ok : ActOk a) (ck : CkOk T a c) {X : Prop} {k : D → Int → Fs → Prop}
    (hw : wE T x Γ (fun r Γ₁ => onD r fun d => wE T n Γ₁ (fun rn Γ₂ => onI rn fun i => (-2 ^ 62 ≤ i ∧ i ≤ 2 ^ 20) ∧ k d i Γ₂) X) X) (S : St a Γ α P s) (hE : ExOk a E X) {Q : Value → Shared → Prop}
    (hQ : ∀ d i Γ₂ α₂ P₂ s₂ v h', k d i Γ₂ → St a Γ₂ α₂ P₂ { s₂ with heap := h' } → α <+: α₂ → (∀ b o, P b = some o → P₂ b = some o) → TellsAll a.G.fv P₂ (List.replicate i.toNat v) (List.replicate i.toNat d) →
      St a Γ₂ α₂ P₂ s₂ → h'.get? s₂.heap.objs.size = some { cls := .type "list", data := .seq (List.replicate i.toNat v).toArray } →
      Q (.ref s₂.heap.objs.size) { s₂ with heap := h' }) :
    wpAny (model a.G.prog a.G.w) a.A (eval (.BinOp (.List [e] lp) .Mult n' pos) a.env) Q E s := by
  refine wpAny_BinOp (List_ ?_)
  rw [starEach_nst h1, backTo_plain]
  refine Calls.spliced_cons (wpAny_mono (hx c _ h2 a gk ok ck _ _ _ _ _ _ _ hw S hE) (fun v s₁ h₁ => Calls.spliced_nil ?_) fun _ _ e => e)
  obtain ⟨r, Γ₁, α₁, P₁, hw, S₁, p₁, q₁, t⟩ := h₁
  obtain ⟨d, td, hw⟩ := onD_is t hw
  have out := S₁.out fresh_none
  have keep := Part.add_keep (o := ({ cls := .type "list", data := .seq #[v] } : Obj)) out.2.1
  have S₂ := S₁.pushPart ok (o := { cls := .type "list", data := .seq #[v] }) (tk := s₁.toks) rfl
  refine wpAny_newList ?_ (by simp only [List.length_cons, List.length_nil]; decide)
  refine wpAny_mono (hn c _ h3 a gk ok ck _ _ _ _ _ _ _ hw S₂ hE) (fun u s₃ h₃ => ?_) fun _ _ e => e
  obtain ⟨r', Γ₃, α₃, P₃, hw, S₃, p₃, q₃, t'⟩ := h₃
  obtain ⟨i, ti, rfl, hi, hk⟩ := onI_is t' hw
  have hl : s₃.heap.get? s₁.heap.objs.size = some { cls := .type "list", data := .seq #[v] } := S₃.part _ _ (q₃ _ _ Part.add_self)
  have td₃ : Tells a.G.fv P₃ v d := (td.mono keep).mono q₃
  obtain ⟨m, hn, hv⟩ := S₃.ns
  refine mul_list (fr_of hn) news_of hl (by omega) (by omega) (by simp only [List.size_toArray, List.length_cons, List.length_nil]; have : (2 : Nat) ^ 20 ≤ sizeLine := by decide
                                                                  lia) fun h' F N => ?_
  have e : (List.foldl (fun x1 x2 => x1 ++ x2) #[] (List.replicate (if (#[v] : Array Value).isEmpty = true then 0 else i.toNat) #[v])) = (List.replicate i.toNat v).toArray := by
    rw [foldl_replicate]; simp [flatten_one]
  rw [e] at N
  exact hQ d i Γ₃ α₃ P₃ s₃ v h' hk (S₃.ledger0 ok (tk := s₃.toks) hn F N) (p₁.trans p₃) (fun b o e => q₃ b o (keep b o (q₁ b o e))) (TellsAll.rep td₃ _) S₃ (N _ (.head _)).1

theorem snd_rep {x n : PE} (hx : SndE T x) (hn : SndE T n) : SndE T (.rep x n) := by
  intro c e h a gk ok ck Γ Q X α P s E hw S hE
  replace h := invE_rep h
  obtain ⟨_, _, _, _, rfl, h⟩ := h
  · simp only [Bool.and_eq_true] at h
    simp only [Md] at hw
    refine rep_ok hx hn h.1.1 h.1.2 h.2 gk ok ck hw S hE fun d i Γ₂ α₂ P₂ s₂ v h' hk S₂ pa pp tt S₀ hg => ?_
    have out := S₀.out fresh_none
    have keep := Part.add_keep (o := ({ cls := .type "list", data := .seq (List.replicate i.toNat v).toArray } : Obj)) out.2.1
    exact ⟨_, _, _, _, hk, S₂.addPart hg out.2.1 out.1 (S₀.fresh_muts ok fresh_none) (fun k l _ hk => out.2.2.2.2.1 (List.mem_of_getElem? hk)), pa, fun b o e => keep b o (pp b o e), Tells.list (n := 0) Part.add_self rfl rfl (tt.mono keep)⟩
theorem snd_repc {x n : PE} (hx : SndE T x) (hn : SndE T n) : SndE T (.repc x n) := by
  intro c e h a gk ok ck Γ Q X α P s E hw S hE
  replace h := invE_repc h
  obtain ⟨_, _, _, _, rfl, h⟩ := h
  · simp only [Bool.and_eq_true] at h
    simp only [Me] at hw
    refine rep_ok hx hn h.1.1 h.1.2 h.2 gk ok ck (k := fun d i Γ₂ => Q (.c Γ₂.σ.length) (Γ₂.own (List.replicate i.toNat d))) hw S hE fun d i Γ₂ α₂ P₂ s₂ v h' hk S₂ pa pp tt S₀ hg => ?_
    have out := S₀.out fresh_none
    refine ⟨_, _, _, _, hk, S₂.addOwn tt ⟨0, hg⟩ out.1 out.2.1 out.2.2.1 out.2.2.2.2.1 (S₀.fresh_muts ok fresh_none), pa.trans (List.prefix_append _ _), pp, s₂.heap.objs.size, ?_, rfl⟩
    rw [← S₀.len]; simp

theorem snd_addc {x y : PE} (hx : SndE T x) (hy : SndE T y) : SndE T (.addc x y) := by
  intro c e h a gk ok ck Γ Q X α P s E hw S hE
  replace h := invE_addc h
  obtain ⟨_, _, _, rfl, h⟩ := h
  · simp only [Bool.and_eq_true] at h
    simp only [Mf] at hw
    refine wpAny_BinOp (wpAny_mono (hx c _ h.1 a gk ok ck _ _ _ _ _ _ _ hw S hE) (fun u s₁ h₁ => ?_) fun _ _ e => e)
    obtain ⟨r, Γ₁, α₁, P₁, hw, S₁, p₁, q₁, t⟩ := h₁
    refine wpAny_mono (hy c _ h.2 a gk ok ck _ _ _ _ _ _ _ hw S₁ hE) (fun v s₂ h₂ => ?_) fun _ _ e => e
    obtain ⟨r', Γ₂, α₂, P₂, hw, S₂, p₂, q₂, t'⟩ := h₂
    obtain ⟨b, vs, l, rfl, hl, tl, hw⟩ := onL_is S₂ (t.mono q₂ p₂) hw
    obtain ⟨b', ws, m, rfl, hm, tm, hb, hq⟩ := onL_is S₂ t' hw
    obtain ⟨mm, hn, hv⟩ := S₂.ns
    have e1 := tl.length
    have e2 := tm.length
    have e3 : (2 : Nat) ^ 20 ≤ sizeLine := by decide
    refine add_arrays (fr_of hn) news_of hl hm (fun h' F N => ?_) (by simp only [List.size_toArray]; lia)
    have S₃ := S₂.ledger0 ok (tk := s₂.toks) hn F N
    have out := S₂.out fresh_none
    refine ⟨.c Γ₂.σ.length, _, _, _, hq, S₃.addOwn (tl.append tm) ⟨0, ?_⟩ out.1 out.2.1 out.2.2.1 out.2.2.2.2.1 (S₂.fresh_muts ok fresh_none), (p₁.trans p₂).trans (List.prefix_append _ _), fun b o e => q₂ b o (q₁ b o e), s₂.heap.objs.size, ?_, rfl⟩
    · have := (N _ (.head _)).1
      simpa using this
    · rw [← S₂.len]; simp

theorem snd_bitlen {x : PE} (hx : SndE T x) : SndE T (.bitlen x) := by
  intro c e h a gk ok ck Γ Q X α P s E hw S hE
  replace h := invE_bitlen h
  obtain ⟨_, _, _, _, rfl, h⟩ := h
  · rename_i x' n ap p
    simp only [Bool.and_eq_true, beq_iff_eq] at h
    simp only [Ku] at hw
    obtain ⟨⟨⟨rfl, hp⟩, hnc⟩, hx'⟩ := h
    refine wpAny_Call_method_lateS (by cases x' <;> first | rfl | cases hnc) rfl (by rw [hp]; exact beq_self_eq_true _) (wpAny_mono (hx c _ hx' a gk ok ck _ _ _ _ _ _ _ hw S hE) (fun v s₁ h₁ => ?_) fun _ _ e => e)
    obtain ⟨r, Γ₁, α₁, P₁, hw, S₁, p₁, q₁, t⟩ := h₁
    obtain ⟨x, tx, rfl, hw⟩ := onI_is t hw
    exact ⟨"int", "int.bit_length", F.plainAttrs_int, PyProof.Rows.slot_int_bit_length, PyProof.Rows.type_int_bit_length, typeIs_int _ _ _, (fun _ e => nomatch e),
      Calls.callWith_builtin rfl (evalArgs_empty (call_int_bit_length ⟨_, _, _, _, hw, S₁.tok _, p₁, q₁, .int _ _⟩))⟩
end

end LM

namespace LM

section
variable {T : Nat → Option LM.Spec} {a : Act} {c : Cfg} {Γ : Fs} {α : List Addr} {P : Part} {s : Shared} {E : Value → Shared → Prop}

theorem mem_addrs {fr : List Env} {b : Addr} (h : b ∈ addrs fr) : ∃ e ∈ fr, e.frame = some b := by
  obtain ⟨e, he, hb⟩ := List.mem_filterMap.mp h
  exact ⟨e, he, hb⟩

/-- a frame's address: this one's, or one that K holds. -/
theorem ActOk.addr (ok : ActOk a) {b : Addr} (h : b ∈ addrs a.fr) : b = a.env.locals ∨ (b ∈ a.FA ∧ ∃ o es ep, a.K b = some o ∧ o.data = .dict es ep) := by
  obtain ⟨e, he, hb⟩ := mem_addrs h
  obtain ⟨_, L, hL, hh⟩ := ok.frs e he
  rw [hL] at hb; cases hb
  exact hh

theorem St.callOk (S : St a Γ α P s) (ok : ActOk a) {n : Nat} (hn : n ≤ a.lvl) : CallOk a.G a.A a.fr n s where
  handled := ok.handled
  frames := ok.frames
  depth := by have := ok.depth; (refine Nat.lt_of_not_le fun h => ?_; lia)
  units := by have := ok.units; (refine Nat.lt_of_not_le fun h => ?_; lia)
  top := S.top
  frs := fun e he => by
    obtain ⟨hk, L, hL, hh⟩ := ok.frs e he
    refine ⟨hk, ?_⟩
    rcases hh with rfl | ⟨hF, o, es, ep, ho, hd⟩
    · obtain ⟨m, ⟨o, es, ep, ho, hd, _⟩, _⟩ := S.ns
      exact ⟨_, o, es, ep, hL, (S.mfree _ ok.loc).2.2, ho, hd⟩
    · obtain ⟨sl, hs⟩ := (S.hold L o ho).2 hF
      exact ⟨L, _, es, ep, hL, (ok.fa L hF).2.1, hs, hd⟩

theorem St.pfr (S : St a Γ α P s) (ok : ActOk a) : ∀ b, b ∈ addrs a.fr → P b = none := fun b hb => by
  rcases ok.addr hb with rfl | ⟨hF, o, _, _, ho, _⟩
  · exact (S.mfree _ ok.loc).2.1
  · cases e : P b with
    | none => rfl
    | some q =>
      rcases S.grow b (by rw [e]; simp) with h | h
      · exact (h (ok.fa b hF).2.2.1).elim
      · exact ((ok.fa b hF).2.2.2 h).elim

/-- an object of a frame is a dict. -/
theorem St.frDict (S : St a Γ α P s) (ok : ActOk a) {b : Addr} (hb : b ∈ addrs a.fr) : Ex3 (fun o es ep => s.heap.get? b = some o) (fun o es ep => o.data = .dict es ep) := by
  rcases ok.addr hb with rfl | ⟨hF, o, es, ep, ho, hd⟩
  · obtain ⟨m, ⟨o, es, ep, ho, hd, _⟩, _⟩ := S.ns
    exact ⟨o, es, ep, ho, hd⟩
  · obtain ⟨sl, hs⟩ := (S.hold b o ho).2 hF
    exact ⟨_, es, ep, hs, hd⟩

/-- behind a call. -/
theorem St.after (S : St a Γ α P s) (ok : ActOk a) {W : Option Addr} {P' : Part} {s' : Shared} {Γ' : Fs} (hr : SameRest s s') {nw : List Addr} (hnw : ∀ b, b ∈ nw → a.K b = none ∧ P b = none ∧ a.G.hT.get? b = none ∧ b ≠ a.env.locals ∧ b ∉ α ∧ ∀ x, a.env.cells.lookup x ≠ some b)
    (hk : ∀ b o, some b ≠ W → b ∉ nw → s.heap.get? b = some o → (b ∉ addrs a.fr → s'.heap.get? b = some o) ∧ (b ∈ addrs a.fr → ∃ sl, s'.heap.get? b = some { o with slots := sl })) (hP : ∀ b o, P b = some o → P' b = some o)
    (hp : ∀ b o, P' b = some o → s'.heap.get? b = some o) (hg : ∀ b, P' b ≠ none → P b ≠ none ∨ s.heap.get? b = none)
    (hc : (W = none ∧ Γ' = Γ) ∨ Ex4 (fun k b l l' => W = some b) (fun k b l l' => Al4 (α[k]? = some b) (Γ.σ[k]? = some (some l)) (Γ' = Γ.setσ k l') (Ex1 (fun ws => s'.heap.PlainList b ws.toArray) (fun ws => TellsAll a.G.fv P' ws l')))) : St a Γ' α P' s' := by
  have hρ : Γ'.ρ = Γ.ρ := by
    rcases hc with ⟨_, rfl⟩ | ⟨k, b, l, l', _, _, _, rfl, _⟩ <;> rfl
  have hW : ∀ b, some b = W → a.K b = none ∧ P b = none ∧ a.G.hT.get? b = none ∧ b ∈ α ∧ ∃ o vs n, s.heap.get? b = some o ∧ o.data = .seq vs n := fun b e => by
    rcases hc with ⟨h, _⟩ | ⟨k, b', l, l', h, hb, hl, _, _⟩
    · rw [h] at e; cases e
    · rw [h] at e; cases e
      obtain ⟨f1, f2, f3⟩ := S.afree k l b hl hb
      obtain ⟨b', vs, hb', ⟨n, hp⟩, _⟩ := S.own k l hl
      rw [hb] at hb'; cases hb'
      exact ⟨f1, f2, f3, List.mem_of_getElem? hb, _, _, _, hp, rfl⟩
  -- an object that is no frame stands
  have stay : ∀ b o, s.heap.get? b = some o → some b ≠ W → b ∉ nw → b ∉ addrs a.fr → s'.heap.get? b = some o := fun b o e hw hn hf => (hk b o hw hn e).1 hf
  have stayT : ∀ b o, s.heap.get? b = some o → (∃ vs n, o.data = .seq vs n) → some b ≠ W → b ∉ nw → s'.heap.get? b = some o := fun b o e ⟨vs, n, hd⟩ hw hn => by
    refine stay b o e hw hn fun hf => ?_
    obtain ⟨o', es, ep, ho', hd'⟩ := S.frDict ok hf
    rw [e] at ho'; cases ho'; rw [hd] at hd'; cases hd'
  have slots : ∀ b o, s.heap.get? b = some o → some b ≠ W → b ∉ nw → ∃ sl, s'.heap.get? b = some { o with slots := sl } := fun b o e hw hn => by
    by_cases hf : b ∈ addrs a.fr
    · exact (hk b o hw hn e).2 hf
    · exact ⟨o.slots, by rw [(hk b o hw hn e).1 hf]⟩
  have hcell : ∀ x d w, a.env.cells.lookup x = some d → s.heap.IsCell d w → s'.heap.IsCell d w := fun x d w hd ⟨o, ho, hdd⟩ => by
    have hw : some d ≠ W := fun e => by
      obtain ⟨_, _, _, _, o', vs, n, ho', hd'⟩ := hW d e
      rw [ho] at ho'; cases ho'; rw [hdd] at hd'; cases hd'
    obtain ⟨sl, h⟩ := slots d o ho hw fun hm => (hnw d hm).2.2.2.2.2 x hd
    exact ⟨_, h, hdd⟩
  refine ⟨⟨hr.1.trans S.rest.1, hr.2.1.trans S.rest.2.1, hr.2.2.trans S.rest.2.2⟩, fun b o e => ?_, fun b o e => ?_, hp, fun b o e => hP b o (S.ext b o e), fun b e => ?_, ?_, fun x d hd => ?_, ?_, ?_, ?_, S.nd, S.apart, fun b hb => ?_, fun b hb => ?_, ?_, S.akf⟩
  · refine stay b o (S.top b o e) (fun q => by rw [(hW b q).2.2.1] at e; cases e) (fun q => by rw [(hnw b q).2.2.1] at e; cases e) fun hf => ?_
    rcases ok.addr hf with rfl | ⟨hF, _⟩
    · rw [(S.mfree _ ok.loc).2.2] at e; cases e
    · rw [(ok.fa b hF).2.1] at e; cases e
  · have hw : some b ≠ W := fun q => by rw [(hW b q).1] at e; cases e
    have hn : b ∉ nw := fun q => by rw [(hnw b q).1] at e; cases e
    refine ⟨fun hf => ?_, fun hf => ?_⟩
    · refine stay b o ((S.hold b o e).1 hf) hw hn fun hx => ?_
      rcases ok.addr hx with rfl | ⟨hF, _⟩
      · rw [(S.mfree _ ok.loc).1] at e; cases e
      · exact hf hF
    · obtain ⟨sl, hs⟩ := (S.hold b o e).2 hf
      obtain ⟨sl', hs'⟩ := slots b _ hs hw hn
      exact ⟨sl', hs'⟩
  · rcases hg b e with h | h
    · exact S.grow b h
    · exact .inr (S.out h).1
  · obtain ⟨m, ⟨o, es, ep, ho, hd, hk'⟩, hv⟩ := S.ns
    obtain ⟨sl, hs⟩ := slots _ o ho (fun e => by
      obtain ⟨_, _, _, hα, _⟩ := hW _ e
      exact S.apart _ hα ok.loc) fun q => (hnw _ q).2.2.2.1 rfl
    refine ⟨m, ⟨_, es, ep, hs, hd, hk'⟩, fun i x r hx hr' hl => ?_⟩
    rw [hρ] at hr'
    obtain ⟨v, h1, h2⟩ := hv i x r hx hr' hl
    exact ⟨v, h1, h2.mono hP (List.prefix_refl _)⟩
  · obtain ⟨w, h⟩ := S.cell x d hd
    exact ⟨w, hcell x d w hd h⟩
  · intro i x r hx hr' hl
    rw [hρ] at hr'
    obtain ⟨d, v, h1, h2, h3⟩ := S.cells i x r hx hr' hl
    exact ⟨d, v, h1, hcell x d _ h1 h2, h3.mono hP (List.prefix_refl _)⟩
  · intro j l hj
    rcases hc with ⟨rfl, rfl⟩ | ⟨k, b, l₀, l', rfl, hb, hl, rfl, ws, hpl, tt⟩
    · obtain ⟨d, ws, h1, ⟨n, h2⟩, h3⟩ := S.own j l hj
      exact ⟨d, ws, h1, ⟨n, stayT _ _ h2 ⟨_, _, rfl⟩ (fun e => nomatch e) fun q => (hnw _ q).2.2.2.2.1 (List.mem_of_getElem? h1)⟩, h3.mono hP⟩
    · have hj' : (Γ.σ.set k (some l'))[j]? = some (some l) := hj
      by_cases q : k = j
      · subst q
        rw [List.getElem?_set_self (List.getElem?_eq_some_iff.mp hl).1] at hj'
        cases hj'
        exact ⟨b, ws, hb, hpl, tt⟩
      · rw [List.getElem?_set_ne q] at hj'
        obtain ⟨d, us, h1, ⟨n, h2⟩, h3⟩ := S.own j l hj'
        exact ⟨d, us, h1, ⟨n, stayT _ _ h2 ⟨_, _, rfl⟩ (fun e => q (nodup_addr S.nd hb (by cases e; exact h1))) fun q => (hnw _ q).2.2.2.2.1 (List.mem_of_getElem? h1)⟩, h3.mono hP⟩
  · rcases hc with ⟨_, rfl⟩ | ⟨k, b, l, l', _, _, _, rfl, _⟩
    · exact S.len
    · show α.length = (Γ.σ.set k (some l')).length
      rw [List.length_set, S.len]
  · obtain ⟨o, ho⟩ := S.there b hb
    by_cases q : some b = W
    · rcases hc with ⟨rfl, _⟩ | ⟨k, b', l, l', rfl, _, _, _, ws, ⟨n, h⟩, _⟩
      · cases q
      · cases q; exact ⟨_, h⟩
    · obtain ⟨sl, h⟩ := slots b o ho q fun q => (hnw b q).2.2.2.2.1 hb
      exact ⟨_, h⟩
  · obtain ⟨h1, h2, h3⟩ := S.mfree b hb
    refine ⟨h1, ?_, h3⟩
    cases e : P' b with
    | none => rfl
    | some q =>
      rcases hg b (by rw [e]; simp) with h | h
      · exact (h h2).elim
      · exact (S.fresh_muts ok h hb).elim
  · intro j l b hj hb
    have hσ : ∃ l₀, Γ.σ[j]? = some (some l₀) := by
      rcases hc with ⟨_, rfl⟩ | ⟨k, b', l₀, l', _, _, hl, rfl, _⟩
      · exact ⟨l, hj⟩
      · have hj' : (Γ.σ.set k (some l'))[j]? = some (some l) := hj
        by_cases q : k = j
        · subst q; exact ⟨l₀, hl⟩
        · rw [List.getElem?_set_ne q] at hj'; exact ⟨l, hj'⟩
    obtain ⟨l₀, hl₀⟩ := hσ
    obtain ⟨h1, h2, h3⟩ := S.afree j l₀ b hl₀ hb
    refine ⟨h1, ?_, h3⟩
    cases e : P' b with
    | none => rfl
    | some q =>
      rcases hg b (by rw [e]; simp) with h | h
      · exact (h h2).elim
      · obtain ⟨o, ho⟩ := S.there b (List.mem_of_getElem? hb)
        rw [ho] at h; cases h

/-- a function of the table, called with plain data. -/
theorem call_ok (ok : ActOk a) (ck : CkOk T a c) (S : St a Γ α P s) {f : Nat} {vs : List Value} {ds : List D} {Q : Rv → Fs → Prop} {X : Prop} (t : TellsAll a.G.fv P vs ds) (hE : ExOk a E X)
    (h : useSpec (T f) ds none fun r _ => match r with | some d => Q (.d d) Γ | none => X) :
    wpAny (model a.G.prog a.G.w) a.A (call (a.G.fv f) vs) (Post a α P Q) E s := by
  unfold useSpec at h
  split at h
  · rename_i sp hsp
    obtain ⟨n, hn, C⟩ := ck.T f sp hsp
    refine C a.A a.fr s P ds vs vs none _ _ _ (S.callOk ok hn) S.part (S.pfr ok) t rfl h ?_ ?_
    · intro v d c' P' s' hq hr hk h1 h2 h3 h4 _
      exact ⟨.d d, Γ, α, P', hq, S.after ok hr (nw := []) (fun _ h => nomatch h) (fun b o hw _ e => hk b o hw e) h1 h2 h3 (.inl ⟨rfl, rfl⟩), List.prefix_refl _, h1, h4⟩
    · intro e s' hx _ hr hR
      obtain ⟨_, hx⟩ := hx
      exact hE.on hx s s' e ⟨_, _, _, S⟩ hr hR
  · exact h.elim

/-- arguments: at least one. -/
theorem args_ok {M : Model} {A : Around} {x : Expr} {r : List Expr} {env : Env} {pos : Pos} {f : Value} {Q : Args → Shared → Prop} (hx : nst x = true)
    (h : wpAny M A (spliced (backTo pos (starEach (x :: r) env))) (fun vs s' => Q ⟨vs, []⟩ s') E s) : wpAny M A (evalArgs f true (backTo pos (starEach (x :: r) env)) []) Q E s := by
  rw [starEach_nst hx, backTo_plain] at h ⊢
  exact Calls.evalArgs_plain h

theorem fcall_ok (gk : GlOk a.G) (ok : ActOk a) (ck : CkOk T a c) (S : St a Γ α P s) {f : Nat} {e₀ : PE} {es : PEs} (hes : SndEs T (.cons e₀ es)) {xs : List Expr} (hc : chkEs (.cons e₀ es) c xs = true) {Q : Rv → Fs → Prop} {X : Prop} (hE : ExOk a E X) {pos : Pos}
    (hw : wEs T (.cons e₀ es) Γ (fun rs Γ₁ => allD rs fun ds => useSpec (T f) ds none fun r _ => match r with | some d => Q (.d d) Γ₁ | none => X) X) :
    wpAny (model a.G.prog a.G.w) a.A (callWith pos (a.G.fv f) [] (backTo pos (starEach xs a.env)) []) (Post a α P Q) E s := by
  obtain ⟨b, o, fd, h1, h2, h3⟩ := gk.all f
  have h := hes c _ hc a gk ok ck _ _ _ _ _ _ _ pos hw S hE
  simp only [chkEs] at hc
  split at hc
  · rename_i x xs
    simp only [Bool.and_eq_true] at hc
    rw [h1]
    refine Calls.callWith_function (o := o) (fd := fd) (args_ok hc.1.1 (wpAny_mono h (fun vs s₁ h₁ => ?_) fun _ _ e => e))
    obtain ⟨rs, Γ₁, α₁, P₁, hw, S₁, p₁, q₁, t⟩ := h₁
    obtain ⟨ds, td, hq, rfl⟩ := allD_is t hw
    refine ⟨⟨S₁.top _ _ h2, h3⟩, ?_⟩
    have := call_ok ok ck S₁ td hE hq
    rw [h1] at this
    exact wpAny_mono this (fun v s₂ h₂ => h₂.trans p₁ q₁) fun _ _ e => e
  · cases hc

theorem snd_call {f : Nat} {e₀ : PE} {es : PEs} (hes : SndEs T (.cons e₀ es)) : SndE T (.call f (.cons e₀ es)) := by
  intro c e h a gk ok ck Γ Q X α P s E hw S hE
  replace h := invE_call h
  obtain ⟨_, _, _, _, _, rfl, h⟩ := h
  · simp only [Bool.and_eq_true] at h
    simp only [Kv] at hw
    exact wpAny_Call_NameR (ld_fn gk ok ck S h.1 (fcall_ok gk ok ck S hes h.2 hE hw))
theorem snd_callv {i : Nat} {e₀ : PE} {es : PEs} (hes : SndEs T (.cons e₀ es)) : SndE T (.callv i (.cons e₀ es)) := by
  intro c e h a gk ok ck Γ Q X α P s E hw S hE
  replace h := invE_callv h
  obtain ⟨_, _, _, _, _, rfl, h⟩ := h
  · simp only [Bool.and_eq_true] at h
    simp only [Kw] at hw
    split at hw
    · rename_i f hr
      refine wpAny_Call_NameR (ld_slot ok ck S h.1 hr fun v t => ?_)
      rw [tells_fn t]
      exact fcall_ok gk ok ck S hes h.2 hE hw
    · exact hw.elim

theorem snd_callio {f i : Nat} {es : PEs} (hes : SndEs T es) : SndE T (.callio f i es) := by
  intro c e h a gk ok ck Γ Q X α P s E hw S hE
  replace h := invE_callio h
  obtain ⟨_, _, _, _, _, _, rfl, h⟩ := h
  · rename_i n np y yp xs pos
    simp only [Bool.and_eq_true] at h
    simp only [Kx] at hw
    split at hw
    · rename_i k hr
      obtain ⟨b, o, fd, h1, h2, h3⟩ := gk.all f
      refine wpAny_Call_NameR (ld_fn gk ok ck S h.1.1 ?_)
      rw [h1]
      refine Calls.callWith_function (o := o) (fd := fd) (args_ok rfl ?_)
      rw [starEach_nst rfl, backTo_plain]
      refine Calls.spliced_cons (ld_slot ok ck S h.1.2 hr fun v t => ?_)
      refine wpAny_mono (hes c _ h.2 a gk ok ck _ _ _ _ _ _ _ pos hw S hE) (fun vs s₁ h₁ => ?_) fun _ _ e => e
      obtain ⟨rs, Γ₁, α₁, P₁, hw, S₁, p₁, q₁, tt⟩ := h₁
      obtain ⟨ds, td, hq, rfl⟩ := allD_is tt hw
      refine ⟨⟨S₁.top _ _ h2, h3⟩, ?_⟩
      obtain ⟨l, hlk, rfl⟩ := RTells.mono q₁ p₁ t
      split at hq
      · rename_i l₀ hl₀
        unfold useSpec at hq
        split at hq
        · rename_i sp hsp
          obtain ⟨m, hm, C⟩ := ck.T f sp hsp
          obtain ⟨b', ws, hb', hpl, tl⟩ := S₁.own k l₀ hl₀
          rw [hlk] at hb'; cases hb'
          obtain ⟨f1, f2, f3⟩ := S₁.afree k l₀ l hl₀ hlk
          have hnf : l ∉ addrs a.fr := fun hf => by
            obtain ⟨o', es', ep, ho', hd'⟩ := S₁.frDict ok hf
            obtain ⟨n', hpl⟩ := hpl
            rw [hpl] at ho'; cases ho'; cases hd'
          rw [← h1]
          refine C a.A a.fr s₁ P₁ ds vs (.ref l :: vs) (some (l, l₀)) _ _ _ (S₁.callOk ok hm) S₁.part (S₁.pfr ok) td ⟨rfl, f2, f3, hnf, ws, hpl, tl⟩ hq ?_ ?_
          · intro v d c' P' s' hq hr hk h1 h2 h3 h4 h5
            cases c' with
            | none => exact hq.elim
            | some l' =>
              obtain ⟨us, hpu, tu⟩ := h5
              exact ⟨.d d, Γ₁.setσ k l', α₁, P', hq, S₁.after ok hr (nw := []) (fun _ h => nomatch h) (fun b o hw _ e => hk b o hw e) h1 h2 h3 (.inr ⟨k, l, l₀, l', rfl, hlk, hl₀, rfl, us, hpu, tu⟩), p₁, fun b o e => h1 b o (q₁ b o e), h4⟩
          · intro e s' _ hx
            cases hx
        · exact hq.elim
      · exact hq.elim
    · exact hw.elim
end

end LM

namespace LM

noncomputable def tgtIs (tg : Tgt) (te : Expr) : Prop := match tg with
  | .one _ => ∃ x p, te = .Name x p
  | _ => ∃ es k p, te = .Tuple es k p
theorem chkT_is {c : Cfg} {tg : Tgt} {te : Expr} (h : chkT c tg te = true) : tgtIs tg te := by
  cases tg with
  | one i => obtain ⟨_, _, rfl, _⟩ := invT_one h; exact ⟨_, _, rfl⟩
  | two i j => obtain ⟨_, _, _, _, _, _, rfl, _⟩ := invT_two h; exact ⟨_, _, _, rfl⟩
  | nest i j k => obtain ⟨_, _, _, _, _, _, _, _, _, _, rfl, _⟩ := invT_nest h; exact ⟨_, _, _, rfl⟩
theorem tgtIs.any {tg : Tgt} {te : Expr} (h : tgtIs tg te) : (∃ x p, te = .Name x p) ∨ ∃ es k p, te = .Tuple es k p := by
  cases tg <;> first | exact .inl h | exact .inr h
theorem tgtIs.tup {tg : Tgt} {te : Expr} (h : tgtIs tg te) (h1 : ∀ i, tg ≠ .one i) : ∃ es k p, te = .Tuple es k p := by
  cases tg <;> first | exact h | exact absurd rfl (h1 _)

noncomputable def Item (fv : Nat → Value) (P₁ : Part) (h h' : Heap) (v : Value) (d : D) : Prop :=
  Tells fv P₁ v d ∨ Ex5 (fun t o vs n l => v = .ref t) (fun t o vs n l => Al6 (d = .tup l) (h.get? t = none) (h'.get? t = some o) (o.cls = .type "tuple") (o.data = .seq vs.toArray n) (TellsAll fv P₁ vs l))

structure Feed (a : Act) (te : Expr) (it : Value) (ds : List D) (P₁ : Part) (nw : List Addr) (J : Nat → Heap → Prop) : Prop where
  frame : ∀ i h h', J i h → (∀ b o, (b ∈ nw ∨ P₁ b ≠ none) → h.get? b = some o → h'.get? b = some o) → J i h'
  there : ∀ i h, J i h → ∀ b, b ∈ nw → ∃ o, h.get? b = some o
  item : ∀ i d (s : Shared) (Q : Value → Shared → Prop) (E E' : Value → Shared → Prop), ds[i]? = some d → J i s.heap →
    (∀ v h' tk, J (i + 1) h' → (∀ b o, b ∉ nw → s.heap.get? b = some o → h'.get? b = some o) → Item a.G.fv P₁ s.heap h' v d → Q v { s with heap := h', toks := tk }) →
    wpAny (model a.G.prog a.G.w) a.A (pyNext it) (fun r s₁ => match r with | none => False | some v => wpAny (model a.G.prog a.G.w) a.A (letOwnedTupleGo te it v) (fun _ s₂ => Q v s₂) E' s₁) E s
  done : ∀ (s : Shared) (Q : Option Value → Shared → Prop) (E : Value → Shared → Prop), J ds.length s.heap →
    (∀ h' tk, (∀ b o, b ∉ nw → s.heap.get? b = some o → h'.get? b = some o) → Q none { s with heap := h', toks := tk }) → wpAny (model a.G.prog a.G.w) a.A (pyNext it) Q E s
  self : ∀ i (s : Shared) (Q : Value → Shared → Prop) (E : Value → Shared → Prop), J i s.heap → Q it s → wpAny (model a.G.prog a.G.w) a.A (pyIter it) Q E s

section
variable {T : Nat → Option LM.Spec} {a : Act} {c : Cfg} {Γ : Fs} {α : List Addr} {P : Part} {s : Shared} {E : Value → Shared → Prop}

theorem letgo_list {te : Expr} {I l : Addr} {i : Nat} {v : Value} {Q : Unit → Shared → Prop} (ht : (∃ x p, te = .Name x p) ∨ ∃ es k p, te = .Tuple es k p) (hi : s.heap.IsListIter I l i) (h : Q () s) :
    wpAny (model a.G.prog a.G.w) a.A (letOwnedTupleGo te (.ref I) v) Q E s := by
  rcases ht with ⟨x, p, rfl⟩ | ⟨es, k, p, rfl⟩
  · exact wpAny_pure h
  · cases v with
    | ref t => exact wpAny_letOwnedTupleGo_listiter hi h
    | _ => exact wpAny_pure h
theorem letgo_val {te : Expr} {it : Value} {i : Int} {t : Tok} {Q : Unit → Shared → Prop} (ht : (∃ x p, te = .Name x p) ∨ ∃ es k p, te = .Tuple es k p) (h : Q () s) :
    wpAny (model a.G.prog a.G.w) a.A (letOwnedTupleGo te it (.int i t)) Q E s := by
  rcases ht with ⟨x, p, rfl⟩ | ⟨es, k, p, rfl⟩
  · exact wpAny_pure h
  · cases it <;> exact wpAny_pure h

theorem feed_list (hh : a.A.handled = none) {te : Expr} {I b : Addr} {vs : List Value} {l : List D} {P₁ : Part} (ht : (∃ x p, te = .Name x p) ∨ ∃ es k p, te = .Tuple es k p) (hne : b ≠ I) (hb : P₁ b ≠ none) (t : TellsAll a.G.fv P₁ vs l) :
    Feed a te (.ref I) l P₁ [I] (fun i h => h.IsListIter I b i ∧ h.IsList b vs.toArray) := by
  have W := Walks.list (prog := a.G.prog) (w := a.G.w) (A := a.A) hh I b hne vs.toArray
  have el := t.length
  refine ⟨fun i h h' st hk => ⟨st.1.at fun o e => hk I o (.inl (by simp)) e, st.2.at fun o e => hk b o (.inr hb) e⟩, fun i h st c hc => ?_, fun i d s Q E E' hd st hQ => ?_, fun s Q E st hQ => ?_, fun i s Q E st h => W.self i s Q E st h⟩
  · simp at hc; subst hc
    obtain ⟨o, ho, _⟩ := st.1
    exact ⟨o, ho⟩
  · obtain ⟨v, hv, tv⟩ := t.get hd
    have hlt : i < vs.toArray.size := by simpa using (List.getElem?_eq_some_iff.mp hv).1
    refine W.item i s _ E hlt st fun v' h' tk hv' st' hk => ?_
    have hv' : vs.toArray[i]? = some v' := hv'
    have : v' = v := by
      have e : vs.toArray[i]? = some v := by simpa using hv
      rw [e] at hv'; exact (Option.some.inj hv').symm
    subst this
    exact letgo_list ht st'.1 (hQ v' h' tk st' hk (.inl tv))
  · exact W.done s Q E (by simpa [el] using st) hQ

theorem feed_range (hh : a.A.handled = none) {te : Expr} {I : Addr} {x z : Int} {n : Nat} {P₁ : Part} (ht : (∃ x p, te = .Name x p) ∨ ∃ es k p, te = .Tuple es k p) :
    Feed a te (.ref I) (rangeD x z n) P₁ [I] (fun i h => IsRangeIter h I (x + (i : Nat) * z) ((n : Int) - (i : Nat)) z) := by
  have W := Walks.range (prog := a.G.prog) (w := a.G.w) (A := a.A) hh I x z n
  have el : (rangeD x z n).length = n := by simp [rangeD]
  refine ⟨fun i h h' st hk => hk I _ (.inl (by simp)) st, fun i h st c hc => ?_, fun i d s Q E E' hd st hQ => ?_, fun s Q E st hQ => ?_, fun i s Q E st h => W.self i s Q E st h⟩
  · simp at hc; subst hc; exact ⟨_, st⟩
  · have hlt : i < n := by have := (List.getElem?_eq_some_iff.mp hd).1; rw [el] at this; exact this
    have e : d = .int (x + (i : Int) * z) := by
      unfold rangeD at hd
      rw [List.getElem?_map, List.getElem?_range hlt] at hd
      exact (Option.some.inj hd).symm
    subst e
    refine W.item i s _ E hlt st fun v' h' tk hv' st' hk => ?_
    obtain ⟨t, rfl⟩ := hv'
    exact letgo_val ht (hQ _ h' tk st' hk (.inl (.int _ _)))
  · exact W.done s Q E (by simpa [el] using st) hQ

theorem enumD_get : ∀ {l : List D} {n i : Nat} {d : D}, (enumD n l)[i]? = some d → Ex1 (fun x => l[i]? = some x) (fun x => d = .tup [.int ((n + i : Nat) : Int), x])
  | [], n, i, d, h => by simp [enumD] at h
  | x :: l, n, 0, d, h => by simp [enumD] at h; exact ⟨x, rfl, h.symm⟩
  | x :: l, n, i + 1, d, h => by
    have h : (enumD (n + 1) l)[i]? = some d := by simpa [enumD] using h
    obtain ⟨y, h1, h2⟩ := enumD_get h
    exact ⟨y, by simpa using h1, by rw [h2]; simp; lia⟩
theorem enumD_length : ∀ {l : List D} {n : Nat}, (enumD n l).length = l.length
  | [], _ => rfl
  | x :: l, n => by simp [enumD, enumD_length (l := l)]
theorem zipD_get : ∀ {l m : List D} {i : Nat} {d : D}, (zipD l m)[i]? = some d → Ex2 (fun x y => l[i]? = some x) (fun x y => m[i]? = some y ∧ d = .tup [x, y])
  | [], _, i, d, h => by simp [zipD] at h
  | _ :: _, [], i, d, h => by simp [zipD] at h
  | x :: l, y :: m, 0, d, h => by simp [zipD] at h; exact ⟨x, y, rfl, rfl, h.symm⟩
  | x :: l, y :: m, i + 1, d, h => by
    obtain ⟨u, v, h1, h2, h3⟩ := zipD_get (l := l) (m := m) (i := i) (by simpa [zipD] using h)
    exact ⟨u, v, by simpa using h1, by simpa using h2, h3⟩
theorem zipD_length : ∀ {l m : List D}, (zipD l m).length = min l.length m.length
  | [], m => by simp [zipD]
  | x :: l, [] => by simp [zipD]
  | x :: l, y :: m => by simp [zipD, zipD_length (l := l) (m := m)]

theorem feed_walksT {te : Expr} {es : List Expr} {k : Nat} {p : Pos} (hte : te = .Tuple es k p) {I : Addr} {fp wr nw : List Addr} {n : Nat} {Pt : Nat → Array Value → Prop} {Sx : Nat → Heap → Prop} {Mid : Nat → Addr → Heap → Prop} {P₁ : Part} {ds : List D}
    (W : WalksT a.G.prog a.G.w a.A I fp wr n Pt Sx Mid) (hfp : ∀ b, b ∈ fp → b ∈ nw ∨ P₁ b ≠ none) (hwr : ∀ b, b ∈ wr → b ∈ nw) (hth : ∀ i h, Sx i h → ∀ b, b ∈ nw → ∃ o, h.get? b = some o) (hn : ds.length = n)
    (hi : ∀ i d vals, ds[i]? = some d → Pt i vals → ∃ l, d = .tup l ∧ TellsAll a.G.fv P₁ vals.toList l) : Feed a te (.ref I) ds P₁ nw Sx := by
  subst hte
  refine ⟨fun i h h' st hk => W.frame i h h' st fun b hb o e => hk b o (hfp b hb) e, hth, fun i d s Q E E' hd st hQ => ?_, fun s Q E st hQ => ?_, fun i s Q E st h => W.self i s Q E st h⟩
  · have hlt : i < n := by rw [← hn]; exact (List.getElem?_eq_some_iff.mp hd).1
    refine W.item i s _ E hlt st fun T vals h' tk hv hT hIT hm hk => ?_
    obtain ⟨l, rfl, tl⟩ := hi i d vals hd hv
    obtain ⟨o, ho, hc, m, hdt⟩ := hIT
    refine W.go es k p i T { s with heap := h', toks := tk } _ E' hm fun h₂ st₂ hk₂ => ?_
    refine hQ _ h₂ tk st₂ (fun b o hb e => hk₂ b o (fun q => hb (hwr b q)) (hk b o (fun q => hb (hwr b q)) e)) (.inr ⟨T, o, vals.toList, m, l, rfl, rfl, ?_, hk₂ T o (W.apart i T h' hm) ho, hc, by simpa using hdt, tl⟩)
    cases e : s.heap.get? T with
    | none => rfl
    | some o' => exact absurd (Heap.lt_size e) (Nat.not_lt.mpr hT)
  · exact W.done s Q E (by rw [← hn]; exact st) fun h' tk hk => hQ h' tk fun b o hb e => hk b o (fun q => hb (hwr b q)) e

/-- an address of no part. -/
noncomputable def Lone (a : Act) (α : List Addr) (P : Part) (b : Addr) : Prop := a.K b = none ∧ P b = none ∧ a.G.hT.get? b = none ∧ b ≠ a.env.locals ∧ b ∉ α ∧ ∀ x, a.env.cells.lookup x ≠ some b
theorem St.lone (S : St a Γ α P s) {b : Addr} (h : s.heap.get? b = none) : Lone a α P b := S.out h

/-- a source is fed. -/
noncomputable def Fed (a : Act) (te : Expr) (α : List Addr) (P : Part) (Q : List D → Fs → Prop) (it : Value) (s₂ : Shared) : Prop :=
  Ex6 (fun ds Γ' α' P' nw J => Q ds Γ') (fun ds Γ' α' P' nw J => Al6 (St a Γ' α' P' s₂) (α <+: α') ((∀ b o, P b = some o → P' b = some o)) (Feed a te it ds P' nw J) (J 0 s₂.heap) (∀ b, b ∈ nw → Lone a α' P' b))

noncomputable def SndI (T : Nat → Option LM.Spec) (pit : PIt) : Prop := ∀ c e, chkI pit c e = true → ∀ a, GlOk a.G → ActOk a → CkOk T a c → ∀ Γ Q X α P s E tg te, tgtIs tg te → itT pit tg = true → wI T pit Γ Q X → St a Γ α P s → ExOk a E X →
  wpAny (model a.G.prog a.G.w) a.A (eval e a.env) (fun x s₁ => wpAny (model a.G.prog a.G.w) a.A (pyIter x) (Fed a te α P Q) E s₁) E s

theorem fresh_of_size {h : Heap} {b : Addr} (hb : h.objs.size ≤ b) : h.get? b = none := by
  cases e : h.get? b with
  | none => rfl
  | some o => exact absurd (Heap.lt_size e) (Nat.not_lt.mpr hb)

/-- a list that P holds. -/
theorem Tells.listIn {fv : Nat → Value} {P : Part} {v : Value} {l : List D} (t : Tells fv P v (.list l)) : Ex4 (fun b o vs n => v = .ref b) (fun b o vs n => Al4 (P b = some o) (o.cls = .type "list") (o.data = .seq vs.toArray n) (TellsAll fv P vs l)) := by
  cases t with
  | list h1 h2 h3 r => exact ⟨_, _, _, _, rfl, h1, h2, h3, r⟩

theorem sndI_lst {x : PE} (hx : SndE T x) : SndI T (.lst x) := by
  intro c e h a gk ok ck Γ Q X α P s E tg te htg hit hw S hE
  simp only [chkI, Bool.and_eq_true] at h
  simp only [Mj] at hw
  refine wpAny_mono (hx c _ h.2 a gk ok ck _ _ _ _ _ _ _ hw S hE) (fun v s₁ h₁ => ?_) fun _ _ e => e
  obtain ⟨r, Γ₁, α₁, P₁, hw, S₁, p₁, q₁, t⟩ := h₁
  obtain ⟨d, td, hw⟩ := onD_is t hw
  split at hw
  · obtain ⟨b, o, vs, n, rfl, hb, hc, hd, tl⟩ := td.listIn
    have hbs := S₁.part _ _ hb
    have hl : s₁.heap.IsList b vs.toArray := ⟨o, hbs, hc, n, hd⟩
    refine wpAny_pyIter_list hl ?_
    have hlt : b < s₁.heap.objs.size := Heap.lt_size hbs
    refine ⟨_, Γ₁, α₁, P₁, _, _, hw, S₁.push _ (tk := s₁.toks), p₁, q₁, feed_list ok.handled htg.any (Nat.ne_of_lt hlt) (by rw [hb]; simp) tl, ⟨⟨_, Heap.get?_push_size _ rfl, rfl, rfl⟩, hl.push _⟩, fun b hb => ?_⟩
    simp at hb; subst hb
    exact S₁.lone fresh_none
  · exact hw.elim

theorem sndI_enum {x : PE} (hx : SndE T x) : SndI T (.enum x) := by
  intro c e h a gk ok ck Γ Q X α P s E tg te htg hit hw S hE
  replace h := invI_enum h
  obtain ⟨_, _, _, _, rfl, h⟩ := h
  · simp only [Bool.and_eq_true] at h
    simp only [Mk] at hw
    have htg' : ∃ es k p, te = .Tuple es k p := htg.tup fun i q => by subst q; exact (Bool.false_ne_true hit).elim
    obtain ⟨es, k, p, hte⟩ := htg'
    refine callT1 h.1.2 (ld_bi ok ck S h.1.1 (gk.btp "enumerate" (by simp)) ⟨rfl, wpAny_mono (hx c _ h.2 a gk ok ck _ _ _ _ _ _ _ hw S hE) (fun v s₁ h₁ => ?_) fun _ _ e => e⟩)
    obtain ⟨r, Γ₁, α₁, P₁, hw, S₁, p₁, q₁, t⟩ := h₁
    obtain ⟨d, td, hw⟩ := onD_is t hw
    split at hw
    · rename_i l
      obtain ⟨b, o, vs, n, rfl, hb, hc, hd, tl⟩ := td.listIn
      have hbs := S₁.part _ _ hb
      have hl : s₁.heap.IsList b vs.toArray := ⟨o, hbs, hc, n, hd⟩
      have hlt : b < s₁.heap.objs.size := Heap.lt_size hbs
      refine call_enumerate_list hl fun h' he hi hsz hk => ?_
      refine wpAny_pyIter_enum he ?_
      have W := WalksT.enumerate (prog := a.G.prog) (w := a.G.w) (A := a.A) ok.handled (s₁.heap.objs.size + 1) s₁.heap.objs.size b (Nat.succ_ne_self _) (Nat.ne_of_lt (Nat.lt_succ_of_lt hlt)) (Nat.ne_of_lt hlt) vs.toArray
      have el := tl.length
      refine ⟨_, Γ₁, α₁, P₁, [s₁.heap.objs.size + 1, s₁.heap.objs.size], _, hw, S₁.keeps hk (tk := s₁.toks), p₁, q₁, feed_walksT hte W ?_ ?_ ?_ ?_ ?_, ⟨⟨_, he⟩, hi, hl.at fun o e => hk _ _ e⟩, fun c hc => ?_⟩
      · intro c hc
        simp at hc ⊢
        rcases hc with rfl | rfl | rfl
        · exact .inl (.inl rfl)
        · exact .inl (.inr rfl)
        · exact .inr (by rw [hb]; simp)
      · intro c hc; exact hc
      · rintro i h ⟨⟨old, he⟩, ⟨o, hi, _⟩, _⟩ c hc
        simp at hc
        rcases hc with rfl | rfl
        · exact ⟨_, he⟩
        · exact ⟨_, hi⟩
      · rw [enumD_length]; simp [el]
      · intro i d vals hd hp
        obtain ⟨x, hx1, rfl⟩ := enumD_get hd
        obtain ⟨t, v, hv, rfl⟩ := hp
        obtain ⟨d', hd', tv⟩ := tl.get' (by simpa using hv)
        rw [hx1] at hd'; cases hd'
        exact ⟨_, rfl, .cons (by rw [Nat.zero_add]; exact .int _ _) (.one tv)⟩
      · simp at hc
        rcases hc with rfl | rfl
        · exact S₁.lone (fresh_of_size (by (exact Nat.le_add_right _ _)))
        · exact S₁.lone fresh_none
    · exact hw.elim

theorem zip_apart {n b b' : Addr} (h : b < n) (h' : b' < n) : ZipApart (n + 4) (n + 2) (n + 3) n (n + 1) b b' := by
  have h : @LT.lt Nat _ b n := h
  have h' : @LT.lt Nat _ b' n := h'
  constructor <;> (show @Ne Nat _ _; (first | exact Nat.ne_of_lt h | exact Nat.ne_of_lt h' | exact Nat.ne_of_lt (Nat.lt_succ_self _) | exact Nat.ne_of_lt (Nat.lt_add_of_pos_right (by decide)) | exact Nat.ne_of_gt (Nat.lt_add_of_pos_right (by decide)) | exact Nat.ne_of_lt (Nat.lt_trans h (Nat.lt_succ_self _)) | exact Nat.ne_of_lt (Nat.lt_trans h' (Nat.lt_succ_self _)) | exact Nat.ne_of_lt (Nat.lt_of_lt_of_le h (Nat.le_add_right _ _)) | exact Nat.ne_of_lt (Nat.lt_of_lt_of_le h' (Nat.le_add_right _ _)) | lia | omega))
theorem sndI_zip {x y : PE} (hx : SndE T x) (hy : SndE T y) : SndI T (.zip x y) := by
  intro c e h a gk ok ck Γ Q X α P s E tg te htg hit hw S hE
  replace h := invI_zip h
  obtain ⟨_, _, _, _, _, rfl, h⟩ := h
  · simp only [Bool.and_eq_true] at h
    simp only [Ml] at hw
    have htg' : ∃ es k p, te = .Tuple es k p := htg.tup fun i q => by subst q; exact (Bool.false_ne_true hit).elim
    obtain ⟨es, k, p, hte⟩ := htg'
    refine callT2 h.1.1.1.2 h.1.1.2 (ld_bi ok ck S h.1.1.1.1 (gk.btp "zip" (by simp)) ⟨rfl, wpAny_mono (hx c _ h.1.2 a gk ok ck _ _ _ _ _ _ _ hw S hE) (fun v s₁ h₁ => ?_) fun _ _ e => e⟩)
    obtain ⟨r, Γ₁, α₁, P₁, hw, S₁, p₁, q₁, t⟩ := h₁
    refine wpAny_mono (hy c _ h.2 a gk ok ck _ _ _ _ _ _ _ hw S₁ hE) (fun u s₂ h₂ => ?_) fun _ _ e => e
    obtain ⟨r', Γ₂, α₂, P₂, hw, S₂, p₂, q₂, t'⟩ := h₂
    obtain ⟨d, td, hw⟩ := onD_is (t.mono q₂ p₂) hw
    obtain ⟨d', td', hw⟩ := onD_is t' hw
    split at hw
    · rename_i l m
      obtain ⟨b, o, vs, n, rfl, hb, hc, hd, tl⟩ := td.listIn
      obtain ⟨b', o', vs', n', rfl, hb', hc', hd', tl'⟩ := td'.listIn
      have hbs := S₂.part _ _ hb
      have hbs' := S₂.part _ _ hb'
      have hl : s₂.heap.IsList b vs.toArray := ⟨o, hbs, hc, n, hd⟩
      have hl' : s₂.heap.IsList b' vs'.toArray := ⟨o', hbs', hc', n', hd'⟩
      have hlt : b < s₂.heap.objs.size := Heap.lt_size hbs
      have hlt' : b' < s₂.heap.objs.size := Heap.lt_size hbs'
      refine call_zip_2 hl hl' fun h' hz hTI hTO h1 h2 hsz hk => ?_
      refine wpAny_pyIter_zip hz ?_
      have W := WalksT.zip2 (prog := a.G.prog) (w := a.G.w) (A := a.A) ok.handled (s₂.heap.objs.size + 4) (s₂.heap.objs.size + 2) (s₂.heap.objs.size + 3) s₂.heap.objs.size (s₂.heap.objs.size + 1) b b'
        (zip_apart hlt hlt') vs.toArray vs'.toArray
      have el := tl.length
      have el' := tl'.length
      refine ⟨_, Γ₂, α₂, P₂, [s₂.heap.objs.size + 4, s₂.heap.objs.size + 2, s₂.heap.objs.size + 3, s₂.heap.objs.size, s₂.heap.objs.size + 1], _, hw, S₂.keeps hk (tk := s₂.toks), p₁.trans p₂, fun b o e => q₂ b o (q₁ b o e),
        feed_walksT hte W ?_ ?_ ?_ ?_ ?_, ⟨hz, hTI, ⟨_, _, hTO⟩, h1, h2, hl.at fun o e => hk _ _ e, hl'.at fun o e => hk _ _ e⟩, fun c hc => ?_⟩
      · intro c hc
        simp at hc ⊢
        rcases hc with rfl | rfl | rfl | rfl | rfl | rfl | rfl
        · exact .inl (.inl rfl)
        · exact .inl (.inr (.inl rfl))
        · exact .inl (.inr (.inr (.inl rfl)))
        · exact .inl (.inr (.inr (.inr (.inl rfl))))
        · exact .inl (.inr (.inr (.inr (.inr rfl))))
        · exact .inr (by rw [hb]; simp)
        · exact .inr (by rw [hb']; simp)
      · intro c hc
        simp at hc ⊢
        rcases hc with rfl | rfl | rfl | rfl <;> simp
      · rintro i h ⟨hz, hTI, ⟨_, _, hTO⟩, ⟨_, h1, _⟩, ⟨_, h2, _⟩, _⟩ c hc
        simp at hc
        rcases hc with rfl | rfl | rfl | rfl | rfl
        · exact ⟨_, hz⟩
        · exact ⟨_, hTI⟩
        · exact ⟨_, hTO⟩
        · exact ⟨_, h1⟩
        · exact ⟨_, h2⟩
      · rw [zipD_length]; simp [el, el']
      · intro i d vals hd hp
        obtain ⟨x, y, hx1, hy1, rfl⟩ := zipD_get hd
        obtain ⟨v, u, hv, hu, rfl⟩ := hp
        obtain ⟨d1, hd1, tv⟩ := tl.get' (by simpa using hv)
        obtain ⟨d2, hd2, tu⟩ := tl'.get' (by simpa using hu)
        rw [hx1] at hd1; cases hd1
        rw [hy1] at hd2; cases hd2
        exact ⟨_, rfl, .cons tv (.one tu)⟩
      · have : s₂.heap.objs.size ≤ c := by
          simp at hc
          rcases hc with rfl | rfl | rfl | rfl | rfl <;> first | exact Nat.le_add_right _ _ | exact Nat.le_refl _
        exact S₂.lone (fresh_of_size this)
    · exact hw.elim

theorem range_ok (ok : ActOk a) (S : St a Γ α P s) {α₀ : List Addr} {P₀ : Part} (pa : α₀ <+: α) (pp : ∀ b o, P₀ b = some o → P b = some o) {x y z : Int} {t u v : Tok} {tg : Tgt} {te : Expr} {Q : List D → Fs → Prop} {tk : Nat} (htg : tgtIs tg te)
    (hx : small x) (hy : small y) (hz : z.natAbs < 2 ^ 30 ∧ z ≠ 0) (hQ : Q (rangeD x z (rangeN x y z)) Γ) :
    wpAny (model a.G.prog a.G.w) a.A (pyIter (.ref s.heap.objs.size)) (Fed a te α₀ P₀ Q) E { s with heap := s.heap.push { cls := .type "range", data := .fields #[.int x t, .int y u, .int z v] }, toks := tk } := by
  have S₁ := S.push { cls := .type "range", data := .fields #[.int x t, .int y u, .int z v] } (tk := tk)
  have hsz0 : 0 ≤ Builtin.Range.rangeSize x y z ∧ Builtin.Range.rangeSize x y z ≤ 2 ^ 42 := by
    unfold small at hx hy
    unfold Builtin.Range.rangeSize
    by_cases h0 : z > 0
    · rw [if_pos h0]
      by_cases h1 : x < y
      · rw [if_pos h1]
        have h2 : 0 ≤ (y - x - 1) / z := Int.ediv_nonneg (by (clear hx; lia)) (by (exact Int.le_of_lt h0))
        have h3 : (y - x - 1) / z ≤ y - x - 1 := Int.ediv_le_self _ (by lia)
        (constructor <;> first | (refine Int.lt_of_not_ge fun h => ?_; lia) | (refine Nat.lt_of_not_le fun h => ?_; lia) | lia)
      · rw [if_neg h1]; decide
    · rw [if_neg h0]
      by_cases h1 : x > y
      · rw [if_pos h1]
        have h2 : 0 ≤ (x - y - 1) / (-z) := Int.ediv_nonneg (by (clear hx; lia)) (by (clear hQ hz hy S₁ h1; omega))
        have h3 : (x - y - 1) / (-z) ≤ x - y - 1 := Int.ediv_le_self _ (by lia)
        (constructor <;> first | (refine Int.lt_of_not_ge fun h => ?_; lia) | (refine Nat.lt_of_not_le fun h => ?_; lia) | lia)
      · rw [if_neg h1]; decide
  have hsm : Builtin.Range.small x y z = true := by
    unfold small at hx hy
    unfold Builtin.Range.small Builtin.Range.rangeFitsLong
    simp only [Bool.and_eq_true, decide_eq_true_eq, Bool.or_eq_true]
    have := hz.1
    refine ⟨⟨⟨⟨?_, ?_⟩, ?_⟩, ?_⟩, .inr ?_⟩
    · (constructor <;> first | (refine Int.lt_of_not_ge fun h => ?_; lia) | (refine Nat.lt_of_not_le fun h => ?_; lia) | lia)
    · (constructor <;> first | (refine Int.lt_of_not_ge fun h => ?_; lia) | (refine Nat.lt_of_not_le fun h => ?_; lia) | lia)
    · (clear this hsz0 S₁ hy hQ; omega)
    · (constructor <;> first | (refine Int.lt_of_not_ge fun h => ?_; lia) | (refine Nat.lt_of_not_le fun h => ?_; lia) | lia)
    · split <;> simp only [Bool.and_eq_true, decide_eq_true_eq] <;> (constructor <;> first | (refine Int.lt_of_not_ge fun h => ?_; lia) | (refine Nat.lt_of_not_le fun h => ?_; lia) | lia)
  refine wpAny_pyIter_range (IsRange.new s.heap x y z t u v) hsm ?_
  have hn : ((rangeN x y z : Nat) : Int) = Builtin.Range.rangeSize x y z := by unfold rangeN; lia
  refine ⟨_, Γ, α, P, _, _, hQ, S₁.push _ (tk := tk), pa, pp, feed_range ok.handled htg.any, ?_, fun b hb => ?_⟩
  · show Heap.get? _ _ = _
    simp only [Int.natCast_zero, Int.zero_mul, Int.add_zero, Int.sub_zero, hn]
    exact Heap.get?_push_size _ rfl
  · simp at hb; subst hb
    exact S₁.lone (fresh_of_size (by rw [Heap.size_push]; exact Nat.le_refl _))

theorem rangeN_one (x y : Int) : rangeN x y 1 = (y - x).toNat := by
  unfold rangeN; rw [rangeSize_one]; split <;> (first | rfl | lia | omega)
theorem sndI_range1 {x : PE} (hx : SndE T x) : SndI T (.range1 x) := by
  intro c e h a gk ok ck Γ Q X α P s E tg te htg hit hw S hE
  replace h := invI_range1 h
  obtain ⟨_, _, _, _, rfl, h⟩ := h
  · simp only [Bool.and_eq_true] at h
    simp only [Mm] at hw
    refine callT1 h.1.2 (ld_bi ok ck S h.1.1 (gk.btp "range" (by simp)) ⟨rfl, wpAny_mono (hx c _ h.2 a gk ok ck _ _ _ _ _ _ _ hw S hE) (fun v s₁ h₁ => ?_) fun _ _ e => e⟩)
    obtain ⟨r, Γ₁, α₁, P₁, hw, S₁, p₁, q₁, t⟩ := h₁
    obtain ⟨x, tx, rfl, hs, hw⟩ := onI_is t hw
    refine call_range_1 (range_ok ok S₁ p₁ q₁ htg (by unfold small; decide) hs (by decide) ?_)
    rw [rangeN_one, Int.sub_zero]; exact hw
theorem sndI_range2 {x y : PE} (hx : SndE T x) (hy : SndE T y) : SndI T (.range2 x y) := by
  intro c e h a gk ok ck Γ Q X α P s E tg te htg hit hw S hE
  replace h := invI_range2 h
  obtain ⟨_, _, _, _, _, rfl, h⟩ := h
  · simp only [Bool.and_eq_true] at h
    simp only [Mn] at hw
    refine callT2 h.1.1.1.2 h.1.1.2 (ld_bi ok ck S h.1.1.1.1 (gk.btp "range" (by simp)) ⟨rfl, wpAny_mono (hx c _ h.1.2 a gk ok ck _ _ _ _ _ _ _ hw S hE) (fun v s₁ h₁ => ?_) fun _ _ e => e⟩)
    obtain ⟨r, Γ₁, α₁, P₁, hw, S₁, p₁, q₁, t⟩ := h₁
    refine wpAny_mono (hy c _ h.2 a gk ok ck _ _ _ _ _ _ _ hw S₁ hE) (fun u s₂ h₂ => ?_) fun _ _ e => e
    obtain ⟨r', Γ₂, α₂, P₂, hw, S₂, p₂, q₂, t'⟩ := h₂
    obtain ⟨x, tx, rfl, hw⟩ := onI_is (t.mono q₂ p₂) hw
    obtain ⟨y, ty, rfl, hs, hw⟩ := onI_is t' hw
    refine call_range_2 (range_ok ok S₂ (p₁.trans p₂) (fun b o e => q₂ b o (q₁ b o e)) htg hs.1 hs.2 (by decide) ?_)
    rw [rangeN_one]; exact hw
theorem sndI_range3 {x y z : PE} (hx : SndE T x) (hy : SndE T y) (hz : SndE T z) : SndI T (.range3 x y z) := by
  intro c e h a gk ok ck Γ Q X α P s E tg te htg hit hw S hE
  replace h := invI_range3 h
  obtain ⟨_, _, _, _, _, _, rfl, h⟩ := h
  · simp only [Bool.and_eq_true] at h
    simp only [Mo] at hw
    refine callT3 h.1.1.1.1.1.2 h.1.1.1.1.2 h.1.1.1.2 (ld_bi ok ck S h.1.1.1.1.1.1 (gk.btp "range" (by simp)) ⟨rfl, wpAny_mono (hx c _ h.1.1.2 a gk ok ck _ _ _ _ _ _ _ hw S hE) (fun v s₁ h₁ => ?_) fun _ _ e => e⟩)
    obtain ⟨r, Γ₁, α₁, P₁, hw, S₁, p₁, q₁, t⟩ := h₁
    refine wpAny_mono (hy c _ h.1.2 a gk ok ck _ _ _ _ _ _ _ hw S₁ hE) (fun u s₂ h₂ => ?_) fun _ _ e => e
    obtain ⟨r', Γ₂, α₂, P₂, hw, S₂, p₂, q₂, t'⟩ := h₂
    refine wpAny_mono (hz c _ h.2 a gk ok ck _ _ _ _ _ _ _ hw S₂ hE) (fun u s₃ h₃ => ?_) fun _ _ e => e
    obtain ⟨r'', Γ₃, α₃, P₃, hw, S₃, p₃, q₃, t''⟩ := h₃
    obtain ⟨x, tx, rfl, hw⟩ := onI_is ((t.mono q₂ p₂).mono q₃ p₃) hw
    obtain ⟨y, ty, rfl, hw⟩ := onI_is (t'.mono q₃ p₃) hw
    obtain ⟨z, tz, rfl, hs, hw⟩ := onI_is t'' hw
    refine call_range_3 hs.2.2.2 (range_ok ok S₃ ((p₁.trans p₂).trans p₃) (fun b o e => q₃ b o (q₂ b o (q₁ b o e))) htg hs.1 hs.2.1 hs.2.2 hw) (.inl (PyProof.noPylong_small (by have := hs.2.2.1; omega)))

theorem chkI_folded {pit : PIt} {c : Cfg} {e : Expr} {env : Env} (h : chkI pit c e = true) : ∀ x, foldedSetIterable e env x = pure x := by
  intro x
  cases pit with
  | lst p => cases e <;> first | rfl | (simp [chkI] at h)
  | enum p => obtain ⟨_, _, _, _, rfl, _⟩ := invI_enum h; rfl
  | zip p q => obtain ⟨_, _, _, _, _, rfl, _⟩ := invI_zip h; rfl
  | range1 p => obtain ⟨_, _, _, _, rfl, _⟩ := invI_range1 h; rfl
  | range2 p q => obtain ⟨_, _, _, _, _, rfl, _⟩ := invI_range2 h; rfl
  | range3 p q r => obtain ⟨_, _, _, _, _, _, rfl, _⟩ := invI_range3 h; rfl
end

end LM

namespace LM

section
variable {T : Nat → Option LM.Spec} {a : Act} {c : Cfg} {Γ : Fs} {α : List Addr} {P : Part} {s : Shared} {E : Value → Shared → Prop}

/-- a slot is stored. -/
theorem store_ok (ok : ActOk a) (ck : CkOk T a c) (S : St a Γ α P s) {i : Nat} {x : Str} {v : Value} {r : Rv} {Q : Unit → Shared → Prop} (hn : nmS c i x = true) (t : RTells a.G.fv P α v r)
    (h : ∀ s', St a (Γ.put i r) α P s' → Q () s') : wpAny (model a.G.prog a.G.w) a.A (storeName a.env x v) Q E s := by
  unfold nmS at hn
  rw [kindIn_eq ck] at hn
  simp only [Bool.and_eq_true, beq_iff_eq] at hn
  obtain ⟨hx, hk⟩ := hn
  rw [ck.vars] at hx
  split at hk
  · rename_i e
    obtain ⟨m, hns, hv⟩ := S.ns
    exact wpAny_storeName_local e hns (fun h' hn hs => h _ (S.storeLocal ok hx hv hn hs e t)) (by simp [ok.kind])
  · rename_i e
    rw [ck.main] at hk
    obtain ⟨d, hd⟩ := ok.clos x e
    obtain ⟨w, hw⟩ := S.cell x d hd
    exact wpAny_storeName_cell ok.kind e hd hw fun h' hn hs => h _ (S.storeCell ok hx e hd hn hs t hk)
  · cases hk

theorem assign_ok (ok : ActOk a) (ck : CkOk T a c) (S : St a Γ α P s) {i : Nat} {x : Str} {p : Pos} {v : Value} {r : Rv} {Q : Unit → Shared → Prop} (hn : nmS c i x = true) (t : RTells a.G.fv P α v r)
    (h : ∀ s', St a (Γ.put i r) α P s' → Q () s') : wpAny (model a.G.prog a.G.w) a.A (assign (.Name x p) a.env v) Q E s :=
  wpAny_assign_Name (store_ok ok ck S hn t h)

theorem ext_keeps {h h' : Heap} (x : Heap.ExtBut h.objs.size h h') : ∀ b o, h.get? b = some o → h'.get? b = some o := fun b o e => x b o (Nat.ne_of_lt (Heap.lt_size e)) e

theorem Tells.tupIs {fv : Nat → Value} {v : Value} {l : List D} (t : Tells fv P v (.tup l)) {h : Heap} (hP : ∀ b o, P b = some o → h.get? b = some o) : Ex2 (fun b vs => v = .ref b) (fun b vs => h.IsTuple b vs.toArray ∧ TellsAll fv P vs l) := by
  cases t with
  | tup h1 h2 h3 r => exact ⟨_, _, rfl, ⟨_, hP _ _ h1, h2, _, h3⟩, r⟩

theorem two_ok (ok : ActOk a) (ck : CkOk T a c) (S : St a Γ α P s) {i j : Nat} {x y : Str} {p q pos : Pos} {n : Nat} {v : Value} {d e : D} {Q : Unit → Shared → Prop} (hx : nmS c i x = true) (hy : nmS c j y = true) (t : Tells a.G.fv P v (.tup [d, e]))
    (h : ∀ s', St a ((Γ.put i (.d d)).put j (.d e)) α P s' → Q () s') : wpAny (model a.G.prog a.G.w) a.A (assign (.Tuple [.Name x p, .Name y q] n pos) a.env v) Q E s := by
  obtain ⟨b, vs, rfl, hb, tl⟩ := t.tupIs S.part
  cases tl with
  | cons t1 tl => cases tl with
    | cons t2 tl => cases tl with
      | nil =>
        refine wpAny_assign_Tuple ok.handled hb rfl rfl fun h' hk => ?_
        exact assignInOrder_cons (assign_ok ok ck (S.keeps (ext_keeps hk) (tk := s.toks)) (r := .d d) hx t1 fun s₁ S₁ => assignInOrder_cons (assign_ok ok ck S₁ (r := .d e) hy t2 fun s₂ S₂ => assignInOrder_nil (h s₂ S₂)))

theorem bindT_two {i j : Nat} {d : D} {ρ : List (Option Rv)} {k : List (Option Rv) → Prop} (h : bindT (.two i j) d ρ k) : ∃ x y, d = .tup [x, y] ∧ k ((ρ.set i (some (.d x))).set j (some (.d y))) := onT_is h
theorem bindT_nest {i j m : Nat} {d : D} {ρ : List (Option Rv)} {k : List (Option Rv) → Prop} (h : bindT (.nest i j m) d ρ k) : ∃ x y z, d = .tup [.tup [x, y], z] ∧ k (((ρ.set i (some (.d x))).set j (some (.d y))).set m (some (.d z))) := by
  obtain ⟨u, z, rfl, h⟩ := onT_is h
  obtain ⟨x, y, rfl, h⟩ := onT_is h
  exact ⟨x, y, z, rfl, h⟩

theorem bindT_ok (ok : ActOk a) (ck : CkOk T a c) (S : St a Γ α P s) {tg : Tgt} {te : Expr} {v : Value} {d : D} {k : List (Option Rv) → Prop} (hc : chkT c tg te = true) (t : Tells a.G.fv P v d) (hw : bindT tg d Γ.ρ k) {Q : Unit → Shared → Prop}
    (hQ : ∀ s' ρ, k ρ → St a ⟨ρ, Γ.σ⟩ α P s' → Q () s') : wpAny (model a.G.prog a.G.w) a.A (assign te a.env v) Q E s := by
  cases tg with
  | one i =>
    replace hc := invT_one hc
    obtain ⟨_, _, rfl, hc⟩ := hc
    · simp only [Zm] at hw
      exact assign_ok ok ck S hc (r := .d d) t fun s' S' => hQ s' _ hw S'
  | two i j =>
    replace hc := invT_two hc
    obtain ⟨_, _, _, _, _, _, rfl, hc⟩ := hc
    · simp only [Bool.and_eq_true] at hc
      obtain ⟨x, y, rfl, hw⟩ := bindT_two hw
      exact two_ok ok ck S hc.1 hc.2 t fun s' S' => hQ s' _ hw S'
  | nest i j m =>
    replace hc := invT_nest hc
    obtain ⟨_, _, _, _, _, _, _, _, _, _, rfl, hc⟩ := hc
    · rename_i x0 p0 y0 p1 k0 p2 z0 p3 k1 p4
      simp only [Bool.and_eq_true] at hc
      obtain ⟨x, y, z, rfl, hw⟩ := bindT_nest hw
      · obtain ⟨b, vs, rfl, hb, tl⟩ := t.tupIs S.part
        cases tl with
        | cons t1 tl => cases tl with
          | cons t2 tl => cases tl with
            | nil =>
              refine wpAny_assign_Tuple ok.handled hb rfl rfl fun h' hk => ?_
              exact assignInOrder_cons (two_ok (n := k0) (p := p0) (q := p1) (pos := p2) ok ck (S.keeps (ext_keeps hk) (tk := s.toks)) hc.1.1 hc.1.2 t1 fun s₁ S₁ => assignInOrder_cons (assign_ok ok ck S₁ (r := .d _) hc.2 t2 fun s₂ S₂ => assignInOrder_nil (hQ s₂ _ hw S₂)))

/-- the same activation, that holds some objects still. -/
noncomputable def Act.hold (a : Act) (nw : List Addr) (h : Heap) : Act := { a with K := fun b => if b ∈ nw then h.get? b else a.K b }

theorem hold_in {nw : List Addr} {h : Heap} {b : Addr} (hb : b ∈ nw) : (a.hold nw h).K b = h.get? b := if_pos hb
theorem hold_out {nw : List Addr} {h : Heap} {b : Addr} (hb : b ∉ nw) : (a.hold nw h).K b = a.K b := if_neg hb

theorem ActOk.hold (ok : ActOk a) {nw : List Addr} {h : Heap} (hn : ∀ b, b ∈ nw → a.K b = none) : ActOk (a.hold nw h) := by
  have hF : ∀ b, b ∈ a.FA → b ∉ nw := fun b hb hm => (ok.fa b hb).2.2.2 (hn b hm)
  refine ⟨ok.kind, ok.loc, ok.cel, ok.clos, ok.handled, ok.frames, ok.depth, ok.units, ok.glob, ok.blt, ok.glob0, ok.blt0, fun e he => ?_, ok.cinj, ok.nodup, fun b hb => ⟨(ok.fa b hb).1, (ok.fa b hb).2.1, (ok.fa b hb).2.2.1, by rw [hold_out (hF b hb)]; exact (ok.fa b hb).2.2.2⟩, ok.mutIs, ok.head⟩
  obtain ⟨hk, L, hL, hh⟩ := ok.frs e he
  refine ⟨hk, L, hL, ?_⟩
  rcases hh with hh | ⟨hm, o, es, ep, ho, hd⟩
  · exact .inl hh
  · exact .inr ⟨hm, o, es, ep, by rw [hold_out (hF L hm)]; exact ho, hd⟩

theorem St.toHold (S : St a Γ α P s) (ok : ActOk a) {nw : List Addr} (hn : ∀ b, b ∈ nw → Lone a α P b) : St (a.hold nw s.heap) Γ α P s := by
  have hm : ∀ b, b ∈ a.muts → b ∉ nw := fun b hb hx => by
    rcases ok.mutIs b hb with e | ⟨x, e⟩
    · exact (hn b hx).2.2.2.1 e
    · exact (hn b hx).2.2.2.2.2 x e
  have hα : ∀ b, b ∈ α → b ∉ nw := fun b hb hx => (hn b hx).2.2.2.2.1 hb
  refine ⟨S.rest, S.top, fun b o e => ?_, S.part, S.ext, fun b e => ?_, S.ns, S.cell, S.cells, S.own, S.len, S.nd, S.apart, S.there, fun b hb => ?_, fun k l b hl hb => ?_, fun b hb => ?_⟩
  · by_cases q : b ∈ nw
    · rw [hold_in q] at e
      exact ⟨fun _ => e, fun hf => ((ok.fa b hf).2.2.2 (hn b q).1).elim⟩
    · rw [hold_out q] at e; exact S.hold b o e
  · by_cases q : b ∈ nw
    · exact (e (hn b q).2.1).elim
    · rw [hold_out q]; exact S.grow b e
  · rw [hold_out (hm b hb)]; exact S.mfree b hb
  · rw [hold_out (hα b (List.mem_of_getElem? hb))]; exact S.afree k l b hl hb
  · rw [hold_out (hα b hb)]; exact S.akf b hb

theorem St.ofHold {nw : List Addr} {h : Heap} (S : St (a.hold nw h) Γ α P s) (hn : ∀ b, b ∈ nw → a.K b = none) : St a Γ α P s := by
  have up : ∀ b o, a.K b = some o → (a.hold nw h).K b = some o := fun b o e => by rw [hold_out (fun q => by rw [hn b q] at e; cases e)]; exact e
  have dn : ∀ b, (a.hold nw h).K b = none → a.K b = none := fun b e => by
    by_cases q : b ∈ nw
    · exact hn b q
    · rw [hold_out q] at e; exact e
  refine ⟨S.rest, S.top, fun b o e => S.hold b o (up b o e), S.part, S.ext, fun b e => ?_, S.ns, S.cell, S.cells, S.own, S.len, S.nd, S.apart, S.there, fun b hb => ?_, fun k l b hl hb => ?_, fun b hb => dn b (S.akf b hb)⟩
  · rcases S.grow b e with h1 | h1
    · exact .inl h1
    · exact .inr (dn b h1)
  · exact ⟨dn b (S.mfree b hb).1, (S.mfree b hb).2⟩
  · exact ⟨dn b (S.afree k l b hl hb).1, (S.afree k l b hl hb).2⟩

theorem Lone.ofHold {nw : List Addr} {h : Heap} {α₀ : List Addr} {P₀ : Part} (S : St (a.hold nw h) Γ α P s) (hn : ∀ b, b ∈ nw → Lone a α₀ P₀ b) (hs : ∀ b o, a.P₀ b = some o → P₀ b = some o) (ht : ∀ b, b ∈ nw → ∃ o, h.get? b = some o) : ∀ b, b ∈ nw → Lone a α P b := by
  intro b hb
  obtain ⟨h1, h2, h3, h4, h5, h6⟩ := hn b hb
  obtain ⟨o, ho⟩ := ht b hb
  have hK : (a.hold nw h).K b ≠ none := by rw [hold_in hb, ho]; simp
  refine ⟨h1, ?_, h3, h4, fun hm => hK (S.akf b hm), h6⟩
  cases e : P b with
  | none => rfl
  | some q =>
    rcases S.grow b (by rw [e]; simp) with h7 | h7
    · cases e' : a.P₀ b with
      | none => exact (h7 e').elim
      | some q' => have := hs b q' e'; rw [h2] at this; cases this
    · exact (hK h7).elim
theorem held {nw : List Addr} {h : Heap} (S : St (a.hold nw h) Γ α P s) (ok : ActOk a) (hn : ∀ b, b ∈ nw → a.K b = none) : ∀ b o, b ∈ nw → h.get? b = some o → s.heap.get? b = some o := fun b o hb e =>
  (S.hold b o (by rw [hold_in hb]; exact e)).1 fun hf => (ok.fa b hf).2.2.2 (hn b hb)

theorem ExOk.hold {X : Prop} (hE : ExOk a E X) {nw : List Addr} {h : Heap} (hn : ∀ b, b ∈ nw → a.K b = none) : ExOk (a.hold nw h) E X :=
  ⟨hE.pass, fun hx s s' e ⟨Γ, α, P, S⟩ hr hR => hE.on hx s s' e ⟨Γ, α, P, S.ofHold hn⟩ hr hR, fun hx s h' e vs ⟨Γ, α, P, S⟩ hm => hE.made hx s h' e vs ⟨Γ, α, P, S.ofHold hn⟩ hm⟩
theorem CkOk.hold (ck : CkOk T a c) {nw : List Addr} {h : Heap} : CkOk T (a.hold nw h) c := ⟨ck.fns, ck.vars, ck.sc, ck.main, ck.T⟩

/-- an item is told. -/
theorem item_ok (S : St a Γ α P s) (ok : ActOk a) {P₁ : Part} {h : Heap} {v : Value} {d : D} (t : Item a.G.fv P₁ h s.heap v d) (hP : ∀ b o, P₁ b = some o → P b = some o) {nw : List Addr} (hl : ∀ b, b ∈ nw → Lone a α P b ∧ ∃ o, h.get? b = some o) (hout : ∀ b, h.get? b = none → Lone a α P b) :
    Ex1 (fun P' => St a Γ α P' s) (fun P' => Al3 ((∀ b o, P b = some o → P' b = some o)) (Tells a.G.fv P' v d) (∀ b, b ∈ nw → Lone a α P' b)) := by
  rcases t with t | ⟨b, o, vs, n, l, rfl, rfl, hb, ho, hc, hd, tl⟩
  · exact ⟨P, S, fun _ _ e => e, t.mono hP, fun b hb => (hl b hb).1⟩
  · obtain ⟨h1, h2, h3, h4, h5, h6⟩ := hout b hb
    have keep := Part.add_keep (o := o) h2
    refine ⟨P.add b o, S.addPart ho h2 h1 (fun hm => ?_) (fun k l _ hk => h5 (List.mem_of_getElem? hk)), keep, .tup Part.add_self hc hd ((tl.mono hP).mono keep), fun c hc => ?_⟩
    · rcases ok.mutIs b hm with e | ⟨x, e⟩
      · exact h4 e
      · exact h6 x e
    · obtain ⟨⟨g1, g2, g3⟩, o', ho'⟩ := hl c hc
      refine ⟨g1, ?_, g3⟩
      have q : c ≠ b := fun q => by rw [q, hb] at ho'; cases ho'
      unfold Part.add; rw [if_neg q]; exact g2

noncomputable def Fl (fv : Nat → Value) (P : Part) : Flow → Out → Prop
  | .next, .next => True
  | .brk, .brk => True
  | .cont, .cont => True
  | .ret v, .ret d => Tells fv P v d
  | _, _ => False
inductive PostS (a : Act) (α : List Addr) (P : Part) (Q : Out → Fs → Prop) (f : Flow) (s' : Shared) : Prop
  | mk (o : Out) (Γ' : Fs) (α' : List Addr) (P' : Part) (q : Q o Γ') (S : St a Γ' α' P' s') (pa : α <+: α') (pp : ∀ b o, P b = some o → P' b = some o) (t : Fl a.G.fv P' f o) : PostS a α P Q f s'
theorem PostS.trans {α α' : List Addr} {P P' : Part} {Q : Out → Fs → Prop} {v : Flow} {s' : Shared} (ha : α <+: α') (hP : ∀ b o, P b = some o → P' b = some o) (h : PostS a α' P' Q v s') : PostS a α P Q v s' := by
  obtain ⟨r, Γ', α₂, P₂, q, S, h1, h2, t⟩ := h
  exact ⟨r, Γ', α₂, P₂, q, S, ha.trans h1, fun b o e => h2 b o (hP b o e), t⟩
theorem PostS.here {Q : Out → Fs → Prop} {r : Out} {v : Flow} (q : Q r Γ) (S : St a Γ α P s) (t : Fl a.G.fv P v r) : PostS a α P Q v s :=
  ⟨r, Γ, α, P, q, S, List.prefix_refl _, fun _ _ e => e, t⟩

noncomputable def SndS (T : Nat → Option LM.Spec) (ps : PS) : Prop := ∀ c e, chkS ps c e = true → ∀ a, GlOk a.G → ActOk a → CkOk T a c → ∀ Γ Q X α P s E, wS T ps Γ Q X → St a Γ α P s → ExOk a E X →
  wpAny (model a.G.prog a.G.w) a.A (exec e a.env) (PostS a α P Q) E s
noncomputable def SndSs (T : Nat → Option LM.Spec) (ps : PSs) : Prop := ∀ c e, chkSs ps c e = true → ∀ a, GlOk a.G → ActOk a → CkOk T a c → ∀ Γ Q X α P s E, wSs T ps Γ Q X → St a Γ α P s → ExOk a E X →
  wpAny (model a.G.prog a.G.w) a.A (execs e a.env) (PostS a α P Q) E s

theorem sndSs_nil : SndSs T .nil := by
  intro c e h a gk ok ck Γ Q X α P s E hw S hE
  simp only [chkSs] at h
  split at h
  · simp only [Yd] at hw
    exact wpAny_execs_nil (.here hw S trivial)
  · cases h
theorem sndSs_cons {p : PS} {r : PSs} (hp : SndS T p) (hr : SndSs T r) : SndSs T (.cons p r) := by
  intro c e h a gk ok ck Γ Q X α P s E hw S hE
  simp only [chkSs] at h
  split at h
  · simp only [Bool.and_eq_true] at h
    simp only [Ye] at hw
    refine wpAny_execs_cons (wpAny_mono (hp c _ h.1 a gk ok ck _ _ _ _ _ _ _ hw S hE) (fun f s₁ h₁ => ?_) fun _ _ e => e)
    obtain ⟨o, Γ₁, α₁, P₁, hw, S₁, p₁, q₁, t⟩ := h₁
    cases f <;> cases o <;> first | exact t.elim | skip
    · exact wpAny_mono (hr c _ h.2 a gk ok ck _ _ _ _ _ _ _ hw S₁ hE) (fun f s₂ h₂ => h₂.trans p₁ q₁) fun _ _ e => e
    all_goals exact (PostS.here hw S₁ t).trans p₁ q₁
  · cases h
theorem sndSs_frz {k : Nat} {r : PSs} (hr : SndSs T r) : SndSs T (.frz k r) := by
  intro c e h a gk ok ck Γ Q X α P s E hw S hE
  simp only [chkSs] at h
  simp only [Yf] at hw
  split at hw
  · rename_i l hl
    obtain ⟨b, o, hb, hP, _, S₁⟩ := S.freeze hl
    exact wpAny_mono (hr c _ h a gk ok ck _ _ _ _ _ _ _ hw S₁ hE) (fun f s₂ h₂ => h₂.trans (List.prefix_refl _) (Part.add_keep hP)) fun _ _ e => e
  · exact hw.elim
end

end LM

namespace LM

section
variable {T : Nat → Option LM.Spec} {a : Act} {c : Cfg} {Γ : Fs} {α : List Addr} {P : Part} {s : Shared} {E : Value → Shared → Prop}

/-- one item is drawn, owned by nobody else, told. -/
theorem draw_ok (ok : ActOk a) (S : St a Γ α P s) {te : Expr} {it : Value} {ds : List D} {P₁ : Part} {nw : List Addr} {J : Nat → Heap → Prop} (F : Feed a te it ds P₁ nw J) {i : Nat} {d : D} (hd : ds[i]? = some d) (hj : J i s.heap)
    (hl : ∀ b, b ∈ nw → Lone a α P b) (hP : ∀ b o, P₁ b = some o → P b = some o) {Q : Value → Shared → Prop} {E' : Value → Shared → Prop}
    (h : ∀ v s' P', St a Γ α P' s' → (∀ b o, P b = some o → P' b = some o) → Tells a.G.fv P' v d → J (i + 1) s'.heap → (∀ b, b ∈ nw → Lone a α P' b) → (∀ b o, b ∉ nw → s.heap.get? b = some o → s'.heap.get? b = some o) → SameRest s s' → (∀ b, P' b ≠ none → P b ≠ none ∨ s.heap.get? b = none) → Q v s') :
    wpAny (model a.G.prog a.G.w) a.A (pyNext it) (fun r s₁ => match r with | none => False | some v => wpAny (model a.G.prog a.G.w) a.A (letOwnedTupleGo te it v) (fun _ s₂ => Q v s₂) E' s₁) E s := by
  refine F.item i d s Q E E' hd hj fun v h' tk hj' hk ht => ?_
  have S' : St a Γ α P { s with heap := h', toks := tk } := S.change (fun b => b ∈ nw) (fun b o hb e => hk b o hb e) hl
  have hth := F.there i _ hj
  rcases ht with t | ⟨b, o, vs, n, l, rfl, rfl, hb, ho, hc, hdt, tl⟩
  · exact h v _ P S' (fun _ _ e => e) (t.mono hP) hj' hl hk ⟨rfl, rfl, rfl⟩ fun b e => .inl e
  · obtain ⟨h1, h2, h3, h4, h5, h6⟩ := S.out hb
    have keep := Part.add_keep (o := o) h2
    have hm : b ∉ a.muts := S.fresh_muts ok hb
    refine h _ _ (P.add b o) (S'.addPart ho h2 h1 hm (fun k l _ hk => h5 (List.mem_of_getElem? hk))) keep (.tup Part.add_self hc hdt ((tl.mono hP).mono keep)) hj' (fun c hc => ?_) hk ⟨rfl, rfl, rfl⟩ fun c e => ?_
    · obtain ⟨g1, g2, g3⟩ := hl c hc
      obtain ⟨o', ho'⟩ := hth c hc
      refine ⟨g1, ?_, g3⟩
      have q : c ≠ b := fun q => by rw [q, hb] at ho'; cases ho'
      unfold Part.add; rw [if_neg q]; exact g2
    · by_cases q : c = b
      · exact .inr (q ▸ hb)
      · unfold Part.add at e; rw [if_neg q] at e; exact .inl e

/-- behind a run that held the feed still. -/
theorem Feed.kept {te : Expr} {it : Value} {ds : List D} {P₁ : Part} {nw : List Addr} {J : Nat → Heap → Prop} (F : Feed a te it ds P₁ nw J) {i : Nat} {h h' : Heap} (hj : J i h) (hn : ∀ b o, b ∈ nw → h.get? b = some o → h'.get? b = some o)
    (h1 : ∀ b o, P₁ b = some o → h.get? b = some o) (h2 : ∀ b o, P₁ b = some o → h'.get? b = some o) : J i h' := by
  refine F.frame i h h' hj fun b o hb e => ?_
  rcases hb with hb | hb
  · exact hn b o hb e
  · cases q : P₁ b with
    | none => exact (hb q).elim
    | some o' =>
      have := h1 b o' q
      rw [e] at this; cases this
      exact h2 b o q

theorem snd_for {tg : Tgt} {it : PIt} {b : PSs} (hi : SndI T it) (hb : SndSs T b) : SndS T (.forr tg it b) := by
  intro c e h a gk ok ck Γ Q X α P s E hw S hE
  replace h := invS_forr h
  obtain ⟨_, _, _, _, rfl, h⟩ := h
  · rename_i te ie body pos
    simp only [Bool.and_eq_true] at h
    simp only [My] at hw
    refine wpAny_For (wpAny_mono (hi c _ h.1.2 a gk ok ck _ _ _ _ _ _ _ tg te (chkT_is h.1.1.2) h.1.1.1 hw S hE) (fun x s₁ h₁ => wpAny_mono h₁ (fun itv s₂ h₂ => ?_) fun _ _ e => e) fun _ _ e => e) (chkI_folded h.1.2)
    obtain ⟨ds, Γ₁, α₁, P₁, nw, J, hw, S₂, p₁, q₁, F, hj, hl⟩ := h₂
    have hnK : ∀ b, b ∈ nw → a.K b = none := fun b hb => (hl b hb).1
    refine codeAny_forLoop_any (fun n s' => Ex4 (fun i Γ' α' P' => i ≤ ds.length) (fun i Γ' α' P' => Al7 (n = ds.length - i) (wFor (fun d Γ' k => bindT tg d Γ'.ρ fun ρ => wSs T b ⟨ρ, Γ'.σ⟩ k X) (ds.drop i) Γ' Q) (St a Γ' α' P' s') (J i s'.heap) (α₁ <+: α') ((∀ b o, P₁ b = some o → P' b = some o)) (∀ b, b ∈ nw → Lone a α' P' b))) ?_ ds.length
      ⟨0, Γ₁, α₁, P₁, Nat.zero_le _, rfl, hw, S₂, hj, List.prefix_refl _, fun _ _ e => e, hl⟩
    rintro n s' ⟨i, Γ', α', P', hi, rfl, hw, S', hj', pa, pp, hl'⟩
    by_cases hlt : i < ds.length
    · have hd : ds[i]? = some ds[i] := List.getElem?_eq_getElem hlt
      rw [List.drop_eq_getElem_cons hlt] at hw
      simp only [Zq] at hw
      refine wpAny_mono (draw_ok ok S' F hd hj' hl' pp (E := notedBy (model a.G.prog a.G.w) a.A a.env (cameBackBy (model a.G.prog a.G.w) a.A a.env E)) (E' := notedBy (model a.G.prog a.G.w) a.A a.env (cameBackBy (model a.G.prog a.G.w) a.A a.env E)) (Q := fun v s₁ => wpAny (model a.G.prog a.G.w) a.A (assign te a.env v) (fun _ s₂ => wpAny (model a.G.prog a.G.w) a.A (execs body a.env) (fun f s₃ => match f with
            | .next | .cont => ∃ m, m < ds.length - i ∧ (Ex4 (fun i Γ' α' P' => i ≤ ds.length) (fun i Γ' α' P' => Al7 (m = ds.length - i) (wFor (fun d Γ' k => bindT tg d Γ'.ρ fun ρ => wSs T b ⟨ρ, Γ'.σ⟩ k X) (ds.drop i) Γ' Q) (St a Γ' α' P' s₃) (J i s₃.heap) (α₁ <+: α') ((∀ b o, P₁ b = some o → P' b = some o)) (∀ b, b ∈ nw → Lone a α' P' b)))
            | .brk => PostS a α P Q .next s₃
            | .ret v => PostS a α P Q (.ret v) s₃) (notedBy (model a.G.prog a.G.w) a.A a.env (cameBackBy (model a.G.prog a.G.w) a.A a.env E)) s₂) (notedBy (model a.G.prog a.G.w) a.A a.env (cameBackBy (model a.G.prog a.G.w) a.A a.env E)) s₁) ?_) (fun r s₁ h₁ => ?_) fun _ _ e => e
      · intro v s₁ P₂ S₁ pp₂ tv hj₁ hl₁ _ _ _
        have S₁h := S₁.toHold ok hl₁
        have okh := ok.hold (h := s₁.heap) hnK
        refine bindT_ok okh ck.hold S₁h h.1.1.2 tv hw fun s₂ ρ hw S₂ => ?_
        refine wpAny_passesOwn hE.pass (wpAny_mono (hb c _ h.2 (a.hold nw s₁.heap) gk okh ck.hold _ _ _ _ _ _ _ hw S₂ (hE.hold hnK)) (fun f s₃ h₃ => ?_) fun _ _ e => e)
        obtain ⟨o, Γ₃, α₃, P₃, hq, S₃, pa₃, pp₃, fl⟩ := h₃
        have S₃' := S₃.ofHold hnK
        have keepP : ∀ b o, P₁ b = some o → P₃ b = some o := fun b o e => pp₃ b o (pp₂ b o (pp b o e))
        have fin : ∀ {f o}, Q o Γ₃ → Fl a.G.fv P₃ f o → PostS a α P Q f s₃ := fun hq fl => ⟨_, Γ₃, α₃, P₃, hq, S₃', (p₁.trans pa).trans pa₃, fun b o e => keepP b o (q₁ b o e), fl⟩
        have again : wFor (fun d Γ' k => bindT tg d Γ'.ρ fun ρ => wSs T b ⟨ρ, Γ'.σ⟩ k X) (ds.drop (i + 1)) Γ₃ Q → ∃ m, m < ds.length - i ∧ (Ex4 (fun i Γ' α' P' => i ≤ ds.length) (fun i Γ' α' P' => Al7 (m = ds.length - i) (wFor (fun d Γ' k => bindT tg d Γ'.ρ fun ρ => wSs T b ⟨ρ, Γ'.σ⟩ k X) (ds.drop i) Γ' Q) (St a Γ' α' P' s₃) (J i s₃.heap) (α₁ <+: α') ((∀ b o, P₁ b = some o → P' b = some o)) (∀ b, b ∈ nw → Lone a α' P' b))) := fun hq =>
          ⟨ds.length - (i + 1), by omega, i + 1, Γ₃, α₃, P₃, hlt, rfl, hq, S₃', F.kept hj₁ (held S₃ ok hnK) (fun b o e => S₁.part b o (pp₂ b o (pp b o e))) (fun b o e => S₃'.part b o (keepP b o e)), pa.trans pa₃, keepP,
            Lone.ofHold S₃ hl₁ (fun b o e => S₁.ext b o e) (F.there (i + 1) _ hj₁)⟩
        cases f <;> cases o <;> first | exact fl.elim | skip
        · exact again hq
        · exact fin hq trivial
        · exact again hq
        · exact fin hq fl
      · cases r with
        | none => exact h₁.elim
        | some v => exact h₁
    · have hin : i = ds.length := by lia
      subst hin
      rw [List.drop_length] at hw
      simp only [Zp] at hw
      refine F.done s' _ _ hj' fun h' tk hk => ?_
      have S'' : St a Γ' α' P' { s' with heap := h', toks := tk } := S'.change (fun b => b ∈ nw) (fun b o hb e => hk b o hb e) hl'
      exact wpAny_execs_nil ⟨.next, Γ', α', P', hw, S'', p₁.trans pa, fun b o e => pp b o (q₁ b o e), trivial⟩

theorem snd_while {t : PE} {b : PSs} (ht : SndT T t) (hb : SndSs T b) : SndS T (.whil t b) := by
  intro c e h a gk ok ck Γ Q X α P s E hw S hE
  replace h := invS_whil h
  obtain ⟨_, _, _, rfl, h⟩ := h
  · rename_i te body pos
    simp only [Bool.and_eq_true] at h
    simp only [Mx] at hw
    obtain ⟨I, ⟨n, hI⟩, step⟩ := hw
    refine wpAny_While (codeAny_whileLoop (fun n s' => Ex3 (fun Γ' α' P' => I n Γ') (fun Γ' α' P' => Al3 (St a Γ' α' P' s') (α <+: α') ((∀ b o, P b = some o → P' b = some o)))) ?_ n ⟨Γ, α, P, hI, S, List.prefix_refl _, fun _ _ e => e⟩)
    rintro n s' ⟨Γ', α', P', hI, S', pa, pp⟩
    refine wpAny_passesOwn hE.pass (wpAny_mono (ht c _ h.1 a gk ok ck _ (fun x Γ₁ => if x = true then wSs T b Γ₁ (fun o Γ₂ => match o with
        | .next => ∃ m, m < n ∧ I m Γ₂
        | .cont => ∃ m, m < n ∧ I m Γ₂
        | .brk => Q .next Γ₂
        | .ret d => Q (.ret d) Γ₂) X
      else Q .next Γ₁) _ _ _ _ _ _ rfl (step n Γ' hI) S' hE) (fun x s₁ h₁ => ?_) fun _ _ e => e)
    obtain ⟨Γ₁, α₁, P₁, hw, S₁, pa₁, pp₁⟩ := h₁
    cases x with
    | false =>
      simp only [Bool.false_eq_true, if_false] at hw ⊢
      exact wpAny_execs_nil ⟨.next, Γ₁, α₁, P₁, hw, S₁, pa.trans pa₁, fun b o e => pp₁ b o (pp b o e), trivial⟩
    | true =>
      simp only [if_true] at hw ⊢
      refine wpAny_passesOwn hE.pass (wpAny_mono (hb c _ h.2 a gk ok ck _ _ _ _ _ _ _ hw S₁ hE) (fun f s₂ h₂ => ?_) fun _ _ e => e)
      obtain ⟨o, Γ₂, α₂, P₂, hq, S₂, pa₂, pp₂, fl⟩ := h₂
      have pp₃ : ∀ b o, P b = some o → P₂ b = some o := fun b o e => pp₂ b o (pp₁ b o (pp b o e))
      have pa₃ := (pa.trans pa₁).trans pa₂
      cases f <;> cases o <;> first | exact fl.elim | skip
      · obtain ⟨m, hm, hq⟩ := hq
        exact ⟨m, hm, Γ₂, α₂, P₂, hq, S₂, pa₃, pp₃⟩
      · exact ⟨.next, Γ₂, α₂, P₂, hq, S₂, pa₃, pp₃, trivial⟩
      · obtain ⟨m, hm, hq⟩ := hq
        exact ⟨m, hm, Γ₂, α₂, P₂, hq, S₂, pa₃, pp₃⟩
      · exact ⟨.ret _, Γ₂, α₂, P₂, hq, S₂, pa₃, pp₃, fl⟩

theorem snd_if {t : PE} {x y : PSs} (ht : SndT T t) (hx : SndSs T x) (hy : SndSs T y) : SndS T (.ite t x y) := by
  intro c e h a gk ok ck Γ Q X α P s E hw S hE
  replace h := invS_ite h
  obtain ⟨_, _, _, _, rfl, h⟩ := h
  · simp only [Bool.and_eq_true] at h
    simp only [Mw] at hw
    refine wpAny_If (wpAny_mono (ht c _ h.1.1 a gk ok ck _ (fun z Γ₁ => if z = true then wSs T x Γ₁ Q X else wSs T y Γ₁ Q X) _ _ _ _ _ _ rfl hw S hE) (fun z s₁ h₁ => ?_) fun _ _ e => e)
    obtain ⟨Γ₁, α₁, P₁, hw, S₁, p₁, q₁⟩ := h₁
    cases z with
    | true =>
      simp only [if_true] at hw ⊢
      exact wpAny_mono (hx c _ h.1.2 a gk ok ck _ _ _ _ _ _ _ hw S₁ hE) (fun f s₂ h₂ => h₂.trans p₁ q₁) fun _ _ e => e
    | false =>
      simp only [Bool.false_eq_true, if_false] at hw ⊢
      exact wpAny_mono (hy c _ h.2 a gk ok ck _ _ _ _ _ _ _ hw S₁ hE) (fun f s₂ h₂ => h₂.trans p₁ q₁) fun _ _ e => e

theorem snd_ret {x : PE} (hx : SndE T x) : SndS T (.ret x) := by
  intro c e h a gk ok ck Γ Q X α P s E hw S hE
  replace h := invS_ret h
  obtain ⟨_, _, rfl, h⟩ := h
  · simp only [Mz] at hw
    refine wpAny_Return_some (wpAny_mono (hx c _ h a gk ok ck _ _ _ _ _ _ _ hw S hE) (fun v s₁ h₁ => ?_) fun _ _ e => e)
    obtain ⟨r, Γ₁, α₁, P₁, hw, S₁, p₁, q₁, t⟩ := h₁
    obtain ⟨d, td, hw⟩ := onD_is t hw
    exact ⟨.ret d, Γ₁, α₁, P₁, hw, S₁, p₁, q₁, td⟩
theorem snd_cont : SndS T .cont := by
  intro c e h a gk ok ck Γ Q X α P s E hw S hE
  replace h := invS_cont h
  obtain ⟨_, rfl, h⟩ := h
  · simp only [Yb] at hw
    exact wpAny_Continue (.here hw S trivial)
end

end LM

namespace LM

theorem compLoop_any {prog : Program} {w : World} {A : Around} {R : Result → Shared → Prop} {s : Shared} {elt target iter : Expr} {scope : Scope} {pos : Pos} {it acc : Value} {env : Env} (I : Nat → Shared → Prop)
    (turn : ∀ n s, I n s → wpAny (model prog w) A (pyNext it) (fun r s₁ => match r with
      | none => R (.ok .next) s₁
      | some v => wpAny (model prog w) A (letOwnedTupleGo target it v) (fun _ s₁' => wpAny (model prog w) A (assign target env v) (fun _ s₂ => wpAny (model prog w) A (eval elt env) (fun x s₃ =>
          wpAny (model prog w) A (call (.builtin "list.append") [acc, x]) (fun _ s₄ => ∃ m, m < n ∧ I m s₄) (notedBy (model prog w) A env fun e s' => R (.error e) s') s₃)
          (notedBy (model prog w) A env fun e s' => R (.error e) s') s₂) (notedBy (model prog w) A env fun e s' => R (.error e) s') s₁') (notedBy (model prog w) A env fun e s' => R (.error e) s') s₁) (notedBy (model prog w) A env fun e s' => R (.error e) s') s)
    (n : Nat) (h : I n s) : codeAny (model prog w) A (.compLoop (.ListComp elt [⟨target, iter, [], 0⟩] scope pos) 0 it acc env) R s := by
  refine codeAny_loop rfl I (fun n s hI => ?_) n h
  show wpAny _ _ ((compTurn (.ListComp elt [⟨target, iter, [], 0⟩] scope pos) 0 it acc env).onRaise (fun x => do noteFrame x env; theTreesLotGoes x)) _ _ s
  refine wpAny_noted ?_
  rw [compTurn_list1]
  refine wpAny_bind (wpAny_standAt (wpAny_bind (wpAny_mono (turn n s hI) (fun r s₁ h₁ => ?_) fun _ _ h' => h')))
  cases r with
  | none => exact wpAny_pure h₁
  | some v =>
    refine wpAny_bind (wpAny_mono h₁ (fun _ s₁' h₁' => ?_) fun _ _ h' => h')
    exact wpAny_bind (wpAny_mono h₁' (fun _ s₂ h₂ => wpAny_bind (wpAny_bind (wpAny_mono h₂ (fun x s₃ h₃ => wpAny_bind (wpAny_mono h₃
      (fun _ s₄ h₄ => wpAny_pure (wpAny_pure ⟨rfl, h₄⟩)) fun _ _ h' => h')) fun _ _ h' => h'))) fun _ _ h' => h')

/-- the cells that a comprehension reads. -/
theorem closure_go (env : Env) : ∀ (names : List (Str × NameKind)) (acc : List (Str × Addr)), (∀ x ∈ names, x.2 = .free → ∃ c, env.cells.lookup x.1 = some c) →
    ∃ cl : List (Str × Addr), (forIn names acc (fun (x : Str × NameKind) cs => match x with
      | (name, kind) => if (kind == NameKind.free) = true then do let r ← cellOf env name; pure (ForInStep.yield ((name, r) :: cs)) else pure (ForInStep.yield cs)) : Sem (List (Str × Addr))) = pure cl ∧
      (∀ x c, cl.lookup x = some c → acc.lookup x = some c ∨ env.cells.lookup x = some c) ∧ (∀ x, (acc.lookup x = env.cells.lookup x ∨ (x, NameKind.free) ∈ names) → cl.lookup x = env.cells.lookup x)
  | [], acc, _ => ⟨acc, rfl, fun x c h => .inl h, fun x h => by rcases h with h | h; exact h; cases h⟩
  | (n, k) :: r, acc, h => by
    rw [List.forIn_cons]
    by_cases hk : (k == NameKind.free) = true
    · have hk' : k = .free := by simpa using hk
      obtain ⟨c, hc⟩ := h (n, k) (.head _) hk'
      obtain ⟨cl, h1, h2, h3⟩ := closure_go env r ((n, c) :: acc) fun x hx => h x (.tail _ hx)
      refine ⟨cl, ?_, fun x d hd => ?_, fun x hx => h3 x ?_⟩
      · have hco : cellOf env n = pure c := by unfold cellOf; rw [hc]
        simp only [hk, if_true, hco]
        exact h1
      · rcases h2 x d hd with h4 | h4
        · by_cases q : x == n
          · rw [List.lookup_cons, q] at h4; cases h4
            have : x = n := by simpa using q
            rw [this]; exact .inr hc
          · have q' : (x == n) = false := by simpa using q
            rw [List.lookup_cons, q'] at h4; exact .inl h4
        · exact .inr h4
      · by_cases q : x = n
        · subst q; left; rw [List.lookup_cons]; simp [hc]
        · rcases hx with hx | hx
          · left
            have q' : (x == n) = false := by simpa using q
            rw [List.lookup_cons, q']; exact hx
          · rcases List.mem_cons.mp hx with e | hx
            · cases e; exact (q rfl).elim
            · exact .inr hx
    · have hk0 : (k == NameKind.free) = false := by simpa using hk
      obtain ⟨cl, h1, h2, h3⟩ := closure_go env r acc fun x hx => h x (.tail _ hx)
      refine ⟨cl, ?_, h2, fun x hx => h3 x ?_⟩
      · simp only [hk0, Bool.false_eq_true, if_false]
        exact h1
      · rcases hx with hx | hx
        · exact .inl hx
        · rcases List.mem_cons.mp hx with e | hx
          · cases e; exact (hk rfl).elim
          · exact .inr hx
theorem closure_ok (env : Env) (scope : Scope) (h : ∀ x ∈ scope.names, x.2 = .free → ∃ c, env.cells.lookup x.1 = some c) :
    ∃ cl, closureFor scope env = pure cl ∧ (∀ x c, cl.lookup x = some c → env.cells.lookup x = some c) ∧ (∀ x, (x, NameKind.free) ∈ scope.names → cl.lookup x = env.cells.lookup x) := by
  obtain ⟨cl, h1, h2, h3⟩ := closure_go env scope.names [] h
  refine ⟨cl, ?_, fun x c hc => ?_, fun x hx => h3 x (.inr hx)⟩
  · unfold closureFor
    have := congrArg (fun t => t >>= fun (r : List (Str × Addr)) => (pure r : Sem _)) h1
    exact this
  · rcases h2 x c hc with h | h
    · cases h
    · exact h

theorem mem_of_lookup' {β : Type} : ∀ {l : List (Str × β)} {x : Str} {b : β}, l.lookup x = some b → (x, b) ∈ l
  | [], x, b, h => by simp at h
  | (n, k) :: r, x, b, h => by
    rw [List.lookup_cons] at h
    cases q : (x == n) with
    | true =>
      rw [q] at h; cases h
      have : x = n := by simpa using q
      subst this; exact .head _
    | false =>
      rw [q] at h
      exact .tail _ (mem_of_lookup' h)

theorem lookup_relabel (env : Env) : ∀ (names : List (Str × NameKind)) (x : Str),
    (names.map fun (n, k) => if (k == NameKind.free && env.scope.kind == .function && env.kindOf n == some .cell) then (n, NameKind.cell) else (n, k)).lookup x =
      (names.lookup x).map fun k => if (k == NameKind.free && env.scope.kind == .function && env.kindOf x == some .cell) then NameKind.cell else k
  | [], x => rfl
  | (n, k) :: r, x => by
    have ih := lookup_relabel env r x
    show List.lookup x ((if (k == NameKind.free && env.scope.kind == .function && env.kindOf n == some .cell) = true then (n, NameKind.cell) else (n, k)) :: _) = _
    by_cases q : x = n
    · subst q
      by_cases hc : (k == NameKind.free && env.scope.kind == .function && env.kindOf x == some .cell) = true
      · rw [if_pos hc, List.lookup_cons, List.lookup_cons, beq_self_eq_true]
        show some NameKind.cell = some (if _ then _ else _)
        rw [if_pos hc]
      · rw [if_neg hc, List.lookup_cons, List.lookup_cons, beq_self_eq_true]
        show some k = some (if _ then _ else _)
        rw [if_neg hc]
    · have q' : (x == n) = false := by simpa using q
      by_cases hc : (k == NameKind.free && env.scope.kind == .function && env.kindOf n == some .cell) = true
      · rw [if_pos hc, List.lookup_cons, List.lookup_cons, q']; exact ih
      · rw [if_neg hc, List.lookup_cons, List.lookup_cons, q']; exact ih

/-- a comprehension's frame as an activation. -/
noncomputable def Act.comp (a : Act) (env : Env) (vars : List Str) (nw : List Addr) (P : Part) (s : Shared) : Act :=
  { G := a.G, A := a.A, env := env, fr := a.fr, lvl := a.lvl, main := false, vars := vars, muts := [env.locals], FA := addrs a.fr, K := fun b => if b ∈ nw then none else s.heap.get? b, P₀ := P, s₀ := s }

section
variable {T : Nat → Option LM.Spec} {a : Act} {c : Cfg} {Γ : Fs} {α : List Addr} {P : Part} {s : Shared} {E : Value → Shared → Prop}

structure CompOk (a : Act) (c : Cfg) (scope : Scope) (tn : List Str) (fs : List Nat) (cl : List (Str × Addr)) : Prop where
  kind : scope.kind = .function
  akind : a.env.scope.kind = .function
  cell : ∀ x ∈ scope.names, x.2 ≠ .cell
  loc : ∀ x ∈ scope.names, x.2 = .local → scope.names.lookup x.1 = some .local
  free : ∀ x ∈ scope.names, x.2 = .free → a.env.kindOf x.1 = some .cell
  nodup : (tn ++ fs.map (fun i => c.vars.getD i default)).Nodup
  fs : ∀ i ∈ fs, i < c.vars.length ∧ a.env.kindOf (c.vars.getD i default) = some .cell ∧ scope.names.lookup (c.vars.getD i default) = some .free
  tn : ∀ x ∈ tn, scope.names.lookup x = some .local
  sub : ∀ x c, cl.lookup x = some c → a.env.cells.lookup x = some c
  eq : ∀ x, (x, NameKind.free) ∈ scope.names → cl.lookup x = a.env.cells.lookup x

theorem compScope_is (ok : ActOk a) (ck : CkOk T a c) {scope : Scope} {tn : List Str} {fs : List Nat} (h : compScope c scope tn fs = true) : Ex1 (fun cl => closureFor scope a.env = pure cl) (fun cl => CompOk a c scope tn fs cl) := by
  unfold compScope at h
  simp only [Bool.and_eq_true, List.all_eq_true, beq_iff_eq, bne_iff_ne, Bool.or_eq_true, decide_eq_true_eq] at h
  obtain ⟨⟨⟨⟨⟨⟨⟨h1, h2⟩, h3⟩, h4⟩, h5⟩, h6⟩, h7⟩, h8⟩ := h
  have hfree : ∀ x ∈ scope.names, x.2 = .free → a.env.kindOf x.1 = some .cell := fun x hx e => by
    rcases h4 x hx with h | h
    · exact (h e).elim
    · rw [← kindIn_eq ck]; exact h
  obtain ⟨cl, hcl, hs, he⟩ := closure_ok a.env scope fun x hx e => ok.clos _ (hfree x hx e)
  refine ⟨cl, hcl, h1, ok.kind, h2, fun x hx e => ?_, hfree, h6, fun i hi => ?_, h8, hs, he⟩
  · rcases h3 x hx with h | h
    · exact (h e).elim
    · exact h
  · obtain ⟨⟨g1, g2⟩, g3⟩ := h7 i hi
    exact ⟨g1, by rw [← kindIn_eq ck]; exact g2, g3⟩

variable {scope : Scope} {tn : List Str} {fs : List Nat} {cl : List (Str × Addr)} {C : Addr} {nw : List Addr}

theorem CompOk.kindOf (o : CompOk a c scope tn fs cl) (x : Str) : (compEnvC scope cl C a.env).kindOf x = (scope.names.lookup x).map fun k => if (k == NameKind.free && a.env.scope.kind == .function && a.env.kindOf x == some .cell) then NameKind.cell else k :=
  lookup_relabel a.env scope.names x

theorem CompOk.act (o : CompOk a c scope tn fs cl) (ok : ActOk a) (ck : CkOk T a c) (S : St a Γ α P s) (hl : ∀ b, b ∈ nw → Lone a α P b) (hC : s.heap.get? C = none) :
    ActOk (a.comp (compEnvC scope cl C a.env) (tn ++ fs.map fun i => c.vars.getD i default) nw P s) ∧
    CkOk T (a.comp (compEnvC scope cl C a.env) (tn ++ fs.map fun i => c.vars.getD i default) nw P s) ⟨c.fns, tn ++ fs.map (fun i => c.vars.getD i default), relabel scope (envS c.sc), false⟩ := by
  have hnwF : ∀ b, b ∈ addrs a.fr → b ∉ nw := fun b hb hm => by
    rcases ok.addr hb with e | ⟨hF, _⟩
    · exact (hl b hm).2.2.2.1 e
    · exact (ok.fa b hF).2.2.2 (hl b hm).1
  constructor
  · refine ⟨o.kind, .head _, (fun h => nomatch h), fun x hx => ?_, ok.handled, ok.frames, ok.depth, ok.units, ok.glob, ok.blt, ok.glob0, ok.blt0, fun e he => ?_, fun x y d hx hy => ok.cinj x y d (o.sub x d hx) (o.sub y d hy), o.nodup, fun b hb => ?_, fun b hb => ?_, (fun h => nomatch h)⟩
    · have hx := (o.kindOf (C := C) x).symm.trans hx
      cases e : scope.names.lookup x with
      | none => rw [e] at hx; cases hx
      | some k =>
        rw [e] at hx
        have hmem := mem_of_lookup' e
        by_cases q : k = .free
        · subst q
          obtain ⟨d, hd⟩ := ok.clos x (o.free _ hmem rfl)
          exact ⟨d, (o.eq x hmem).trans hd⟩
        · have q' : (k == NameKind.free) = false := by simpa using q
          simp only [Option.map_some, q', Bool.false_and, Bool.false_eq_true, if_false, Option.some.injEq] at hx
          exact (o.cell _ hmem hx).elim
    · obtain ⟨hk, L, hL, _⟩ := ok.frs e he
      have hm : L ∈ addrs a.fr := List.mem_filterMap.mpr ⟨e, he, hL⟩
      obtain ⟨o', es, ep, ho, hd⟩ := S.frDict ok hm
      exact ⟨hk, L, hL, .inr ⟨hm, o', es, ep, (if_neg (hnwF L hm)).trans ho, hd⟩⟩
    · obtain ⟨o', es, ep, ho, hd⟩ := S.frDict ok hb
      refine ⟨fun hm => ?_, ?_, S.pfr ok b hb, ?_⟩
      · rcases List.mem_cons.mp hm with e | e
        · have e : b = C := e
          rw [e, hC] at ho; cases ho
        · cases e
      · rcases ok.addr hb with e | ⟨hF, _⟩
        · rw [e]; exact (S.mfree _ ok.loc).2.2
        · exact (ok.fa b hF).2.1
      · show (if b ∈ nw then none else s.heap.get? b) ≠ none
        rw [if_neg (hnwF b hb), ho]; simp
    · rcases List.mem_cons.mp hb with e | e
      · exact .inl e
      · cases e
  · refine ⟨ck.fns, rfl, ?_, rfl, ck.T⟩
    show relabel scope (envS c.sc) = relabel scope a.env
    rw [ck.sc]; rfl

theorem Feed.cast {a' : Act} {te : Expr} {it : Value} {ds : List D} {P₁ : Part} {nw : List Addr} {J : Nat → Heap → Prop} (hG : a'.G = a.G) (hA : a'.A = a.A) (F : Feed a te it ds P₁ nw J) : Feed a' te it ds P₁ nw J := by
  obtain ⟨f1, f2, f3, f4, f5⟩ := F
  refine ⟨f1, f2, ?_, ?_, ?_⟩
  · rw [hG, hA]; exact f3
  · rw [hG, hA]; exact f4
  · rw [hG, hA]; exact f5

/-- the slots of a comprehension's frame, told by the cells of the frame around. -/
theorem CompOk.base (o : CompOk a c scope tn fs cl) (ok : ActOk a) (ck : CkOk T a c) (S : St a Γ α P s) (hl : ∀ b, b ∈ nw → Lone a α P b) {Γ' : Fs} {α' : List Addr} {P' : Part} {s' : Shared}
    (S' : St (a.comp (compEnvC scope cl C a.env) (tn ++ fs.map fun i => c.vars.getD i default) nw P s) Γ' α' P' s') :
    St (a.comp (compEnvC scope cl C a.env) (tn ++ fs.map fun i => c.vars.getD i default) nw P s) ⟨compρ tn fs Γ, []⟩ [] P' s' := by
  have hP : ∀ b o, P b = some o → P' b = some o := S'.ext
  -- the slots
  have slot : ∀ (j : Nat) (x : Str) (r : Rv), (tn ++ fs.map fun i => c.vars.getD i default)[j]? = some x → (compρ tn fs Γ)[j]? = some (some r) → Ex2 (fun i d => i ∈ fs) (fun i d => Al3 (x = c.vars.getD i default) (Γ.ρ[i]? = some (some (.d d))) (r = .d d)) := by
    intro j x r hx hr
    unfold compρ at hr
    by_cases hj : j < tn.length
    · rw [List.getElem?_append_left (by simpa using hj), List.getElem?_map] at hr
      rw [List.getElem?_eq_getElem hj] at hr
      cases hr
    · have hj' : tn.length ≤ j := by (exact Nat.le_of_not_lt hj)
      rw [List.getElem?_append_right (by simpa using hj'), List.getElem?_map] at hr
      rw [List.getElem?_append_right hj', List.getElem?_map] at hx
      simp only [List.length_map] at hr
      cases hf : fs[j - tn.length]? with
      | none => rw [hf] at hr; cases hr
      | some i =>
        rw [hf] at hr hx
        simp only [Option.map_some, Option.some.injEq] at hr hx
        split at hr
        · rename_i d hd
          cases hr
          exact ⟨i, d, List.mem_of_getElem? hf, hx.symm, hd, rfl⟩
        · cases hr
  refine ⟨S'.rest, S'.top, S'.hold, S'.part, S'.ext, S'.grow, ?_, S'.cell, ?_, ?_, rfl, List.nodup_nil, ?_, ?_, S'.mfree, ?_, ?_⟩
  · obtain ⟨m, hn, _⟩ := S'.ns
    refine ⟨m, hn, fun j x r hx hr hk => ?_⟩
    obtain ⟨i, d, hi, rfl, _, _⟩ := slot j x r hx hr
    obtain ⟨_, g2, g3⟩ := o.fs i hi
    have hk' : (compEnvC scope cl C a.env).kindOf (c.vars.getD i default) = some .cell := by
      rw [o.kindOf, g3]
      show some (if _ then _ else _) = _
      rw [if_pos (by rw [o.akind, g2]; rfl)]
    have hk := hk'.symm.trans hk
    cases hk
  · intro j x r hx hr _
    obtain ⟨i, d, hi, rfl, hd, rfl⟩ := slot j x r hx hr
    obtain ⟨g1, g2, g3⟩ := o.fs i hi
    have hv : a.vars[i]? = some (c.vars.getD i default) := by
      rw [← ck.vars, List.getD_eq_getElem?_getD, List.getElem?_eq_getElem g1]; rfl
    obtain ⟨b, v, hb, ⟨ob, ho, hdd⟩, t⟩ := S.cells i _ _ hv hd (by rw [g2]; simp)
    refine ⟨b, v, (o.eq _ (mem_of_lookup' g3)).trans hb, ?_, Tells.mono hP t⟩
    have hn : b ∉ nw := fun hm => (hl b hm).2.2.2.2.2 _ hb
    have hF : b ∉ addrs a.fr := fun hm => by
      obtain ⟨o', es, ep, ho', hd'⟩ := S.frDict ok hm
      rw [ho] at ho'; cases ho'; rw [hdd] at hd'; cases hd'
    exact ⟨ob, (S'.hold b ob ((if_neg hn).trans ho)).1 hF, hdd⟩
  · intro k l hk; simp at hk
  · intro b hb; cases hb
  · intro b hb; cases hb
  · intro k l b hk; simp at hk
  · intro b hb; cases hb

/-- the frame of a comprehension, as it starts. -/
theorem CompOk.start (o : CompOk a c scope tn fs cl) (S : St a Γ α P s) {s' : Shared} {m : Str → Option Value} (hr : SameRest s s') (old : ∀ b o, s.heap.get? b = some o → s'.heap.get? b = some o) (hn : s'.heap.Ns C m) (hC : s.heap.get? C = none) :
    St (a.comp (compEnvC scope cl C a.env) (tn ++ fs.map fun i => c.vars.getD i default) nw P s) ⟨[], []⟩ [] P s' := by
  have outC := S.out hC
  have hK : ∀ b o, (if b ∈ nw then none else s.heap.get? b) = some o → s'.heap.get? b = some o := fun b o e => by
    by_cases q : b ∈ nw
    · rw [if_pos q] at e; cases e
    · rw [if_neg q] at e; exact old b o e
  refine ⟨hr, fun b o e => old b o (S.top b o e), fun b o e => ⟨fun _ => hK b o e, fun _ => ⟨o.slots, hK b o e⟩⟩, fun b o e => old b o (S.part b o e), fun _ _ e => e, fun b e => .inl e, ⟨m, hn, ?_⟩, fun x d hd => ?_, ?_, ?_, rfl, List.nodup_nil, ?_, ?_, fun b hb => ?_, ?_, ?_⟩
  · intro i x r _ hr; simp at hr
  · obtain ⟨v, ob, ho, hdd⟩ := S.cell x d (o.sub x d hd)
    exact ⟨v, ob, old _ _ ho, hdd⟩
  · intro i x r _ hr; simp at hr
  · intro k l hk; simp at hk
  · intro b hb; cases hb
  · intro b hb; cases hb
  · rcases List.mem_cons.mp hb with e | e
    · have e : b = C := e
      subst e
      refine ⟨?_, outC.2.1, outC.2.2.1⟩
      show (if b ∈ nw then none else s.heap.get? b) = none
      rw [hC]; split <;> rfl
    · cases e
  · intro k l b hk; simp at hk
  · intro b hb; cases hb

/-- the loop of a comprehension at item i. -/
noncomputable def CompInv (T : Nat → Option LM.Spec) (a a' : Act) (ds : List D) (f : D → (D → Prop) → Prop) (K : List D → Prop) (P₁ : Part) (nw : List Addr) (J : Nat → Heap → Prop) (l : Addr) (n : Nat) (s' : Shared) : Prop :=
  Ex6 (fun i Γ' α' P' os ys => i ≤ ds.length) (fun i Γ' α' P' os ys => Al8 (n = ds.length - i) (os.length = i) (wComp f (ds.drop i) (fun r => K (os ++ r))) (St a' Γ' α' P' s') (J i s'.heap) ((∀ b, b ∈ l :: nw → Lone a' [] P' b)) (s'.heap.PlainList l ys.toArray) (TellsAll a.G.fv P' ys os))

theorem comp_core {it : PIt} {tg : Tgt} {e : PE} (hi : SndI T it) (he : SndE T e) {te ie elt : Expr} {pos pos' : Pos} (hit : itT it tg = true) (hsc : compScope c scope tn fs = true) (hci : chkI it c ie = true)
    (hct : chkT ⟨c.fns, tn ++ fs.map (fun i => c.vars.getD i default), relabel scope (envS c.sc), false⟩ tg te = true)
    (hce : chkE e ⟨c.fns, tn ++ fs.map (fun i => c.vars.getD i default), relabel scope (envS c.sc), false⟩ elt = true)
    (gk : GlOk a.G) (ok : ActOk a) (ck : CkOk T a c) {X : Prop} {K : List D → Fs → Prop}
    (hw : wI T it Γ (fun ds Γ₁ => ds.length ≤ 2 ^ 20 ∧ wComp (fun d k => bindT tg d (compρ tn fs Γ₁) fun ρ => wE T e ⟨ρ, []⟩ (fun r _ => onD r k) False) ds fun os => K os Γ₁) X) (S : St a Γ α P s) (hE : ExOk a E X)
    {use : Option (Value → Sem Unit)} {Q : Value → Shared → Prop}
    (hQ : ∀ os Γ₁ α₁ P₁ s' b C m, K os Γ₁ → α <+: α₁ → (∀ b o, P b = some o → P₁ b = some o) → St a Γ₁ α₁ P₁ s' → Tells a.G.fv P₁ (.ref b) (.list os) → s'.heap.Ns C m → Lone a α₁ P₁ C →
      compPost (model a.G.prog a.G.w) a.A E use Q (.ref b) C (.ok .next) s') :
    wpAny (model a.G.prog a.G.w) a.A (comprehension (.ListComp elt [⟨te, ie, [], 0⟩] scope pos) scope a.env pos' (newList []) false (eval ie a.env) use) Q E s := by
  obtain ⟨cl, hclos, O⟩ := compScope_is ok ck hsc
  refine wpAny_comprehension_free rfl (chkI_folded hci) hclos O.kind O.loc (wpAny_mono (hi c _ hci a gk ok ck _ _ _ _ _ _ _ tg te (chkT_is hct) hit hw S hE) (fun x s₁ h₁ => wpAny_mono h₁ (fun itv s₂ h₂ => ?_) fun _ _ e => e) fun _ _ e => e)
  obtain ⟨ds, Γ₁, α₁, P₁, nw, J, ⟨hlen, hw⟩, S₂, p₁, q₁, F, hj, hl⟩ := h₂
  refine wpAny_newObj_type (wpAny_newFunctionEnv O.cell (by intro y hy; simp at hy) (fun h₁ hns₁ hsb₁ => ?_) O.kind)
  dsimp only at hns₁ hsb₁ ⊢
  generalize hH2 : s₂.heap.push { cls := .type "list", dict := none, data := .seq ([] : List Value).toArray } = H2 at hns₁ hsb₁ ⊢
  have hC : H2.objs.size = s₂.heap.objs.size + 1 := by rw [← hH2, Heap.size_push]
  have hDC : s₂.heap.objs.size ≠ H2.objs.size := by rw [hC]; exact Nat.ne_of_lt (Nat.lt_succ_self _)
  have below : ∀ b, b < s₂.heap.objs.size → b ≠ H2.objs.size ∧ b ≠ s₂.heap.objs.size := fun b hb => ⟨by rw [hC]; exact Nat.ne_of_lt (Nat.lt_succ_of_lt hb), Nat.ne_of_lt hb⟩
  have old : ∀ b o, s₂.heap.get? b = some o → h₁.get? b = some o := fun b o e => hsb₁.extBut b o (below b (Heap.lt_size e)).1 (Heap.get?_push_of_some _ (hH2 ▸ Heap.get?_push_of_some _ e))
  have hacc : h₁.PlainList s₂.heap.objs.size #[] := ⟨_, hsb₁.extBut _ _ hDC (Heap.get?_push_of_some _ (hH2 ▸ Heap.get?_push_size _ rfl))⟩
  have hDn : s₂.heap.get? s₂.heap.objs.size = none := fresh_none
  have hCn : s₂.heap.get? H2.objs.size = none := fresh_of_size (by rw [hC]; exact Nat.le_succ _)
  obtain ⟨l, hDe⟩ : ∃ l, l = s₂.heap.objs.size := ⟨_, rfl⟩
  obtain ⟨C, hCe⟩ : ∃ C, C = H2.objs.size := ⟨_, rfl⟩
  rw [← hDe] at hDC hacc hDn ⊢
  rw [← hCe] at hns₁ hDC hCn ⊢
  obtain ⟨ok', ck'⟩ := O.act (C := C) ok ck S₂ hl hCn
  have outC := S₂.out hCn
  have outD := S₂.out hDn
  have F' := Feed.cast (a := a) (a' := a.comp (compEnvC scope cl C a.env) (tn ++ fs.map fun i => c.vars.getD i default) nw P₁ s₂) rfl rfl F
  have hlC : ∀ b, b ∈ nw → b ≠ C := fun b hb q => by
    obtain ⟨o, ho⟩ := F.there 0 _ hj b hb
    rw [q, hCn] at ho; cases ho
  have hlD : l ∉ nw := fun hb => by
    obtain ⟨o, ho⟩ := F.there 0 _ hj l hb
    rw [hDn] at ho; cases ho
  have hKn : ∀ b, b ∈ l :: nw → (a.comp (compEnvC scope cl C a.env) (tn ++ fs.map fun i => c.vars.getD i default) nw P₁ s₂).K b = none := fun b hb => by
    show (if b ∈ nw then none else s₂.heap.get? b) = none
    rcases List.mem_cons.mp hb with rfl | hb
    · rw [if_neg hlD]; exact hDn
    · rw [if_pos hb]
  have lone0 : ∀ b, b ∈ l :: nw → Lone (a.comp (compEnvC scope cl C a.env) (tn ++ fs.map fun i => c.vars.getD i default) nw P₁ s₂) [] P₁ b := fun b hb => by
    refine ⟨hKn b hb, ?_⟩
    rcases List.mem_cons.mp hb with rfl | hb
    · exact ⟨outD.2.1, outD.2.2.1, hDC, by simp, fun x hx => outD.2.2.2.2.2 x (O.sub x _ hx)⟩
    · obtain ⟨g1, g2, g3, g4, g5, g6⟩ := hl b hb
      exact ⟨g2, g3, hlC b hb, by simp, fun x hx => g6 x (O.sub x _ hx)⟩
  have loop : codeAny (model a.G.prog a.G.w) a.A (.compLoop (.ListComp elt [⟨te, ie, [], 0⟩] scope pos) 0 itv (.ref l) (compEnvC scope cl C a.env)) (compPost (model a.G.prog a.G.w) a.A E use Q (.ref l) C) { s₂ with heap := h₁, toks := s₂.toks + ([] : List (Str × Value)).length } := by
    have S₄ := O.start (nw := nw) S₂ (s' := { s₂ with heap := h₁, toks := s₂.toks + ([] : List (Str × Value)).length }) ⟨rfl, rfl, rfl⟩ old hns₁ hCn
    generalize hae : a.comp (compEnvC scope cl C a.env) (tn ++ fs.map fun i => c.vars.getD i default) nw P₁ s₂ = a' at *
    have hG : a'.G = a.G := by rw [← hae]; rfl
    have hA : a'.A = a.A := by rw [← hae]; rfl
    have hEnv : a'.env = compEnvC scope cl C a.env := by rw [← hae]; rfl
    refine compLoop_any (CompInv T a a' ds (fun d k => bindT tg d (compρ tn fs Γ₁) fun ρ => wE T e ⟨ρ, []⟩ (fun r _ => onD r k) False) (fun os => K os Γ₁) P₁ nw J l) ?_ ds.length
      ⟨0, _, _, P₁, [], [], Nat.zero_le _, rfl, rfl, hw, S₄, F.kept hj (fun b o _ e => old b o e) S₂.part S₄.part, lone0, hacc, .nil⟩
    rintro n s' ⟨i, Γ', α', P', os, ys, hi, rfl, hos, hw, S', hj', hl', hpl, tl⟩
    have Sr : St a' ⟨compρ tn fs Γ₁, []⟩ [] P' s' := by
      rw [← hae] at S' ⊢
      exact O.base ok ck S₂ hl S'
    have hnK : ∀ b, b ∈ l :: nw → a'.K b = none := hKn
    have hP₁ : ∀ b o, P₁ b = some o → P' b = some o := fun b o e => Sr.ext b o (by rw [← hae]; exact e)
    by_cases hlt : i < ds.length
    · have hd : ds[i]? = some ds[i] := List.getElem?_eq_getElem hlt
      rw [List.drop_eq_getElem_cons hlt] at hw
      simp only [Zs] at hw
      have goal := draw_ok ok' Sr F' hd hj' (fun b hb => hl' b (.tail _ hb)) hP₁ (E := notedBy (model a'.G.prog a'.G.w) a'.A a'.env fun e s' => compPost (model a.G.prog a.G.w) a.A E use Q (.ref l) C (.error e) s')
        (E' := notedBy (model a'.G.prog a'.G.w) a'.A a'.env fun e s' => compPost (model a.G.prog a.G.w) a.A E use Q (.ref l) C (.error e) s')
        (Q := fun v s₁ => wpAny (model a'.G.prog a'.G.w) a'.A (assign te a'.env v) (fun _ s₂' => wpAny (model a'.G.prog a'.G.w) a'.A (eval elt a'.env) (fun x s₃ =>
          wpAny (model a'.G.prog a'.G.w) a'.A (call (.builtin "list.append") [.ref l, x]) (fun _ s₄ => ∃ m, m < ds.length - i ∧ CompInv T a a' ds (fun d k => bindT tg d (compρ tn fs Γ₁) fun ρ => wE T e ⟨ρ, []⟩ (fun r _ => onD r k) False) (fun os => K os Γ₁) P₁ nw J l m s₄)
            (notedBy (model a'.G.prog a'.G.w) a'.A a'.env fun e s' => compPost (model a.G.prog a.G.w) a.A E use Q (.ref l) C (.error e) s') s₃)
          (notedBy (model a'.G.prog a'.G.w) a'.A a'.env fun e s' => compPost (model a.G.prog a.G.w) a.A E use Q (.ref l) C (.error e) s') s₂')
          (notedBy (model a'.G.prog a'.G.w) a'.A a'.env fun e s' => compPost (model a.G.prog a.G.w) a.A E use Q (.ref l) C (.error e) s') s₁) ?_
      · rw [hG, hA, hEnv] at goal
        refine wpAny_mono goal (fun r s₁ h₁ => ?_) fun _ _ e => e
        cases r with
        | none => exact h₁.elim
        | some v => exact h₁
      · intro v s₁ P₂ S₁ pp₂ tv hj₁ hl₁ hks₁ _ hgr₁
        have hlD₁ : Lone a' [] P₂ l := by
          obtain ⟨g1, g2, g3⟩ := hl' l (.head _)
          refine ⟨g1, ?_, g3⟩
          cases q : P₂ l with
          | none => rfl
          | some o =>
            rcases hgr₁ l (by rw [q]; simp) with h | h
            · exact (h g2).elim
            · obtain ⟨n', hpl⟩ := hpl
              rw [hpl] at h; cases h
        have hl₁' : ∀ b, b ∈ l :: nw → Lone a' [] P₂ b := fun b hb => by
          rcases List.mem_cons.mp hb with rfl | hb
          · exact hlD₁
          · exact hl₁ b hb
        have hpl₁ : s₁.heap.PlainList l ys.toArray := hpl.at fun o e => hks₁ l o hlD e
        have S₁h := S₁.toHold ok' hl₁'
        have okh := ok'.hold (nw := l :: nw) (h := s₁.heap) hnK
        refine bindT_ok okh ck'.hold S₁h hct tv hw fun s₂' ρ hw S₂' => ?_
        refine wpAny_noRaise (wpAny_mono (he _ elt hce (a'.hold (l :: nw) s₁.heap) (by rw [← hG] at gk; exact gk) okh ck'.hold _ _ _ _ _ _ _ hw S₂' ExOk.never) (fun x s₃ h₃ => ?_) fun _ _ e => e)
        obtain ⟨r, Γ₃, α₃, P₃, hq, S₃, pa₃, pp₃, t₃⟩ := h₃
        obtain ⟨d', td', hq⟩ := onD_is t₃ hq
        have hpl₃ : s₃.heap.PlainList l ys.toArray := hpl₁.at fun o e => held S₃ ok' hnK l o (.head _) e
        have hth : ∀ b, b ∈ l :: nw → ∃ o, s₁.heap.get? b = some o := fun b hb => by
          rcases List.mem_cons.mp hb with rfl | hb
          · obtain ⟨n', hp⟩ := hpl₁; exact ⟨_, hp⟩
          · exact F.there (i + 1) _ hj₁ b hb
        have hl₃ := Lone.ofHold S₃ hl₁' (fun b o e => S₁.ext b o e) hth
        have S₃' := S₃.ofHold hnK
        have el := tl.length
        refine wpAny_list_append_plain hpl₃ (fun h' hp' hs' => ?_) (by
          have : (2 : Nat) ^ 20 ≤ sizeLine := by decide
          simp only [List.size_toArray]; (exact Nat.le_trans (Nat.le_trans (Nat.le_trans (Nat.le_trans (Nat.le_of_eq el) (Nat.le_of_eq hos)) hi) hlen) this))
        have S₄' : St a' Γ₃ α₃ P₃ { s₃ with heap := h' } := S₃'.change (fun b => b = l) (fun b o hb e => hs'.extBut b o hb e) fun b hb => by rw [hb]; exact hl₃ l (.head _)
        refine ⟨ds.length - (i + 1), by (clear hi; refine Nat.lt_of_not_le fun h => ?_; lia), i + 1, Γ₃, α₃, P₃, os ++ [d'], ys ++ [x], hlt, rfl, by simp [hos], ?_, S₄', ?_, ?_, ?_, ?_⟩
        · simpa [List.append_assoc] using hq
        · refine F.kept hj₁ (fun b o hb e => ?_) (fun b o e => S₁.part b o (pp₂ b o (hP₁ b o e))) (fun b o e => S₄'.part b o (pp₃ b o (pp₂ b o (hP₁ b o e))))
          exact hs'.extBut b o (fun q => hlD (q ▸ hb)) (held S₃ ok' hnK b o (.tail _ hb) e)
        · intro b hb
          obtain ⟨g1, g2, g3, g4, g5, g6⟩ := hl₃ b hb
          exact ⟨g1, g2, g3, g4, by simp, g6⟩
        · have e1 : (ys ++ [x]).toArray = ys.toArray.push x := by simp
          rw [e1]; exact hp'
        · have tl₃ : TellsAll a.G.fv P₃ ys os := (tl.mono pp₂).mono pp₃
          have td₃ : Tells a.G.fv P₃ x d' := by
            have := td'
            rw [show (a'.hold (l :: nw) s₁.heap).G = a.G from hG] at this
            exact this
          exact tl₃.append (.one td₃)
    · have hin : i = ds.length := by lia
      subst hin
      rw [List.drop_length] at hw
      simp only [Zr] at hw
      rw [List.append_nil] at hw
      subst hae
      refine F.done s' _ _ hj' fun h' tk hk => ?_
      obtain ⟨n', hpl⟩ := hpl
      have hK : ∀ b o, b ∉ nw → s₂.heap.get? b = some o → (if b ∈ nw then none else s₂.heap.get? b) = some o := fun b o hb e => (if_neg hb).trans e
      have SA : St a Γ₁ α₁ P' { s' with heap := h', toks := tk } := by
        refine S₂.after ok (W := none) ⟨Sr.rest.1, Sr.rest.2.1, Sr.rest.2.2⟩ hl (fun b o _ hb e => ⟨fun hf => hk b o hb ((Sr.hold b o (hK b o hb e)).1 hf), fun hf => ?_⟩) hP₁ (fun b o e => ?_) (fun b e => ?_) (.inl ⟨rfl, rfl⟩)
        · obtain ⟨sl, h⟩ := (Sr.hold b o (hK b o hb e)).2 hf
          exact ⟨sl, hk b _ hb h⟩
        · exact hk b o (fun hb => by rw [(hl' b (.tail _ hb)).2.1] at e; cases e) (Sr.part b o e)
        · rcases Sr.grow b e with h | h
          · exact .inl h
          · have h : (if b ∈ nw then none else s₂.heap.get? b) = none := h
            by_cases q : b ∈ nw
            · exact (e (hl' b (.tail _ q)).2.1).elim
            · rw [if_neg q] at h; exact .inr h
      have hPl := (hl' l (.head _)).2.1
      have keep := Part.add_keep (o := ({ cls := .type "list", data := .seq ys.toArray n' } : Obj)) hPl
      obtain ⟨m, hns, _⟩ := Sr.ns
      refine hQ os Γ₁ α₁ (P'.add l { cls := .type "list", data := .seq ys.toArray n' }) { s' with heap := h', toks := tk } l C m hw p₁ (fun b o e => keep b o (hP₁ b o (q₁ b o e))) ?_ (.list Part.add_self rfl rfl (tl.mono keep)) (hns.at' fun o e => hk C o (fun q => hlC C q rfl) e) ?_
      · exact SA.addPart (hk l _ hlD hpl) hPl outD.1 (S₂.fresh_muts ok hDn) fun k x _ hx => outD.2.2.2.2.1 (List.mem_of_getElem? hx)
      · obtain ⟨g1, g2, g3, g4, g5, g6⟩ := outC
        refine ⟨g1, ?_, g3, g4, g5, g6⟩
        have q : C ≠ l := fun q => hDC q.symm
        unfold Part.add
        rw [if_neg q]
        exact (Sr.mfree C (.head _)).2.1
  exact codeAny_compStart_list loop (F.self 0 _ _ _ (F.kept hj (fun b o _ e => old b o e) S₂.part (fun b o e => old b o (S₂.part b o e))) loop)

theorem snd_comp {it : PIt} {tg : Tgt} {e : PE} (hi : SndI T it) (he : SndE T e) : SndE T (.comp tn fs tg it e) := by
  intro c ex h a gk ok ck Γ Q X α P s E hw S hE
  replace h := invE_comp h
  obtain ⟨_, _, _, _, _, _, rfl, h⟩ := h
  · rename_i elt te ie d scope pos
    simp only [Bool.and_eq_true, beq_iff_eq] at h
    obtain ⟨⟨⟨⟨⟨hd, hit⟩, hsc⟩, hci⟩, hct⟩, hce⟩ := h
    subst hd
    simp only [Mg] at hw
    rw [eval_ListComp]
    refine comp_core hi he hit hsc hci hct hce gk ok ck (K := fun os Γ₁ => Q (.d (.list os)) Γ₁) hw S hE (use := none) fun os Γ₁ α₁ P₁ s' b C m hq pa pp S' t hn hl => ?_
    refine ⟨m, hn, fun h' hs => ⟨_, Γ₁, α₁, P₁, hq, ?_, pa, pp, t⟩⟩
    exact S'.change (fun b => b = C) (fun b o hb e => hs.extBut b o hb e) fun b hb => by rw [hb]; exact hl

/-- a comprehension whose value is stored while its frame still stands. -/
theorem comp_used {it : PIt} {tg : Tgt} {e : PE} (hi : SndI T it) (he : SndE T e) {ex : Expr} (h : chkE (.comp tn fs tg it e) c ex = true) (gk : GlOk a.G) (ok : ActOk a) (ck : CkOk T a c) {Q : Rv → Fs → Prop} {X : Prop} {i : Nat} {x : Str} {p pos : Pos}
    (hw : wE T (.comp tn fs tg it e) Γ Q X) (S : St a Γ α P s) (hE : ExOk a E X) (hn : nmS c i x = true) (hsw : swapsWith ex (some (.Name x p)) pos.line a.env = pure true) {Q' : Flow → Shared → Prop}
    (hQ : ∀ r Γ' α' P' s', Q r Γ' → St a (Γ'.put i r) α' P' s' → α <+: α' → (∀ b o, P b = some o → P' b = some o) → Q' .next s') :
    wpAny (model a.G.prog a.G.w) a.A (exec (.Assign [.Name x p] ex pos) a.env) Q' E s := by
  replace h := invE_comp h
  obtain ⟨_, _, _, _, _, _, rfl, h⟩ := h
  · rename_i elt te ie d scope cpos
    simp only [Bool.and_eq_true, beq_iff_eq] at h
    obtain ⟨⟨⟨⟨⟨hd, hit⟩, hsc⟩, hci⟩, hct⟩, hce⟩ := h
    subst hd
    simp only [Mg] at hw
    rw [exec_Assign_Name_used _ _ _ _ hsw]
    refine wpAny_bind (wpAny_standAt (wpAny_bind ?_))
    show wpAny _ a.A (do let _ ← comprehension (.ListComp elt [⟨te, ie, [], 0⟩] scope cpos) scope a.env _ (newList []) false (eval ie a.env) (some (assign (.Name x p) a.env))) _ _ s
    refine wpAny_bind (wpAny_mono (comp_core hi he hit hsc hci hct hce gk ok ck (K := fun os Γ₁ => Q (.d (.list os)) Γ₁) hw S hE (use := some (assign (.Name x p) a.env)) (Q := fun _ s' => Q' .next s') fun os Γ₁ α₁ P₁ s' b C m hq pa pp S' t hn' hl => ?_)
      (fun _ s' hq => wpAny_pure (wpAny_pure hq)) fun _ _ e => e)
    have hlC : ∀ b, b ∈ [C] → Lone a α₁ P₁ b := fun b hb => by
      rcases List.mem_cons.mp hb with rfl | hb
      · exact hl
      · cases hb
    have S'h := S'.toHold ok hlC
    have okh := ok.hold (nw := [C]) (h := s'.heap) fun b hb => (hlC b hb).1
    show wpAny _ _ (assign (.Name x p) a.env (.ref b)) _ _ _
    refine assign_ok okh ck.hold S'h hn (r := .d (.list os)) t fun s'' S'' => ?_
    have hnC : s''.heap.Ns C m := hn'.at' fun o e => held S'' ok (fun b hb => (hlC b hb).1) C o (.head _) e
    have S2 := S''.ofHold fun b hb => (hlC b hb).1
    refine ⟨m, hnC, fun h' hs => hQ _ Γ₁ α₁ P₁ _ hq ?_ pa pp⟩
    exact S2.change (fun b => b = C) (fun b o hb e => hs.extBut b o hb e) fun b hb => by rw [hb]; exact hl
end

end LM

namespace LM

section
variable {T : Nat → Option LM.Spec} {a : Act} {c : Cfg} {Γ : Fs} {α : List Addr} {P : Part} {s : Shared} {E : Value → Shared → Prop}

theorem swapsWith_env (v : Expr) (t : Option Expr) (n : Nat) (env : Env) : swapsWith v t n env = swapsWith v t n (envS env.scope) := rfl
theorem swappedStores_env (ts : List Expr) (v : Expr) (env : Env) : swappedStores ts v env = swappedStores ts v (envS env.scope) := rfl
theorem swComp_is (ck : CkOk T a c) {v t : Expr} {n : Nat} {b : Bool} (h : swComp v t n c b = true) : swapsWith v (some t) n a.env = pure b := by
  rw [swapsWith_env, ← ck.sc]
  unfold swComp at h
  split at h
  · rename_i d e
    rw [e]
    have : d = b := by simpa using h
    rw [this]; rfl
  · cases h
theorem swNone_is (ck : CkOk T a c) {ts : List Expr} {v : Expr} (h : swNone ts v c = true) : swappedStores ts v a.env = pure none := by
  rw [swappedStores_env, ← ck.sc]
  unfold swNone at h
  split at h
  · rename_i e; rw [e]; rfl
  · cases h
theorem swSome_is (ck : CkOk T a c) {ts : List Expr} {v : Expr} {xs : List Str} (h : swSome ts v c xs = true) : swappedStores ts v a.env = pure (some xs) := by
  rw [swappedStores_env, ← ck.sc]
  unfold swSome at h
  split at h
  · rename_i ys e
    rw [e]
    have : ys = xs := by simpa using h
    rw [this]; rfl
  · cases h
theorem swaps_ncomp {v : Expr} {t : Option Expr} {n : Nat} {env : Env} (h : ncomp v = true) : swapsWith v t n env = pure false := by
  cases v <;> first | rfl | cases h

theorem chk_ncomp {pe : PE} {c : Cfg} {e : Expr} (h : chkE pe c e = true) (hn : ∀ tn fs tg it x, pe ≠ .comp tn fs tg it x) : ncomp e = true := by
  cases pe
  · obtain ⟨_, _, rfl, _⟩ := invE_var h; rfl
  · obtain ⟨_, _, rfl, _⟩ := invE_fnm h; rfl
  · obtain ⟨_, _, _, rfl, _⟩ := invE_int h; rfl
  · obtain ⟨_, _, _, _, rfl, _⟩ := invE_neg h; rfl
  · obtain ⟨_, _, _, rfl, _⟩ := invE_bool h; rfl
  · obtain ⟨_, _, rfl, _⟩ := invE_none h; rfl
  · obtain ⟨_, _, _, _, rfl, _⟩ := invE_bin h; rfl
  · obtain ⟨_, _, rfl, _⟩ := invE_not h; rfl
  · obtain ⟨_, _, _, _, rfl, _⟩ := invE_cmp h; rfl
  · obtain ⟨_, _, _, _, rfl, _⟩ := invE_isnot h; rfl
  · obtain ⟨_, _, _, rfl, _⟩ := invE_and h; rfl
  · obtain ⟨_, _, _, rfl, _⟩ := invE_or h; rfl
  · obtain ⟨_, _, _, _, rfl, _⟩ := invE_or3 h; rfl
  · obtain ⟨_, _, _, _, rfl, _⟩ := invE_ite h; rfl
  · obtain ⟨_, _, _, _, rfl, _⟩ := invE_len h; rfl
  · obtain ⟨_, _, _, _, _, rfl, _⟩ := invE_min2 h; rfl
  · obtain ⟨_, _, _, _, rfl, _⟩ := invE_abs h; rfl
  · obtain ⟨_, _, _, _, rfl, _⟩ := invE_toInt h; rfl
  · obtain ⟨_, _, _, _, rfl, _⟩ := invE_sum h; rfl
  · obtain ⟨_, _, _, _, rfl, _⟩ := invE_any h; rfl
  · obtain ⟨_, _, _, _, rfl, _⟩ := invE_bitlen h; rfl
  · obtain ⟨_, _, _, _, _, rfl, _⟩ := invE_call h; rfl
  · obtain ⟨_, _, _, _, _, rfl, _⟩ := invE_callv h; rfl
  · obtain ⟨_, _, _, _, _, _, rfl, _⟩ := invE_callio h; rfl
  · obtain ⟨_, _, _, rfl, _⟩ := invE_item h; rfl
  · obtain ⟨_, _, _, _, _, _, rfl, _⟩ := invE_slice h; rfl
  · obtain ⟨_, _, _, rfl, _⟩ := invE_tup h; rfl
  · obtain ⟨_, _, rfl, _⟩ := invE_lst h; rfl
  · obtain ⟨_, _, rfl, _⟩ := invE_cell h; rfl
  · obtain ⟨_, _, _, _, rfl, _⟩ := invE_rep h; rfl
  · obtain ⟨_, _, _, _, rfl, _⟩ := invE_repc h; rfl
  · obtain ⟨_, _, _, rfl, _⟩ := invE_addc h; rfl
  · exact absurd rfl (hn _ _ _ _ _)

noncomputable def SndU (T : Nat → Option LM.Spec) (pe : PE) : Prop := ∀ c ex, chkE pe c ex = true → ∀ a, GlOk a.G → ActOk a → CkOk T a c → ∀ Γ Q X α P s E (i : Nat) (x : Str) (p pos : Pos), wE T pe Γ Q X → St a Γ α P s → ExOk a E X → nmS c i x = true →
  swapsWith ex (some (.Name x p)) pos.line a.env = pure true → ∀ Q' : Flow → Shared → Prop, (∀ r Γ' α' P' s', Q r Γ' → St a (Γ'.put i r) α' P' s' → α <+: α' → (∀ b o, P b = some o → P' b = some o) → Q' .next s') →
  wpAny (model a.G.prog a.G.w) a.A (exec (.Assign [.Name x p] ex pos) a.env) Q' E s
theorem sndU_comp {tn : List Str} {fs : List Nat} {it : PIt} {tg : Tgt} {e : PE} (hi : SndI T it) (he : SndE T e) : SndU T (.comp tn fs tg it e) :=
  fun c ex h a gk ok ck Γ Q X α P s E i x p pos hw S hE hn hsw Q' hQ => comp_used hi he h gk ok ck hw S hE hn hsw hQ
theorem sndU_of {pe : PE} (hn : ∀ tn fs tg it x, pe ≠ .comp tn fs tg it x) : SndU T pe :=
  fun c ex h a gk ok ck Γ Q X α P s E i x p pos hw S hE _ hsw Q' hQ => by
    rw [swaps_ncomp (chk_ncomp h hn)] at hsw
    cases hsw

theorem snd_assign {i : Nat} {x : PE} (hx : SndE T x) (hu : SndU T x) : SndS T (.assign i x) := by
  intro c e h a gk ok ck Γ Q X α P s E hw S hE
  replace h := invS_assign h
  obtain ⟨_, _, _, _, rfl, h⟩ := h
  · rename_i y p v q
    simp only [Bool.and_eq_true, Bool.or_eq_true] at h
    simp only [Mp] at hw
    obtain ⟨⟨hn, hc⟩, hsw⟩ := h
    have plain : swapsWith v (some (.Name y p)) q.line a.env = pure false → wpAny (model a.G.prog a.G.w) a.A (exec (.Assign [.Name y p] v q) a.env) (PostS a α P Q) E s := fun hs => by
      refine wpAny_Assign_Name (wpAny_mono (hx c _ hc a gk ok ck _ _ _ _ _ _ _ hw S hE) (fun u s₁ h₁ => ?_) fun _ _ e => e) hs
      obtain ⟨r, Γ₁, α₁, P₁, hw, S₁, p₁, q₁, t⟩ := h₁
      exact store_ok ok ck S₁ hn t fun s' S' => ⟨.next, _, α₁, P₁, hw, S', p₁, q₁, trivial⟩
    rcases hsw with hsw | ⟨hsw, _⟩
    · rcases hsw with hsw | hsw
      · exact plain (swaps_ncomp hsw)
      · exact plain (swComp_is ck hsw)
    · exact hu c v hc a gk ok ck _ _ _ _ _ _ _ i y p q hw S hE hn (swComp_is ck hsw) _ fun r Γ' α' P' s' hq S' pa pp => ⟨.next, _, α', P', hq, S', pa, pp, trivial⟩

theorem names_ok (ok : ActOk a) (ck : CkOk T a c) : ∀ {ts : List Expr} {xs : List Str} {is : List Nat} {vs : List Value} {rs : List Rv} {Γ : Fs} {s : Shared} {Q : Unit → Shared → Prop}, namesT ts = some xs → chkNames c is xs = true → RTellsAll a.G.fv P α vs rs → rs.length = is.length →
    St a Γ α P s → (∀ s', St a (Γ.puts is rs) α P s' → Q () s') → wpAny (model a.G.prog a.G.w) a.A (assignInOrder ((assignEach ts a.env).map (·.2)) vs) Q E s
  | [], xs, is, vs, rs, Γ, s, Q, hn, hc, t, hl, S, h => by
    cases hn
    cases is with
    | nil =>
      cases rs with
      | nil => exact assignInOrder_nil (h s S)
      | cons => cases hl
    | cons => cases hc
  | e :: ts, xs, is, vs, rs, Γ, s, Q, hn, hc, t, hl, S, h => by
    cases e with
    | Name x p =>
      simp only [namesT] at hn
      cases hq : namesT ts with
      | none => rw [hq] at hn; cases hn
      | some ys =>
        rw [hq] at hn; cases hn
        cases is with
        | nil => cases hc
        | cons i is =>
          simp only [chkNames, Bool.and_eq_true] at hc
          cases rs with
          | nil => cases hl
          | cons r rs =>
            cases vs with
            | nil => exact t.elim
            | cons v vs =>
              show wpAny _ _ (assignInOrder (assign (.Name x p) a.env :: (assignEach ts a.env).map (·.2)) (v :: vs)) Q E s
              exact assignInOrder_cons (assign_ok ok ck S hc.1 t.1 fun s₁ S₁ => names_ok ok ck hq hc.2 t.2 (by simpa using hl) S₁ h)
    | _ => simp [namesT] at hn
theorem names_len : ∀ {ts : List Expr} {xs : List Str} {env : Env}, namesT ts = some xs → (assignEach ts env).length = xs.length ∧ (assignEach ts env).findIdx? (·.1) = none
  | [], xs, env, h => by cases h; exact ⟨rfl, rfl⟩
  | e :: ts, xs, env, h => by
    cases e with
    | Name x p =>
      simp only [namesT] at h
      cases hq : namesT ts with
      | none => rw [hq] at h; cases h
      | some ys =>
        rw [hq] at h; cases h
        obtain ⟨h1, h2⟩ := names_len (env := env) hq
        have e1 : assignEach (.Name x p :: ts) env = (false, assign (.Name x p) env) :: assignEach ts env := rfl
        rw [e1]
        refine ⟨by simp [h1], ?_⟩
        rw [List.findIdx?_cons]
        simp [h2]
    | _ => simp [namesT] at h
theorem chkNames_len : ∀ {c : Cfg} {is : List Nat} {xs : List Str}, chkNames c is xs = true → is.length = xs.length
  | c, [], [], _ => rfl
  | c, i :: is, x :: xs, h => by simp only [chkNames, Bool.and_eq_true] at h; simp [chkNames_len h.2]
  | c, [], _ :: _, h => by cases h
  | c, _ :: _, [], h => by cases h
theorem RTellsAll.length {fv : Nat → Value} {P : Part} {α : List Addr} : ∀ {vs : List Value} {rs : List Rv}, RTellsAll fv P α vs rs → vs.length = rs.length
  | [], [], _ => rfl
  | _ :: _, _ :: _, h => by simp [RTellsAll.length h.2]
  | [], _ :: _, h => h.elim
  | _ :: _, [], h => h.elim

theorem puts_comm : ∀ {is : List Nat} {rs : List Rv} {Γ : Fs} {i : Nat} {r : Rv}, i ∉ is → (Γ.put i r).puts is rs = (Γ.puts is rs).put i r
  | [], rs, Γ, i, r, _ => by cases rs <;> rfl
  | j :: is, [], Γ, i, r, _ => rfl
  | j :: is, q :: rs, Γ, i, r, h => by
    have hij : i ≠ j := fun e => h (e ▸ .head _)
    have e : (Γ.put i r).put j q = (Γ.put j q).put i r := by
      unfold Fs.put; simp only [Fs.mk.injEq, and_true]; exact List.set_comm _ _ hij
    show ((Γ.put i r).put j q).puts is rs = ((Γ.put j q).puts is rs).put i r
    rw [e]
    exact puts_comm fun hm => h (.tail _ hm)
theorem puts_app : ∀ {is : List Nat} {rs : List Rv} {Γ : Fs} {i : Nat} {r : Rv}, rs.length = is.length → Γ.puts (is ++ [i]) (rs ++ [r]) = (Γ.puts is rs).put i r
  | [], [], Γ, i, r, _ => rfl
  | j :: is, q :: rs, Γ, i, r, h => puts_app (is := is) (rs := rs) (Γ := Γ.put j q) (by simpa using h)
  | [], _ :: _, _, _, _, h => by cases h
  | _ :: _, [], _, _, _, h => by cases h
theorem puts_rev : ∀ {is : List Nat} {rs : List Rv} {Γ : Fs}, is.Nodup → rs.length = is.length → Γ.puts is.reverse rs.reverse = Γ.puts is rs
  | [], [], Γ, _, _ => rfl
  | i :: is, r :: rs, Γ, h, hl => by
    rw [List.nodup_cons] at h
    rw [List.reverse_cons, List.reverse_cons, puts_app (by simpa using hl), puts_rev h.2 (by simpa using hl)]
    exact (puts_comm h.1).symm
  | [], _ :: _, _, _, h => by cases h
  | _ :: _, [], _, _, h => by cases h
theorem nmS_var {c : Cfg} {i : Nat} {x : Str} (h : nmS c i x = true) : c.vars[i]? = some x := by
  unfold nmS at h; simp only [Bool.and_eq_true, beq_iff_eq] at h; exact h.1
theorem chkNames_mem : ∀ {c : Cfg} {is : List Nat} {xs : List Str}, chkNames c is xs = true → ∀ i ∈ is, ∃ x ∈ xs, c.vars[i]? = some x
  | c, [], [], _, i, hi => by cases hi
  | c, j :: is, x :: xs, h, i, hi => by
    simp only [chkNames, Bool.and_eq_true] at h
    rcases List.mem_cons.mp hi with rfl | hi
    · exact ⟨x, .head _, nmS_var h.1⟩
    · obtain ⟨y, hy, e⟩ := chkNames_mem h.2 i hi
      exact ⟨y, .tail _ hy, e⟩
  | c, [], _ :: _, h, _, _ => by cases h
  | c, _ :: _, [], h, _, _ => by cases h
theorem chkNames_nodup : ∀ {c : Cfg} {is : List Nat} {xs : List Str}, chkNames c is xs = true → xs.Nodup → is.Nodup
  | c, [], [], _, _ => List.nodup_nil
  | c, i :: is, x :: xs, h, hn => by
    simp only [chkNames, Bool.and_eq_true] at h
    rw [List.nodup_cons] at hn ⊢
    refine ⟨fun hm => ?_, chkNames_nodup h.2 hn.2⟩
    obtain ⟨y, hy, e⟩ := chkNames_mem h.2 i hm
    rw [nmS_var h.1] at e; cases e
    exact hn.1 hy
  | c, [], _ :: _, h, _ => by cases h
  | c, _ :: _, [], h, _ => by cases h
theorem chkNames_app : ∀ {c : Cfg} {is : List Nat} {xs : List Str} {i : Nat} {x : Str}, chkNames c is xs = true → nmS c i x = true → chkNames c (is ++ [i]) (xs ++ [x]) = true
  | c, [], [], i, x, _, h => by simp [chkNames, h]
  | c, j :: is, y :: xs, i, x, h, hn => by
    simp only [chkNames, Bool.and_eq_true] at h
    simp only [List.cons_append, chkNames, Bool.and_eq_true]
    exact ⟨h.1, chkNames_app h.2 hn⟩
  | c, [], _ :: _, _, _, h, _ => by cases h
  | c, _ :: _, [], _, _, h, _ => by cases h
theorem chkNames_rev : ∀ {c : Cfg} {is : List Nat} {xs : List Str}, chkNames c is xs = true → chkNames c is.reverse xs.reverse = true
  | c, [], [], _ => rfl
  | c, i :: is, x :: xs, h => by
    simp only [chkNames, Bool.and_eq_true] at h
    rw [List.reverse_cons, List.reverse_cons]
    exact chkNames_app (chkNames_rev h.2) h.1
  | c, [], _ :: _, h => by cases h
  | c, _ :: _, [], h => by cases h
theorem RTellsAll.app {fv : Nat → Value} {P : Part} {α : List Addr} : ∀ {vs : List Value} {rs : List Rv} {v : Value} {r : Rv}, RTellsAll fv P α vs rs → RTells fv P α v r → RTellsAll fv P α (vs ++ [v]) (rs ++ [r])
  | [], [], _, _, _, h => ⟨h, trivial⟩
  | _ :: _, _ :: _, _, _, h, k => ⟨h.1, RTellsAll.app h.2 k⟩
  | [], _ :: _, _, _, h, _ => h.elim
  | _ :: _, [], _, _, h, _ => h.elim
theorem RTellsAll.rev {fv : Nat → Value} {P : Part} {α : List Addr} : ∀ {vs : List Value} {rs : List Rv}, RTellsAll fv P α vs rs → RTellsAll fv P α vs.reverse rs.reverse
  | [], [], _ => trivial
  | _ :: _, _ :: _, h => by rw [List.reverse_cons, List.reverse_cons]; exact RTellsAll.app (RTellsAll.rev h.2) h.1
  | [], _ :: _, h => h.elim
  | _ :: _, [], h => h.elim
theorem binds_ok (ok : ActOk a) (ck : CkOk T a c) : ∀ {xs : List Str} {is : List Nat} {vs : List Value} {rs : List Rv} {Γ : Fs} {s : Shared} {Q : Unit → Shared → Prop}, chkNames c is xs = true → RTellsAll a.G.fv P α vs rs → rs.length = is.length →
    St a Γ α P s → (∀ s', St a (Γ.puts is rs) α P s' → Q () s') → wpAny (model a.G.prog a.G.w) a.A (assignInOrder (xs.map fun n => bindName a.env n) vs) Q E s
  | [], [], vs, [], Γ, s, Q, hc, t, hl, S, h => assignInOrder_nil (h s S)
  | x :: xs, i :: is, v :: vs, r :: rs, Γ, s, Q, hc, t, hl, S, h => by
    simp only [chkNames, Bool.and_eq_true] at hc
    exact assignInOrder_cons (wpAny_bindName (store_ok ok ck S hc.1 t.1 fun s₁ S₁ => binds_ok ok ck hc.2 t.2 (by simpa using hl) S₁ h))
  | [], _ :: _, _, _, _, _, _, hc, _, _, _, _ => by cases hc
  | _ :: _, [], _, _, _, _, _, hc, _, _, _, _ => by cases hc
  | [], [], _, _ :: _, _, _, _, _, _, hl, _, _ => by cases hl
  | _ :: _, _ :: _, [], [], _, _, _, _, _, hl, _, _ => by cases hl
  | _ :: _, _ :: _, _ :: _, [], _, _, _, _, t, _, _, _ => t.elim
  | _ :: _, _ :: _, [], _ :: _, _, _, _, _, t, _, _, _ => t.elim

theorem snd_assignT {is : List Nat} {es : PEs} (hx : SndEs T es) : SndS T (.assignT is es) := by
  intro c e h a gk ok ck Γ Q X α P s E hw S hE
  replace h := invS_assignT h
  obtain ⟨_, _, _, _, _, _, _, rfl, h⟩ := h
  · rename_i ts k p vs k' p' q
    simp only [Bool.and_eq_true] at h
    simp only [Mq] at hw
    obtain ⟨⟨hle, hc⟩, h⟩ := h
    have hle : is.length ≤ 10 := by simpa using hle
    split at h
    · rename_i xs hxs
      simp only [Bool.and_eq_true, Bool.or_eq_true, decide_eq_true_eq] at h
      obtain ⟨⟨hcn, hnd⟩, hsw⟩ := h
      have tupleOk : ∀ {Q' : Value → Shared → Prop}, (∀ vs rs Γ₁ α₁ P₁ s₁, (rs.length = is.length ∧ Q .next (Γ₁.puts is rs)) → St a Γ₁ α₁ P₁ s₁ → α <+: α₁ → (∀ b o, P b = some o → P₁ b = some o) → RTellsAll a.G.fv P₁ α₁ vs rs → vs.length = xs.length →
          ∀ b, s₁.heap.IsTuple b vs.toArray → Q' (.ref b) s₁) → wpAny (model a.G.prog a.G.w) a.A (eval (.Tuple vs k' p') a.env) Q' E s := fun hQ => by
        refine Tuple_ (wpAny_mono (hx c _ hc a gk ok ck _ _ _ _ _ _ _ _ hw S hE) (fun us s₁ h₁ => ?_) fun _ _ e => e)
        obtain ⟨rs, Γ₁, α₁, P₁, hw, S₁, p₁, q₁, t⟩ := h₁
        have hlen : us.length = xs.length := by rw [t.length, hw.1, chkNames_len hcn]
        have S₂ := S₁.push { cls := .type "tuple", data := .seq us.toArray } (tk := s₁.toks)
        refine wpAny_newTuple (hQ us rs Γ₁ α₁ P₁ _ hw S₂ p₁ q₁ t hlen _ ⟨_, Heap.get?_push_size _ rfl, rfl, _, rfl⟩) (sizes ?_)
        rw [hlen, ← chkNames_len hcn]
        (exact Nat.le_of_lt (Nat.lt_of_le_of_lt hle (by decide)))
      rcases hsw with hsw | ⟨hsw, _⟩
      · refine Assign_Tuple (tupleOk fun us rs Γ₁ α₁ P₁ s₁ hw S₁ pa pp t hl b hb => ?_) rfl (swNone_is ck hsw)
        obtain ⟨n1, n2⟩ := names_len (env := a.env) hxs
        refine wpAny_assign_Tuple ok.handled hb (by rw [n1]; simp [hl]) n2 fun h' hk => ?_
        exact names_ok ok ck hxs hcn (by simpa using t) hw.1 (S₁.keeps (ext_keeps hk) (tk := s₁.toks)) fun s' S' => ⟨.next, _, α₁, P₁, hw.2, S', pa, pp, trivial⟩
      · refine Assign_Tuple_swapped (tupleOk fun us rs Γ₁ α₁ P₁ s₁ hw S₁ pa pp t hl b hb => ?_) rfl (swSome_is ck hsw)
        have hsz : xs.length = us.toArray.size := by simp [hl]
        rw [hsz]
        refine wpAny_unpackItems_tuple ok.handled hb fun h' hk => ?_
        refine binds_ok ok ck (chkNames_rev hcn) (by simpa using t.rev) (by simp [hw.1]) (S₁.keeps (ext_keeps hk) (tk := s₁.toks)) fun s' S' => ⟨.next, _, α₁, P₁, hw.2, ?_, pa, pp, trivial⟩
        rw [puts_rev (chkNames_nodup hcn hnd) hw.1] at S'
        exact S'
    · cases h

theorem snd_unpack {is : List Nat} {x : PE} (hx : SndE T x) : SndS T (.unpack is x) := by
  intro c e h a gk ok ck Γ Q X α P s E hw S hE
  replace h := invS_unpack h
  obtain ⟨_, _, _, _, _, rfl, h⟩ := h
  · rename_i ts k p v q
    simp only [Bool.and_eq_true] at h
    simp only [Mr] at hw
    obtain ⟨⟨hc, hnc⟩, h⟩ := h
    split at h
    · rename_i xs hxs
      simp only [Bool.and_eq_true, decide_eq_true_eq] at h
      obtain ⟨⟨hcn, hnd⟩, hsw⟩ := h
      refine Assign_Tuple (wpAny_mono (hx c _ hc a gk ok ck _ _ _ _ _ _ _ hw S hE) (fun u s₁ h₁ => ?_) fun _ _ e => e) (swaps_ncomp (t := some (.Tuple ts k p)) (n := q.line) (env := a.env) hnc) (swNone_is ck hsw)
      obtain ⟨r, Γ₁, α₁, P₁, hw, S₁, p₁, q₁, t⟩ := h₁
      obtain ⟨d, td, hw⟩ := onD_is t hw
      split at hw
      · rename_i ds
        obtain ⟨b, vs, rfl, hb, tl⟩ := td.tupIs S₁.part
        obtain ⟨n1, n2⟩ := names_len (env := a.env) hxs
        have e1 := tl.length
        have e2 := chkNames_len hcn
        refine wpAny_assign_Tuple ok.handled hb (by rw [n1]; simp; (exact (e2.symm.trans hw.1.symm).trans e1.symm)) n2 fun h' hk => ?_
        have tr : ∀ {vs : List Value} {ds : List D}, TellsAll a.G.fv P₁ vs ds → RTellsAll a.G.fv P₁ α₁ vs (ds.map .d) := fun {vs} => by
          induction vs with
          | nil => intro ds h; cases h; trivial
          | cons v vs ih => intro ds h; cases h with | cons h r => exact ⟨h, ih r⟩
        exact names_ok ok ck hxs hcn (by simpa using tr tl) (by simp [hw.1]) (S₁.keeps (ext_keeps hk) (tk := s₁.toks)) fun s' S' => ⟨.next, _, α₁, P₁, hw.2, S', p₁, q₁, trivial⟩
      · exact hw.elim
    · cases h

theorem set_item {prog : Program} {w : World} {A : Around} {l : Addr} {items : Array Value} {k : Int} {t : Tok} {v : Value} {Q : Unit → Shared → Prop} (hl : s.heap.PlainList l items) (h0 : 0 ≤ k) (hfit : k < 2 ^ 63) (hn : k < items.size)
    (hQ : ∀ h', h'.PlainList l (items.setIfInBounds k.toNat v) → Heap.SameBut l s.heap h' → Q () { s with heap := h' }) :
    wpAny (model prog w) A (setItem (.ref l) (.int k t) v) Q E s := by
  obtain ⟨n, ho⟩ := hl
  have hT : s.TypeIs (.ref l) "list" := ⟨_, ho, rfl⟩
  unfold setItem
  refine wpAny_holding ?_
  refine wpAny_bind (wpAny_sequenceKey hT (by decide) ?_)
  refine wpAny_bind (wpAny_callSpecial?_slot (name := Str.ofString "__setitem__") hT PySem.slot_list_setitem
    (wpAny_call_entry PySem.slot_list_setitem hT PySem.entry_list_setitem ?_ (PySem.args_list_setitem _ _ _)))
  show wpAny _ _ (Builtin.List.listSubscript? (.int k t) >>= _) _ _ s
  refine wpAny_bind (wpAny_listSubscript_int (fitsIndex_of h0 hfit) ?_)
  clear hfit
  obtain ⟨j, rfl⟩ := Int.eq_ofNat_of_zero_le h0
  have hj : j < items.size := by (refine Nat.lt_of_not_le fun h => ?_; lia)
  have hx : items[j]? = some items[j] := Array.getElem?_eq_getElem hj
  show wpAny _ _ ((seqItemAt l j >>= fun r => pure (r.map (j, ·))) >>= _) _ _ s
  refine wpAny_bind (wpAny_bind (wpAny_seqItemAt ho rfl (wpAny_pure ?_)))
  rw [hx]
  show wpAny _ _ (setSeqItemAt l j v >>= _) _ _ s
  have hfin : ∃ n', (s.heap.update l (Obj.mapSeq (·.setIfInBounds j v))).get? l = some { cls := .type "list", data := .seq (items.setIfInBounds j v) n' } :=
    ⟨_, Heap.get?_update_self _ ho rfl⟩
  refine wpAny_bind (wpAny_setSeqItemAt ho rfl ?_)
  exact wpAny_pure ⟨.none, rfl, wpAny_pure (hQ _ hfin (Heap.SameBut.update ..))⟩

theorem fits63 {k : Int} {n : Nat} (h : k < n) (hn : n < 2 ^ 62) : k < 2 ^ 63 := by (refine Int.lt_of_not_ge fun h => ?_; lia)

theorem snd_store {i : Nat} {ix x : PE} (hi : SndE T ix) (hx : SndE T x) : SndS T (.store i ix x) := by
  intro c e h a gk ok ck Γ Q X α P s E hw S hE
  replace h := invS_store h
  obtain ⟨_, _, _, _, _, _, rfl, h⟩ := h
  · rename_i y p z sp v q
    simp only [Bool.and_eq_true] at h
    simp only [Ms] at hw
    obtain ⟨⟨⟨⟨hn, hns⟩, hci⟩, hcx⟩, hnc⟩ := h
    refine wpAny_Assign_Subscript (wpAny_mono (hx c _ hcx a gk ok ck _ _ _ _ _ _ _ hw S hE) (fun u s₁ h₁ => ?_) fun _ _ e => e) (swaps_ncomp hnc)
    obtain ⟨r, Γ₁, α₁, P₁, hw, S₁, p₁, q₁, t⟩ := h₁
    obtain ⟨d, td, hw⟩ := onD_is t hw
    split at hw
    · rename_i j hr
      refine ld_slot ok ck S₁ hn hr fun lv tl => ?_
      refine wpAny_mono (hi c _ hci a gk ok ck _ _ _ _ _ _ _ hw S₁ hE) (fun iv s₂ h₂ => ?_) fun _ _ e => e
      obtain ⟨r₂, Γ₂, α₂, P₂, hw, S₂, p₂, q₂, t₂⟩ := h₂
      obtain ⟨k, tk, rfl, hw⟩ := onI_is t₂ hw
      split at hw
      · rename_i l hl
        obtain ⟨b, hb, rfl⟩ := RTells.mono q₂ p₂ tl
        obtain ⟨b', vs, hb', hpl, tt⟩ := S₂.own j l hl
        rw [hb] at hb'; cases hb'
        obtain ⟨⟨h0, h1, h2⟩, hq⟩ := hw
        have el := tt.length
        refine set_item hpl h0 (fits63 h1 h2) (by simp only [List.size_toArray]; (refine Int.lt_of_not_ge fun h => ?_; lia)) fun h' hp' hs' => ?_
        have e1 : vs.toArray.setIfInBounds k.toNat u = (vs.set k.toNat u).toArray := by simp
        rw [e1] at hp'
        exact ⟨.next, _, α₂, P₂, hq, S₂.setOwn ok (tk := s₂.toks) hl hb hp' hs' (tt.set (td.mono q₂) _), p₁.trans p₂, fun b o e => q₂ b o (q₁ b o e), trivial⟩
      · exact hw.elim
    · exact hw.elim

theorem load_ok (ok : ActOk a) (ck : CkOk T a c) (S : St a Γ α P s) {i : Nat} {x : Str} {r : Rv} {Q : Value → Shared → Prop} (hn : nm c i x = true) (hr : Γ.ρ[i]? = some (some r))
    (h : ∀ v, RTells a.G.fv P α v r → Q v s) : wpAny (model a.G.prog a.G.w) a.A (loadName a.env x) Q E s := by
  unfold nm at hn
  rw [kindIn_eq ck] at hn
  simp only [Bool.and_eq_true, beq_iff_eq, Bool.not_eq_true'] at hn
  obtain ⟨⟨hx, hd⟩, hk⟩ := hn
  rw [ck.vars] at hx
  split at hk
  · rename_i e
    obtain ⟨m, hns, hv⟩ := S.ns
    obtain ⟨v, h1, h2⟩ := hv i x r hx hr e
    exact wpAny_loadName_local ok.kind e hns h1 (h v h2)
  · rename_i e
    obtain ⟨cc, v, h1, h2, h3⟩ := S.cells i x r hx hr (by rw [e]; decide)
    exact wpAny_loadName_cell ok.kind e h1 h2 (h v h3)
  · cases hk

theorem snd_aug {i : Nat} {op : Bop} {x : PE} (hx : SndE T x) : SndS T (.aug i op x) := by
  intro c e h a gk ok ck Γ Q X α P s E hw S hE
  replace h := invS_aug h
  obtain ⟨_, _, _, _, _, rfl, h⟩ := h
  · rename_i y p o v q
    simp only [Bool.and_eq_true, decide_eq_true_eq] at h
    simp only [Mt] at hw
    obtain ⟨⟨⟨hn, hns⟩, rfl⟩, hc⟩ := h
    split at hw
    · rename_i z hr
      refine wpAny_AugAssign_Name (load_ok ok ck S hn hr fun ov to => ?_)
      obtain ⟨tz, rfl⟩ := tells_int to
      refine wpAny_mono (hx c _ hc a gk ok ck _ _ _ _ _ _ _ hw S hE) (fun u s₁ h₁ => ?_) fun _ _ e => e
      obtain ⟨r, Γ₁, α₁, P₁, hw, S₁, p₁, q₁, t⟩ := h₁
      obtain ⟨y, ty, rfl, hw⟩ := onI_is t hw
      refine wpAny_mono (inplace_ok S₁ hw) (fun v s₂ h₂ => ?_) fun _ _ e => e
      obtain ⟨d, P₂, hq, S₂, q₂, td⟩ := h₂
      exact store_ok ok ck S₂ hns (r := .d d) td fun s' S' => ⟨.next, _, α₁, P₂, hq, S', p₁, fun b o e => q₂ b o (q₁ b o e), trivial⟩
    · exact hw.elim

theorem snd_append {i : Nat} {x : PE} (hx : SndE T x) : SndS T (.append i x) := by
  intro c e h a gk ok ck Γ Q X α P s E hw S hE
  replace h := invS_append h
  obtain ⟨_, _, _, _, _, _, _, rfl, h⟩ := h
  · rename_i y p n ap v q pos
    simp only [Bool.and_eq_true, beq_iff_eq] at h
    simp only [Mu] at hw
    obtain ⟨⟨⟨⟨hn, rfl⟩, hp⟩, hst⟩, hc⟩ := h
    split at hw
    · rename_i j hr
      refine wpAny_Expr (wpAny_Call_method_lateS rfl ?_ (by rw [hp]; exact beq_self_eq_true _) (ld_slot ok ck S hn hr fun lv tl => ?_)) (by simp [interactive, ok.kind]) rfl
      · rw [starEach_nst hst, backTo_plain]; rfl
      obtain ⟨b, hb, rfl⟩ := tl
      have hth : ∃ o, s.heap.get? b = some o := S.there b (List.mem_of_getElem? hb)
      obtain ⟨hpre, hw⟩ := hw
      rw [starEach_nst hst, backTo_plain]
      have hσ : ∃ l vs n, Γ.σ[j]? = some (some l) ∧ s.heap.get? b = some { cls := .type "list", data := .seq (vs : List Value).toArray n } := by
        cases e : Γ.σ[j]? with
        | none => rw [e] at hpre; cases hpre
        | some z =>
          cases z with
          | none => rw [e] at hpre; cases hpre
          | some l =>
            obtain ⟨b', vs, hb', ⟨n, hpl⟩, _⟩ := S.own j l e
            rw [hb] at hb'; cases hb'
            exact ⟨l, vs, n, rfl, hpl⟩
      obtain ⟨l₀, vs₀, n₀, _, ho⟩ := hσ
      refine ⟨"list", "list.append", F.plainAttrs_list, F.slot_list_append, F.type_list_append, ⟨_, ho, rfl⟩, (fun a e => by cases e; exact ⟨_, ho, rfl⟩), Calls.callWith_builtin rfl (Calls.evalArgs_plain (Calls.spliced_cons (wpAny_mono (hx c _ hc a gk ok ck _ _ _ _ _ _ _ hw S hE) (fun u s₁ h₁ => Calls.spliced_nil ?_) fun _ _ e => e)))⟩
      obtain ⟨r, Γ₁, α₁, P₁, hw, S₁, p₁, q₁, t⟩ := h₁
      obtain ⟨d, td, hw⟩ := onD_is t hw
      split at hw
      · rename_i l hl
        obtain ⟨t', rfl⟩ := p₁
        have hb₁ : (α ++ t')[j]? = some b := by
          rw [List.getElem?_append_left (List.getElem?_eq_some_iff.mp hb).1]; exact hb
        obtain ⟨b', vs, hb', hpl, tt⟩ := S₁.own j l hl
        rw [hb₁] at hb'; cases hb'
        have el := tt.length
        refine wpAny_list_append_plain hpl (fun h' hp' hs' => ?_) (sizes (by simp only [List.size_toArray]; (exact Nat.le_of_lt (Nat.lt_of_le_of_lt (Nat.le_of_eq el) hw.1))))
        have e1 : vs.toArray.push u = (vs ++ [u]).toArray := by simp
        rw [e1] at hp'
        exact ⟨.next, _, _, P₁, hw.2, S₁.setOwn ok (tk := s₁.toks) hl hb₁ hp' hs' (tt.append (.one td)), List.prefix_append _ _, q₁, trivial⟩
      · exact hw.elim
    · exact hw.elim

theorem snd_expr {x : PE} (hx : SndE T x) : SndS T (.expr x) := by
  intro c e h a gk ok ck Γ Q X α P s E hw S hE
  replace h := invS_expr h
  obtain ⟨_, _, rfl, h⟩ := h
  · rename_i v pos
    simp only [Bool.and_eq_true] at h
    simp only [Mv] at hw
    obtain ⟨hv, hc⟩ := h
    refine wpAny_Expr (wpAny_mono (hx c _ hc a gk ok ck _ _ _ _ _ _ _ hw S hE) (fun u s₁ h₁ => ?_) fun _ _ e => e) (by simp [interactive, ok.kind]) (by cases v <;> first | rfl | cases hv)
    obtain ⟨r, Γ₁, α₁, P₁, hw, S₁, p₁, q₁, t⟩ := h₁
    obtain ⟨d, td, hw⟩ := onD_is t hw
    split at hw
    · cases tells_none td
      exact ⟨.next, Γ₁, α₁, P₁, hw, S₁, p₁, q₁, trivial⟩
    · exact hw.elim
end

end LM

namespace LM

section
variable {T : Nat → Option LM.Spec} {a : Act} {c : Cfg} {Γ : Fs} {α : List Addr} {P : Part} {s : Shared} {E : Value → Shared → Prop}

theorem exc_name (gk : GlOk a.G) (ok : ActOk a) (ck : CkOk T a c) (S : St a Γ α P s) {A : Around} {x : Str} {pos : Pos} {Q : Value → Shared → Prop} (hx : x = ("NoInverse" : Str)) (hk : kindIn c x = some .globalImplicit) (h : Q a.G.exc s) :
    wpAny (model a.G.prog a.G.w) A (eval (.Name x pos) a.env) Q E s := by
  obtain ⟨C, bm, newId, B, initId, he, O, FB⟩ := gk.exc
  subst hx
  rw [kindIn_eq ck] at hk
  exact Calls.Name_function_global ok.kind hk (Calls.loadGlobal_global (ok.glob.keeps S.top) (O.bound.trans (by rw [he])) h) (by decide)

theorem snd_raise {own : Bool} : SndS T (.raise own) := by
  intro c e h a gk ok ck Γ Q X α P s E hw S hE
  replace h := invS_raise h
  obtain ⟨_, _, _, _, _, _, _, rfl, h⟩ := h
  · rename_i x np str k kp cpos pos
    simp only [Bool.and_eq_true] at h
    cases own with
    | false => exact (show False from hw).elim
    | true =>
      simp only [Ya] at hw
      obtain ⟨hx, hk⟩ := h
      have hx : x = ("NoInverse" : Str) := by simpa using hx
      have hk : kindIn c x = some .globalImplicit := by simpa using hk
      obtain ⟨C, bm, newId, B, initId, he, O, FB⟩ := gk.exc
      obtain ⟨tl, N, nm, q, bs, hdct, sn, sub, ab, col, dd, k0, k1, k2, k3, k5, mN, hC, hN, hni, Tl⟩ := O.own.obj
      refine wpAny_Raise_call_subT (C := C) (nm := nm) (q := q) (N := N) (bs := bs) (bm := tl) (hdct := hdct) (sn := sn) (sub := sub) (ab := ab) (col := col) (dd := dd) (k0 := k0) (k1 := k1) (k2 := k2) (k3 := k3) (k5 := k5)
        FB (mN := mN) (Tl.hasType FB.hasBase) ok.handled rfl hni (exc_name gk ok ck S hx hk ⟨he, ?_⟩)
      refine args_ok rfl ?_
      rw [starEach_nst rfl, backTo_plain]
      refine Calls.spliced_cons (wpAny_Constant_str (Calls.spliced_nil ⟨rfl, by simp only [List.length_cons, List.length_nil]; decide, S.top _ _ hC, hN.keeps S.top, Tl.keeps S.top, fun h' e hm => ?_⟩))
      refine hE.made hw { s with toks := s.toks + 1 } h' e [.str str s.toks] ⟨Γ, α, P, S.tok _⟩ ?_
      rw [he]; exact hm

theorem gone_get {h : Heap} : ∀ {l : List Addr} {b : Addr} {o : Obj}, (TI.gone h l).get? b = some o ↔ b ∉ l ∧ h.get? b = some o
  | [], b, o => by simp [TI.gone]
  | x :: l, b, o => by
    show ((TI.gone h l).update x _).get? b = some o ↔ _
    by_cases q : x = b
    · subst q
      rw [TI.get?_update_freed]
      simp
    · rw [Heap.get?_update_other _ _ q, gone_get]
      simp [Ne.symm q]
theorem gone_in {h : Heap} {l : List Addr} {b : Addr} (hb : b ∈ l) : (TI.gone h l).get? b = none := by
  cases e : (TI.gone h l).get? b with
  | none => rfl
  | some o => exact ((gone_get.mp e).1 hb).elim
theorem none_mono {h h' : Heap} {b : Addr} (k : ∀ b o, h.get? b = some o → h'.get? b = some o) (hn : h'.get? b = none) : h.get? b = none := none_of_keep k hn

theorem frames_mono {base base' : Heap} (k : ∀ b o, base.get? b = some o → base'.get? b = some o) {h : Heap} : ∀ {l : List Env}, h.FunFrames base' l → h.FunFrames base l
  | [], _ => trivial
  | env :: l, ⟨h1, ⟨L, o, h2, h3, h4, h5⟩, h6⟩ => ⟨h1, ⟨L, o, h2, none_mono k h3, h4, h5⟩, frames_mono k h6⟩
theorem flying_mono {base base' : Heap} (k : ∀ b o, base.get? b = some o → base'.get? b = some o) {h : Heap} {l : List Env} {e : Addr} {cls : Value} (f : Heap.Flying base' l e cls h) : Heap.Flying base l e cls h := by
  obtain ⟨f1, f2, f3, oe, vs, t, oT, ts, g1, g2, g3, g4, g5, g6⟩ := f
  exact ⟨fun b o e => f1 b o (k b o e), none_mono k f2, frames_mono k f3, oe, vs, t, oT, ts, g1, g2, g3, g4, none_mono k g5, g6⟩
theorem flying_w {base h : Heap} {l : List Env} {e : Addr} {cls : Value} (f : Heap.Flying base l e cls h) : ∃ a0, Heap.FlyingW base l e cls a0 h := by
  obtain ⟨f1, f2, f3, oe, vs, t, oT, ts, g1, g2, g3, g4, g5⟩ := f
  have h1 : 1 < vs.size := (Array.getElem?_eq_some_iff.mp g4).1
  have h0 : vs[0]? = some vs[0] := Array.getElem?_eq_getElem (by (exact Nat.lt_trans (by decide) h1))
  exact ⟨vs[0], f1, f2, f3, oe, vs, t, oT, ts, g1, ⟨g2, h0⟩, g3, g4, g5⟩

/-- the frames of an activation stand as functions' frames do. -/
theorem St.frames (S : St a Γ α P s) (ok : ActOk a) {base h' : Heap} (hb : ∀ b, b ∈ addrs a.fr → base.get? b = none) (hk : ∀ b o, s.heap.get? b = some o → (∀ vs, o.data ≠ .fields vs) → ∃ sl, h'.get? b = some { o with slots := sl }) : h'.FunFrames base a.fr := by
  have key : ∀ l : List Env, (∀ e, e ∈ l → e ∈ a.fr) → h'.FunFrames base l := by
    intro l
    induction l with
    | nil => intro _; trivial
    | cons e l ih =>
      intro hl
      obtain ⟨h1, L, hL, _⟩ := ok.frs e (hl e (.head _))
      have hm : L ∈ addrs a.fr := List.mem_filterMap.mpr ⟨e, hl e (.head _), hL⟩
      obtain ⟨o, es, ep, ho, hd⟩ := S.frDict ok hm
      obtain ⟨sl, hs⟩ := hk L o ho fun vs q => by rw [hd] at q; cases q
      exact ⟨h1, ⟨L, _, hL, hb L hm, hs, fun vs q => by rw [show ({ o with slots := sl } : Obj).data = o.data from rfl, hd] at q; cases q⟩, ih fun e he => hl e (.tail _ he)⟩
  exact key a.fr fun _ h => h

/-- a state behind an exception that was caught: all stands, frames up to their slots. -/
theorem St.caught (S : St a Γ α P s) (ok : ActOk a) {s' : Shared} (hr : SameRest s s') (h1 : ∀ b o, (TI.gone s.heap (addrs a.fr)).get? b = some o → s'.heap.get? b = some o) (h2 : ∀ b, b ∈ addrs a.fr → ∀ o, s.heap.get? b = some o → ∃ sl, s'.heap.get? b = some { o with slots := sl }) : St a Γ α P s' := by
  refine S.after ok hr (W := none) (nw := []) (fun _ h => nomatch h) (fun b o _ _ e => ⟨fun hf => h1 b o (gone_get.mpr ⟨hf, e⟩), fun hf => h2 b hf o e⟩) (fun _ _ e => e) (fun b o e => ?_) (fun b e => .inl e) (.inl ⟨rfl, rfl⟩)
  exact h1 b o (gone_get.mpr ⟨fun hf => (by rw [S.pfr ok b hf] at e; cases e), S.part b o e⟩)

theorem up_fields {h h' : Heap} (u : h.UpToSlots h') : ∀ b o, h.get? b = some o → (∀ vs, o.data ≠ .fields vs) → ∃ sl, h'.get? b = some { o with slots := sl } := u

/-- except NoInverse: return None. -/
theorem handle_ok (gk : GlOk a.G) (ok : ActOk a) (ck : CkOk T a c) (S : St a Γ α P s) {s' : Shared} {e : Addr} {x : Str} {xp rp cp hp : Pos} {k : Nat} {Q : Flow → Shared → Prop} (hx : x = ("NoInverse" : Str)) (hk : kindIn c x = some .globalImplicit)
    (hr : SameRest s s') (hf : Heap.Flying (TI.gone s.heap (addrs a.fr)) a.fr e a.G.exc s'.heap) (hfr : ∀ b, b ∈ addrs a.fr → ∀ o, s.heap.get? b = some o → ∃ sl, s'.heap.get? b = some { o with slots := sl })
    (hQ : ∀ s', St a Γ α P s' → Q (.ret .none) s') :
    wpAny (model a.G.prog a.G.w) a.A (handleBy (.ref e) a.env [.ExceptHandler (some (.Name x xp)) none [.Return (some (.Constant .none k cp)) rp] hp]) Q E s' := by
  have S' := S.caught ok hr hf.1 hfr
  refine wpAny_handleBy_cons (codeAny_handlers_test (exc_name gk ok ck S' hx hk ?_)) (by intro q; cases q)
  obtain ⟨C, bmB, newId, B, initId, he, O, FB⟩ := gk.exc
  obtain ⟨bm, N, nm, q, bs, hdct, sn, sub, ab, col, dd, k0, k1, k2, k3, k5, mN, hC, hN, hq, Tl⟩ := O.obj
  obtain ⟨ob, hoe, hcls⟩ := hf.there
  rw [he] at hcls ⊢
  obtain ⟨hh, g, d, tk, os⟩ := s'
  refine wpAny_excMatches_sub_self (S'.top _ _ hC) hoe hcls (Tl.tail.hasType FB.hasBase) (codeAny_handlers_suite ?_)
  obtain ⟨a0, fw⟩ := flying_w hf
  refine lands_againW fw fun h' f' u' => ?_
  refine wpAny_execs_cons (wpAny_Return_some (Constant_none ?_))
  refine hQ _ (S.caught ok ⟨hr.1, hr.2.1, hr.2.2⟩ f'.1 fun b hbf o e => ?_)
  obtain ⟨o', es, ep, ho', hd⟩ := S.frDict ok hbf
  rw [e] at ho'; cases ho'
  obtain ⟨sl, h1⟩ := hfr b hbf o e
  obtain ⟨sl', h2⟩ := u' b _ h1 fun vs q => by rw [show ({ o with slots := sl } : Obj).data = o.data from rfl, hd] at q; cases q
  exact ⟨sl', h2⟩

theorem snd_try {x : PE} (hx : SndE T x) : SndS T (.tryRet x) := by
  intro c e h a gk ok ck Γ Q X α P s E hw S hE
  replace h := invS_tryRet h
  obtain ⟨_, _, _, _, _, _, _, _, _, rfl, h⟩ := h
  · rename_i v rp n np k cp rp' hp tp
    simp only [Bool.and_eq_true] at h
    obtain ⟨⟨⟨hm, hn⟩, hk⟩, hc⟩ := h
    have hn : n = ("NoInverse" : Str) := by simpa using hn
    have hk : kindIn c n = some .globalImplicit := by simpa using hk
    rw [ck.main] at hm
    obtain ⟨outer, L, hfe, hL⟩ := ok.head hm
    simp only [Yc] at hw
    obtain ⟨hσ, hw⟩ := hw
    have hα : α = [] := by
      have := S.len; rw [hσ] at this; exact List.eq_nil_of_length_eq_zero this
    -- the same activation, counted from here
    have ok₁ : ActOk { a with P₀ := P } := ⟨ok.kind, ok.loc, ok.cel, ok.clos, ok.handled, ok.frames, ok.depth, ok.units, ok.glob, ok.blt, ok.glob0, ok.blt0, ok.frs, ok.cinj, ok.nodup, fun b hb => ⟨(ok.fa b hb).1, (ok.fa b hb).2.1, by
      show P b = none
      cases e : P b with
      | none => rfl
      | some q =>
        rcases S.grow b (by rw [e]; simp) with h | h
        · exact (h (ok.fa b hb).2.2.1).elim
        · exact ((ok.fa b hb).2.2.2 h).elim, (ok.fa b hb).2.2.2⟩, ok.mutIs, ok.head⟩
    have ck₁ : CkOk T { a with P₀ := P } c := ⟨ck.fns, ck.vars, ck.sc, ck.main, ck.T⟩
    have S₁ : St { a with P₀ := P } Γ α P s := ⟨S.rest, S.top, S.hold, S.part, fun _ _ e => e, fun b e => .inl e, S.ns, S.cell, S.cells, S.own, S.len, S.nd, S.apart, S.there, S.mfree, S.afree, S.akf⟩
    have back : ∀ {Γ' α' P' s'}, St { a with P₀ := P } Γ' α' P' s' → St a Γ' α' P' s' ∧ ∀ b o, P b = some o → P' b = some o := fun {Γ' α' P' s'} S' =>
      ⟨⟨S'.rest, S'.top, S'.hold, S'.part, fun b o e => S'.ext b o (S.ext b o e), fun b e => by
        rcases S'.grow b e with h | h
        · exact S.grow b h
        · exact .inr h, S'.ns, S'.cell, S'.cells, S'.own, S'.len, S'.nd, S'.apart, S'.there, S'.mfree, S'.afree, S'.akf⟩, S'.ext⟩
    refine wpAny_Try_except (wpAny_execs_cons (wpAny_Return_some (wpAny_mono (hx c _ hc { a with P₀ := P } gk ok₁ ck₁ _ _ (∀ Γ', Q (.ret .none) Γ') _ _ _ _ hw S₁ ⟨PassesOwn.looking, ?_, ?_⟩) (fun u s₁ h₁ => ?_) fun _ _ e => e)))
    · -- an exception that comes from a call
      intro hX s₁ s₂ e' ⟨Γ₁, α₁, P₁, S₂⟩ hr ⟨fl, hfr⟩
      obtain ⟨a0, fw⟩ := flying_w fl
      have hfr' : a.A.frames = some (a.env :: outer) := by rw [ok.frames, hfe]
      have fw : Heap.FlyingW (TI.gone s₁.heap (addrs a.fr)) a.fr e' a.G.exc a0 s₂.heap := fw
      rw [hfe] at fw
      refine wpAny_looks_onW hfr' hL fw fun h' hh u' => wpAny_landsW hh fun h'' fw'' u'' => ?_
      rw [← hfe] at fw''
      refine handle_ok (a := { a with P₀ := P }) gk ok₁ ck₁ S₂ hn hk (hr := ⟨hr.1, hr.2.1, hr.2.2⟩) ?_ ?_ ?_
      · obtain ⟨f1, f2, f3, oe, vs, t, oT, ts, g1, ⟨g2, _⟩, g3⟩ := fw''
        exact ⟨f1, f2, f3, oe, vs, t, oT, ts, g1, g2, g3⟩
      · intro b hb o ho
        obtain ⟨o', es, ep, ho', hd⟩ := S₂.frDict ok₁ hb
        rw [ho] at ho'; cases ho'
        obtain ⟨sl, k1⟩ := hfr b hb o ho
        obtain ⟨sl', k2⟩ := u' b _ k1 fun vs q => by rw [show ({ o with slots := sl } : Obj).data = o.data from rfl, hd] at q; cases q
        obtain ⟨sl'', k3⟩ := u'' b _ k2 fun vs q => by rw [show ({ o with slots := sl' } : Obj).data = o.data from rfl, hd] at q; cases q
        exact ⟨sl'', k3⟩
      · intro s' S'
        obtain ⟨S'', hP⟩ := back S'
        exact ⟨.ret .none, Γ₁, α₁, P₁, hX Γ₁, S'', by rw [hα]; exact List.nil_prefix, hP, Tells.none⟩
    · -- an exception made here
      intro hX s₁ h' e' vs ⟨Γ₁, α₁, P₁, S₂⟩ hm'
      obtain ⟨t, ht, hnt, _⟩ := hm'.there
      have hfr' : a.A.frames = some (a.env :: outer) := by rw [ok.frames, hfe]
      have hbn : ∀ b, b ∈ addrs a.fr → (TI.gone s₁.heap (addrs a.fr)).get? b = none := fun b hb => gone_in hb
      have hsub : ∀ b o, (TI.gone s₁.heap (addrs a.fr)).get? b = some o → s₁.heap.get? b = some o := fun b o e => (gone_get.mp e).2
      have hen : (TI.gone s₁.heap (addrs a.fr)).get? e' = none := none_mono hsub hm'.new
      have hff : h'.FunFrames (TI.gone s₁.heap (addrs a.fr)) a.fr := S₂.frames ok₁ hbn fun b o e _ => ⟨o.slots, hm'.keeps b o e⟩
      rw [hfe] at hff
      have hff : h'.FunFrames (TI.gone s₁.heap (addrs a.fr)) (a.env :: outer) := by rw [hfe]; exact hff
      show wpAny _ _ (noteFrame (.ref e') a.env) _ _ _
      unfold noteFrame
      simp only [hL]
      refine wpAny_bind (wpAny_field ht rfl (x := .none) rfl ?_)
      rw [if_neg (by decide)]
      refine wpAny_entryW (base := TI.gone s₁.heap (addrs a.fr)) (s := { s₁ with heap := h' }) hfr' hff hL ht (fun b o e => hm'.keeps b o (hsub b o e)) hen rfl (show 1 < 6 by decide) rfl fun h'' hN => ?_
      obtain ⟨k1, k2, k3, k4⟩ := hN
      have hh : Heap.HeldW (TI.gone s₁.heap (addrs a.fr)) (a.env :: outer) e' a.G.exc (.ref t) L h'' := ⟨k1, hen, k2, k3⟩
      refine wpAny_landsW hh fun h3 fw'' u'' => ?_
      rw [← hfe] at fw''
      refine handle_ok (a := { a with P₀ := P }) gk ok₁ ck₁ S₂ hn hk (hr := ⟨rfl, rfl, rfl⟩) ?_ ?_ ?_
      · obtain ⟨f1, f2, f3, oe, vs, t, oT, ts, g1, ⟨g2, _⟩, g3⟩ := fw''
        exact ⟨f1, f2, f3, oe, vs, t, oT, ts, g1, g2, g3⟩
      · intro b hb o ho
        obtain ⟨o', es, ep, ho', hd⟩ := S₂.frDict ok₁ hb
        rw [ho] at ho'; cases ho'
        obtain ⟨sl', k2⟩ := k4 b _ (hm'.keeps b o ho) fun vs q => by rw [hd] at q; cases q
        obtain ⟨sl'', k3⟩ := u'' b _ k2 fun vs q => by rw [show ({ o with slots := sl' } : Obj).data = o.data from rfl, hd] at q; cases q
        exact ⟨sl'', k3⟩
      · intro s' S'
        obtain ⟨S'', hP⟩ := back S'
        exact ⟨.ret .none, Γ₁, α₁, P₁, hX Γ₁, S'', by rw [hα]; exact List.nil_prefix, hP, Tells.none⟩
    · obtain ⟨r, Γ₁, α₁, P₁, hw, S₂, p₁, q₁, t⟩ := h₁
      obtain ⟨d, td, hw⟩ := onD_is t hw
      exact ⟨.ret d, Γ₁, α₁, P₁, hw, (back S₂).1, p₁, q₁, td⟩
end

end LM

namespace LM

noncomputable def bodyR (c : Option (List D)) (post : Option D → Option (List D) → Prop) (d : D) (Γ : Fs) : Prop := match c with
  | none => post (some d) none
  | some _ => (match Γ.σ[0]? with
    | some (some l) => post (some d) (some l)
    | _ => False)
noncomputable def bodyQ (c : Option (List D)) (post : Option D → Option (List D) → Prop) (o : Out) (Γ : Fs) : Prop := match o with
  | .ret d => bodyR c post d Γ
  | .next => bodyR c post .none Γ
  | _ => False
noncomputable def entryΓ (n : Nat) (ds : List D) (c : Option (List D)) : Fs := match c with
  | none => ⟨ds.map (fun d => some (.d d)) ++ List.replicate (n - ds.length) none, []⟩
  | some l => ⟨some (.c 0) :: (ds.map (fun d => some (.d d)) ++ List.replicate (n - ds.length - 1) none), [some l]⟩

theorem cellsFrom_mem : ∀ (names : List (Str × NameKind)) (n : Nat) (acc : List (Str × Addr)) (x : Str), ((x, NameKind.cell) ∈ names ∨ (acc.lookup x).isSome = true) → ((cellsFrom n names acc).lookup x).isSome = true
  | [], n, acc, x, h => by
    rcases h with h | h
    · cases h
    · exact h
  | (y, k) :: r, n, acc, x, h => by
    unfold cellsFrom
    by_cases hk : (k == NameKind.cell) = true
    · rw [if_pos hk]
      refine cellsFrom_mem r (n + 1) _ x ?_
      by_cases q : x = y
      · subst q; right; rw [List.lookup_cons, beq_self_eq_true]; rfl
      · have q' : (x == y) = false := by simpa using q
        rcases h with h | h
        · rcases List.mem_cons.mp h with e | h
          · cases e; exact (q rfl).elim
          · exact .inl h
        · right; rw [List.lookup_cons, q']; exact h
    · rw [if_neg hk]
      refine cellsFrom_mem r n acc x ?_
      rcases h with h | h
      · rcases List.mem_cons.mp h with e | h
        · cases e; exact (hk rfl).elim
        · exact .inl h
      · exact .inr h

theorem bindL_out {ko : Str → Option NameKind} : ∀ {bs : List (Str × Value)} {m : Str → Option Value} {x : Str}, (∀ p ∈ bs, p.1 ≠ x) → bindL ko bs m x = m x
  | [], m, x, _ => rfl
  | (n, v) :: r, m, x, h => by
    unfold bindL
    rw [bindL_out fun p hp => h p (.tail _ hp)]
    have q : x ≠ n := fun e => h (n, v) (.head _) e.symm
    split
    · simp [q]
    · rfl
theorem bindC_out {ko : Str → Option NameKind} : ∀ {bs : List (Str × Value)} {m : Str → Option Value} {x : Str}, (∀ p ∈ bs, p.1 ≠ x) → bindC ko bs m x = m x
  | [], m, x, _ => rfl
  | (n, v) :: r, m, x, h => by
    unfold bindC
    rw [bindC_out fun p hp => h p (.tail _ hp)]
    have q : x ≠ n := fun e => h (n, v) (.head _) e.symm
    split
    · rfl
    · simp [q]
theorem bind_get {ko : Str → Option NameKind} : ∀ {xs : List Str} {vs : List Value} {m : Str → Option Value} {i : Nat} {x : Str} {v : Value}, xs.Nodup → xs[i]? = some x → vs[i]? = some v →
    (ko x = some .local → bindL ko (xs.zip vs) m x = some v) ∧ (ko x ≠ some .local → bindC ko (xs.zip vs) m x = some v)
  | [], vs, m, i, x, v, _, hx, _ => by simp at hx
  | y :: xs, [], m, i, x, v, _, _, hv => by simp at hv
  | y :: xs, u :: vs, m, 0, x, v, hn, hx, hv => by
    simp at hx hv
    subst hx hv
    rw [List.nodup_cons] at hn
    have out : ∀ p ∈ xs.zip vs, p.1 ≠ y := fun p hp e => hn.1 (e ▸ (List.of_mem_zip hp).1)
    refine ⟨fun h => ?_, fun h => ?_⟩
    · show bindL ko ((y, u) :: xs.zip vs) m y = some u
      unfold bindL
      rw [bindL_out out, if_pos h]; simp
    · show bindC ko ((y, u) :: xs.zip vs) m y = some u
      unfold bindC
      rw [bindC_out out, if_neg h]; simp
  | y :: xs, u :: vs, m, i + 1, x, v, hn, hx, hv => by
    rw [List.nodup_cons] at hn
    have hx' : xs[i]? = some x := by simpa using hx
    have hv' : vs[i]? = some v := by simpa using hv
    refine ⟨fun h => ?_, fun h => ?_⟩
    · show bindL ko ((y, u) :: xs.zip vs) m x = some v
      unfold bindL
      exact (bind_get (m := _) hn.2 hx' hv').1 h
    · show bindC ko ((y, u) :: xs.zip vs) m x = some v
      unfold bindC
      exact (bind_get (m := _) hn.2 hx' hv').2 h

/-- a function of the table. -/
structure FnAt (G : Gl) (f : Nat) (fd : FuncData) (body : List Stmt) : Prop where
  at' : Ex2 (fun b o => G.fv f = .ref b) (fun b o => G.hT.get? b = some o ∧ o.data = .func fd)
  code : G.hT.CodeRec fd.code fd.qualname
  body : fd.body = .stmts body
  clo : fd.closure = []
  globals : fd.globals = mainGlobals
  builtins : fd.builtins = builtinsNs
  co : fd.scope.isCoroutine = false
  gen : fd.scope.isGenerator = false
  kind : fd.scope.kind = .function

/-- K of a callee: all that stood, but the list handed first. -/
noncomputable def heapBut (h : Heap) (W : Option Addr) : Part := fun b => if some b = W then none else h.get? b

noncomputable def fnAct (G : Gl) (A : Around) (fr : List Env) (n : Nat) (vars : List Str) (W : Option Addr) (P : Part) (s : Shared) (env : Env) : Act :=
  { G := G, A := A.deeper env, env := env, fr := env :: fr, lvl := n, main := true, vars := vars, muts := env.locals :: env.cells.filterMap (fun p => env.cells.lookup p.1), FA := addrs fr, K := heapBut s.heap W, P₀ := P, s₀ := s }

section
variable {G : Gl} {A : Around} {fr : List Env} {n : Nat} {vars : List Str} {W : Option Addr} {P : Part} {s : Shared}

theorem fnAct_ok (gk : GlOk G) (C : CallOk G A fr (n + 1) s) (hP : ∀ b o, P b = some o → s.heap.get? b = some o) (hPf : ∀ b, b ∈ addrs fr → P b = none) (hW : ∀ b, some b = W → b ∉ addrs fr) {fd : FuncData} {b : Addr} (hk : fd.scope.kind = .function)
    (hg : fd.globals = mainGlobals) (hb : fd.builtins = builtinsNs) (hn : vars.Nodup) {m cm : Str → Option Value} {s₁ : Shared} (x : InCallC s (callEnvC fd s.heap.objs.size b).locals m (callEnvC fd s.heap.objs.size b).cells cm s₁) :
    ActOk (fnAct G A fr n vars W P s (callEnvC fd s.heap.objs.size b)) := by
  have hL : (callEnvC fd s.heap.objs.size b).locals = s.heap.objs.size := rfl
  have above : ∀ y c, (callEnvC fd s.heap.objs.size b).cells.lookup y = some c → @LT.lt Nat _ s.heap.objs.size c := fun y c h => x.above y c (mem_of_lookup h)
  have mutIs : ∀ c, c ∈ (callEnvC fd s.heap.objs.size b).locals :: (callEnvC fd s.heap.objs.size b).cells.filterMap (fun p => (callEnvC fd s.heap.objs.size b).cells.lookup p.1) → c = (callEnvC fd s.heap.objs.size b).locals ∨ ∃ y, (callEnvC fd s.heap.objs.size b).cells.lookup y = some c := fun c hc => by
    rcases List.mem_cons.mp hc with e | hc
    · exact .inl e
    · obtain ⟨p, _, hp⟩ := List.mem_filterMap.mp hc
      exact .inr ⟨p.1, hp⟩
  have mutFresh : ∀ c, c ∈ (callEnvC fd s.heap.objs.size b).locals :: (callEnvC fd s.heap.objs.size b).cells.filterMap (fun p => (callEnvC fd s.heap.objs.size b).cells.lookup p.1) → s.heap.get? c = none := fun c hc => by
    rcases mutIs c hc with e | ⟨y, e⟩
    · rw [e, hL]; exact fresh_none
    · exact fresh_of_size (Nat.le_of_lt (above y c e))
  refine ⟨hk, .head _, fun _ y c _ hc => ⟨.tail _ (List.mem_filterMap.mpr ⟨(y, c), mem_of_lookup hc, hc⟩), fun e => ?_⟩, fun y hy => ?_, C.handled, Around.frames_deeper C.frames, ?_, ?_, ?_, ?_, hg, hb, fun e he => ?_, fun y z c hy hz => name_of_addr x.apart (mem_of_lookup hy) (mem_of_lookup hz), hn, fun c hc => ?_, mutIs, fun _ => ⟨fr, s.heap.objs.size, rfl, rfl⟩⟩
  · have := above y c hc
    have e : c = s.heap.objs.size := e
    rw [e] at this
    exact Nat.lt_irrefl _ this
  · have hy : fd.scope.names.lookup y = some .cell := hy
    exact Option.isSome_iff_exists.mp (cellsFrom_mem _ _ _ _ (.inl (mem_of_lookup hy)))
  · have := C.depth
    show A.depth + 1 + n < _
    (refine Nat.lt_of_not_le fun h => ?_; lia)
  · have := C.units
    show A.units + 3 + 8 * n + 200 < _
    (refine Nat.lt_of_not_le fun h => ?_; lia)
  · show G.hT.Ns fd.globals G.mg
    rw [hg]; exact gk.g
  · show G.hT.Ns fd.builtins G.mb
    rw [hb]; exact gk.b
  · rcases List.mem_cons.mp he with rfl | he
    · refine ⟨?_, _, rfl, .inl rfl⟩
      show fd.scope.kind ≠ .module
      rw [hk]; decide
    · obtain ⟨h1, L, o, es, ep, h2, h3, h4, h5⟩ := C.frs e he
      have hm : L ∈ addrs fr := List.mem_filterMap.mpr ⟨e, he, h2⟩
      exact ⟨h1, L, h2, .inr ⟨hm, o, es, ep, (if_neg fun q => hW L q hm).trans h4, h5⟩⟩
  · obtain ⟨e, he, h2⟩ := mem_addrs hc
    obtain ⟨h1, L, o, es, ep, h2', h3, h4, h5⟩ := C.frs e he
    rw [h2] at h2'; cases h2'
    refine ⟨fun hm => ?_, h3, hPf c hc, ?_⟩
    · rw [mutFresh c hm] at h4; cases h4
    · show heapBut s.heap W c ≠ none
      unfold heapBut
      rw [if_neg fun q => hW c q hc, h4]; simp

theorem fnAct_st (C : CallOk G A fr (n + 1) s) (hP : ∀ b o, P b = some o → s.heap.get? b = some o) {fd : FuncData} {b : Addr} {xs : List Str} {vs args : List Value} {ds : List D} {c : Option (Addr × List D)} (hn : vars.Nodup) (hpre : xs <+: vars) (hlen : xs.length = args.length) (t : TellsAll G.fv P vs ds) (hc : CellIn G P fr s c vs args)
    (hkind : ∀ x ∈ xs, fd.scope.names.lookup x = some .local ∨ fd.scope.names.lookup x = some .cell)
    {s₁ : Shared} (x : InCallC s (callEnvC fd s.heap.objs.size b).locals (bindL (callEnvC fd s.heap.objs.size b).kindOf (xs.zip args) fun _ => none) (callEnvC fd s.heap.objs.size b).cells (bindC (callEnvC fd s.heap.objs.size b).kindOf (xs.zip args) fun _ => none) s₁) :
    St (fnAct G A fr n vars (c.map (·.1)) P s (callEnvC fd s.heap.objs.size b)) (entryΓ vars.length ds (c.map (·.2))) ((c.map (·.1)).toList) P s₁ := by
  have hL : (callEnvC fd s.heap.objs.size b).locals = s.heap.objs.size := rfl
  have above : ∀ y c, (callEnvC fd s.heap.objs.size b).cells.lookup y = some c → @LT.lt Nat _ s.heap.objs.size c := fun y c h => x.above y c (mem_of_lookup h)
  have mutFresh : ∀ d, d ∈ (callEnvC fd s.heap.objs.size b).locals :: (callEnvC fd s.heap.objs.size b).cells.filterMap (fun p => (callEnvC fd s.heap.objs.size b).cells.lookup p.1) → s.heap.get? d = none := fun d hd => by
    rcases List.mem_cons.mp hd with e | hd
    · rw [e, hL]; exact fresh_none
    · obtain ⟨p, _, hp⟩ := List.mem_filterMap.mp hd
      exact fresh_of_size (Nat.le_of_lt (above _ d hp))
  have keep := x.toInCall.keep
  obtain ⟨h₁, tk, hs₁⟩ := x.toInCall.same
  -- the slots that are told
  have slot : ∀ (i : Nat) (y : Str) (r : Rv), vars[i]? = some y → (entryΓ vars.length ds (c.map (·.2))).ρ[i]? = some (some r) → Ex1 (fun v => xs[i]? = some y) (fun v => args[i]? = some v ∧ RTells G.fv P ((c.map (·.1)).toList) v r) := by
    obtain ⟨rest, rfl⟩ := hpre
    intro i y r hy hr
    have tl := t.length
    cases c with
    | none =>
      have hc : args = vs := hc
      subst hc
      have hr : (ds.map (fun d => some (Rv.d d)) ++ List.replicate ((xs ++ rest).length - ds.length) none)[i]? = some (some r) := hr
      by_cases hi : i < ds.length
      · rw [List.getElem?_append_left (by simpa using hi), List.getElem?_map, List.getElem?_eq_getElem hi] at hr
        cases hr
        obtain ⟨v, hv, tv⟩ := t.get (List.getElem?_eq_getElem hi)
        rw [List.getElem?_append_left (by (exact Nat.lt_of_lt_of_le (Nat.lt_of_lt_of_le hi (Nat.le_of_eq tl.symm)) (Nat.le_of_eq hlen.symm)))] at hy
        exact ⟨v, hy, hv, tv⟩
      · rw [List.getElem?_append_right (by simp; (exact Nat.le_of_not_lt hi)), List.getElem?_replicate] at hr
        split at hr <;> cases hr
    | some bl =>
      obtain ⟨b', l⟩ := bl
      obtain ⟨hargs, _⟩ := hc
      subst hargs
      have hr : (some (Rv.c 0) :: (ds.map (fun d => some (Rv.d d)) ++ List.replicate ((xs ++ rest).length - ds.length - 1) none))[i]? = some (some r) := hr
      simp only [List.length_cons] at hlen
      cases i with
      | zero =>
        simp at hr
        subst hr
        rw [List.getElem?_append_left (by (exact Nat.lt_of_lt_of_le (Nat.succ_pos _) (Nat.le_of_eq hlen.symm)))] at hy
        exact ⟨.ref b', hy, rfl, b', rfl, rfl⟩
      | succ i =>
        rw [List.getElem?_cons_succ] at hr
        by_cases hi : i < ds.length
        · rw [List.getElem?_append_left (by simpa using hi), List.getElem?_map, List.getElem?_eq_getElem hi] at hr
          cases hr
          obtain ⟨v, hv, tv⟩ := t.get (List.getElem?_eq_getElem hi)
          rw [List.getElem?_append_left (by (refine Nat.lt_of_not_le fun h => ?_; lia))] at hy
          exact ⟨v, hy, by simpa using hv, tv⟩
        · rw [List.getElem?_append_right (by simp; (exact Nat.le_of_not_lt hi)), List.getElem?_replicate] at hr
          split at hr <;> cases hr
  have hxn : xs.Nodup := by
    obtain ⟨rest, rfl⟩ := hpre
    exact (List.nodup_append.mp hn).1
  have cIn : ∀ d, d ∈ (c.map (·.1)).toList → ∃ l, c = some (d, l) := fun d hd => by
    cases c with
    | none => simp at hd
    | some bl => simp at hd; exact ⟨bl.2, by rw [hd]⟩
  have cFact : ∀ d l, c = some (d, l) → P d = none ∧ G.hT.get? d = none ∧ Ex1 (fun ws => s.heap.PlainList d ws.toArray) (fun ws => TellsAll G.fv P ws l) := fun d l e => by
    subst e
    obtain ⟨_, h2, h3, _, h5⟩ := hc
    exact ⟨h2, h3, h5⟩
  refine ⟨?_, fun d o e => keep d o (C.top d o e), fun d o e => ?_, fun d o e => keep d o (hP d o e), fun _ _ e => e, fun d e => .inl e, ⟨_, x.toInCall.ns, fun i y r hy hr hk => ?_⟩, fun y d hd => ⟨_, x.cell y d hd⟩, fun i y r hy hr hk => ?_, fun k l hk => ?_, ?_, ?_, fun d hd hm => ?_, fun d hd => ?_, fun d hd => ?_, fun k l d hk hd => ?_, fun d hd => ?_⟩
  · rw [hs₁]; exact ⟨rfl, rfl, rfl⟩
  · have e : heapBut s.heap (c.map (·.1)) d = some o := e
    unfold heapBut at e
    split at e
    · cases e
    · exact ⟨fun _ => keep d o e, fun _ => ⟨o.slots, keep d o e⟩⟩
  · obtain ⟨v, h1, h2, h3⟩ := slot i y r hy hr
    exact ⟨v, (bind_get hxn h1 h2).1 hk, h3⟩
  · obtain ⟨v, h1, h2, h3⟩ := slot i y r hy hr
    have hk' : fd.scope.names.lookup y = some .cell := by
      rcases hkind y (List.mem_of_getElem? h1) with h | h
      · exact (hk h).elim
      · exact h
    obtain ⟨d, hd⟩ := Option.isSome_iff_exists.mp (cellsFrom_mem _ (s.heap.objs.size + 1) [] _ (.inl (mem_of_lookup hk')))
    refine ⟨d, v, hd, ?_, h3⟩
    have := x.cell y d hd
    rw [(bind_get (ko := (callEnvC fd s.heap.objs.size b).kindOf) hxn h1 h2).2 hk] at this
    exact this
  · cases c with
    | none => have hk : ([] : List (Option (List D)))[k]? = _ := hk; simp at hk
    | some bl =>
      have hk : [some bl.2][k]? = some (some l) := hk
      cases k with
      | zero =>
        simp at hk
        obtain ⟨_, _, ws, h1, h2⟩ := cFact bl.1 bl.2 rfl
        exact ⟨bl.1, ws, rfl, h1.at fun o e => keep _ o e, hk ▸ h2⟩
      | succ k => simp at hk
  · cases c <;> rfl
  · cases c with
    | none => exact List.nodup_nil
    | some bl => simp
  · obtain ⟨l, e⟩ := cIn d hd
    obtain ⟨_, _, ws, ⟨n', h1⟩, _⟩ := cFact d l e
    rw [mutFresh d hm] at h1; cases h1
  · obtain ⟨l, e⟩ := cIn d hd
    obtain ⟨_, _, ws, ⟨n', h1⟩, _⟩ := cFact d l e
    exact ⟨_, keep _ _ h1⟩
  · have h0 := mutFresh d hd
    refine ⟨?_, ?_, none_of_keep C.top h0⟩
    · show heapBut s.heap (c.map (·.1)) d = none
      unfold heapBut; split
      · rfl
      · exact h0
    · cases e : P d with
      | none => rfl
      | some o => rw [hP d o e] at h0; cases h0
  · have hm : d ∈ (c.map (·.1)).toList := List.mem_of_getElem? hd
    obtain ⟨l', e⟩ := cIn d hm
    obtain ⟨h1, h2, _⟩ := cFact d l' e
    refine ⟨?_, h1, h2⟩
    show heapBut s.heap (c.map (·.1)) d = none
    unfold heapBut; rw [if_pos (by rw [e]; rfl)]
  · obtain ⟨l', e⟩ := cIn d hd
    show heapBut s.heap (c.map (·.1)) d = none
    unfold heapBut; rw [if_pos (by rw [e]; rfl)]

/-- a frame is left: what flew on inside flies on outside. -/
theorem leave_on {base : Heap} {env : Env} {outer : List Env} {L e : Addr} {cls : Value} {M : Model} {A : Around} {E : Value → Shared → Prop} {s : Shared} {Q : Unit → Shared → Prop}
    (hfr : A.frames = some (env :: outer)) (hf : env.frame = some L) (hfl : Heap.Flying base (env :: outer) e cls s.heap)
    (hQ : ∀ h', Heap.Flying base outer e cls h' → (∀ b o, s.heap.get? b = some o → (∀ vs, o.data ≠ .fields vs) → ∃ sl, h'.get? b = some { o with slots := sl }) → Q () { s with heap := h' }) : wpAny M A (leaving env (.ref e)) Q E s := by
  obtain ⟨f1, f2, f3, f4⟩ := hfl
  refine wpAny_leaving_next hfr f3 hf f4 f1 f2 fun h' hL => ?_
  obtain ⟨k1, ⟨_, _, k2⟩, k3, k4⟩ := hL
  exact hQ h' ⟨k1, f2, k2, k3⟩ k4
theorem leave_new {base h : Heap} {env : Env} {outer : List Env} {L e : Addr} {cls : Value} {vs : List Value} {M : Model} {A : Around} {E : Value → Shared → Prop} {s : Shared} {Q : Unit → Shared → Prop}
    (hfr : A.frames = some (env :: outer)) (hf : env.frame = some L) (hkb : ∀ b o, base.get? b = some o → h.get? b = some o) (hl : s.heap.FunFrames base (env :: outer)) (hx : Heap.MadeExcOf h s.heap e cls vs)
    (hQ : ∀ h', Heap.Flying base outer e cls h' → (∀ b o, s.heap.get? b = some o → (∀ vs, o.data ≠ .fields vs) → ∃ sl, h'.get? b = some { o with slots := sl }) → Q () { s with heap := h' }) : wpAny M A (leaving env (.ref e)) Q E s := by
  obtain ⟨t, he, _, _⟩ := hx.there
  have hen : base.get? e = none := none_mono hkb hx.new
  refine wpAny_leaving_first hfr hl hf he (fun b o hb => hx.keeps b o (hkb b o hb)) hen rfl rfl fun h' hL => ?_
  obtain ⟨k1, ⟨_, _, k2⟩, k3, k4⟩ := hL
  exact hQ h' ⟨k1, hen, k2, k3⟩ k4

/-- a body that is checked and proved keeps its def's promise. -/
theorem contract_of {T : Nat → Option LM.Spec} (gk : GlOk G) (hlim : G.hT.NoLimit) {f : Nat} {sp : LM.Spec} {fd : FuncData} {body : List Stmt} (hF : FnAt G f fd body) (hT : ∀ g sp', T g = some sp' → ∃ m, m ≤ n ∧ Contract G m g sp')
    {xs : List Str} {ps : PSs} (hsnd : SndSs T ps) (hchk : chkSs ps ⟨G.fns, vars, fd.scope, true⟩ body = true) (hn : vars.Nodup) (hpre : xs <+: vars)
    (hbind : ∀ args : List Value, args.length = xs.length → bindArgs fd ⟨args, []⟩ = pure (xs.zip args))
    (hkind : ∀ x ∈ xs, fd.scope.names.lookup x = some .local ∨ fd.scope.names.lookup x = some .cell)
    (hsp : ∀ ds c post, sp ds c post → ds.length + (match c with | none => 0 | some _ => 1) = xs.length ∧ wSs T ps (entryΓ vars.length ds c) (bodyQ c post) (c = none ∧ ∃ c', post none c')) :
    Contract G (n + 1) f sp := by
  intro A fr s P ds vs args c post Q E C hP hPf t hc hsp' hQ hE
  obtain ⟨b, o, hfv, hget, hdata⟩ := hF.at'
  obtain ⟨hlen, hw⟩ := hsp ds (c.map (·.2)) post hsp'
  have tl := t.length
  have hlen' : args.length = xs.length := by
    cases c with
    | none => have hc : args = vs := hc; subst hc; simpa [tl] using hlen
    | some bl => obtain ⟨hargs, _⟩ := hc; subst hargs; simp only [Option.map_some] at hlen; simp only [List.length_cons]; lia
  have hcW : ∀ d, some d = c.map (·.1) → d ∉ addrs fr := fun d hd => by
    cases c with
    | none => cases hd
    | some bl => cases hd; exact hc.2.2.2.1
  rw [hfv]
  refine wpAny_call (codeAny_call_cells (by have := C.depth; (exact Nat.lt_of_le_of_lt (Nat.le_add_right _ _) this)) (C.top _ _ hget) hdata (hlim.keeps C.top) (hF.code.keeps C.top) hF.body (hbind args hlen') hF.clo (fun x hx => ?_) (fun s₁ x => ?_) hF.co hF.gen hF.kind)
  · rcases hkind x.1 (List.of_mem_zip hx).1 with h | h
    · exact .inl h
    · exact .inr ⟨h, cellsFrom_mem _ _ _ _ (.inl (mem_of_lookup h))⟩
  have ok := fnAct_ok (vars := vars) (P := P) (W := c.map (·.1)) gk C hP hPf hcW hF.kind hF.globals hF.builtins hn x
  have S := fnAct_st (vars := vars) C hP hn hpre hlen'.symm t hc hkind x
  have ck : CkOk T (fnAct G A fr n vars (c.map (·.1)) P s (callEnvC fd s.heap.objs.size b)) ⟨G.fns, vars, fd.scope, true⟩ := ⟨rfl, rfl, rfl, rfl, hT⟩
  -- what a state of the body says of the caller
  have outK : ∀ {Γ' α' P' s'}, St (fnAct G A fr n vars (c.map (·.1)) P s (callEnvC fd s.heap.objs.size b)) Γ' α' P' s' → Kept (addrs fr) (c.map (·.1)) s.heap s'.heap := fun {Γ' α' P' s'} S' d o hd e => by
    have hK : heapBut s.heap (c.map (·.1)) d = some o := (if_neg hd).trans e
    exact S'.hold d o hK
  have hfrs : (A.deeper (callEnvC fd s.heap.objs.size b)).frames = some (callEnvC fd s.heap.objs.size b :: fr) := Around.frames_deeper C.frames
  have ret : ∀ {v d Γ' α' P' s'}, bodyR (c.map (·.2)) post d Γ' → St (fnAct G A fr n vars (c.map (·.1)) P s (callEnvC fd s.heap.objs.size b)) Γ' α' P' s' → (c.map (·.1)).toList <+: α' → Tells G.fv P' v d → Q v s' := fun {v d Γ' α' P' s'} hq S' pa td => by
    cases c with
    | none =>
      refine hQ v d none P' s' hq S'.rest (outK S') S'.ext S'.part (fun d' e => ?_) td trivial
      rcases S'.grow d' e with h | h
      · exact .inl h
      · have h : heapBut s.heap none d' = none := h
        unfold heapBut at h
        rw [if_neg (by simp)] at h
        exact .inr h
    | some bl =>
      have hq : (match Γ'.σ[0]? with
        | some (some l) => post (some d) (some l)
        | _ => False) := hq
      split at hq
      · rename_i l' hl'
        obtain ⟨d', ws, h1, h2, h3⟩ := S'.own 0 l' hl'
        have e1 : α'[0]? = some bl.1 := by
          obtain ⟨t', rfl⟩ := pa
          rfl
        have e2 : d' = bl.1 := by rw [h1] at e1; exact Option.some.inj e1
        subst e2
        obtain ⟨f1, f2, f3⟩ := S'.afree 0 l' bl.1 hl' h1
        refine hQ v d (some l') P' s' hq S'.rest (outK S') S'.ext S'.part (fun d'' e => ?_) td ⟨ws, h2, h3⟩
        rcases S'.grow d'' e with h | h
        · exact .inl h
        · have h : heapBut s.heap (some bl.1) d'' = none := h
          unfold heapBut at h
          by_cases q : some d'' = some bl.1
          · cases q; exact (e f2).elim
          · rw [if_neg q] at h; exact .inr h
      · exact hq.elim
  have hE' : ExOk (fnAct G A fr n vars (c.map (·.1)) P s (callEnvC fd s.heap.objs.size b)) (fun e s' => wpAny (model G.prog G.w) (A.deeper (callEnvC fd s.heap.objs.size b)) (leaving (callEnvC fd s.heap.objs.size b) e) (fun _ s'' => E e s'') (fun e' s'' => E e' s'') s') (c.map (·.2) = none ∧ ∃ c', post none c') := by
    have mono : ∀ {Γ' α' P' s'}, c = none → St (fnAct G A fr n vars (c.map (·.1)) P s (callEnvC fd s.heap.objs.size b)) Γ' α' P' s' → ∀ d o, (TI.gone s.heap (addrs fr)).get? d = some o → (TI.gone s'.heap (addrs (callEnvC fd s.heap.objs.size b :: fr))).get? d = some o := fun {Γ' α' P' s'} hcn S' d o e => by
      obtain ⟨h1, h2⟩ := gone_get.mp e
      subst hcn
      refine gone_get.mpr ⟨fun hm => ?_, (outK S' d o (by simp) h2).1 h1⟩
      have hm : d ∈ s.heap.objs.size :: addrs fr := hm
      rcases List.mem_cons.mp hm with rfl | hm
      · rw [fresh_none] at h2; cases h2
      · exact h1 hm
    refine ⟨PassesOwn.leaving, fun hX s₁' s₂ e ⟨Γ', α', P', S'⟩ hr ⟨fl, hfr⟩ => ?_, fun hX s₁' h' e vs' ⟨Γ', α', P', S'⟩ hm => ?_⟩
    · have hcn : c = none := by
        have := hX.1
        cases c with
        | none => rfl
        | some _ => cases this
      refine leave_on hfrs rfl (flying_mono (mono hcn S') fl) fun h'' fl' up => ?_
      refine hE e { s₂ with heap := h'' } hX.2 hcn ⟨hr.1.trans S'.rest.1, hr.2.1.trans S'.rest.2.1, hr.2.2.trans S'.rest.2.2⟩ ⟨fl', fun d hd o ho => ?_⟩
      subst hcn
      obtain ⟨sl, h1⟩ := (outK S' d o (by simp) ho).2 hd
      obtain ⟨sl', h2⟩ := hfr d (.tail _ hd) _ h1
      obtain ⟨e', he', hfe⟩ := mem_addrs hd
      obtain ⟨_, L, o', es, ep, hL, _, ho', hdd⟩ := C.frs e' he'
      rw [hfe] at hL; cases hL
      rw [ho] at ho'; cases ho'
      obtain ⟨sl'', h3⟩ := up d _ h2 fun ws q => by rw [show ({ o with slots := sl' } : Obj).data = o.data from rfl, hdd] at q; cases q
      exact ⟨sl'', h3⟩
    · have hcn : c = none := by
        have := hX.1
        cases c with
        | none => rfl
        | some _ => cases this
      have hsub : ∀ d o, (TI.gone s.heap (addrs fr)).get? d = some o → s₁'.heap.get? d = some o := fun d o e => (gone_get.mp (mono hcn S' d o e)).2
      refine leave_new (h := s₁'.heap) hfrs rfl hsub ?_ hm fun h'' fl' up => ?_
      · refine S'.frames ok (fun d hd => ?_) fun d o e _ => ⟨o.slots, hm.keeps d o e⟩
        have hd : d ∈ s.heap.objs.size :: addrs fr := hd
        rcases List.mem_cons.mp hd with rfl | hd
        · cases q : (TI.gone s.heap (addrs fr)).get? s.heap.objs.size with
          | none => rfl
          | some o => have := (gone_get.mp q).2; rw [fresh_none] at this; cases this
        · exact gone_in hd
      refine hE e { s₁' with heap := h'' } hX.2 hcn ⟨S'.rest.1, S'.rest.2.1, S'.rest.2.2⟩ ⟨fl', fun d hd o ho => ?_⟩
      subst hcn
      obtain ⟨sl, h1⟩ := (outK S' d o (by simp) ho).2 hd
      obtain ⟨e', he', hfe⟩ := mem_addrs hd
      obtain ⟨_, L, o', es, ep, hL, _, ho', hdd⟩ := C.frs e' he'
      rw [hfe] at hL; cases hL
      rw [ho] at ho'; cases ho'
      obtain ⟨sl'', h3⟩ := up d _ (hm.keeps d _ h1) fun ws q => by rw [show ({ o with slots := sl } : Obj).data = o.data from rfl, hdd] at q; cases q
      exact ⟨sl'', h3⟩
  refine wpAny_mono (hsnd _ _ hchk _ gk ok ck _ _ _ _ _ _ _ hw S hE') (fun f s₂ h₂ => ?_) fun e s' h => h
  obtain ⟨o', Γ', α', P', hq, S', pa, pp, fl⟩ := h₂
  cases f <;> cases o' <;> first | exact fl.elim | exact hq.elim | skip
  · exact ret hq S' pa .none
  · exact ret hq S' pa fl
end

end LM

namespace LM

section
variable {T : Nat → Option LM.Spec}

noncomputable def testy : PE → Bool
  | .cmp .. => true
  | .not _ => true
  | .isnot _ => true
  | .and .. => true
  | .or .. => true
  | .or3 .. => true
  | .ite .. => true
  | _ => false
theorem plainT {pe : PE} (hp : testy pe = false) : ∀ c e, chkE pe c e = true → ∀ env whole, isTrue e env whole = (do let v ← whole; standAt e.pos; holding [v] (truthy v)) := by
  intro c e h
  cases pe <;> first | (cases hp; done) | skip
  · obtain ⟨_, _, rfl, _⟩ := invE_var h; exact fun _ _ => rfl
  · obtain ⟨_, _, rfl, _⟩ := invE_fnm h; exact fun _ _ => rfl
  · obtain ⟨_, _, _, rfl, _⟩ := invE_int h; exact fun _ _ => rfl
  · obtain ⟨_, _, _, _, rfl, _⟩ := invE_neg h; exact fun _ _ => rfl
  · obtain ⟨_, _, _, rfl, _⟩ := invE_bool h; exact fun _ _ => rfl
  · obtain ⟨_, _, rfl, _⟩ := invE_none h; exact fun _ _ => rfl
  · obtain ⟨_, _, _, _, rfl, _⟩ := invE_bin h; exact fun _ _ => rfl
  · obtain ⟨_, _, _, _, rfl, _⟩ := invE_len h; exact fun _ _ => rfl
  · obtain ⟨_, _, _, _, _, rfl, _⟩ := invE_min2 h; exact fun _ _ => rfl
  · obtain ⟨_, _, _, _, rfl, _⟩ := invE_abs h; exact fun _ _ => rfl
  · obtain ⟨_, _, _, _, rfl, _⟩ := invE_toInt h; exact fun _ _ => rfl
  · obtain ⟨_, _, _, _, rfl, _⟩ := invE_sum h; exact fun _ _ => rfl
  · obtain ⟨_, _, _, _, rfl, _⟩ := invE_any h; exact fun _ _ => rfl
  · obtain ⟨_, _, _, _, rfl, _⟩ := invE_bitlen h; exact fun _ _ => rfl
  · obtain ⟨_, _, _, _, _, rfl, _⟩ := invE_call h; exact fun _ _ => rfl
  · obtain ⟨_, _, _, _, _, rfl, _⟩ := invE_callv h; exact fun _ _ => rfl
  · obtain ⟨_, _, _, _, _, _, rfl, _⟩ := invE_callio h; exact fun _ _ => rfl
  · obtain ⟨_, _, _, rfl, _⟩ := invE_item h; exact fun _ _ => rfl
  · obtain ⟨_, _, _, _, _, _, rfl, _⟩ := invE_slice h; exact fun _ _ => rfl
  · obtain ⟨_, _, _, rfl, _⟩ := invE_tup h; exact fun _ _ => rfl
  · obtain ⟨_, _, rfl, _⟩ := invE_lst h; exact fun _ _ => rfl
  · obtain ⟨_, _, rfl, _⟩ := invE_cell h; exact fun _ _ => rfl
  · obtain ⟨_, _, _, _, rfl, _⟩ := invE_rep h; exact fun _ _ => rfl
  · obtain ⟨_, _, _, _, rfl, _⟩ := invE_repc h; exact fun _ _ => rfl
  · obtain ⟨_, _, _, rfl, _⟩ := invE_addc h; exact fun _ _ => rfl
  · obtain ⟨_, _, _, _, _, _, rfl, _⟩ := invE_comp h; exact fun _ _ => rfl
theorem both {pe : PE} (h : SndE T pe) (hp : testy pe = false := by rfl) : SndE T pe ∧ SndT T pe := ⟨h, sndT_plain h (plainT hp)⟩

theorem snd_call' {f : Nat} : ∀ {es : PEs}, SndEs T es → SndE T (.call f es)
  | .nil, _ => by
    intro c e h
    obtain ⟨_, _, _, _, _, _, h⟩ := invE_call h
    simp [chkEs] at h
  | .cons _ _, h => snd_call h
theorem snd_callv' {f : Nat} : ∀ {es : PEs}, SndEs T es → SndE T (.callv f es)
  | .nil, _ => by
    intro c e h
    obtain ⟨_, _, _, _, _, _, h⟩ := invE_callv h
    simp [chkEs] at h
  | .cons _ _, h => snd_callv h

mutual
theorem sndE : ∀ pe : PE, SndE T pe ∧ SndT T pe
  | .var i => both snd_var
  | .fnm f => both snd_fnm
  | .int i => both snd_int
  | .neg i => both snd_neg
  | .bool b => both snd_bool
  | .none => both snd_none
  | .bin op a b => both (snd_bin (sndE a).1 (sndE b).1)
  | .not a => ⟨snd_not (sndE a).1, sndT_not (sndE a).2⟩
  | .cmp op a b => ⟨snd_cmp (sndE a).1 (sndE b).1, sndT_cmp (sndE a).1 (sndE b).1⟩
  | .isnot a => ⟨snd_isnot (sndE a).1, sndT_isnot (sndE a).1⟩
  | .and a b => ⟨snd_and (sndE a).1 (sndE b).1, sndT_and (sndE a).2 (sndE b).2⟩
  | .or a b => ⟨snd_or (sndE a).1 (sndE b).1, sndT_or (sndE a).2 (sndE b).2⟩
  | .or3 a b d => ⟨snd_or3 (sndE a).1 (sndE b).1 (sndE d).1, sndT_or3 (sndE a).2 (sndE b).2 (sndE d).2⟩
  | .ite c a b => ⟨snd_ite (sndE c).2 (sndE a).1 (sndE b).1, sndT_ite (sndE c).2 (sndE a).2 (sndE b).2⟩
  | .len a => both (snd_len (sndE a).1)
  | .min2 a b => both (snd_min2 (sndE a).1 (sndE b).1)
  | .abs a => both (snd_abs (sndE a).1)
  | .toInt a => both (snd_toInt (sndE a).1)
  | .sum a => both (snd_sum (sndE a).1)
  | .any a => both (snd_any (sndE a).1)
  | .bitlen a => both (snd_bitlen (sndE a).1)
  | .call f es => both (snd_call' (sndEs es))
  | .callv i es => both (snd_callv' (sndEs es))
  | .callio f i es => both (snd_callio (sndEs es))
  | .item a i => both (snd_item (sndE a).1 (sndE i).1)
  | .slice a lo hi st => both (snd_slice (sndE a).1 (sndO_of (sndE lo).1) (sndO_of (sndE hi).1) (sndO_of (sndE st).1))
  | .tup es => both (snd_tup (sndEs es))
  | .lst es => both (snd_lst (sndEs es))
  | .cell es => both (snd_cell (sndEs es))
  | .rep e n => both (snd_rep (sndE e).1 (sndE n).1)
  | .repc e n => both (snd_repc (sndE e).1 (sndE n).1)
  | .addc a b => both (snd_addc (sndE a).1 (sndE b).1)
  | .comp tn fs tg it e => both (snd_comp (sndI it) (sndE e).1)
theorem sndEs : ∀ es : PEs, SndEs T es
  | .nil => sndEs_nil
  | .cons e es => sndEs_cons (sndE e).1 (sndEs es)
theorem sndI : ∀ it : PIt, SndI T it
  | .lst e => sndI_lst (sndE e).1
  | .enum e => sndI_enum (sndE e).1
  | .zip a b => sndI_zip (sndE a).1 (sndE b).1
  | .range1 a => sndI_range1 (sndE a).1
  | .range2 a b => sndI_range2 (sndE a).1 (sndE b).1
  | .range3 a b c => sndI_range3 (sndE a).1 (sndE b).1 (sndE c).1
end

theorem sndU (pe : PE) : SndU T pe := by
  cases pe with
  | comp tn fs tg it e => exact sndU_comp (sndI it) (sndE e).1
  | _ => exact sndU_of (by intros; intro h; cases h)

mutual
theorem sndS : ∀ ps : PS, SndS T ps
  | .assign i e => snd_assign (sndE e).1 (sndU e)
  | .assignT is es => snd_assignT (sndEs es)
  | .unpack is e => snd_unpack (sndE e).1
  | .store i ix e => snd_store (sndE ix).1 (sndE e).1
  | .aug i op e => snd_aug (sndE e).1
  | .append i e => snd_append (sndE e).1
  | .expr e => snd_expr (sndE e).1
  | .ite c a b => snd_if (sndE c).2 (sndSs a) (sndSs b)
  | .whil c b => snd_while (sndE c).2 (sndSs b)
  | .forr tg it b => snd_for (sndI it) (sndSs b)
  | .ret e => snd_ret (sndE e).1
  | .raise own => snd_raise
  | .cont => snd_cont
  | .tryRet e => snd_try (sndE e).1
theorem sndSs : ∀ ps : PSs, SndSs T ps
  | .nil => sndSs_nil
  | .cons s r => sndSs_cons (sndS s) (sndSs r)
  | .frz k r => sndSs_frz (sndSs r)
end
end

theorem len1 {β : Type} {l : List β} (h : l.length = 1) : ∃ a, l = [a] := by match l, h with | [a], _ => exact ⟨a, rfl⟩
theorem len2 {β : Type} {l : List β} (h : l.length = 2) : ∃ a b, l = [a, b] := by match l, h with | [a, b], _ => exact ⟨a, b, rfl⟩
theorem len3 {β : Type} {l : List β} (h : l.length = 3) : ∃ a b c, l = [a, b, c] := by match l, h with | [a, b, c], _ => exact ⟨a, b, c, rfl⟩
theorem len4 {β : Type} {l : List β} (h : l.length = 4) : ∃ a b c d, l = [a, b, c, d] := by match l, h with | [a, b, c, d], _ => exact ⟨a, b, c, d, rfl⟩
theorem len5 {β : Type} {l : List β} (h : l.length = 5) : ∃ a b c d e, l = [a, b, c, d, e] := by match l, h with | [a, b, c, d, e], _ => exact ⟨a, b, c, d, e, rfl⟩
theorem len6 {β : Type} {l : List β} (h : l.length = 6) : ∃ a b c d e f, l = [a, b, c, d, e, f] := by match l, h with | [a, b, c, d, e, f], _ => exact ⟨a, b, c, d, e, f, rfl⟩

end LM

namespace LM

theorem fm_congr {β γ : Type} {f g : β → Option γ} : ∀ {l : List β}, (∀ n ∈ l, f n = g n) → l.filterMap f = l.filterMap g
  | [], _ => rfl
  | x :: l, h => by rw [List.filterMap_cons, List.filterMap_cons, h x (.head _), fm_congr fun n hn => h n (.tail _ hn)]
theorem zip_lookup : ∀ {xs : List Str} {vs : List Value}, xs.Nodup → vs.length = xs.length → xs.filterMap (fun n => ((xs.zip vs).lookup n).map (n, ·)) = xs.zip vs ∧ ∀ n ∈ xs, ((xs.zip vs).lookup n).isSome = true
  | [], [], _, _ => ⟨rfl, fun _ h => nomatch h⟩
  | x :: xs, v :: vs, hn, hl => by
    rw [List.nodup_cons] at hn
    obtain ⟨h1, h2⟩ := zip_lookup (xs := xs) (vs := vs) hn.2 (by simpa using hl)
    have e : ∀ n ∈ xs, (((x, v) :: xs.zip vs).lookup n) = (xs.zip vs).lookup n := fun n hm => by
      rw [List.lookup_cons]
      have : (n == x) = false := by simp; rintro rfl; exact hn.1 hm
      rw [this]
    constructor
    · show (x :: xs).filterMap (fun n => (((x, v) :: xs.zip vs).lookup n).map (n, ·)) = (x, v) :: xs.zip vs
      rw [List.filterMap_cons]
      have e0 : ((x, v) :: xs.zip vs).lookup x = some v := by rw [List.lookup_cons, beq_self_eq_true]
      rw [e0]
      simp only [Option.map_some, List.cons.injEq, true_and]
      conv => rhs; rw [← h1]
      exact (fm_congr fun n hm => by rw [e n hm])
    · intro n hm
      show (((x, v) :: xs.zip vs).lookup n).isSome = true
      rcases List.mem_cons.mp hm with rfl | hm
      · rw [List.lookup_cons, beq_self_eq_true]; rfl
      · rw [e n hm]; exact h2 n hm
  | [], _ :: _, _, h => by cases h
  | _ :: _, [], _, h => by cases h

theorem bind_simple {fd : FuncData} {xs : List Str} {args : List Value} (h1 : fd.params.posonlyargs = []) (h2 : fd.params.kwonlyargs = []) (h3 : fd.params.vararg = none) (h4 : fd.params.kwarg = none) (hd : fd.defaults = .none)
    (hx : fd.params.args.map (·.arg) = xs) (hn : xs.Nodup) (hl : args.length = xs.length) : bindArgs fd ⟨args, []⟩ = pure (xs.zip args) := by
  obtain ⟨z1, z2⟩ := zip_lookup hn hl
  have hmiss : (xs.filter fun n => ((xs.zip args).lookup n).isNone) = [] := List.filter_eq_nil_iff.mpr fun n hm => by
    have := z2 n hm
    cases q : (xs.zip args).lookup n with
    | none => rw [q] at this; cases this
    | some v => simp
  unfold bindArgs
  simp only [h1, h2, h3, h4, hd, hx, List.map_nil, List.nil_append, List.forIn_nil]
  have hs : seqItems? Value.none = pure none := rfl
  rw [hs]
  have hgt : (decide (args.length > xs.length) && (none : Option Arg).isNone) = false := by simp; (first | lia | omega)
  simp only [pure_bind, Option.getD_none, Array.toList_empty, List.length_nil, List.drop_nil, Nat.sub_zero, List.take_length, List.zip_nil_right, List.forIn_nil, List.append_nil, z1, hmiss, hgt]
  rfl

noncomputable def names : List Str := List.map Str.ofString ["normal", "compare", "add", "sub", "add_limb", "divrem_limb", "shift_left", "shift_right", "bits", "level_above", "product_tree", "remainder_tree", "crossed_above", "crossed", "chinese", "chinese_two", "signed", "s_neg", "s_abs", "s_add", "s_sub", "s_mul", "tdiv", "fdiv", "s_mod", "gcd_ext", "inverse_mod", "mul_school", "divrem_small", "guessed_limb", "take_away", "put_back", "divide_rows", "divrem_school", "_law_spooled", "_law_limbs", "_law_number", "_law_common", "_law_undone", "_law_two", "_law_pair", "law"]
/-- normal: function 0 -/
noncomputable def v_normal : List Str := List.map Str.ofString ["a", "end"]
noncomputable def t_normal_0 : PE := .and (.cmp .gt (.var 1) (.int 0)) (.cmp .eq (.item (.var 0) (.bin .sub (.var 1) (.int 1))) (.int 0))
noncomputable def b_normal_0 : PSs := .cons (.aug 1 .sub (.int 1)) .nil
noncomputable def r_normal_0 : PSs := .cons (.ret (.slice (.var 0) .none (.var 1) .none)) .nil
noncomputable def p_normal : PSs := .cons (.assign 1 (.len (.var 0))) (.cons (.whil t_normal_0 b_normal_0) r_normal_0)
noncomputable def a_normal : Nat := 1
/-- compare: function 1 -/
noncomputable def v_compare : List Str := List.map Str.ofString ["a", "b", "at"]
noncomputable def b_compare_0 : PSs := .cons (.ite (.cmp .ne (.item (.var 0) (.var 2)) (.item (.var 1) (.var 2))) (.cons (.ret (.ite (.cmp .lt (.item (.var 0) (.var 2)) (.item (.var 1) (.var 2))) (.neg 1) (.int 1))) .nil) .nil) .nil
noncomputable def r_compare_0 : PSs := .cons (.ret (.int 0)) .nil
noncomputable def s_compare_0 : PSs := .cons (.forr (.one 2) (.range3 (.bin .sub (.len (.var 0)) (.int 1)) (.neg 1) (.neg 1)) b_compare_0) r_compare_0
noncomputable def p_compare : PSs := .cons (.ite (.cmp .ne (.len (.var 0)) (.len (.var 1))) (.cons (.ret (.ite (.cmp .lt (.len (.var 0)) (.len (.var 1))) (.neg 1) (.int 1))) .nil) .nil) s_compare_0
noncomputable def a_compare : Nat := 2
/-- add: function 2 -/
noncomputable def v_add : List Str := List.map Str.ofString ["a", "b", "w", "found", "carry", "mask", "at"]
noncomputable def b_add_0 : PSs := .cons (.aug 4 .add (.bin .add (.item (.var 0) (.var 6)) (.item (.var 1) (.var 6)))) (.cons (.append 3 (.bin .band (.var 4) (.var 5))) (.cons (.aug 4 .shr (.var 2)) .nil))
noncomputable def b_add_1 : PSs := .cons (.aug 4 .add (.item (.var 0) (.var 6))) (.cons (.append 3 (.bin .band (.var 4) (.var 5))) (.cons (.aug 4 .shr (.var 2)) .nil))
noncomputable def s_add_0 : PSs := .frz 0 (.cons (.ret (.var 3)) .nil)
noncomputable def r_add_1 : PSs := .cons (.ite (.cmp .gt (.var 4) (.int 0)) (.cons (.append 3 (.var 4)) .nil) .nil) s_add_0
noncomputable def r_add_0 : PSs := .cons (.forr (.one 6) (.range2 (.len (.var 1)) (.len (.var 0))) b_add_1) r_add_1
noncomputable def s_add_1 : PSs := .cons (.assignT [3, 4, 5] (.cons (.cell .nil) (.cons (.int 0) (.cons (.bin .sub (.bin .shl (.int 1) (.var 2)) (.int 1)) .nil)))) (.cons (.forr (.one 6) (.range1 (.len (.var 1))) b_add_0) r_add_0)
noncomputable def p_add : PSs := .cons (.ite (.cmp .lt (.len (.var 0)) (.len (.var 1))) (.cons (.assignT [0, 1] (.cons (.var 1) (.cons (.var 0) .nil))) .nil) .nil) s_add_1
noncomputable def a_add : Nat := 3
/-- sub: function 3 -/
noncomputable def v_sub : List Str := List.map Str.ofString ["a", "b", "w", "found", "borrow", "base", "at", "limb"]
noncomputable def b_sub_0 : PSs := .cons (.assign 7 (.bin .sub (.bin .sub (.item (.var 0) (.var 6)) (.var 4)) (.ite (.cmp .lt (.var 6) (.len (.var 1))) (.item (.var 1) (.var 6)) (.int 0)))) (.cons (.assign 4 (.ite (.cmp .lt (.var 7) (.int 0)) (.int 1) (.int 0))) (.cons (.append 3 (.ite (.cmp .lt (.var 7) (.int 0)) (.bin .add (.var 7) (.var 5)) (.var 7))) .nil))
noncomputable def r_sub_0 : PSs := .frz 0 (.cons (.ret (.call 0 (.cons (.var 3) .nil))) .nil)
noncomputable def s_sub_0 : PSs := .cons (.assignT [3, 4, 5] (.cons (.cell .nil) (.cons (.int 0) (.cons (.bin .shl (.int 1) (.var 2)) .nil)))) (.cons (.forr (.one 6) (.range1 (.len (.var 0))) b_sub_0) r_sub_0)
noncomputable def p_sub : PSs := .cons (.ite (.cmp .lt (.call 1 (.cons (.var 0) (.cons (.var 1) .nil))) (.int 0)) (.cons (.raise false) .nil) .nil) s_sub_0
noncomputable def a_sub : Nat := 3
/-- add_limb: function 4 -/
noncomputable def v_add_limb : List Str := List.map Str.ofString ["a", "limb", "w", "found", "mask", "one"]
noncomputable def b_add_limb_0 : PSs := .cons (.aug 1 .add (.var 5)) (.cons (.append 3 (.bin .band (.var 1) (.var 4))) (.cons (.aug 1 .shr (.var 2)) .nil))
noncomputable def s_add_limb_0 : PSs := .frz 0 (.cons (.ret (.var 3)) .nil)
noncomputable def r_add_limb_0 : PSs := .cons (.ite (.cmp .gt (.var 1) (.int 0)) (.cons (.append 3 (.var 1)) .nil) .nil) s_add_limb_0
noncomputable def p_add_limb : PSs := .cons (.assignT [3, 4] (.cons (.cell .nil) (.cons (.bin .sub (.bin .shl (.int 1) (.var 2)) (.int 1)) .nil))) (.cons (.forr (.one 5) (.lst (.var 0)) b_add_limb_0) r_add_limb_0)
noncomputable def a_add_limb : Nat := 3
/-- divrem_limb: function 5 -/
noncomputable def v_divrem_limb : List Str := List.map Str.ofString ["a", "limb", "w", "found", "rest", "at"]
noncomputable def b_divrem_limb_0 : PSs := .cons (.assign 4 (.bin .bor (.bin .shl (.var 4) (.var 2)) (.item (.var 0) (.var 5)))) (.cons (.store 3 (.var 5) (.bin .fdiv (.var 4) (.var 1))) (.cons (.aug 4 .mod (.var 1)) .nil))
noncomputable def r_divrem_limb_0 : PSs := .frz 0 (.cons (.ret (.tup (.cons (.call 0 (.cons (.var 3) .nil)) (.cons (.var 4) .nil)))) .nil)
noncomputable def s_divrem_limb_0 : PSs := .cons (.assignT [3, 4] (.cons (.repc (.int 0) (.len (.var 0))) (.cons (.int 0) .nil))) (.cons (.forr (.one 5) (.range3 (.bin .sub (.len (.var 0)) (.int 1)) (.neg 1) (.neg 1)) b_divrem_limb_0) r_divrem_limb_0)
noncomputable def p_divrem_limb : PSs := .cons (.ite (.cmp .eq (.var 1) (.int 0)) (.cons (.raise false) .nil) .nil) s_divrem_limb_0
noncomputable def a_divrem_limb : Nat := 3
/-- shift_left: function 6 -/
noncomputable def v_shift_left : List Str := List.map Str.ofString ["a", "n", "w", "spots", "few", "found", "carry", "mask", "one"]
noncomputable def b_shift_left_0 : PSs := .cons (.aug 6 .bor (.bin .shl (.var 8) (.var 4))) (.cons (.append 5 (.bin .band (.var 6) (.var 7))) (.cons (.aug 6 .shr (.var 2)) .nil))
noncomputable def s_shift_left_0 : PSs := .frz 0 (.cons (.ret (.var 5)) .nil)
noncomputable def r_shift_left_0 : PSs := .cons (.ite (.cmp .gt (.var 6) (.int 0)) (.cons (.append 5 (.var 6)) .nil) .nil) s_shift_left_0
noncomputable def s_shift_left_1 : PSs := .cons (.assignT [3, 4] (.cons (.bin .fdiv (.var 1) (.var 2)) (.cons (.bin .mod (.var 1) (.var 2)) .nil))) (.cons (.assignT [5, 6, 7] (.cons (.repc (.int 0) (.var 3)) (.cons (.int 0) (.cons (.bin .sub (.bin .shl (.int 1) (.var 2)) (.int 1)) .nil)))) (.cons (.forr (.one 8) (.lst (.var 0)) b_shift_left_0) r_shift_left_0))
noncomputable def p_shift_left : PSs := .cons (.ite (.cmp .eq (.len (.var 0)) (.int 0)) (.cons (.ret (.lst .nil)) .nil) .nil) s_shift_left_1
noncomputable def a_shift_left : Nat := 3
/-- shift_right: function 7 -/
noncomputable def v_shift_right : List Str := List.map Str.ofString ["a", "n", "w", "spots", "few", "found", "mask", "at", "above"]
noncomputable def b_shift_right_0 : PSs := .cons (.assign 8 (.ite (.cmp .lt (.bin .add (.var 7) (.int 1)) (.len (.var 0))) (.item (.var 0) (.bin .add (.var 7) (.int 1))) (.int 0))) (.cons (.append 5 (.bin .band (.bin .bor (.bin .shr (.item (.var 0) (.var 7)) (.var 4)) (.bin .shl (.var 8) (.bin .sub (.var 2) (.var 4)))) (.var 6))) .nil)
noncomputable def r_shift_right_0 : PSs := .frz 0 (.cons (.ret (.call 0 (.cons (.var 5) .nil))) .nil)
noncomputable def p_shift_right : PSs := .cons (.assignT [3, 4] (.cons (.bin .fdiv (.var 1) (.var 2)) (.cons (.bin .mod (.var 1) (.var 2)) .nil))) (.cons (.assignT [5, 6] (.cons (.cell .nil) (.cons (.bin .sub (.bin .shl (.int 1) (.var 2)) (.int 1)) .nil))) (.cons (.forr (.one 7) (.range2 (.var 3) (.len (.var 0))) b_shift_right_0) r_shift_right_0))
noncomputable def a_shift_right : Nat := 3
/-- bits: function 8 -/
noncomputable def v_bits : List Str := List.map Str.ofString ["a", "w"]
noncomputable def p_bits : PSs := .cons (.ret (.ite (.cmp .gt (.len (.var 0)) (.int 0)) (.bin .add (.bin .mul (.bin .sub (.len (.var 0)) (.int 1)) (.var 1)) (.bitlen (.item (.var 0) (.neg 1)))) (.int 0))) .nil
noncomputable def a_bits : Nat := 2
/-- level_above: function 9 -/
noncomputable def v_level_above : List Str := List.map Str.ofString ["level", "w", "mul", "found", "at"]
noncomputable def b_level_above_0 : PSs := .cons (.append 3 (.callv 2 (.cons (.item (.var 0) (.var 4)) (.cons (.item (.var 0) (.bin .add (.var 4) (.int 1))) (.cons (.var 1) .nil))))) .nil
noncomputable def r_level_above_0 : PSs := .cons (.ret (.bin .add (.var 3) (.slice (.var 0) (.bin .mul (.len (.var 3)) (.int 2)) .none .none))) .nil
noncomputable def p_level_above : PSs := .cons (.assign 3 (.cell .nil)) (.cons (.forr (.one 4) (.range3 (.int 0) (.bin .sub (.len (.var 0)) (.int 1)) (.int 2)) b_level_above_0) r_level_above_0)
noncomputable def a_level_above : Nat := 3
/-- product_tree: function 10 -/
noncomputable def v_product_tree : List Str := List.map Str.ofString ["some", "w", "mul", "levels"]
noncomputable def t_product_tree_0 : PE := .cmp .gt (.len (.item (.var 3) (.neg 1))) (.int 1)
noncomputable def b_product_tree_0 : PSs := .cons (.append 3 (.call 9 (.cons (.item (.var 3) (.neg 1)) (.cons (.var 1) (.cons (.var 2) .nil))))) .nil
noncomputable def r_product_tree_0 : PSs := .frz 0 (.cons (.ret (.var 3)) .nil)
noncomputable def p_product_tree : PSs := .cons (.assign 3 (.cell (.cons (.slice (.var 0) .none .none .none) .nil))) (.cons (.whil t_product_tree_0 b_product_tree_0) r_product_tree_0)
noncomputable def a_product_tree : Nat := 3
/-- remainder_tree: function 11 -/
noncomputable def v_remainder_tree : List Str := List.map Str.ofString ["a", "levels", "w", "divrem", "rests", "level"]
noncomputable def s_remainder_tree_0 : PSs := .cons (.assign 4 (.comp ["at", "one"] [3, 2, 4, 5] (.two 0 1) (.enum (.var 5)) (.item (.callv 2 (.cons (.item (.var 4) (.ite (.cmp .lt (.len (.var 4)) (.len (.var 5))) (.bin .fdiv (.var 0) (.int 2)) (.var 0))) (.cons (.var 1) (.cons (.var 3) .nil)))) (.int 1)))) .nil
noncomputable def b_remainder_tree_0 : PSs := .cons (.ite (.any (.comp ["one"] [] (.one 0) (.lst (.var 5)) (.cmp .eq (.len (.var 0)) (.int 0)))) (.cons (.raise false) .nil) .nil) s_remainder_tree_0
noncomputable def r_remainder_tree_0 : PSs := .cons (.ret (.var 4)) .nil
noncomputable def s_remainder_tree_1 : PSs := .cons (.assign 4 (.lst (.cons (.var 0) .nil))) (.cons (.forr (.one 5) (.lst (.slice (.var 1) .none .none (.neg 1))) b_remainder_tree_0) r_remainder_tree_0)
noncomputable def p_remainder_tree : PSs := .cons (.ite (.cmp .eq (.len (.item (.var 1) (.int 0))) (.int 0)) (.cons (.ret (.lst .nil)) .nil) .nil) s_remainder_tree_1
noncomputable def a_remainder_tree : Nat := 4
/-- crossed_above: function 12 -/
noncomputable def v_crossed_above : List Str := List.map Str.ofString ["sums", "level", "w", "mul", "found", "at", "left", "right"]
noncomputable def c_crossed_above_0 : PSs := .cons (.append 4 (.call 2 (.cons (.var 6) (.cons (.var 7) (.cons (.var 2) .nil))))) .nil
noncomputable def b_crossed_above_0 : PSs := .cons (.assignT [6, 7] (.cons (.callv 3 (.cons (.item (.var 0) (.var 5)) (.cons (.item (.var 1) (.bin .add (.var 5) (.int 1))) (.cons (.var 2) .nil)))) (.cons (.callv 3 (.cons (.item (.var 0) (.bin .add (.var 5) (.int 1))) (.cons (.item (.var 1) (.var 5)) (.cons (.var 2) .nil)))) .nil))) c_crossed_above_0
noncomputable def r_crossed_above_0 : PSs := .cons (.ret (.bin .add (.var 4) (.slice (.var 0) (.bin .mul (.len (.var 4)) (.int 2)) .none .none))) .nil
noncomputable def p_crossed_above : PSs := .cons (.assign 4 (.cell .nil)) (.cons (.forr (.one 5) (.range3 (.int 0) (.bin .sub (.len (.var 1)) (.int 1)) (.int 2)) b_crossed_above_0) r_crossed_above_0)
noncomputable def a_crossed_above : Nat := 4
/-- crossed: function 13 -/
noncomputable def v_crossed : List Str := List.map Str.ofString ["sums", "levels", "w", "mul", "level"]
noncomputable def b_crossed_0 : PSs := .cons (.assign 0 (.call 12 (.cons (.var 0) (.cons (.var 4) (.cons (.var 2) (.cons (.var 3) .nil)))))) .nil
noncomputable def r_crossed_0 : PSs := .cons (.ret (.ite (.cmp .gt (.len (.var 0)) (.int 0)) (.item (.var 0) (.int 0)) (.lst .nil))) .nil
noncomputable def p_crossed : PSs := .cons (.forr (.one 4) (.lst (.slice (.var 1) .none (.neg 1) .none)) b_crossed_0) r_crossed_0
noncomputable def a_crossed : Nat := 4
/-- chinese: function 14 -/
noncomputable def v_chinese : List Str := List.map Str.ofString ["pairs", "w", "mul", "divrem", "inverse_of", "moduli", "levels", "others", "sums", "rest", "modulus", "other", "scaled"]
noncomputable def c_chinese_0 : PSs := .cons (.append 8 (.item (.callv 3 (.cons (.var 12) (.cons (.var 10) (.cons (.var 1) .nil)))) (.int 1))) .nil
noncomputable def s_chinese_0 : PSs := .cons (.assign 12 (.callv 2 (.cons (.item (.callv 3 (.cons (.var 9) (.cons (.var 10) (.cons (.var 1) .nil)))) (.int 1)) (.cons (.callv 4 (.cons (.var 11) (.cons (.var 10) (.cons (.var 1) .nil)))) (.cons (.var 1) .nil))))) c_chinese_0
noncomputable def b_chinese_0 : PSs := .cons (.ite (.cmp .eq (.call 1 (.cons (.var 10) (.cons (.lst (.cons (.int 1) .nil)) .nil))) (.int 0)) (.cons (.append 8 (.lst .nil)) (.cons .cont .nil)) .nil) s_chinese_0
noncomputable def r_chinese_0 : PSs := .frz 0 (.cons (.ret (.tup (.cons (.item (.callv 3 (.cons (.call 13 (.cons (.var 8) (.cons (.var 6) (.cons (.var 1) (.cons (.var 2) .nil))))) (.cons (.item (.item (.var 6) (.neg 1)) (.int 0)) (.cons (.var 1) .nil)))) (.int 1)) (.cons (.item (.item (.var 6) (.neg 1)) (.int 0)) .nil)))) .nil)
noncomputable def c_chinese_1 : PSs := .cons (.assign 8 (.cell .nil)) (.cons (.forr (.nest 9 10 11) (.zip (.var 0) (.var 7)) b_chinese_0) r_chinese_0)
noncomputable def c_chinese_2 : PSs := .cons (.assign 7 (.call 11 (.cons (.call 13 (.cons (.rep (.lst (.cons (.int 1) .nil)) (.len (.var 0))) (.cons (.var 6) (.cons (.var 1) (.cons (.var 2) .nil))))) (.cons (.var 6) (.cons (.var 1) (.cons (.var 3) .nil)))))) c_chinese_1
noncomputable def s_chinese_1 : PSs := .cons (.assign 5 (.comp ["rest", "modulus"] [] (.two 0 1) (.lst (.var 0)) (.var 1))) (.cons (.assign 6 (.call 10 (.cons (.var 5) (.cons (.var 1) (.cons (.var 2) .nil))))) c_chinese_2)
noncomputable def p_chinese : PSs := .cons (.ite (.cmp .eq (.len (.var 0)) (.int 0)) (.cons (.ret (.tup (.cons (.lst .nil) (.cons (.lst (.cons (.int 1) .nil)) .nil)))) .nil) .nil) s_chinese_1
noncomputable def a_chinese : Nat := 5
/-- chinese_two: function 15 -/
noncomputable def v_chinese_two : List Str := List.map Str.ofString ["one", "other", "w", "mul", "divrem", "inverse_of"]
noncomputable def p_chinese_two : PSs := .cons (.ret (.call 14 (.cons (.lst (.cons (.var 0) (.cons (.var 1) .nil))) (.cons (.var 2) (.cons (.var 3) (.cons (.var 4) (.cons (.var 5) .nil))))))) .nil
noncomputable def a_chinese_two : Nat := 6
/-- signed: function 16 -/
noncomputable def v_signed : List Str := List.map Str.ofString ["is_below", "nat"]
noncomputable def p_signed : PSs := .cons (.ret (.tup (.cons (.and (.var 0) (.cmp .gt (.len (.var 1)) (.int 0))) (.cons (.var 1) .nil)))) .nil
noncomputable def a_signed : Nat := 2
/-- s_neg: function 17 -/
noncomputable def v_s_neg : List Str := List.map Str.ofString ["x"]
noncomputable def p_s_neg : PSs := .cons (.ret (.call 16 (.cons (.not (.item (.var 0) (.int 0))) (.cons (.item (.var 0) (.int 1)) .nil)))) .nil
noncomputable def a_s_neg : Nat := 1
/-- s_abs: function 18 -/
noncomputable def v_s_abs : List Str := List.map Str.ofString ["x"]
noncomputable def p_s_abs : PSs := .cons (.ret (.tup (.cons (.bool false) (.cons (.item (.var 0) (.int 1)) .nil)))) .nil
noncomputable def a_s_abs : Nat := 1
/-- s_add: function 19 -/
noncomputable def v_s_add : List Str := List.map Str.ofString ["x", "y", "w"]
noncomputable def s_s_add_0 : PSs := .cons (.ret (.call 16 (.cons (.item (.var 0) (.int 0)) (.cons (.call 3 (.cons (.item (.var 0) (.int 1)) (.cons (.item (.var 1) (.int 1)) (.cons (.var 2) .nil)))) .nil)))) .nil
noncomputable def s_s_add_1 : PSs := .cons (.ite (.cmp .lt (.call 1 (.cons (.item (.var 0) (.int 1)) (.cons (.item (.var 1) (.int 1)) .nil))) (.int 0)) (.cons (.ret (.call 16 (.cons (.item (.var 1) (.int 0)) (.cons (.call 3 (.cons (.item (.var 1) (.int 1)) (.cons (.item (.var 0) (.int 1)) (.cons (.var 2) .nil)))) .nil)))) .nil) .nil) s_s_add_0
noncomputable def p_s_add : PSs := .cons (.ite (.cmp .eq (.item (.var 0) (.int 0)) (.item (.var 1) (.int 0))) (.cons (.ret (.call 16 (.cons (.item (.var 0) (.int 0)) (.cons (.call 2 (.cons (.item (.var 0) (.int 1)) (.cons (.item (.var 1) (.int 1)) (.cons (.var 2) .nil)))) .nil)))) .nil) .nil) s_s_add_1
noncomputable def a_s_add : Nat := 3
/-- s_sub: function 20 -/
noncomputable def v_s_sub : List Str := List.map Str.ofString ["x", "y", "w"]
noncomputable def p_s_sub : PSs := .cons (.ret (.call 19 (.cons (.var 0) (.cons (.call 17 (.cons (.var 1) .nil)) (.cons (.var 2) .nil))))) .nil
noncomputable def a_s_sub : Nat := 3
/-- s_mul: function 21 -/
noncomputable def v_s_mul : List Str := List.map Str.ofString ["x", "y", "w", "mul"]
noncomputable def p_s_mul : PSs := .cons (.ret (.call 16 (.cons (.cmp .ne (.item (.var 0) (.int 0)) (.item (.var 1) (.int 0))) (.cons (.callv 3 (.cons (.item (.var 0) (.int 1)) (.cons (.item (.var 1) (.int 1)) (.cons (.var 2) .nil)))) .nil)))) .nil
noncomputable def a_s_mul : Nat := 4
/-- tdiv: function 22 -/
noncomputable def v_tdiv : List Str := List.map Str.ofString ["x", "y", "w", "divrem", "quotient", "rest"]
noncomputable def c_tdiv_0 : PSs := .cons (.ret (.tup (.cons (.call 16 (.cons (.cmp .ne (.item (.var 0) (.int 0)) (.item (.var 1) (.int 0))) (.cons (.var 4) .nil))) (.cons (.call 16 (.cons (.item (.var 0) (.int 0)) (.cons (.var 5) .nil))) .nil)))) .nil
noncomputable def s_tdiv_0 : PSs := .cons (.unpack [4, 5] (.callv 3 (.cons (.item (.var 0) (.int 1)) (.cons (.item (.var 1) (.int 1)) (.cons (.var 2) .nil))))) c_tdiv_0
noncomputable def p_tdiv : PSs := .cons (.ite (.cmp .eq (.len (.item (.var 1) (.int 1))) (.int 0)) (.cons (.raise false) .nil) .nil) s_tdiv_0
noncomputable def a_tdiv : Nat := 4
/-- fdiv: function 23 -/
noncomputable def v_fdiv : List Str := List.map Str.ofString ["x", "y", "w", "divrem", "quotient", "rest"]
noncomputable def s_fdiv_0 : PSs := .cons (.ret (.tup (.cons (.var 4) (.cons (.var 5) .nil)))) .nil
noncomputable def c_fdiv_0 : PSs := .cons (.ite (.and (.cmp .gt (.len (.item (.var 5) (.int 1))) (.int 0)) (.cmp .ne (.item (.var 0) (.int 0)) (.item (.var 1) (.int 0)))) (.cons (.ret (.tup (.cons (.tup (.cons (.bool true) (.cons (.call 4 (.cons (.item (.var 4) (.int 1)) (.cons (.int 1) (.cons (.var 2) .nil)))) .nil))) (.cons (.call 19 (.cons (.var 5) (.cons (.var 1) (.cons (.var 2) .nil)))) .nil)))) .nil) .nil) s_fdiv_0
noncomputable def p_fdiv : PSs := .cons (.unpack [4, 5] (.call 22 (.cons (.var 0) (.cons (.var 1) (.cons (.var 2) (.cons (.var 3) .nil)))))) c_fdiv_0
noncomputable def a_fdiv : Nat := 4
/-- s_mod: function 24 -/
noncomputable def v_s_mod : List Str := List.map Str.ofString ["x", "y", "w", "divrem"]
noncomputable def p_s_mod : PSs := .cons (.ret (.item (.item (.call 23 (.cons (.var 0) (.cons (.call 18 (.cons (.var 1) .nil)) (.cons (.var 2) (.cons (.var 3) .nil))))) (.int 1)) (.int 1))) .nil
noncomputable def a_s_mod : Nat := 4
/-- gcd_ext: function 25 -/
noncomputable def v_gcd_ext : List Str := List.map Str.ofString ["a", "b", "w", "mul", "divrem", "s", "later_s", "t", "later_t", "quotient", "rest", "told"]
noncomputable def t_gcd_ext_0 : PE := .cmp .gt (.len (.var 1)) (.int 0)
noncomputable def c_gcd_ext_0 : PSs := .cons (.assignT [7, 8] (.cons (.var 8) (.cons (.call 20 (.cons (.var 7) (.cons (.call 21 (.cons (.var 11) (.cons (.var 8) (.cons (.var 2) (.cons (.var 3) .nil))))) (.cons (.var 2) .nil)))) .nil))) .nil
noncomputable def c_gcd_ext_1 : PSs := .cons (.assignT [0, 1] (.cons (.var 1) (.cons (.var 10) .nil))) (.cons (.assignT [5, 6] (.cons (.var 6) (.cons (.call 20 (.cons (.var 5) (.cons (.call 21 (.cons (.var 11) (.cons (.var 6) (.cons (.var 2) (.cons (.var 3) .nil))))) (.cons (.var 2) .nil)))) .nil))) c_gcd_ext_0)
noncomputable def c_gcd_ext_2 : PSs := .cons (.assign 11 (.call 16 (.cons (.bool false) (.cons (.var 9) .nil)))) c_gcd_ext_1
noncomputable def b_gcd_ext_0 : PSs := .cons (.unpack [9, 10] (.callv 4 (.cons (.var 0) (.cons (.var 1) (.cons (.var 2) .nil))))) c_gcd_ext_2
noncomputable def r_gcd_ext_0 : PSs := .cons (.ret (.tup (.cons (.var 0) (.cons (.var 5) (.cons (.var 7) .nil))))) .nil
noncomputable def s_gcd_ext_0 : PSs := .cons (.whil t_gcd_ext_0 b_gcd_ext_0) r_gcd_ext_0
noncomputable def c_gcd_ext_3 : PSs := .cons (.ret (.tup (.cons (.var 1) (.cons (.var 5) (.cons (.var 7) .nil))))) .nil
noncomputable def c_gcd_ext_4 : PSs := .cons (.assignT [7, 8] (.cons (.var 6) (.cons (.var 5) .nil))) (.cons (.ite (.cmp .eq (.len (.var 0)) (.int 0)) (.cons (.assign 5 (.var 6)) (.cons (.assign 7 (.call 16 (.cons (.bool false) (.cons (.ite (.cmp .gt (.len (.var 1)) (.int 0)) (.lst (.cons (.int 1) .nil)) (.lst .nil)) .nil)))) c_gcd_ext_3)) .nil) s_gcd_ext_0)
noncomputable def p_gcd_ext : PSs := .cons (.assignT [5, 6] (.cons (.call 16 (.cons (.bool false) (.cons (.lst (.cons (.int 1) .nil)) .nil))) (.cons (.call 16 (.cons (.bool false) (.cons (.lst .nil) .nil))) .nil))) c_gcd_ext_4
noncomputable def a_gcd_ext : Nat := 5
/-- inverse_mod: function 26 -/
noncomputable def v_inverse_mod : List Str := List.map Str.ofString ["a", "m", "w", "mul", "divrem", "g", "s", "t"]
noncomputable def s_inverse_mod_0 : PSs := .cons (.ret (.call 24 (.cons (.var 6) (.cons (.call 16 (.cons (.bool false) (.cons (.var 1) .nil))) (.cons (.var 2) (.cons (.var 4) .nil)))))) .nil
noncomputable def c_inverse_mod_0 : PSs := .cons (.ite (.cmp .ne (.call 1 (.cons (.var 5) (.cons (.lst (.cons (.int 1) .nil)) .nil))) (.int 0)) (.cons (.raise true) .nil) .nil) s_inverse_mod_0
noncomputable def s_inverse_mod_1 : PSs := .cons (.unpack [5, 6, 7] (.call 25 (.cons (.item (.callv 4 (.cons (.var 0) (.cons (.var 1) (.cons (.var 2) .nil)))) (.int 1)) (.cons (.var 1) (.cons (.var 2) (.cons (.var 3) (.cons (.var 4) .nil))))))) c_inverse_mod_0
noncomputable def p_inverse_mod : PSs := .cons (.ite (.cmp .eq (.len (.var 1)) (.int 0)) (.cons (.raise false) .nil) .nil) s_inverse_mod_1
noncomputable def a_inverse_mod : Nat := 5
/-- mul_school: function 27 -/
noncomputable def v_mul_school : List Str := List.map Str.ofString ["a", "b", "w", "found", "mask", "at", "limb", "carry", "spot", "other"]
noncomputable def b_mul_school_1 : PSs := .cons (.aug 7 .add (.bin .add (.item (.var 3) (.bin .add (.var 5) (.var 8))) (.bin .mul (.var 6) (.var 9)))) (.cons (.store 3 (.bin .add (.var 5) (.var 8)) (.bin .band (.var 7) (.var 4))) (.cons (.aug 7 .shr (.var 2)) .nil))
noncomputable def r_mul_school_1 : PSs := .cons (.store 3 (.bin .add (.var 5) (.len (.var 1))) (.var 7)) .nil
noncomputable def b_mul_school_0 : PSs := .cons (.assign 7 (.int 0)) (.cons (.forr (.two 8 9) (.enum (.var 1)) b_mul_school_1) r_mul_school_1)
noncomputable def r_mul_school_0 : PSs := .frz 0 (.cons (.ret (.call 0 (.cons (.var 3) .nil))) .nil)
noncomputable def p_mul_school : PSs := .cons (.assignT [3, 4] (.cons (.repc (.int 0) (.bin .add (.len (.var 0)) (.len (.var 1)))) (.cons (.bin .sub (.bin .shl (.int 1) (.var 2)) (.int 1)) .nil))) (.cons (.forr (.two 5 6) (.enum (.var 0)) b_mul_school_0) r_mul_school_0)
noncomputable def a_mul_school : Nat := 3
/-- divrem_small: function 28 -/
noncomputable def v_divrem_small : List Str := List.map Str.ofString ["a", "b", "w", "quotient", "rest"]
noncomputable def c_divrem_small_0 : PSs := .cons (.ret (.tup (.cons (.var 3) (.cons (.ite (.cmp .gt (.var 4) (.int 0)) (.lst (.cons (.var 4) .nil)) (.lst .nil)) .nil)))) .nil
noncomputable def p_divrem_small : PSs := .cons (.unpack [3, 4] (.call 5 (.cons (.var 0) (.cons (.item (.var 1) (.int 0)) (.cons (.var 2) .nil))))) c_divrem_small_0
noncomputable def a_divrem_small : Nat := 3
/-- guessed_limb: function 29 -/
noncomputable def v_guessed_limb : List Str := List.map Str.ofString ["top", "first", "second", "w", "high", "base", "limb", "rest"]
noncomputable def t_guessed_limb_0 : PE := .and (.cmp .lt (.var 7) (.var 5)) (.cmp .gt (.bin .mul (.var 6) (.var 2)) (.bin .bor (.bin .shl (.var 7) (.var 3)) (.item (.var 0) (.int 0))))
noncomputable def b_guessed_limb_0 : PSs := .cons (.aug 6 .sub (.int 1)) (.cons (.aug 7 .add (.var 1)) .nil)
noncomputable def r_guessed_limb_0 : PSs := .cons (.ret (.var 6)) .nil
noncomputable def p_guessed_limb : PSs := .cons (.assignT [4, 5] (.cons (.bin .bor (.bin .shl (.item (.var 0) (.int 2)) (.var 3)) (.item (.var 0) (.int 1))) (.cons (.bin .shl (.int 1) (.var 3)) .nil))) (.cons (.assign 6 (.min2 (.bin .fdiv (.var 4) (.var 1)) (.bin .sub (.var 5) (.int 1)))) (.cons (.assign 7 (.bin .sub (.var 4) (.bin .mul (.var 6) (.var 1)))) (.cons (.whil t_guessed_limb_0 b_guessed_limb_0) r_guessed_limb_0)))
noncomputable def a_guessed_limb : Nat := 4
/-- take_away: function 30 -/
noncomputable def v_take_away : List Str := List.map Str.ofString ["rest", "b", "limb", "at", "w", "carry", "base", "spot", "other", "here"]
noncomputable def b_take_away_0 : PSs := .cons (.assign 9 (.bin .sub (.item (.var 0) (.bin .add (.var 3) (.var 7))) (.bin .mod (.bin .add (.bin .mul (.var 2) (.var 8)) (.var 5)) (.var 6)))) (.cons (.assign 5 (.bin .add (.bin .fdiv (.bin .add (.bin .mul (.var 2) (.var 8)) (.var 5)) (.var 6)) (.ite (.cmp .lt (.var 9) (.int 0)) (.int 1) (.int 0)))) (.cons (.store 0 (.bin .add (.var 3) (.var 7)) (.ite (.cmp .lt (.var 9) (.int 0)) (.bin .add (.var 9) (.var 6)) (.var 9))) .nil))
noncomputable def r_take_away_0 : PSs := .cons (.assign 9 (.bin .sub (.item (.var 0) (.bin .add (.var 3) (.len (.var 1)))) (.var 5))) (.cons (.store 0 (.bin .add (.var 3) (.len (.var 1))) (.ite (.cmp .lt (.var 9) (.int 0)) (.bin .add (.var 9) (.var 6)) (.var 9))) (.cons (.ret (.ite (.cmp .lt (.var 9) (.int 0)) (.int 1) (.int 0))) .nil))
noncomputable def p_take_away : PSs := .cons (.assignT [5, 6] (.cons (.int 0) (.cons (.bin .shl (.int 1) (.var 4)) .nil))) (.cons (.forr (.two 7 8) (.enum (.var 1)) b_take_away_0) r_take_away_0)
noncomputable def a_take_away : Nat := 5
/-- put_back: function 31 -/
noncomputable def v_put_back : List Str := List.map Str.ofString ["rest", "b", "at", "w", "carry", "mask", "spot", "other"]
noncomputable def b_put_back_0 : PSs := .cons (.aug 4 .add (.bin .add (.item (.var 0) (.bin .add (.var 2) (.var 6))) (.var 7))) (.cons (.store 0 (.bin .add (.var 2) (.var 6)) (.bin .band (.var 4) (.var 5))) (.cons (.aug 4 .shr (.var 3)) .nil))
noncomputable def r_put_back_0 : PSs := .cons (.store 0 (.bin .add (.var 2) (.len (.var 1))) (.bin .band (.bin .add (.item (.var 0) (.bin .add (.var 2) (.len (.var 1)))) (.var 4)) (.var 5))) .nil
noncomputable def p_put_back : PSs := .cons (.assignT [4, 5] (.cons (.int 0) (.cons (.bin .sub (.bin .shl (.int 1) (.var 3)) (.int 1)) .nil))) (.cons (.forr (.two 6 7) (.enum (.var 1)) b_put_back_0) r_put_back_0)
noncomputable def a_put_back : Nat := 4
/-- divide_rows: function 32 -/
noncomputable def v_divide_rows : List Str := List.map Str.ofString ["rest", "b", "w", "size", "quotient", "at", "limb"]
noncomputable def s_divide_rows_0 : PSs := .cons (.store 4 (.var 5) (.var 6)) .nil
noncomputable def c_divide_rows_0 : PSs := .cons (.ite (.cmp .eq (.callio 30 0 (.cons (.var 1) (.cons (.var 6) (.cons (.var 5) (.cons (.var 2) .nil))))) (.int 1)) (.cons (.aug 6 .sub (.int 1)) (.cons (.expr (.callio 31 0 (.cons (.var 1) (.cons (.var 5) (.cons (.var 2) .nil))))) .nil)) .nil) s_divide_rows_0
noncomputable def b_divide_rows_0 : PSs := .cons (.assign 6 (.call 29 (.cons (.slice (.var 0) (.bin .sub (.bin .add (.var 5) (.var 3)) (.int 2)) (.bin .add (.bin .add (.var 5) (.var 3)) (.int 1)) .none) (.cons (.item (.var 1) (.bin .sub (.var 3) (.int 1))) (.cons (.item (.var 1) (.bin .sub (.var 3) (.int 2))) (.cons (.var 2) .nil)))))) c_divide_rows_0
noncomputable def r_divide_rows_0 : PSs := .frz 1 (.cons (.ret (.var 4)) .nil)
noncomputable def p_divide_rows : PSs := .cons (.assign 3 (.len (.var 1))) (.cons (.assign 4 (.repc (.int 0) (.bin .sub (.len (.var 0)) (.var 3)))) (.cons (.forr (.one 5) (.range3 (.bin .sub (.bin .sub (.len (.var 0)) (.var 3)) (.int 1)) (.neg 1) (.neg 1)) b_divide_rows_0) r_divide_rows_0))
noncomputable def a_divide_rows : Nat := 3
/-- divrem_school: function 33 -/
noncomputable def v_divrem_school : List Str := List.map Str.ofString ["a", "b", "w", "shift", "divisor", "rest", "quotient"]
noncomputable def c_divrem_school_0 : PSs := .frz 0 (.cons (.ret (.tup (.cons (.call 0 (.cons (.var 6) .nil)) (.cons (.call 7 (.cons (.call 0 (.cons (.var 5) .nil)) (.cons (.var 3) (.cons (.var 2) .nil)))) .nil)))) .nil)
noncomputable def c_divrem_school_1 : PSs := .cons (.assign 5 (.addc (.var 5) (.rep (.int 0) (.bin .sub (.bin .add (.len (.var 0)) (.int 1)) (.len (.var 5)))))) (.cons (.assign 6 (.callio 32 5 (.cons (.var 4) (.cons (.var 2) .nil)))) c_divrem_school_0)
noncomputable def c_divrem_school_2 : PSs := .cons (.assign 5 (.call 6 (.cons (.var 0) (.cons (.var 3) (.cons (.var 2) .nil))))) c_divrem_school_1
noncomputable def c_divrem_school_3 : PSs := .cons (.assign 4 (.call 6 (.cons (.var 1) (.cons (.var 3) (.cons (.var 2) .nil))))) c_divrem_school_2
noncomputable def s_divrem_school_0 : PSs := .cons (.assign 3 (.bin .sub (.var 2) (.call 8 (.cons (.lst (.cons (.item (.var 1) (.neg 1)) .nil)) (.cons (.var 2) .nil))))) c_divrem_school_3
noncomputable def s_divrem_school_1 : PSs := .cons (.ite (.cmp .eq (.len (.var 1)) (.int 1)) (.cons (.ret (.call 28 (.cons (.var 0) (.cons (.var 1) (.cons (.var 2) .nil))))) .nil) .nil) s_divrem_school_0
noncomputable def s_divrem_school_2 : PSs := .cons (.ite (.cmp .lt (.call 1 (.cons (.var 0) (.cons (.var 1) .nil))) (.int 0)) (.cons (.ret (.tup (.cons (.lst .nil) (.cons (.slice (.var 0) .none .none .none) .nil)))) .nil) .nil) s_divrem_school_1
noncomputable def p_divrem_school : PSs := .cons (.ite (.cmp .eq (.len (.var 1)) (.int 0)) (.cons (.raise false) .nil) .nil) s_divrem_school_2
noncomputable def a_divrem_school : Nat := 3
/-- _law_spooled: function 34 -/
noncomputable def v_law_spooled : List Str := List.map Str.ofString ["reel", "many"]
noncomputable def s_law_spooled_0 : PSs := .cons (.ret (.bin .mod (.bin .add (.bin .add (.bin .mul (.int 9) (.item (.var 0) (.int 0))) (.bin .fdiv (.item (.var 0) (.int 0)) (.int 3))) (.int 5)) (.var 1))) .nil
noncomputable def p_law_spooled : PSs := .cons (.store 0 (.int 0) (.bin .add (.item (.var 0) (.int 0)) (.int 1))) (.cons (.ite (.cmp .le (.item (.var 0) (.int 0)) (.len (.item (.var 0) (.int 1)))) (.cons (.ret (.bin .mod (.item (.item (.var 0) (.int 1)) (.bin .sub (.item (.var 0) (.int 0)) (.int 1))) (.var 1))) .nil) .nil) s_law_spooled_0)
noncomputable def a_law_spooled : Nat := 2
/-- _law_limbs: function 35 -/
noncomputable def v_law_limbs : List Str := List.map Str.ofString ["number", "w", "found"]
noncomputable def t_law_limbs_0 : PE := .cmp .gt (.var 0) (.int 0)
noncomputable def b_law_limbs_0 : PSs := .cons (.append 2 (.bin .mod (.var 0) (.bin .pow (.int 2) (.var 1)))) (.cons (.assign 0 (.bin .fdiv (.var 0) (.bin .pow (.int 2) (.var 1)))) .nil)
noncomputable def r_law_limbs_0 : PSs := .frz 0 (.cons (.ret (.var 2)) .nil)
noncomputable def p_law_limbs : PSs := .cons (.assign 2 (.cell .nil)) (.cons (.whil t_law_limbs_0 b_law_limbs_0) r_law_limbs_0)
noncomputable def a_law_limbs : Nat := 2
/-- _law_number: function 36 -/
noncomputable def v_law_number : List Str := List.map Str.ofString ["row", "w"]
noncomputable def p_law_number : PSs := .cons (.ret (.sum (.comp ["at", "limb"] [1] (.two 0 1) (.enum (.var 0)) (.bin .mul (.var 1) (.bin .pow (.int 2) (.bin .mul (.var 2) (.var 0))))))) .nil
noncomputable def a_law_number : Nat := 2
/-- _law_common: function 37 -/
noncomputable def v_law_common : List Str := List.map Str.ofString ["one", "other"]
noncomputable def t_law_common_0 : PE := .cmp .gt (.var 1) (.int 0)
noncomputable def b_law_common_0 : PSs := .cons (.assignT [0, 1] (.cons (.var 1) (.cons (.bin .mod (.var 0) (.var 1)) .nil))) .nil
noncomputable def r_law_common_0 : PSs := .cons (.ret (.var 0)) .nil
noncomputable def p_law_common : PSs := .cons (.whil t_law_common_0 b_law_common_0) r_law_common_0
noncomputable def a_law_common : Nat := 2
/-- _law_undone: function 38 -/
noncomputable def v_law_undone : List Str := List.map Str.ofString ["a", "m", "w"]
noncomputable def p_law_undone : PSs := .cons (.ret (.call 26 (.cons (.var 0) (.cons (.var 1) (.cons (.var 2) (.cons (.fnm 27) (.cons (.fnm 33) .nil))))))) .nil
noncomputable def a_law_undone : Nat := 3
/-- _law_two: function 39 -/
noncomputable def v_law_two : List Str := List.map Str.ofString ["one", "other", "w"]
noncomputable def p_law_two : PSs := .cons (.tryRet (.call 15 (.cons (.var 0) (.cons (.var 1) (.cons (.var 2) (.cons (.fnm 27) (.cons (.fnm 33) (.cons (.fnm 38) .nil)))))))) .nil
noncomputable def a_law_two : Nat := 3
/-- _law_pair: function 40 -/
noncomputable def v_law_pair : List Str := List.map Str.ofString ["x", "m", "w"]
noncomputable def p_law_pair : PSs := .cons (.ret (.tup (.cons (.call 35 (.cons (.bin .mod (.var 0) (.var 1)) (.cons (.var 2) .nil))) (.cons (.call 35 (.cons (.var 1) (.cons (.var 2) .nil))) .nil)))) .nil
noncomputable def a_law_pair : Nat := 3
/-- law: function 41 -/
noncomputable def v_law : List Str := List.map Str.ofString ["script", "reel", "w", "moduli", "total", "turn", "m", "x", "last", "first", "order", "so_far", "pair", "told", "ahead", "behind", "whole"]
noncomputable def t_law_1 : PE := .cmp .gt (.call 37 (.cons (.var 6) (.cons (.var 4) .nil))) (.int 1)
noncomputable def b_law_1 : PSs := .cons (.assign 6 (.bin .fdiv (.var 6) (.call 37 (.cons (.var 6) (.cons (.var 4) .nil))))) .nil
noncomputable def r_law_1 : PSs := .cons (.append 3 (.var 6)) (.cons (.assign 4 (.bin .mul (.var 4) (.var 6))) .nil)
noncomputable def c_law_0 : PSs := .cons (.whil t_law_1 b_law_1) r_law_1
noncomputable def b_law_0 : PSs := .cons (.assign 6 (.bin .add (.int 2) (.callio 34 1 (.cons (.int 24) .nil)))) c_law_0
noncomputable def s_law_0 : PSs := .cons (.ite (.and (.cmp .gt (.var 11) (.int 1)) (.isnot (.call 39 (.cons (.var 12) (.cons (.call 40 (.cons (.bin .add (.var 7) (.var 8)) (.cons (.var 11) (.cons (.var 2) .nil)))) (.cons (.var 2) .nil)))))) (.cons (.ret (.bool false)) .nil) .nil) .nil
noncomputable def s_law_1 : PSs := .cons (.ite (.cmp .ne (.bin .mod (.bin .mod (.var 7) (.var 11)) (.bin .fdiv (.var 11) (.var 6))) (.call 36 (.cons (.item (.var 14) (.int 0)) (.cons (.var 2) .nil)))) (.cons (.ret (.bool false)) .nil) .nil) s_law_0
noncomputable def c_law_1 : PSs := .cons (.ite (.or3 (.cmp .ne (.var 12) (.call 40 (.cons (.var 7) (.cons (.var 11) (.cons (.var 2) .nil))))) (.cmp .ne (.var 13) (.call 40 (.cons (.var 7) (.cons (.var 6) (.cons (.var 2) .nil))))) (.cmp .ne (.var 14) (.call 40 (.cons (.var 7) (.cons (.bin .fdiv (.var 11) (.var 6)) (.cons (.var 2) .nil)))))) (.cons (.ret (.bool false)) .nil) .nil) s_law_1
noncomputable def c_law_2 : PSs := .cons (.assignT [12, 11] (.cons (.call 39 (.cons (.var 12) (.cons (.var 13) (.cons (.var 2) .nil)))) (.cons (.bin .mul (.var 11) (.var 6)) .nil))) c_law_1
noncomputable def b_law_2 : PSs := .cons (.assignT [13, 14] (.cons (.call 40 (.cons (.var 7) (.cons (.var 6) (.cons (.var 2) .nil)))) (.cons (.var 12) .nil))) c_law_2
noncomputable def c_law_3 : PSs := .cons (.ret (.and (.cmp .eq (.var 16) (.var 12)) (.cmp .eq (.var 12) (.call 40 (.cons (.var 7) (.cons (.var 4) (.cons (.var 2) .nil))))))) .nil
noncomputable def s_law_2 : PSs := .frz 1 (.cons (.assign 16 (.call 14 (.cons (.comp ["m"] [7, 2] (.one 0) (.lst (.var 3)) (.call 40 (.cons (.var 1) (.cons (.var 0) (.cons (.var 2) .nil))))) (.cons (.var 2) (.cons (.fnm 27) (.cons (.fnm 33) (.cons (.fnm 38) .nil))))))) c_law_3)
noncomputable def s_law_3 : PSs := .cons (.ite (.cmp .ne (.call 39 (.cons (.var 15) (.cons (.call 40 (.cons (.var 7) (.cons (.item (.var 3) (.int 0)) (.cons (.var 2) .nil)))) (.cons (.var 2) .nil)))) (.var 12)) (.cons (.ret (.bool false)) .nil) .nil) s_law_2
noncomputable def c_law_4 : PSs := .cons (.ite (.cmp .eq (.len (.var 3)) (.int 3)) (.cons (.assign 15 (.call 39 (.cons (.var 15) (.cons (.call 40 (.cons (.var 7) (.cons (.item (.var 3) (.int 1)) (.cons (.var 2) .nil)))) (.cons (.var 2) .nil))))) .nil) .nil) s_law_3
noncomputable def s_law_4 : PSs := .cons (.assign 15 (.call 40 (.cons (.var 7) (.cons (.item (.var 3) (.neg 1)) (.cons (.var 2) .nil))))) c_law_4
noncomputable def r_law_2 : PSs := .cons (.ite (.or (.cmp .ne (.call 39 (.cons (.var 12) (.cons (.call 40 (.cons (.int 0) (.cons (.int 1) (.cons (.var 2) .nil)))) (.cons (.var 2) .nil)))) (.var 12)) (.cmp .ne (.call 39 (.cons (.call 40 (.cons (.int 0) (.cons (.int 1) (.cons (.var 2) .nil)))) (.cons (.var 12) (.cons (.var 2) .nil)))) (.var 12))) (.cons (.ret (.bool false)) .nil) .nil) s_law_4
noncomputable def c_law_5 : PSs := .cons (.forr (.one 6) (.lst (.var 10)) b_law_2) r_law_2
noncomputable def c_law_6 : PSs := .cons (.assignT [10, 11] (.cons (.bin .add (.slice (.var 3) (.var 9) .none .none) (.slice (.var 3) .none (.var 9) .none)) (.cons (.int 1) .nil))) (.cons (.assign 12 (.call 40 (.cons (.int 0) (.cons (.int 1) (.cons (.var 2) .nil))))) c_law_5)
noncomputable def c_law_7 : PSs := .cons (.assign 9 (.callio 34 1 (.cons (.len (.var 3)) .nil))) c_law_6
noncomputable def r_law_0 : PSs := .cons (.assignT [7, 8] (.cons (.bin .mod (.bin .add (.callio 34 1 (.cons (.int 130) .nil)) (.bin .mul (.int 130) (.callio 34 1 (.cons (.int 130) .nil)))) (.var 4)) (.cons (.bin .add (.int 1) (.callio 34 1 (.cons (.int 3) .nil))) .nil))) c_law_7
noncomputable def c_law_8 : PSs := .cons (.forr (.one 5) (.range1 (.bin .add (.int 2) (.callio 34 1 (.cons (.int 2) .nil)))) b_law_0) r_law_0
noncomputable def p_law : PSs := .cons (.assign 1 (.cell (.cons (.int 0) (.cons (.comp ["turn"] [] (.one 0) (.lst (.slice (.var 0) .none (.int 12) .none)) (.abs (.toInt (.var 0)))) .nil)))) (.cons (.assignT [2, 3, 4] (.cons (.bin .add (.int 5) (.callio 34 1 (.cons (.int 4) .nil))) (.cons (.cell .nil) (.cons (.int 1) .nil)))) c_law_8)
noncomputable def a_law : Nat := 1

noncomputable def okFn (d : DefRec) (x : Str) (v : List Str) (p : PSs) (k : Nat) : Bool :=
  (d.name == x) && d.params.posonlyargs.isEmpty && d.params.kwonlyargs.isEmpty && d.params.vararg.isNone && d.params.kwarg.isNone && decide (d.params.args.map (·.arg) = v.take k) && decide (k ≤ v.length) && decide v.Nodup &&
  (v.take k).all (fun y => d.scope.names.lookup y == some .local || d.scope.names.lookup y == some .cell) && !d.scope.isCoroutine && !d.scope.isGenerator && (d.scope.kind == .function) && chkSs p ⟨names, v, d.scope, true⟩ d.body

/-- what the top says of a def. -/
noncomputable def DefIn (mg : Str → Option Value) (h : Heap) (d : DefRec) : Prop :=
  ∃ a o pm code doc, mg d.name = some (.ref a) ∧ h.get? a = some o ∧ o.data = .func (docDef d.name d.params d.body d.scope pm code doc) ∧ h.CodeRec code d.name

theorem contract_fn {G : Gl} (gk : GlOk G) (hlim : G.hT.NoLimit) {T : Nat → Option LM.Spec} {n f : Nat} {sp : LM.Spec} {d : DefRec} {x : Str} {v : List Str} {p : PSs} {k : Nat} (hfns : G.fns = names) (hx : names[f]? = some x) (hd : DefIn G.mg G.hT d) (hok : okFn d x v p k = true)
    (hT : ∀ g sp', T g = some sp' → ∃ m, m ≤ n ∧ Contract G m g sp')
    (hsp : ∀ ds c post, sp ds c post → ds.length + (match c with | none => 0 | some _ => 1) = k ∧ wSs T p (entryΓ v.length ds c) (bodyQ c post) (c = none ∧ ∃ c', post none c')) : Contract G (n + 1) f sp := by
  unfold okFn at hok
  simp only [Bool.and_eq_true, beq_iff_eq, decide_eq_true_eq, Bool.not_eq_true', List.isEmpty_iff, Option.isNone_iff_eq_none, List.all_eq_true, Bool.or_eq_true] at hok
  obtain ⟨⟨⟨⟨⟨⟨⟨⟨⟨⟨⟨⟨h1, h2⟩, h3⟩, h4⟩, h5⟩, h6⟩, h7⟩, h8⟩, h9⟩, h10⟩, h11⟩, h12⟩, h13⟩ := hok
  obtain ⟨a, o, pm, code, doc, g1, g2, g3, g4⟩ := hd
  have hmg := gk.fns f x (by rw [hfns]; exact hx)
  rw [← h1, g1] at hmg
  have hlen : (v.take k).length = k := by rw [List.length_take]; (first | lia | omega)
  refine contract_of (fd := docDef d.name d.params d.body d.scope pm code doc) (body := d.body) (xs := v.take k) (vars := v) gk hlim ⟨⟨a, o, (Option.some.inj hmg).symm, g2, g3⟩, g4, rfl, rfl, rfl, rfl, h10, h11, h12⟩ hT (sndSs p) (by rw [hfns]; exact h13) h8 (List.take_prefix _ _) (fun args hl => ?_) h9 fun ds c post hs => ?_
  · exact bind_simple h2 h3 h4 h5 rfl h6 (List.Sublist.nodup (List.take_sublist _ _) h8) hl
  · obtain ⟨e1, e2⟩ := hsp ds c post hs
    exact ⟨by rw [hlen]; exact e1, e2⟩

end LM

namespace LM

/-- short names for the evaluation's lemmas. -/
theorem vA {β : Type} {a : β} {l : List β} : (a :: l)[0]? = some a := rfl
theorem vB {β : Type} {a : β} {i : Nat} {l : List β} : (a :: l)[i + 1]? = l[i]? := rfl
theorem vC {β : Type} {a b : β} {l : List β} : (a :: l).set 0 b = b :: l := rfl
theorem vD {β : Type} {a b : β} {n : Nat} {l : List β} : (a :: l).set (n + 1) b = a :: l.set n b := rfl
theorem vE {β γ : Type} {f : β → γ} {a : β} {l : List β} : List.map f (a :: l) = f a :: List.map f l := rfl
theorem vF {β γ : Type} {f : β → γ} : List.map f [] = [] := rfl
theorem vG {β : Type} {a : β} {l m : List β} : (a :: l) ++ m = a :: (l ++ m) := rfl
theorem vH {β : Type} (l : List β) : [] ++ l = l := rfl
theorem vI {β : Type} {a : β} {l : List β} : (a :: l).length = l.length + 1 := rfl
theorem vJ {β : Type} : ([] : List β).length = 0 := rfl
theorem vK {β γ : Type} {l : List β} (f : β → γ) : (List.map f l).length = l.length := List.length_map f
theorem vL {β γ : Type} (a : β) (f : β → γ) : Option.map f (some a) = some (f a) := rfl
theorem vM {β γ : Type} (f : β → γ) : Option.map f none = none := rfl
theorem vR {β : Type} (a : Option β) : (some a).join = a := rfl
theorem vS {β : Type} {a : β} : (some a).isSome = true := rfl

theorem vN {A B : Prop} : (if true = true then A else B) = A := rfl
theorem vO {A B : Prop} : (if false = true then A else B) = B := rfl
theorem vP {p A B : Prop} [Decidable p] (h : if p then A else B) : (if decide p = true then A else B) := by
  by_cases q : p
  · rw [if_pos q] at h; rw [if_pos (decide_eq_true q)]; exact h
  · rw [if_neg q] at h; rw [if_neg (by simpa using q)]; exact h

/-- a call, by its spec. -/
theorem use_of {T : Nat → Option LM.Spec} {f : Nat} {sp : LM.Spec} {ds : List D} {c : Option (List D)} {k : Option D → Option (List D) → Prop} (h : T f = some sp) (hs : sp ds c k) : useSpec (T f) ds c k := by rw [h]; exact hs

/-- the value of limbs, lowest first. -/
noncomputable def val (w : Nat) : List Nat → Nat
  | [] => 0
  | d :: l => d + 2 ^ w * val w l
noncomputable def Ok (w : Nat) (l : List Nat) : Prop := ∀ d ∈ l, d < 2 ^ w
noncomputable def canon (l : List Nat) : Prop := ∀ d ∈ l.getLast?, d ≠ 0
/-- the limbs of n. -/
noncomputable def lim (w n : Nat) : List Nat := if h : n = 0 ∨ w = 0 then [] else n % 2 ^ w :: lim w (n / 2 ^ w)
termination_by n
decreasing_by
  have h1 : 1 < 2 ^ w := Nat.one_lt_two_pow (by (refine fun h => ?_; lia))
  exact Nat.div_lt_self (by (refine Nat.lt_of_not_le fun h => ?_; lia)) h1

theorem lim_zero (w : Nat) : lim w 0 = [] := by unfold lim; simp
theorem lim_pos {w n : Nat} (hw : 0 < w) (hn : 0 < n) : lim w n = n % 2 ^ w :: lim w (n / 2 ^ w) := by
  conv => lhs; unfold lim
  rw [dif_neg (by (refine fun h => ?_; lia))]
theorem val_lim {w : Nat} (hw : 0 < w) (n : Nat) : val w (lim w n) = n := by
  induction n using Nat.strongRecOn with
  | ind n ih =>
    by_cases h : n = 0
    · subst h; rw [lim_zero]; rfl
    · have h1 : 1 < 2 ^ w := Nat.one_lt_two_pow (by (exact Nat.ne_of_gt hw))
      rw [lim_pos hw (by (exact Nat.pos_of_ne_zero h))]
      show n % 2 ^ w + 2 ^ w * val w (lim w (n / 2 ^ w)) = n
      rw [ih _ (Nat.div_lt_self (by (exact Nat.pos_of_ne_zero h)) h1)]
      exact Nat.mod_add_div _ _
theorem ok_lim {w : Nat} (hw : 0 < w) (n : Nat) : Ok w (lim w n) := by
  induction n using Nat.strongRecOn with
  | ind n ih =>
    by_cases h : n = 0
    · subst h; rw [lim_zero]; intro d hd; cases hd
    · have h1 : 1 < 2 ^ w := Nat.one_lt_two_pow (by (exact Nat.ne_of_gt hw))
      rw [lim_pos hw (by (exact Nat.pos_of_ne_zero h))]
      intro d hd
      rcases List.mem_cons.mp hd with rfl | hd
      · exact Nat.mod_lt _ (by (exact Nat.two_pow_pos _))
      · exact ih _ (Nat.div_lt_self (by (exact Nat.pos_of_ne_zero h)) h1) d hd
theorem lim_nil {w n : Nat} (hw : 0 < w) : lim w n = [] ↔ n = 0 := by
  constructor
  · intro h
    by_cases hn : n = 0
    · exact hn
    · rw [lim_pos hw (by (exact Nat.pos_of_ne_zero hn))] at h; cases h
  · rintro rfl; exact lim_zero w
theorem lim_len_pos {w n : Nat} (hw : 0 < w) : 0 < (lim w n).length ↔ 0 < n := by
  rw [List.length_pos_iff, ne_eq, lim_nil hw]
  lia
theorem lim_len_zero {w n : Nat} (hw : 0 < w) : (lim w n).length = 0 ↔ n = 0 := by
  rw [List.length_eq_zero_iff]; exact lim_nil hw
theorem lim_cons {w d n : Nat} (hw : 0 < w) (hd : d < 2 ^ w) (h : 0 < d ∨ 0 < n) : lim w (d + 2 ^ w * n) = d :: lim w n := by
  have h2 : 0 < 2 ^ w := Nat.two_pow_pos w
  have h3 : 0 < 2 ^ w * n ∨ 0 < d := by
    rcases h with h | h
    · exact .inr h
    · exact .inl (Nat.mul_pos h2 h)
  rw [lim_pos hw (by (refine Nat.lt_of_not_le fun h => ?_; lia)), Nat.add_mul_mod_self_left, Nat.mod_eq_of_lt hd, Nat.add_mul_div_left _ _ h2, Nat.div_eq_of_lt hd, Nat.zero_add]

theorem val_append (w : Nat) : ∀ (l m : List Nat), val w (l ++ m) = val w l + 2 ^ (w * l.length) * val w m
  | [], m => by simp [val]
  | d :: l, m => by
    show d + 2 ^ w * val w (l ++ m) = d + 2 ^ w * val w l + 2 ^ (w * (l.length + 1)) * val w m
    rw [val_append w l m, Nat.mul_add, Nat.mul_succ, Nat.pow_add, Nat.mul_comm (2 ^ (w * l.length)) (2 ^ w)]
    simp [Nat.mul_assoc, Nat.add_assoc]
theorem val_lt {w : Nat} : ∀ {l : List Nat}, Ok w l → val w l < 2 ^ (w * l.length)
  | [], _ => by simp [val]
  | d :: l, h => by
    have h1 := h d (.head _)
    have h2 := val_lt (w := w) (l := l) fun x hx => h x (.tail _ hx)
    show d + 2 ^ w * val w l < 2 ^ (w * (l.length + 1))
    rw [Nat.mul_succ, Nat.pow_add, Nat.mul_comm (2 ^ (w * l.length))]
    have : 2 ^ w * val w l + 2 ^ w ≤ 2 ^ w * 2 ^ (w * l.length) := by
      rw [← Nat.mul_succ]; exact Nat.mul_le_mul_left _ h2
    (clear h2; refine Nat.lt_of_not_le fun h => ?_; lia)
theorem Ok.tail {w d : Nat} {l : List Nat} (h : Ok w (d :: l)) : Ok w l := fun x hx => h x (.tail _ hx)
theorem Ok.app {w : Nat} {l m : List Nat} (h : Ok w l) (k : Ok w m) : Ok w (l ++ m) := fun x hx => (List.mem_append.mp hx).elim (h x) (k x)
theorem Ok.one {w d : Nat} (h : d < 2 ^ w) : Ok w [d] := fun x hx => by simp at hx; subst hx; exact h
theorem val_zeros (w : Nat) : ∀ n, val w (List.replicate n 0) = 0
  | 0 => rfl
  | n + 1 => by rw [List.replicate_succ]; show 0 + 2 ^ w * val w (List.replicate n 0) = 0; rw [val_zeros w n]; simp

/-- canonical limbs are the limbs of their value. -/
theorem lim_val {w : Nat} (hw : 0 < w) : ∀ {l : List Nat}, Ok w l → canon l → lim w (val w l) = l
  | [], _, _ => lim_zero w
  | d :: l, h, hc => by
    have hd := h d (.head _)
    cases l with
    | nil =>
      have h0 : d ≠ 0 := hc d (by simp)
      show lim w (d + 2 ^ w * 0) = [d]
      rw [lim_cons hw hd (.inl (by (exact Nat.pos_of_ne_zero h0))), lim_zero]
    | cons e l =>
      have ih := lim_val hw h.tail (fun x hx => hc x (by simpa using hx))
      have hp : 0 < val w (e :: l) := by
        rw [← lim_len_pos hw, ih]; simp
      show lim w (d + 2 ^ w * val w (e :: l)) = d :: e :: l
      rw [lim_cons hw hd (.inr hp), ih]
theorem canon_lim {w : Nat} (hw : 0 < w) (n : Nat) : canon (lim w n) := by
  induction n using Nat.strongRecOn with
  | ind n ih =>
    by_cases h : n = 0
    · subst h; rw [lim_zero]; intro d hd; cases hd
    · have h1 : 1 < 2 ^ w := Nat.one_lt_two_pow (by (exact Nat.ne_of_gt hw))
      rw [lim_pos hw (by (exact Nat.pos_of_ne_zero h))]
      intro d hd
      by_cases h2 : n / 2 ^ w = 0
      · rw [h2, lim_zero] at hd
        simp at hd
        have := Nat.div_add_mod n (2 ^ w)
        rw [h2] at this
        (intro h; subst h; lia)
      · have h3 := ih _ (Nat.div_lt_self (by (exact Nat.pos_of_ne_zero h)) h1)
        have h4 : lim w (n / 2 ^ w) ≠ [] := fun e => h2 ((lim_nil hw).mp e)
        rw [List.getLast?_cons_of_ne_nil h4] at hd
        exact h3 d hd
theorem lim_len {w n k : Nat} (hw : 0 < w) (h : n < 2 ^ (w * k)) : (lim w n).length ≤ k := by
  induction k generalizing n with
  | zero => simp at h; subst h; rw [lim_zero]; simp
  | succ k ih =>
    by_cases hn : n = 0
    · subst hn; rw [lim_zero]; simp
    · rw [lim_pos hw (by (exact Nat.pos_of_ne_zero hn))]
      have : n / 2 ^ w < 2 ^ (w * k) := by
        rw [Nat.div_lt_iff_lt_mul (Nat.two_pow_pos w), ← Nat.pow_add]
        rwa [← Nat.mul_succ]
      have := ih this
      simp only [List.length_cons]; (exact Nat.lt_of_le_of_lt this (Nat.lt_succ_self _))
theorem le_of_len {w n k : Nat} (hw : 0 < w) (h : k < (lim w n).length) : 2 ^ (w * k) ≤ n := by
  apply Nat.le_of_not_lt
  intro hlt
  have := lim_len hw hlt
  lia

noncomputable def nl (l : List Nat) : D := .list (l.map fun n : Nat => .int (n : Int))
noncomputable def L (w n : Nat) : D := nl (lim w n)
/-- the sizes here. -/
noncomputable def W (w : Nat) : Prop := 5 ≤ w ∧ w ≤ 8
noncomputable def sm (n : Nat) : Prop := n < 2 ^ 1000
theorem W.pos {w : Nat} (h : W w) : 0 < w := Nat.lt_of_lt_of_le (by decide) h.1
theorem sm_len {w n : Nat} (hw : W w) (h : sm n) : (lim w n).length ≤ 200 := by
  refine lim_len hw.pos (Nat.lt_of_lt_of_le h (Nat.pow_le_pow_right (by decide) ?_))
  have := hw.1; lia
theorem B_le {w : Nat} (h : W w) : 2 ^ w ≤ 256 := Nat.pow_le_pow_right (n := 2) (by decide) h.2
theorem B_ge {w : Nat} (h : W w) : 32 ≤ 2 ^ w := Nat.pow_le_pow_right (n := 2) (by decide) h.1

theorem nl_get {l : List Nat} {i : Nat} (h : i < l.length) : (l.map fun n : Nat => D.int n)[i]? = some (.int (l[i] : Nat)) := by
  rw [List.getElem?_map, List.getElem?_eq_getElem h]; rfl
theorem wIdx_nat {l : List Nat} {i : Nat} {k : D → Prop} (hl : l.length < 2 ^ 62) (h : i < l.length) (hk : k (.int (l[i] : Nat))) : wIdx (l.map fun n : Nat => D.int n) (i : Int) k := by
  refine ⟨by simpa using hl, .int (l[i] : Nat), ?_, hk⟩
  unfold place
  rw [if_pos (by (exact Int.natCast_nonneg _)), if_pos (by simp; omega)]
  simpa using nl_get h
theorem wIdx_int {l : List Nat} {i : Int} {j : Nat} {k : D → Prop} (hi : i = j) (hl : l.length < 2 ^ 62) (h : j < l.length) (hk : k (.int (l[j] : Nat))) : wIdx (l.map fun n : Nat => D.int n) i k := by
  subst hi; exact wIdx_nat hl h hk

theorem range_pick {β : Type} : ∀ (n a : Nat) (l : List β), a + n ≤ l.length → (((List.range n).map fun k : Nat => a + k).filterMap (l[·]?)) = (l.drop a).take n
  | 0, a, l, _ => by simp
  | n + 1, a, l, h => by
    rw [List.range_succ_eq_map, List.map_cons, List.map_map, List.filterMap_cons]
    have h0 : l[a + 0]? = some l[a] := by rw [Nat.add_zero]; exact List.getElem?_eq_getElem (by (refine Nat.lt_of_not_le fun h => ?_; lia))
    rw [h0]
    have e : ((fun k : Nat => a + k) ∘ Nat.succ) = fun k : Nat => (a + 1) + k := by funext k; simp; lia
    rw [e]
    show l[a] :: _ = _
    rw [range_pick n (a + 1) l (by lia)]
    rw [List.drop_eq_getElem_cons (show a < l.length by (refine Nat.lt_of_not_le fun h => ?_; lia)), List.take_succ_cons]
theorem sliceRange_one {a b : Nat} (h : a ≤ b) : sliceRange (a : Int) (b : Int) 1 = (List.range (b - a)).map fun k : Nat => a + k := by
  unfold sliceRange
  rw [if_pos (by decide)]
  have e1 : (if (a : Int) < b then ((b : Int) - a + 1 - 1) / 1 else 0).toNat = b - a := by
    split
    · rw [Int.ediv_one]; (clear h; lia)
    · simp; (clear h; lia)
  dsimp only
  rw [e1]
  apply List.map_congr_left
  intro k _
  (refine congrArg Nat.cast (?_ : (_ : Nat) = _); lia)
theorem pick_both {l : List D} {a b : Nat} (h : a ≤ b) (hb : b ≤ l.length) : pick l (some a) (some b) none = (l.drop a).take (b - a) := by
  have e : sliceBounds (some (a : Int)) (some (b : Int)) none l.length = ((a : Int), (b : Int), 1) := by
    unfold sliceBounds
    simp only [Option.getD_none, show (1 : Int) > 0 by decide, if_true]
    rw [if_neg (by (exact Int.not_lt.mpr (Int.natCast_nonneg _))), if_neg (by (exact Int.not_lt.mpr (Int.natCast_nonneg _)))]
    congr 1
    · lia
    · congr 1; lia
  unfold pick
  rw [e]
  show (sliceRange (a : Int) (b : Int) 1).filterMap _ = _
  rw [sliceRange_one h, range_pick _ _ _ (by lia)]
theorem pick_to {l : List D} {b : Nat} (hb : b ≤ l.length) : pick l none (some b) none = l.take b := by
  have e : sliceBounds none (some (b : Int)) none l.length = (((0 : Nat) : Int), (b : Int), 1) := by
    unfold sliceBounds
    simp only [Option.getD_none, show (1 : Int) > 0 by decide, if_true]
    rw [if_neg (by (exact Int.not_lt.mpr (Int.natCast_nonneg _)))]
    congr 2; lia
  unfold pick
  rw [e]
  show (sliceRange ((0 : Nat) : Int) (b : Int) 1).filterMap _ = _
  rw [sliceRange_one (Nat.zero_le _), range_pick _ _ _ (by lia)]; simp
theorem pick_from {l : List D} {a : Nat} (ha : a ≤ l.length) : pick l (some a) none none = l.drop a := by
  have e : sliceBounds (some (a : Int)) none none l.length = ((a : Int), (l.length : Int), 1) := by
    unfold sliceBounds
    simp only [Option.getD_none, show (1 : Int) > 0 by decide, if_true]
    rw [if_neg (by (exact Int.not_lt.mpr (Int.natCast_nonneg _)))]
    congr 1; lia
  unfold pick
  rw [e]
  show (sliceRange (a : Int) (l.length : Int) 1).filterMap _ = _
  rw [sliceRange_one ha, range_pick _ _ _ (by lia)]
  exact List.take_of_length_le (by simp)
theorem pick_all {l : List D} : pick l none none none = l := by
  have e : sliceBounds none none none l.length = (((0 : Nat) : Int), (l.length : Int), 1) := rfl
  unfold pick
  rw [e]
  show (sliceRange ((0 : Nat) : Int) (l.length : Int) 1).filterMap _ = _
  rw [sliceRange_one (Nat.zero_le _), range_pick _ _ _ (by lia)]; simp
theorem rangeD_zero (x z : Int) : rangeD x z 0 = [] := rfl
theorem rangeD_succ (x z : Int) (n : Nat) : rangeD x z (n + 1) = .int x :: rangeD (x + z) z n := by
  unfold rangeD
  rw [List.range_succ_eq_map, List.map_cons, List.map_map]
  congr 1
  · simp
  · apply List.map_congr_left
    intro k _
    simp only [Function.comp, Nat.succ_eq_add_one]
    push_cast
    rw [Int.add_mul, Int.one_mul]
    congr 1
    lia
theorem small_nat {n : Nat} (h : n < 2 ^ 30) : small (n : Int) := by unfold small; (first | lia | omega)
theorem map_take {l : List Nat} {n : Nat} : (l.map fun n : Nat => D.int n).take n = (l.take n).map fun n : Nat => D.int n := by rw [List.map_take]

/-- normal. -/
inductive spNormal (ds : List D) (c : Option (List D)) (post : Option D → Option (List D) → Prop) : Prop
  | mk : (c = none) → ∀ w l, (W w) → (Ok w l) → (l.length ≤ 100000) → (ds = [nl l]) → (post (some (L w (val w l))) none) → spNormal ds c post

theorem val_drop_zero {w : Nat} {l : List Nat} {n : Nat} (h : n < l.length) (h0 : l[n] = 0) : val w (l.take (n + 1)) = val w (l.take n) := by
  rw [List.take_succ_eq_append_getElem h, val_append, h0]; simp [val]

theorem hsp_normal {T : Nat → Option LM.Spec} : ∀ ds c post, spNormal ds c post → ds.length + (match c with | none => 0 | some _ => 1) = a_normal ∧ wSs T p_normal (entryΓ v_normal.length ds c) (bodyQ c post) (c = none ∧ ∃ c', post none c') := by
  rintro ds c post ⟨rfl, w, l, hw, ho, hlen, rfl, hp⟩
  refine ⟨rfl, ?_⟩
  show wSs T p_normal ⟨[some (.d (nl l)), none], []⟩ _ _
  unfold p_normal
  (try simp only [↓Ye, ↓Mp, ↓Mx, ↓Ka, ↓Ko, ↓Yl, Fs.put, bodyQ, bodyR, ↓vA, ↓vC, ↓vD, vK, true_and, nl])
  refine ⟨by (exact Nat.lt_of_le_of_lt hlen (by decide)), fun n Γ => n ≤ l.length ∧ Γ = ⟨[some (.d (nl l)), some (.d (.int n))], []⟩ ∧ val w (l.take n) = val w l, ⟨l.length, Nat.le_refl _, rfl, by rw [List.take_length]⟩, ?_⟩
  rintro n Γ ⟨hn, rfl, hv⟩
  unfold t_normal_0 b_normal_0 r_normal_0
  (try simp only [↓Yd, ↓Ye, ↓Mt, ↓Mz, ↓Ka, ↓Kc, ↓Kf, ↓Kg, ↓Ki, ↓Kk, ↓Ky, ↓Kz, ↓Yg, ↓Yh, ↓Yi, ↓Yj, ↓Yl, ↓Yo, ↓Yp, ↓Zd, ↓Yw, ↓Yz, Fs.put, bodyQ, bodyR, ↓vA, ↓vB, ↓vC, ↓vD, nl, ↓vO]); (try refine vP ?_)
  have fin : (n = 0 ∨ ∃ h : n - 1 < l.length, l[n - 1] ≠ 0) → (l.length ≤ 2 ^ 20 ∧ (none : Option Int) ≠ some 0) ∧ post (some (.list (pick (l.map fun n : Nat => D.int n) none (some (n : Int)) none))) none := fun h => by
    refine ⟨⟨by (exact Nat.le_of_lt (Nat.lt_of_le_of_lt hlen (by decide))), by simp⟩, ?_⟩
    rw [pick_to (by simpa using hn), map_take]
    have e : lim w (val w l) = l.take n := by
      rw [← hv]
      refine lim_val hw.pos (fun d hd => ho d (List.mem_of_mem_take hd)) fun d hd => ?_
      rw [List.getLast?_eq_getElem?, List.length_take, Nat.min_eq_left hn] at hd
      rcases h with h | ⟨h, h0⟩
      · subst h; simp at hd
      · by_cases hz : n = 0
        · subst hz; simp at hd
        · rw [List.getElem?_take_of_lt (by (exact Nat.sub_lt (Nat.pos_of_ne_zero hz) (by decide))), List.getElem?_eq_getElem h] at hd
          cases hd; exact h0
    have : post (some (nl (lim w (val w l)))) none := hp
    rw [e] at this
    exact this
  by_cases hz : n = 0
  · subst hz
    rw [if_neg (by simp)]
    (try simp only [vK])
    exact fin (.inl rfl)
  · rw [if_pos (by (exact Int.ofNat_lt.mpr (Nat.pos_of_ne_zero hz)))]
    refine wIdx_int (j := n - 1) (by (clear hn; lia)) (by (exact Nat.lt_of_le_of_lt hlen (by decide))) (by (clear hv; omega)) ?_
    (try simp only [↓Ys, vK, decide_eq_true_eq])
    by_cases h0 : l[n - 1]'(by (clear hv; omega)) = 0
    · rw [if_pos (by lia)]
      refine ⟨n - 1, by (exact Nat.sub_lt (Nat.pos_of_ne_zero hz) (by decide)), by (exact Nat.le_trans (Nat.sub_le _ _) hn), ?_, ?_⟩
      · have : ((n : Int) - 1) = ((n - 1 : Nat) : Int) := by lia
        rw [this]
      · rw [← hv]
        have := val_drop_zero (w := w) (l := l) (n := n - 1) (by (clear hlen; refine Nat.lt_of_not_le fun h => ?_; lia)) h0
        rw [show n - 1 + 1 = n by lia] at this
        exact this.symm
    · rw [if_neg (by (exact Int.ne_of_gt (Int.ofNat_lt.mpr (Nat.pos_of_ne_zero h0))))]
      exact fin (.inr ⟨by (clear hlen; refine Nat.lt_of_not_le fun h => ?_; lia), h0⟩)

end LM

namespace LM

/-- a loop by an invariant. -/
theorem for_gen {step : D → Fs → (Out → Fs → Prop) → Prop} {Q : Out → Fs → Prop} (ds : List D) (I : Nat → Fs → Prop) {Γ : Fs} (h0 : I 0 Γ)
    (hstep : ∀ i d Γ, ds[i]? = some d → I i Γ → ∀ k : Out → Fs → Prop, (∀ Γ', I (i + 1) Γ' → k .next Γ') → (∀ Γ', I (i + 1) Γ' → k .cont Γ') → (∀ x Γ', Q (.ret x) Γ' → k (.ret x) Γ') → step d Γ k)
    (hQ : ∀ Γ, I ds.length Γ → Q .next Γ) : wFor step ds Γ Q := by
  have key : ∀ n i Γ, n = ds.length - i → i ≤ ds.length → I i Γ → wFor step (ds.drop i) Γ Q := by
    intro n
    induction n with
    | zero =>
      intro i Γ hn hi hI
      have : i = ds.length := by lia
      subst this
      rw [List.drop_length]
      exact hQ Γ hI
    | succ n ih =>
      intro i Γ hn hi hI
      have hlt : i < ds.length := by (refine Nat.lt_of_not_le fun h => ?_; lia)
      rw [List.drop_eq_getElem_cons hlt]
      exact hstep i ds[i] Γ (List.getElem?_eq_getElem hlt) hI _ (fun Γ' h => ih (i + 1) Γ' (by (clear hi; lia)) hlt h) (fun Γ' h => ih (i + 1) Γ' (by (clear hi; lia)) hlt h) (fun x Γ' h => h)
  exact key ds.length 0 Γ rfl (Nat.zero_le _) h0
theorem rangeD_get {x z : Int} {n i : Nat} {d : D} (h : (rangeD x z n)[i]? = some d) : i < n ∧ d = .int (x + (i : Int) * z) := by
  unfold rangeD at h
  have hl := (List.getElem?_eq_some_iff.mp h).1
  simp at hl
  rw [List.getElem?_map, List.getElem?_range hl] at h
  exact ⟨hl, (Option.some.inj h).symm⟩
theorem rangeD_len (x z : Int) (n : Nat) : (rangeD x z n).length = n := by simp [rangeD]
theorem rangeN_down (n : Nat) : rangeN ((n : Int) - 1) (-1) (-1) = n := by
  unfold rangeN Builtin.Range.rangeSize
  rw [if_neg (by decide)]
  split
  · have : ((n : Int) - 1 - -1 - 1) / (- -1) + 1 = n := by
      rw [show (- -1 : Int) = 1 by decide, Int.ediv_one]; lia
    rw [this]; simp
  · lia
theorem toNat_w (w : Nat) : ((w : Int)).toNat = w := by simp
theorem shl_one (w : Nat) : (1 : Int) * 2 ^ w = ((2 ^ w : Nat) : Int) := by push_cast; lia
theorem shl_nat (x w : Nat) : (x : Int) * 2 ^ w = ((x * 2 ^ w : Nat) : Int) := by push_cast; rfl
theorem shr_nat (x w : Nat) : ((x : Int)).fdiv (2 ^ w) = ((x / 2 ^ w : Nat) : Int) := by
  rw [show (2 : Int) ^ w = ((2 ^ w : Nat) : Int) by push_cast; rfl]; exact (Int.fdiv_eq_ediv_of_nonneg _ (Int.natCast_nonneg _)).trans (by push_cast; rfl)
theorem fdiv_nat (x y : Nat) : ((x : Int)).fdiv (y : Int) = ((x / y : Nat) : Int) := by
  exact (Int.fdiv_eq_ediv_of_nonneg _ (Int.natCast_nonneg _)).trans (by push_cast; rfl)
theorem fmod_nat (x y : Nat) : ((x : Int)).fmod (y : Int) = ((x % y : Nat) : Int) := by
  exact (Int.fmod_eq_emod_of_nonneg _ (Int.natCast_nonneg _)).trans (by push_cast; rfl)
theorem band_mask (x w : Nat) : Builtin.bitAnd (x : Int) (((2 ^ w : Nat) : Int) - 1) = ((x % 2 ^ w : Nat) : Int) := by
  have hp : 0 < 2 ^ w := Nat.two_pow_pos w
  rw [bitAnd_pp (by (exact Int.natCast_nonneg _)) (by lia)]
  have e : (((2 ^ w : Nat) : Int) - 1).toNat = 2 ^ w - 1 := by (clear hp; lia)
  rw [e, Int.toNat_natCast, Nat.and_two_pow_sub_one_eq_mod]
theorem app_one (f : List Nat) (d : Nat) : (f.map fun n : Nat => D.int n) ++ [.int (d : Int)] = (f ++ [d]).map fun n : Nat => D.int n := by simp

/-- limbs whose top is not nought. -/
theorem lim_of {w : Nat} (hw : 0 < w) {f : List Nat} {v : Nat} (ho : Ok w f) (hv : val w f = v) (h : f = [] ∨ 2 ^ (w * (f.length - 1)) ≤ v) : lim w v = f := by
  subst hv
  refine lim_val hw ho fun d hd => ?_
  rcases h with h | h
  · subst h; cases hd
  · intro h0
    subst h0
    have hne : f ≠ [] := fun e => by subst e; cases hd
    obtain ⟨g, d, rfl⟩ : ∃ g d, f = g ++ [d] := ⟨f.dropLast, f.getLast hne, (List.dropLast_concat_getLast hne).symm⟩
    simp at hd
    subst hd
    rw [val_append] at h
    have := val_lt (w := w) (l := g) fun x hx => ho x (List.mem_append_left _ hx)
    simp [val] at h
    lia

/-- compare. -/
inductive spCompare (ds : List D) (c : Option (List D)) (post : Option D → Option (List D) → Prop) : Prop
  | mk : (c = none) → ∀ w x y, (W w) → (sm x) → (sm y) → (ds = [L w x, L w y]) → (post (some (.int (if x < y then -1 else if x = y then 0 else 1))) none) → spCompare ds c post

theorem lt_of_len {w x y : Nat} (hw : 0 < w) (h : (lim w x).length < (lim w y).length) : x < y := by
  have h1 := val_lt (ok_lim hw x)
  rw [val_lim hw] at h1
  have h2 := le_of_len (n := y) (k := (lim w x).length) hw h
  (exact Nat.lt_of_lt_of_le h1 h2)
theorem val_drop {w : Nat} (l : List Nat) (n : Nat) : val w l = val w (l.take n) + 2 ^ (w * (l.take n).length) * val w (l.drop n) := by
  conv => lhs; rw [← List.take_append_drop n l]
  exact val_append w _ _
theorem ok_take {w n : Nat} {l : List Nat} (h : Ok w l) : Ok w (l.take n) := fun d hd => h d (List.mem_of_mem_take hd)

/-- limbs alike above n, and less at n. -/
theorem val_lt_at {w n : Nat} {l m : List Nat} (ho : Ok w l) (hn : n < l.length) (hm : n < m.length) (hd : l.drop (n + 1) = m.drop (n + 1)) (hlt : l[n] < m[n]) : val w l < val w m := by
  rw [val_drop l n, val_drop m n]
  rw [List.drop_eq_getElem_cons hn, List.drop_eq_getElem_cons hm, hd]
  have h1 := val_lt (ok_take (n := n) ho)
  rw [List.length_take, List.length_take, Nat.min_eq_left (by (exact Nat.le_of_lt hn)), Nat.min_eq_left (by (exact Nat.le_of_lt hm))] at *
  simp only [val]
  have h2 : 2 ^ (w * n) * (l[n] + 2 ^ w * val w (m.drop (n + 1))) + 2 ^ (w * n) ≤ 2 ^ (w * n) * (m[n] + 2 ^ w * val w (m.drop (n + 1))) := by
    rw [← Nat.mul_succ]; exact Nat.mul_le_mul_left _ (by lia)
  (refine Nat.lt_of_not_le fun h => ?_; lia)

theorem hsp_compare {T : Nat → Option LM.Spec} : ∀ ds c post, spCompare ds c post → ds.length + (match c with | none => 0 | some _ => 1) = a_compare ∧ wSs T p_compare (entryΓ v_compare.length ds c) (bodyQ c post) (c = none ∧ ∃ c', post none c') := by
  rintro ds c post ⟨rfl, w, x, y, hw, hx, hy, rfl, hp⟩
  refine ⟨rfl, ?_⟩
  have lx := sm_len hw hx
  have ly := sm_len hw hy
  have vx := val_lim hw.pos x
  have vy := val_lim hw.pos y
  have ox := ok_lim hw.pos x
  have oy := ok_lim hw.pos y
  show wSs T p_compare ⟨[some (.d (nl (lim w x))), some (.d (nl (lim w y))), none], []⟩ _ _
  unfold p_compare s_compare_0
  (try simp only [↓Yd, ↓Ye, ↓Mw, ↓My, ↓Mz, ↓Ka, ↓Kc, ↓Kd, ↓Kg, ↓Ki, ↓Kn, ↓Ko, ↓Mo, ↓Yg, ↓Yh, ↓Yi, ↓Yl, ↓Zd, ↓Yv, ↓Za, ↓Ys, bodyQ, bodyR, ↓vA, ↓vB, vK, decide_eq_true_eq, true_and, nl, ↓Ka, ↓Kc, ↓Kd, ↓Kg, ↓Ki, ↓Kn, ↓Ko])
  refine ⟨by (exact Nat.lt_of_le_of_lt lx (by decide)), by (exact Nat.lt_of_le_of_lt ly (by decide)), ?_⟩
  by_cases h : (lim w x).length = (lim w y).length
  · rw [if_neg (by simp; lia)]
    refine ⟨by (exact Nat.lt_of_le_of_lt lx (by decide)), ⟨by unfold small; (constructor <;> first | (refine Int.lt_of_not_ge fun h => ?_; lia) | (refine Nat.lt_of_not_le fun h => ?_; lia) | lia), by unfold small; decide, by decide, by decide⟩, ?_⟩
    rw [rangeN_down]
    refine for_gen _ (fun i Γ => Ex1 (fun o => Γ = ⟨[some (.d (nl (lim w x))), some (.d (nl (lim w y))), o], []⟩) (fun o => (lim w x).drop ((lim w x).length - i) = (lim w y).drop ((lim w x).length - i))) ⟨none, rfl, by rw [Nat.sub_zero]; rw [List.drop_length]; rw [h, List.drop_length]⟩ (fun i d Γ hd hI k hn hc hr => ?_) fun Γ hI => ?_
    · obtain ⟨o, rfl, hdr⟩ := hI
      obtain ⟨hi, rfl⟩ := rangeD_get hd
      obtain ⟨j, hj⟩ : ∃ j, j = (lim w x).length - 1 - i := ⟨_, rfl⟩
      have e : (((lim w x).length : Nat) : Int) - 1 + (i : Int) * -1 = (j : Int) := by (clear vy vx ly h; omega)
      rw [e]
      unfold b_compare_0
      (try simp only [↓Yd, ↓Ye, ↓Mw, ↓Mz, ↓Ka, ↓Kc, ↓Kd, ↓Ki, ↓Kn, ↓Ky, ↓Yg, ↓Yh, ↓Yi, ↓Yl, ↓Yv, ↓Za, ↓vA, ↓vB, ↓vC, ↓vD, ↓Zm, nl])
      refine wIdx_nat (by (exact Nat.lt_of_le_of_lt lx (by decide))) (by (clear hd hj; refine Nat.lt_of_not_le fun h => ?_; lia)) ?_
      refine wIdx_nat (by (exact Nat.lt_of_le_of_lt ly (by decide))) (by (clear hd hj; refine Nat.lt_of_not_le fun h => ?_; lia)) ?_
      (try simp only [↓Ys])
      have hjs : (lim w x).length - i = j + 1 := by (clear hj hd; lia)
      rw [hjs] at hdr
      by_cases he : (lim w x)[j]'(by (exact Nat.lt_of_lt_of_le (Nat.lt_of_lt_of_le (Nat.lt_succ_self _) (Nat.le_of_eq hjs.symm)) (Nat.sub_le _ _))) = (lim w y)[j]'(by (exact Nat.lt_of_lt_of_le (Nat.lt_of_lt_of_le (Nat.lt_of_lt_of_le (Nat.lt_succ_self _) (Nat.le_of_eq hjs.symm)) (Nat.sub_le _ _)) (Nat.le_of_eq h)))
      · rw [if_neg (by simp; (refine congrArg Nat.cast (?_ : (_ : Nat) = _); lia))]
        refine hn _ ⟨_, rfl, ?_⟩
        have : (lim w x).length - (i + 1) = j := by lia
        rw [this, List.drop_eq_getElem_cons (show j < (lim w x).length by (exact Nat.lt_of_lt_of_le (Nat.lt_of_lt_of_le (Nat.lt_succ_self _) (Nat.le_of_eq hjs.symm)) (Nat.sub_le _ _))), List.drop_eq_getElem_cons (show j < (lim w y).length by (exact Nat.lt_of_lt_of_le (Nat.lt_of_lt_of_le (Nat.lt_of_lt_of_le (Nat.lt_succ_self _) (Nat.le_of_eq hjs.symm)) (Nat.sub_le _ _)) (Nat.le_of_eq h))), he, hdr]
      · rw [if_pos (by simp; lia)]
        refine wIdx_nat (by (exact Nat.lt_of_le_of_lt lx (by decide))) (by (exact Nat.lt_of_lt_of_le (Nat.lt_of_lt_of_le (Nat.lt_succ_self _) (Nat.le_of_eq hjs.symm)) (Nat.sub_le _ _))) ?_
        refine wIdx_nat (by (exact Nat.lt_of_le_of_lt ly (by decide))) (by (exact Nat.lt_of_lt_of_le (Nat.lt_of_lt_of_le (Nat.lt_of_lt_of_le (Nat.lt_succ_self _) (Nat.le_of_eq hjs.symm)) (Nat.sub_le _ _)) (Nat.le_of_eq h))) ?_
        refine vP ?_
        by_cases hlt : (lim w x)[j]'(by (exact Nat.lt_of_lt_of_le (Nat.lt_of_lt_of_le (Nat.lt_succ_self _) (Nat.le_of_eq hjs.symm)) (Nat.sub_le _ _))) < (lim w y)[j]'(by (exact Nat.lt_of_lt_of_le (Nat.lt_of_lt_of_le (Nat.lt_of_lt_of_le (Nat.lt_succ_self _) (Nat.le_of_eq hjs.symm)) (Nat.sub_le _ _)) (Nat.le_of_eq h)))
        · rw [if_pos (by (exact Int.ofNat_lt.mpr hlt))]
          have := val_lt_at ox (by (exact Nat.lt_of_lt_of_le (Nat.lt_of_lt_of_le (Nat.lt_succ_self _) (Nat.le_of_eq hjs.symm)) (Nat.sub_le _ _))) (by (exact Nat.lt_of_lt_of_le (Nat.lt_of_lt_of_le (Nat.lt_of_lt_of_le (Nat.lt_succ_self _) (Nat.le_of_eq hjs.symm)) (Nat.sub_le _ _)) (Nat.le_of_eq h))) hdr hlt
          rw [vx, vy] at this
          rw [if_pos this] at hp
          exact hr _ _ hp
        · rw [if_neg (by (exact Int.not_lt.mpr (Int.ofNat_le.mpr (Nat.le_of_not_lt hlt))))]
          have := val_lt_at oy (show j < (lim w y).length by (exact Nat.lt_of_lt_of_le (Nat.lt_of_lt_of_le (Nat.lt_of_lt_of_le (Nat.lt_succ_self _) (Nat.le_of_eq hjs.symm)) (Nat.sub_le _ _)) (Nat.le_of_eq h))) (show j < (lim w x).length by (exact Nat.lt_of_lt_of_le (Nat.lt_of_lt_of_le (Nat.lt_succ_self _) (Nat.le_of_eq hjs.symm)) (Nat.sub_le _ _))) hdr.symm (by (refine Nat.lt_of_not_le fun h => ?_; lia))
          rw [vx, vy] at this
          rw [if_neg (by (exact Nat.not_lt.mpr (Nat.le_of_lt this))), if_neg (by (exact Nat.ne_of_gt this))] at hp
          exact hr _ _ hp
    · obtain ⟨o, rfl, hdr⟩ := hI
      rw [rangeD_len, Nat.sub_self, List.drop_zero, List.drop_zero] at hdr
      have : x = y := by rw [← vx, ← vy, hdr]
      rw [if_neg (by (exact Nat.not_lt.mpr (Nat.le_of_eq this.symm))), if_pos this] at hp
      exact hp
  · rw [if_pos (by simp; lia)]
    refine ⟨by (exact Nat.lt_of_le_of_lt lx (by decide)), by (exact Nat.lt_of_le_of_lt ly (by decide)), ?_⟩
    by_cases hlt : (lim w x).length < (lim w y).length
    · rw [if_pos (by (exact Int.ofNat_lt.mpr hlt))]
      have := lt_of_len hw.pos hlt
      rw [if_pos this] at hp
      exact hp
    · rw [if_neg (by (exact Int.not_lt.mpr (Int.ofNat_le.mpr (Nat.le_of_not_lt hlt))))]
      have := lt_of_len hw.pos (show (lim w y).length < (lim w x).length by (refine Nat.lt_of_not_le fun h => ?_; lia))
      rw [if_neg (by (exact Nat.not_lt.mpr (Nat.le_of_lt this))), if_neg (by (exact Nat.ne_of_gt this))] at hp
      exact hp

end LM

namespace LM

theorem step_val {w c i : Nat} {f : List Nat} (h : f.length = i) : val w (f ++ [c % 2 ^ w]) + 2 ^ (w * (i + 1)) * (c / 2 ^ w) = val w f + 2 ^ (w * i) * c := by
  rw [val_append, h]
  show val w f + 2 ^ (w * i) * (c % 2 ^ w + 2 ^ w * 0) + _ = _
  have e := Nat.mod_add_div c (2 ^ w)
  conv => rhs; rw [← e]
  rw [Nat.mul_add (2 ^ (w * i)), Nat.mul_succ w i, Nat.pow_add, Nat.mul_assoc]
  simp [Nat.add_assoc, Nat.mul_add]
theorem val_take_succ {w i : Nat} {l : List Nat} (h : i < l.length) : val w (l.take (i + 1)) = val w (l.take i) + 2 ^ (w * i) * l[i] := by
  rw [List.take_succ_eq_append_getElem h, val_append, List.length_take, Nat.min_eq_left (by (exact Nat.le_of_lt h))]
  simp [val]
theorem mod_ok {w c : Nat} {f : List Nat} (h : Ok w f) : Ok w (f ++ [c % 2 ^ w]) := h.app (Ok.one (Nat.mod_lt _ (Nat.two_pow_pos w)))
theorem div_one {c B : Nat} (hB : 0 < B) (h : c < 2 * B) : c / B ≤ 1 := by
  have : c / B < 2 := (Nat.div_lt_iff_lt_mul hB).mpr h
  lia
theorem len_ge {w n : Nat} (hw : 0 < w) (h : lim w n ≠ []) : 2 ^ (w * ((lim w n).length - 1)) ≤ n := le_of_len hw (by have := List.length_pos_iff.mpr h; (exact Nat.sub_lt this (by decide)))

/-- add. -/
inductive spAdd (ds : List D) (c : Option (List D)) (post : Option D → Option (List D) → Prop) : Prop
  | mk : (c = none) → ∀ w x y, (W w) → (sm x) → (sm y) → (ds = [L w x, L w y, .int w]) → (post (some (L w (x + y))) none) → spAdd ds c post

theorem hsp_add {T : Nat → Option LM.Spec} : ∀ ds c post, spAdd ds c post → ds.length + (match c with | none => 0 | some _ => 1) = a_add ∧ wSs T p_add (entryΓ v_add.length ds c) (bodyQ c post) (c = none ∧ ∃ c', post none c') := by
  rintro ds c post ⟨rfl, w, x, y, hw, hx, hy, rfl, hp⟩
  refine ⟨rfl, ?_⟩
  have core : ∀ x y X, sm x → sm y → (lim w y).length ≤ (lim w x).length → post (some (L w (x + y))) none → wSs T s_add_1 ⟨[some (.d (nl (lim w x))), some (.d (nl (lim w y))), some (.d (.int w)), none, none, none, none], []⟩ (bodyQ none post) X := by
    intro x y X hx hy hle hp
    have lx := sm_len hw hx
    have ly := sm_len hw hy
    have vx := val_lim hw.pos x
    have vy := val_lim hw.pos y
    have ox := ok_lim hw.pos x
    have oy := ok_lim hw.pos y
    have hB := Nat.two_pow_pos w
    generalize hl : lim w x = l at *
    generalize hm : lim w y = m at *
    unfold s_add_1
    (try simp only [↓Ye, ↓Mq, ↓My, ↓Ka, ↓Kc, ↓Kg, ↓Ko, ↓Mc, ↓Mh, ↓Mi, ↓Mm, ↓Yh, ↓Yl, ↓Yq, ↓Zd, ↓Zh, Fs.put, Fs.puts, Fs.own, bodyQ, bodyR, ↓vA, ↓vB, ↓vC, ↓vD, ↓vH, ↓vI, ↓vJ, vK, true_and, Nat.zero_le, nl, toNat_w, shl_one])
    refine ⟨⟨by (exact Int.natCast_nonneg _), by have := hw.2; (exact Int.ofNat_le.mpr (Nat.le_of_lt (Nat.lt_of_le_of_lt hw.2 (by decide)))), by decide⟩, by (exact Nat.lt_of_le_of_lt ly (by decide)), by unfold small; lia, ?_⟩
    refine for_gen _ (fun i Γ => Ex3 (fun f cy o => Γ = ⟨[some (.d (nl l)), some (.d (nl m)), some (.d (.int w)), some (.c 0), some (.d (.int (cy : Nat))), some (.d (.int (((2 ^ w : Nat) : Int) - 1))), o], [some (f.map fun n : Nat => D.int n)]⟩) (fun f cy o => Al4 (f.length = i) (Ok w f) (cy ≤ 1) (val w f + 2 ^ (w * i) * cy = val w (l.take i) + val w (m.take i)))) ⟨[], 0, none, rfl, rfl, (fun d hd => by cases hd), by (exact Nat.zero_le _), by simp [val]⟩ (fun i d Γ hd hI k hn hc hr => ?_) fun Γ hI => ?_
    · obtain ⟨f, cy, o, rfl, hf, of, hcy, hv⟩ := hI
      obtain ⟨hi, rfl⟩ := rangeD_get hd
      have hi : i < m.length := by simpa using hi
      rw [show (0 : Int) + (i : Int) * 1 = (i : Int) by lia]
      unfold b_add_0
      (try simp only [↓Yd, ↓Ye, ↓Mt, ↓Mu, ↓Ka, ↓Kg, ↓Ky, ↓Yg, ↓Yh, ↓Yl, ↓Zb, ↓Zi, ↓Zj, Fs.put, Fs.setσ, ↓vA, ↓vB, ↓vC, ↓vD, ↓vR, ↓Zm, nl])
      refine wIdx_nat (by (exact Nat.lt_of_le_of_lt lx (by decide))) (by (exact Nat.lt_of_lt_of_le hi hle)) ?_
      refine wIdx_nat (by (exact Nat.lt_of_le_of_lt ly (by decide))) (by omega) ?_
      (try simp only [↓Yh, ↓Zb, vK, vS, true_and, toNat_w])
      have e1 : ((cy : Nat) : Int) + (((l[i]'(by (exact Nat.lt_of_lt_of_le hi hle)) : Nat) : Int) + ((m[i]'(by omega) : Nat) : Int)) = ((cy + (l[i]'(by (exact Nat.lt_of_lt_of_le hi hle)) + m[i]'(by omega)) : Nat) : Int) := by push_cast; rfl
      rw [e1, band_mask, shr_nat, app_one]
      refine ⟨by (exact Nat.lt_trans (Nat.lt_of_lt_of_le (Nat.lt_of_le_of_lt (Nat.le_of_eq hf) hi) ly) (by decide)), by (exact Int.natCast_nonneg _), hn _ ⟨f ++ [(cy + (l[i]'(by (exact Nat.lt_of_lt_of_le hi hle)) + m[i]'(by omega))) % 2 ^ w], (cy + (l[i]'(by (exact Nat.lt_of_lt_of_le hi hle)) + m[i]'(by omega))) / 2 ^ w, _, rfl, by simp [hf], mod_ok of, ?_, ?_⟩⟩
      · have h1 := ox _ (List.getElem_mem (show i < l.length by (exact Nat.lt_of_lt_of_le hi hle)))
        have h2 := oy _ (List.getElem_mem (show i < m.length by omega))
        exact div_one hB (by (clear hB; refine Nat.lt_of_not_le fun h => ?_; lia))
      · rw [step_val hf, val_take_succ (show i < l.length by (exact Nat.lt_of_lt_of_le hi hle)), val_take_succ hi, Nat.mul_add, Nat.mul_add]
        lia
    · obtain ⟨f, cy, o, rfl, hf, of, hcy, hv⟩ := hI
      rw [rangeD_len] at hf hv
      have hf : f.length = m.length := by simpa using hf
      have hv : val w f + 2 ^ (w * m.length) * cy = val w (l.take m.length) + val w m := by simpa using hv
      unfold r_add_0
      (try simp only [↓Ye, ↓My, ↓Ka, ↓Ko, ↓Mn, ↓Yh, ↓Yl, bodyQ, bodyR, ↓vA, ↓vB, vK, nl])
      refine ⟨by (exact Nat.lt_of_le_of_lt ly (by decide)), by (exact Nat.lt_of_le_of_lt lx (by decide)), ⟨by unfold small; lia, by unfold small; lia⟩, ?_⟩
      have hn' : (((l.length : Nat) : Int) - ((m.length : Nat) : Int)).toNat = l.length - m.length := by (clear lx hle; lia)
      rw [hn']
      refine for_gen _ (fun i Γ => Ex3 (fun f cy o => Γ = ⟨[some (.d (nl l)), some (.d (nl m)), some (.d (.int w)), some (.c 0), some (.d (.int (cy : Nat))), some (.d (.int (((2 ^ w : Nat) : Int) - 1))), o], [some (f.map fun n : Nat => D.int n)]⟩) (fun f cy o => Al4 (f.length = m.length + i) (Ok w f) (cy ≤ 1) (val w f + 2 ^ (w * (m.length + i)) * cy = val w (l.take (m.length + i)) + val w m))) ⟨f, cy, o, rfl, by omega, of, hcy, hv⟩ (fun i d Γ hd hI k hn hc hr => ?_) fun Γ hI => ?_
      · obtain ⟨f, cy, o, rfl, hf, of, hcy, hv⟩ := hI
        obtain ⟨hi, rfl⟩ := rangeD_get hd
        rw [show ((m.length : Nat) : Int) + (i : Int) * 1 = ((m.length + i : Nat) : Int) by (clear hv; refine congrArg Nat.cast (?_ : (_ : Nat) = _); lia)]
        unfold b_add_1
        (try simp only [↓Yd, ↓Ye, ↓Mt, ↓Mu, ↓Ka, ↓Kg, ↓Ky, ↓Yg, ↓Yh, ↓Yl, ↓Zb, ↓Zi, ↓Zj, Fs.put, Fs.setσ, ↓vA, ↓vB, ↓vC, ↓vD, ↓vR, ↓Zm, nl])
        refine wIdx_nat (by (exact Nat.lt_of_le_of_lt lx (by decide))) (by (clear hn'; refine Nat.lt_of_not_le fun h => ?_; lia)) ?_
        (try simp only [↓Yh, vK, vS, true_and, toNat_w])
        have e1 : ((cy : Nat) : Int) + ((l[m.length + i]'(by (clear hn'; refine Nat.lt_of_not_le fun h => ?_; lia)) : Nat) : Int) = ((cy + l[m.length + i]'(by (clear hn'; refine Nat.lt_of_not_le fun h => ?_; lia)) : Nat) : Int) := by push_cast; rfl
        rw [e1, band_mask, shr_nat, app_one]
        refine ⟨by (refine Nat.lt_of_not_le fun h => ?_; lia), by (exact Int.natCast_nonneg _), hn _ ⟨f ++ [(cy + l[m.length + i]'(by (refine Nat.lt_of_not_le fun h => ?_; lia))) % 2 ^ w], (cy + l[m.length + i]'(by (refine Nat.lt_of_not_le fun h => ?_; lia))) / 2 ^ w, _, rfl, by simp [hf]; (exact Nat.add_assoc _ _ _), mod_ok of, ?_, ?_⟩⟩
        · have h1 := ox _ (List.getElem_mem (show m.length + i < l.length by (refine Nat.lt_of_not_le fun h => ?_; lia)))
          exact div_one hB (by (clear hB hv e1; refine Nat.lt_of_not_le fun h => ?_; lia))
        · rw [← Nat.add_assoc, step_val hf, val_take_succ (show m.length + i < l.length by (refine Nat.lt_of_not_le fun h => ?_; lia)), Nat.mul_add]
          lia
      · obtain ⟨f, cy, o, rfl, hf, of, hcy, hv⟩ := hI
        rw [rangeD_len] at hf hv
        have e0 : m.length + (l.length - m.length) = l.length := by (clear lx hn'; lia)
        rw [e0] at hf hv
        rw [List.take_length, vx, vy] at hv
        unfold r_add_1
        (try simp only [↓Yd, ↓Ye, ↓Mu, ↓Mw, ↓Ka, ↓Kc, ↓Ki, ↓Yg, ↓Yh, ↓Yi, ↓Yw, Fs.setσ, ↓vA, ↓vB, ↓vC, ↓vR, nl]); (try refine vP ?_)
        have fin : ∀ g, Ok w g → val w g = x + y → (g = [] ∨ 2 ^ (w * (g.length - 1)) ≤ x + y) → post (some (.list (g.map fun n : Nat => D.int n))) none := fun g h1 h2 h3 => by
          have : post (some (nl (lim w (x + y)))) none := hp
          rw [lim_of hw.pos h1 h2 h3] at this
          exact this
        by_cases h0 : cy = 0
        · rw [if_neg (by (exact Int.not_lt.mpr (Int.ofNat_le.mpr (Nat.le_of_eq h0))))]
          (try simp only [↓Ye, ↓Yf, ↓Mz, ↓Ka, Fs.frz, Rv.frz, bodyQ, bodyR, ↓vA, ↓vB, ↓vC, ↓vE, ↓vF, ↓vL])
          refine fin f of (by rw [h0] at hv; simpa using hv) ?_
          by_cases hl0 : l = []
          · left; rw [hl0] at hf; exact List.eq_nil_of_length_eq_zero hf
          · right
            have := len_ge hw.pos (n := x) (by rw [hl]; exact hl0)
            rw [hl] at this
            rw [hf]; (exact Nat.le_trans this (Nat.le_add_right _ _))
        · rw [if_pos (by (exact Int.ofNat_lt.mpr (Nat.pos_of_ne_zero h0)))]
          have hc1 : cy = 1 := by lia
          subst hc1
          (try simp only [↓Ye, ↓Yf, ↓Mz, ↓Ka, ↓Yg, Fs.frz, Rv.frz, bodyQ, bodyR, ↓vA, ↓vB, ↓vC, ↓vE, ↓vF, ↓vL, vK, vS, true_and, ↓reduceIte])
          refine ⟨by (exact Nat.lt_of_le_of_lt (Nat.le_trans (Nat.le_of_eq hf) lx) (by decide)), ?_⟩
          rw [app_one]
          have h1B : 1 < 2 ^ w := Nat.one_lt_two_pow (by have := hw.pos; (exact Nat.ne_of_gt this))
          have hva : val w (f ++ [1]) = x + y := by rw [val_append, hf]; simpa [val] using hv
          refine fin (f ++ [1]) (of.app (Ok.one h1B)) hva (.inr ?_)
          rw [← hva, val_append]
          simp [val]
  show wSs T p_add ⟨[some (.d (nl (lim w x))), some (.d (nl (lim w y))), some (.d (.int w)), none, none, none, none], []⟩ _ _
  have lx := sm_len hw hx
  have ly := sm_len hw hy
  unfold p_add
  (try simp only [↓Yd, ↓Ye, ↓Mq, ↓Mw, ↓Ka, ↓Ki, ↓Ko, ↓Mh, ↓Mi, ↓Yh, ↓Yi, ↓Yl, ↓Yv, Fs.put, Fs.puts, ↓vA, ↓vB, ↓vC, ↓vD, ↓vI, ↓vJ, vK, decide_eq_true_eq, true_and, nl])
  refine ⟨by (exact Nat.lt_of_le_of_lt lx (by decide)), by (exact Nat.lt_of_le_of_lt ly (by decide)), ?_⟩
  by_cases h : (lim w x).length < (lim w y).length
  · rw [if_pos (by (exact Int.ofNat_lt.mpr h))]
    first
      | exact core y x _ hy hx (by (exact Nat.le_of_lt h)) (by rw [Nat.add_comm]; exact hp)
      | exact ⟨by simp, core y x _ hy hx (by (first | lia | omega)) (by rw [Nat.add_comm]; exact hp)⟩
  · rw [if_neg (by (exact Int.not_lt.mpr (Int.ofNat_le.mpr (Nat.le_of_not_lt h))))]
    exact core x y _ hx hy (by (exact Nat.le_of_not_lt h)) hp

end LM

namespace LM

/-- sub. -/
inductive spSub (ds : List D) (c : Option (List D)) (post : Option D → Option (List D) → Prop) : Prop
  | mk : (c = none) → ∀ w x y, (W w) → (sm x) → (y ≤ x) → (ds = [L w x, L w y, .int w]) → (post (some (L w (x - y))) none) → spSub ds c post

theorem len_mono {w x y : Nat} (hw : 0 < w) (h : y ≤ x) : (lim w y).length ≤ (lim w x).length := by
  apply Nat.le_of_not_lt
  intro hlt
  have := lt_of_len hw hlt
  lia
theorem sm_le {x y : Nat} (h : sm x) (hy : y ≤ x) : sm y := Nat.lt_of_le_of_lt hy h

theorem hsp_sub {T : Nat → Option LM.Spec} (h0 : T 0 = some spNormal) (h1 : T 1 = some spCompare) : ∀ ds c post, spSub ds c post → ds.length + (match c with | none => 0 | some _ => 1) = a_sub ∧ wSs T p_sub (entryΓ v_sub.length ds c) (bodyQ c post) (c = none ∧ ∃ c', post none c') := by
  rintro ds c post ⟨rfl, w, x, y, hw, hx, hle, rfl, hp⟩
  refine ⟨rfl, ?_⟩
  have hy := sm_le hx hle
  have lx := sm_len hw hx
  have ly := sm_len hw hy
  have vx := val_lim hw.pos x
  have vy := val_lim hw.pos y
  have ox := ok_lim hw.pos x
  have oy := ok_lim hw.pos y
  have hB := Nat.two_pow_pos w
  have hlen := len_mono hw.pos hle
  show wSs T p_sub ⟨[some (.d (L w x)), some (.d (L w y)), some (.d (.int w)), none, none, none, none, none], []⟩ _ _
  (refine use_of h1 ?_)
  refine ⟨rfl, w, x, y, hw, hx, hy, rfl, ?_⟩
  (try simp only [↓Yd, ↓Ye, ↓Ya, ↓Kc, ↓Yh, ↓Yi, ↓Yv]); (try refine vP ?_)
  rw [if_neg (by split <;> (try split) <;> (first | decide | exact Int.not_lt.mpr (Int.le_refl _) | (refine fun h => ?_; lia) | lia | omega))]
  unfold s_sub_0
  (try simp only [↓Ye, ↓Mq, ↓My, ↓Ka, ↓Kc, ↓Kg, ↓Ko, ↓Mc, ↓Mh, ↓Mi, ↓Mm, ↓Yh, ↓Yl, ↓Yq, ↓Zh, Fs.put, Fs.puts, Fs.own, bodyQ, bodyR, ↓vA, ↓vB, ↓vC, ↓vD, ↓vH, ↓vI, ↓vJ, vK, true_and, Nat.zero_le, L, nl, toNat_w, shl_one])
  refine ⟨⟨by (exact Int.natCast_nonneg _), by have := hw.2; (exact Int.ofNat_le.mpr (Nat.le_of_lt (Nat.lt_of_le_of_lt hw.2 (by decide)))), by decide⟩, by (exact Nat.lt_of_le_of_lt lx (by decide)), by unfold small; (first | lia | omega), ?_⟩
  generalize hl : lim w x = l at *
  generalize hm : lim w y = m at *
  refine for_gen _ (fun i Γ => Ex4 (fun f bw o o' => Γ = ⟨[some (.d (nl l)), some (.d (nl m)), some (.d (.int w)), some (.c 0), some (.d (.int (bw : Nat))), some (.d (.int ((2 ^ w : Nat) : Int))), o, o'], [some (f.map fun n : Nat => D.int n)]⟩) (fun f bw o o' => Al4 (f.length = i) (Ok w f) (bw ≤ 1) (val w f + val w (m.take i) = val w (l.take i) + 2 ^ (w * i) * bw))) ⟨[], 0, none, none, rfl, rfl, (fun d hd => by cases hd), by (exact Nat.zero_le _), by simp [val]⟩ (fun i d Γ hd hI k hn hc hr => ?_) fun Γ hI => ?_
  · obtain ⟨f, bw, o, o', rfl, hf, of, hbw, hv⟩ := hI
    obtain ⟨hi, rfl⟩ := rangeD_get hd
    have hi : i < l.length := by simpa using hi
    rw [show (0 : Int) + (i : Int) * 1 = (i : Int) by lia]
    have ha := ox _ (List.getElem_mem hi)
    -- the limb of the second list here, or nought
    have hbd : ∀ b : Nat, b < 2 ^ w → val w (m.take (i + 1)) = val w (m.take i) + 2 ^ (w * i) * b →
        ∀ kk : Out → Fs → Prop, kk = k → (∀ z : Int, z = ((l[i] : Nat) : Int) - (bw : Nat) - (b : Nat) →
          ∃ g : Nat, g < 2 ^ w ∧ (if z < 0 then z + ((2 ^ w : Nat) : Int) else z) = ((g : Nat) : Int) ∧ val w (f ++ [g]) + val w (m.take (i + 1)) = val w (l.take (i + 1)) + 2 ^ (w * (i + 1)) * (if z < 0 then 1 else 0)) := by
      intro b hb hmv kk _ z hz
      have hpow : 2 ^ (w * (i + 1)) = 2 ^ (w * i) * 2 ^ w := by rw [Nat.mul_succ, Nat.pow_add]
      have hP := Nat.two_pow_pos (w * i)
      generalize hPe : 2 ^ (w * i) = Pw at *
      by_cases hneg : z < 0
      · refine ⟨l[i] + 2 ^ w - bw - b, by (clear vy ly vx hB hle hbw hf hlen hmv hv hPe hP hpow; omega), by rw [if_pos hneg]; (clear hB ha; lia), ?_⟩
        rw [if_pos hneg, val_append, hf, hPe, val_take_succ hi, hPe, hmv, hpow]
        have e1 : l[i] + 2 ^ w = (l[i] + 2 ^ w - bw - b) + bw + b := by lia
        have e2 : Pw * (l[i] + 2 ^ w) = Pw * (l[i] + 2 ^ w - bw - b) + Pw * bw + Pw * b := by rw [← Nat.mul_add, ← Nat.mul_add, ← e1]
        rw [Nat.mul_add] at e2
        simp only [val, Nat.mul_zero, Nat.add_zero, Nat.mul_one]
        (clear hB hb ha hpow; refine Decidable.byContradiction fun h => ?_; lia)
      · refine ⟨l[i] - bw - b, by (clear hB hbw; refine Nat.lt_of_not_le fun h => ?_; lia), by rw [if_neg hneg]; (clear hbw; lia), ?_⟩
        rw [if_neg hneg, val_append, hf, hPe, val_take_succ hi, hPe, hmv]
        have e1 : l[i] = (l[i] - bw - b) + bw + b := by (clear hbw; lia)
        have e2 : Pw * l[i] = Pw * (l[i] - bw - b) + Pw * bw + Pw * b := by rw [← Nat.mul_add, ← Nat.mul_add, ← e1]
        simp only [val, Nat.mul_zero, Nat.add_zero]
        (clear hb ha; lia)
    have hgo : ∀ (X : Prop) (b : Nat), b < 2 ^ w → val w (m.take (i + 1)) = val w (m.take i) + 2 ^ (w * i) * b →
        wSs T (.cons (.assign 4 (.ite (.cmp .lt (.var 7) (.int 0)) (.int 1) (.int 0))) (.cons (.append 3 (.ite (.cmp .lt (.var 7) (.int 0)) (.bin .add (.var 7) (.var 5)) (.var 7))) .nil))
          ⟨[some (.d (nl l)), some (.d (nl m)), some (.d (.int w)), some (.c 0), some (.d (.int (bw : Nat))), some (.d (.int ((2 ^ w : Nat) : Int))), some (.d (.int (i : Int))), some (.d (.int (((l[i] : Nat) : Int) - (bw : Nat) - (b : Nat))))], [some (f.map fun n : Nat => D.int n)]⟩ k X := by
      intro X b hb hmv
      obtain ⟨g, hg, hgz, hgv⟩ := hbd b hb hmv k rfl _ rfl
      (try simp only [↓Yd, ↓Ye, ↓Mp, ↓Mu, ↓Ka, ↓Kc, ↓Kg, ↓Ki, ↓Kn, ↓Yg, ↓Yh, ↓Yi, ↓Zb, ↓Yv, Fs.put, Fs.setσ, ↓vA, ↓vB, ↓vC, ↓vD, ↓vR]); (try refine vP ?_)
      by_cases hneg : ((l[i] : Nat) : Int) - (bw : Nat) - (b : Nat) < 0
      · rw [if_pos hneg] at hgz hgv
        rw [if_pos hneg]
        (try simp only [vK, decide_eq_true_eq, vS, true_and])
        rw [if_pos hneg]
        rw [hgz, app_one]
        exact ⟨by (exact Nat.lt_trans (Nat.lt_of_lt_of_le (Nat.lt_of_le_of_lt (Nat.le_of_eq hf) hi) lx) (by decide)), hn _ ⟨f ++ [g], 1, _, _, rfl, by simp [hf], of.app (Ok.one hg), by (exact Nat.le_refl _), hgv⟩⟩
      · rw [if_neg hneg] at hgz hgv
        rw [if_neg hneg]
        (try simp only [vK, decide_eq_true_eq, vS, true_and])
        rw [if_neg hneg]
        rw [hgz, app_one]
        exact ⟨by (exact Nat.lt_trans (Nat.lt_of_lt_of_le (Nat.lt_of_le_of_lt (Nat.le_of_eq hf) hi) lx) (by decide)), hn _ ⟨f ++ [g], 0, _, _, rfl, by simp [hf], of.app (Ok.one hg), by (exact Nat.zero_le _), hgv⟩⟩
    unfold b_sub_0
    generalize hrest : PSs.cons (.assign 4 (.ite (.cmp .lt (.var 7) (.int 0)) (.int 1) (.int 0))) (.cons (.append 3 (.ite (.cmp .lt (.var 7) (.int 0)) (.bin .add (.var 7) (.var 5)) (.var 7))) .nil) = rest at hgo ⊢
    (try simp only [↓Ye, ↓Mp, ↓Ka, ↓Kc, ↓Kg, ↓Ki, ↓Kn, ↓Ko, ↓Ky, ↓Yh, ↓Yi, ↓Yl, ↓Zd, ↓Yv, Fs.put, ↓vA, ↓vB, ↓vC, ↓vD, ↓Zm, nl])
    refine wIdx_nat (by (exact Nat.lt_of_le_of_lt lx (by decide))) (by omega) ?_
    (try simp only [↓Yh, vK, decide_eq_true_eq])
    refine ⟨by (exact Nat.lt_of_le_of_lt ly (by decide)), ?_⟩
    by_cases him : i < m.length
    · rw [if_pos (by (exact Int.ofNat_lt.mpr him))]
      refine wIdx_nat (by (exact Nat.lt_of_le_of_lt ly (by decide))) (by omega) ?_
      exact hgo _ _ (oy _ (List.getElem_mem him)) (val_take_succ him)
    · rw [if_neg (by (exact Int.not_lt.mpr (Int.ofNat_le.mpr (Nat.le_of_not_lt him))))]
      exact hgo _ 0 hB (by rw [List.take_of_length_le (by (exact Nat.le_trans (Nat.le_of_not_lt him) (Nat.le_add_right _ _))), List.take_of_length_le (by (exact Nat.le_of_not_lt him))]; simp)
  · obtain ⟨f, bw, o, o', rfl, hf, of, hbw, hv⟩ := hI
    rw [rangeD_len] at hf hv
    have hf : f.length = l.length := by simpa using hf
    have hv : val w f + val w (m.take l.length) = val w l + 2 ^ (w * l.length) * bw := by simpa using hv
    rw [List.take_of_length_le hlen, vx, vy] at hv
    have hlt := val_lt of
    rw [hf] at hlt
    have hb0 : bw = 0 := by
      rcases Nat.eq_zero_or_pos bw with h | h
      · exact h
      · have : bw = 1 := by lia
        subst this
        (refine Decidable.byContradiction fun h => ?_; lia)
    subst hb0
    (refine use_of h0 ?_)
    refine ⟨rfl, w, f, hw, of, by (exact Nat.le_of_lt (Nat.lt_of_le_of_lt (Nat.le_trans (Nat.le_of_eq hf) lx) (by decide))), rfl, ?_⟩
    have e : val w f = x - y := by (clear hp hle; lia)
    rw [e]
    exact hp

end LM

namespace LM

theorem bor_nat (x y : Nat) : Builtin.bitOr (x : Int) (y : Int) = ((x ||| y : Nat) : Int) := by
  unfold Builtin.bitOr
  have hx : ¬ (0 : Int) ≤ Builtin.bitNot (x : Int) := by unfold Builtin.bitNot; lia
  have hy : ¬ (0 : Int) ≤ Builtin.bitNot (y : Int) := by unfold Builtin.bitNot; lia
  rw [bitAnd_nn hx hy, bitNot_bitNot, bitNot_bitNot, bitNot_bitNot]
  simp
theorem or_shift {x y n : Nat} (h : y < 2 ^ n) : (x * 2 ^ n) ||| y = x * 2 ^ n + y := by
  rw [Nat.mul_comm]; exact (Nat.two_pow_add_eq_or_of_lt h x).symm
theorem bor_shift {x y n : Nat} (h : y < 2 ^ n) : Builtin.bitOr ((x * 2 ^ n : Nat) : Int) (y : Int) = ((x * 2 ^ n + y : Nat) : Int) := by rw [bor_nat, or_shift h]
theorem bor_shift' {x y n : Nat} (h : y < 2 ^ n) : Builtin.bitOr (y : Int) ((x * 2 ^ n : Nat) : Int) = ((x * 2 ^ n + y : Nat) : Int) := by rw [bor_nat, Nat.or_comm, or_shift h]

theorem set_nat {g : List Nat} {j v : Nat} : (g.map fun n : Nat => D.int n).set j (.int ((v : Nat) : Int)) = (g.set j v).map fun n : Nat => D.int n := by simp [List.map_set]

/-- add_limb. -/
inductive spAddLimb (ds : List D) (c : Option (List D)) (post : Option D → Option (List D) → Prop) : Prop
  | mk : (c = none) → ∀ w x k, (W w) → (sm x) → (k < 2 ^ w) → (ds = [L w x, .int ((k : Nat) : Int), .int w]) → (post (some (L w (x + k))) none) → spAddLimb ds c post

theorem map_get {l : List Nat} {i : Nat} {d : D} (h : (l.map fun n : Nat => D.int n)[i]? = some d) : ∃ hi : i < l.length, d = .int ((l[i] : Nat) : Int) := by
  have hi := (List.getElem?_eq_some_iff.mp h).1
  simp at hi
  refine ⟨hi, ?_⟩
  rw [nl_get hi] at h
  exact (Option.some.inj h).symm

theorem hsp_add_limb {T : Nat → Option LM.Spec} : ∀ ds c post, spAddLimb ds c post → ds.length + (match c with | none => 0 | some _ => 1) = a_add_limb ∧ wSs T p_add_limb (entryΓ v_add_limb.length ds c) (bodyQ c post) (c = none ∧ ∃ c', post none c') := by
  rintro ds c post ⟨rfl, w, x, k0, hw, hx, hk, rfl, hp⟩
  refine ⟨rfl, ?_⟩
  have lx := sm_len hw hx
  have vx := val_lim hw.pos x
  have ox := ok_lim hw.pos x
  have hB := Nat.two_pow_pos w
  have hB2 := B_ge hw
  show wSs T p_add_limb ⟨[some (.d (L w x)), some (.d (.int ((k0 : Nat) : Int))), some (.d (.int w)), none, none, none], []⟩ _ _
  unfold p_add_limb
  (try simp only [↓Ye, ↓Mq, ↓My, ↓Ka, ↓Kc, ↓Kg, ↓Mc, ↓Mh, ↓Mi, ↓Mj, ↓Yg, ↓Yh, ↓Yq, ↓Zd, ↓Zh, Fs.put, Fs.puts, Fs.own, bodyQ, bodyR, ↓vA, ↓vB, ↓vC, ↓vD, ↓vH, ↓vI, ↓vJ, true_and, Nat.zero_le, L, nl, toNat_w, shl_one])
  repeat ((with_reducible apply And.intro); · ((repeat' (with_reducible apply And.intro)) <;> first | (first | decide | exact Int.natCast_nonneg _ | lia | omega) | (unfold small; (first | lia | omega)) | (have := hw.2; (exact Int.ofNat_le.mpr (Nat.le_of_lt (Nat.lt_of_le_of_lt hw.2 (by decide))))) | decide | trivial | (simp; (first | lia | omega))))
  generalize hl : lim w x = l at *
  refine for_gen _ (fun i Γ => Ex3 (fun f cy o => Γ = ⟨[some (.d (nl l)), some (.d (.int ((cy : Nat) : Int))), some (.d (.int w)), some (.c 0), some (.d (.int (((2 ^ w : Nat) : Int) - 1))), o], [some (f.map fun n : Nat => D.int n)]⟩) (fun f cy o => Al4 (f.length = i) (Ok w f) (cy < 2 ^ w) (val w f + 2 ^ (w * i) * cy = val w (l.take i) + k0))) ⟨[], k0, none, rfl, rfl, (fun d hd => by cases hd), hk, by simp [val]⟩ (fun i d Γ hd hI k hn hc hr => ?_) fun Γ hI => ?_
  · obtain ⟨f, cy, o, rfl, hf, of, hcy, hv⟩ := hI
    obtain ⟨hi, rfl⟩ := map_get hd
    have ha := ox _ (List.getElem_mem hi)
    unfold b_add_limb_0
    (try simp only [↓Yd, ↓Ye, ↓Mt, ↓Mu, ↓Ka, ↓Kg, ↓Yg, ↓Yh, ↓Zb, ↓Zi, ↓Zj, Fs.put, Fs.setσ, ↓vA, ↓vB, ↓vC, ↓vD, ↓vR, vK, vS, true_and, ↓Zm, nl, toNat_w])
    have e1 : ((cy : Nat) : Int) + ((l[i] : Nat) : Int) = ((cy + l[i] : Nat) : Int) := by push_cast; rfl
    rw [e1, band_mask, shr_nat, app_one]
    refine ⟨by (exact Nat.lt_trans (Nat.lt_of_lt_of_le (Nat.lt_of_le_of_lt (Nat.le_of_eq hf) hi) lx) (by decide)), by (exact Int.natCast_nonneg _), hn _ ⟨f ++ [(cy + l[i]) % 2 ^ w], (cy + l[i]) / 2 ^ w, _, rfl, by simp [hf], mod_ok of, ?_, ?_⟩⟩
    · have := div_one hB (show cy + l[i] < 2 * 2 ^ w by (clear hB2 hB hk; refine Nat.lt_of_not_le fun h => ?_; lia))
      (exact Nat.lt_of_lt_of_le (Nat.lt_of_le_of_lt this (by decide)) hB2)
    · rw [step_val hf, val_take_succ hi, Nat.mul_add]
      lia
  · obtain ⟨f, cy, o, rfl, hf, of, hcy, hv⟩ := hI
    have hf : f.length = l.length := by simpa using hf
    have hv : val w f + 2 ^ (w * l.length) * cy = x + k0 := by simpa [vx] using hv
    unfold r_add_limb_0
    (try simp only [↓Yd, ↓Ye, ↓Mu, ↓Mw, ↓Ka, ↓Kc, ↓Ki, ↓Yg, ↓Yh, ↓Yi, ↓Yw, Fs.setσ, ↓vA, ↓vB, ↓vC, ↓vR, nl]); (try refine vP ?_)
    have fin : ∀ g, Ok w g → val w g = x + k0 → (g = [] ∨ 2 ^ (w * (g.length - 1)) ≤ x + k0) → post (some (.list (g.map fun n : Nat => D.int n))) none := fun g h1 h2 h3 => by
      have : post (some (nl (lim w (x + k0)))) none := hp
      rw [lim_of hw.pos h1 h2 h3] at this
      exact this
    by_cases h0 : cy = 0
    · rw [if_neg (by (exact Int.not_lt.mpr (Int.ofNat_le.mpr (Nat.le_of_eq h0))))]
      (try simp only [↓Ye, ↓Yf, ↓Mz, ↓Ka, Fs.frz, Rv.frz, bodyQ, bodyR, ↓vA, ↓vB, ↓vC, ↓vE, ↓vF, ↓vL])
      refine fin f of (by rw [h0] at hv; simpa using hv) ?_
      by_cases hl0 : l = []
      · left; rw [hl0] at hf; exact List.eq_nil_of_length_eq_zero hf
      · right
        have := len_ge hw.pos (n := x) (by rw [hl]; exact hl0)
        rw [hl] at this
        rw [hf]; (exact Nat.le_trans this (Nat.le_add_right _ _))
    · rw [if_pos (by (exact Int.ofNat_lt.mpr (Nat.pos_of_ne_zero h0)))]
      (try simp only [↓Ye, ↓Yf, ↓Mz, ↓Ka, ↓Yg, Fs.frz, Rv.frz, bodyQ, bodyR, ↓vA, ↓vB, ↓vC, ↓vE, ↓vF, ↓vL, vK, vS, true_and, ↓reduceIte])
      refine ⟨by (exact Nat.lt_of_le_of_lt (Nat.le_trans (Nat.le_of_eq hf) lx) (by decide)), ?_⟩
      rw [app_one]
      have hva : val w (f ++ [cy]) = x + k0 := by rw [val_append, hf]; simpa [val] using hv
      refine fin (f ++ [cy]) (of.app (Ok.one hcy)) hva (.inr ?_)
      rw [← hva, val_append]
      simp [val]
      have : 2 ^ (w * f.length) * 1 ≤ 2 ^ (w * f.length) * cy := Nat.mul_le_mul_left _ (by lia)
      (clear hf hcy; lia)

/-- divrem_limb. -/
inductive spDivLimb (ds : List D) (c : Option (List D)) (post : Option D → Option (List D) → Prop) : Prop
  | mk : (c = none) → ∀ w x k, (W w) → (sm x) → (0 < k) → (k < 2 ^ w) → (ds = [L w x, .int ((k : Nat) : Int), .int w]) → (post (some (.tup [L w (x / k), .int ((x % k : Nat) : Int)])) none) → spDivLimb ds c post

theorem hsp_divrem_limb {T : Nat → Option LM.Spec} (h0 : T 0 = some spNormal) : ∀ ds c post, spDivLimb ds c post → ds.length + (match c with | none => 0 | some _ => 1) = a_divrem_limb ∧ wSs T p_divrem_limb (entryΓ v_divrem_limb.length ds c) (bodyQ c post) (c = none ∧ ∃ c', post none c') := by
  rintro ds c post ⟨rfl, w, x, k0, hw, hx, hk0, hk, rfl, hp⟩
  refine ⟨rfl, ?_⟩
  have lx := sm_len hw hx
  have vx := val_lim hw.pos x
  have ox := ok_lim hw.pos x
  have hB := Nat.two_pow_pos w
  have hB3 := B_le hw
  show wSs T p_divrem_limb ⟨[some (.d (L w x)), some (.d (.int ((k0 : Nat) : Int))), some (.d (.int w)), none, none, none], []⟩ _ _
  unfold p_divrem_limb
  (try simp only [↓Yd, ↓Ye, ↓Mw, ↓Ya, ↓Ka, ↓Kc, ↓Ki, ↓Yi, ↓Yz, ↓Ys, ↓vA, ↓vB, decide_eq_true_eq, true_and, L, nl, toNat_w, shl_one])
  rw [if_neg (by (exact Int.ne_of_gt (Int.ofNat_lt.mpr hk0)))]
  unfold s_divrem_limb_0
  (try simp only [↓Ye, ↓Mq, ↓My, ↓Ka, ↓Kc, ↓Kd, ↓Kg, ↓Ko, ↓Me, ↓Mh, ↓Mi, ↓Mo, ↓Yg, ↓Yh, ↓Yl, ↓Zd, Fs.put, Fs.puts, Fs.own, bodyQ, bodyR, ↓vA, ↓vC, ↓vD, ↓vH, ↓vI, ↓vJ, vK, true_and, L, nl, toNat_w, shl_one])
  generalize hl : lim w x = l at *
  repeat ((with_reducible apply And.intro); · ((repeat' (with_reducible apply And.intro)) <;> first | (first | decide | exact Int.natCast_nonneg _ | exact Nat.lt_of_le_of_lt lx (by decide) | lia | omega) | (unfold small; (first | decide | (constructor <;> first | (refine Int.lt_of_not_ge fun h => ?_; lia) | (refine Nat.lt_of_not_le fun h => ?_; lia) | lia) | lia | omega)) | (have := hw.2; (first | lia | omega)) | decide | trivial | (simp; (first | lia | omega))))
  rw [rangeN_down]
  refine for_gen _ (fun i Γ => Ex3 (fun g r o => Γ = ⟨[some (.d (nl l)), some (.d (.int ((k0 : Nat) : Int))), some (.d (.int w)), some (.c 0), some (.d (.int ((r : Nat) : Int))), o], [some (g.map fun n : Nat => D.int n)]⟩) (fun g r o => Al4 (g.length = l.length) (Ok w g) (r < k0) (val w (l.drop (l.length - i)) = val w (g.drop (l.length - i)) * k0 + r))) ⟨List.replicate l.length 0, 0, none, by simp [nl], by simp, (fun d hd => by rw [List.eq_of_mem_replicate hd]; exact hB), hk0, by simp [val]⟩ (fun i d Γ hd hI k hn hc hr => ?_) fun Γ hI => ?_
  · obtain ⟨g, r, o, rfl, hg, og, hr0, hv⟩ := hI
    obtain ⟨hi, rfl⟩ := rangeD_get hd
    obtain ⟨j, hj⟩ : ∃ j, j = l.length - 1 - i := ⟨_, rfl⟩
    have e : ((l.length : Nat) : Int) - 1 + (i : Int) * -1 = (j : Int) := by lia
    rw [e]
    have hjl : j < l.length := by (clear hd hj; refine Nat.lt_of_not_le fun h => ?_; lia)
    have ha := ox _ (List.getElem_mem hjl)
    unfold b_divrem_limb_0
    (try simp only [↓Yd, ↓Ye, ↓Mp, ↓Ms, ↓Mt, ↓Ka, ↓Kg, ↓Ky, ↓Yg, ↓Yh, ↓Yl, ↓Zf, ↓Zg, ↓Zh, ↓Zk, Fs.put, Fs.setσ, ↓vA, ↓vB, ↓vC, ↓vD, vK, ↓Zm, nl, toNat_w, shl_nat])
    refine ⟨⟨by (exact Int.natCast_nonneg _), by have := hw.2; (exact Int.ofNat_le.mpr (Nat.le_of_lt (Nat.lt_of_le_of_lt hw.2 (by decide)))), by (refine Nat.lt_of_not_le fun h => ?_; lia)⟩, wIdx_nat (by (exact Nat.lt_of_le_of_lt lx (by decide))) hjl ?_⟩
    (try simp only [↓Yh])
    rw [bor_shift ha]
    refine ⟨⟨by (exact Int.ne_of_gt (Int.ofNat_lt.mpr hk0)), by (clear hr0 hk0; refine Nat.lt_of_not_le fun h => ?_; lia)⟩, by (clear e hj; constructor <;> lia), by (exact Int.ne_of_gt (Int.ofNat_lt.mpr hk0)), ?_⟩
    rw [fdiv_nat, fmod_nat]
    rw [set_nat]
    have hq : (r * 2 ^ w + l[j]) / k0 < 2 ^ w := by
      rw [Nat.div_lt_iff_lt_mul hk0]
      have : r * 2 ^ w + 2 ^ w ≤ k0 * 2 ^ w := by rw [← Nat.succ_mul]; exact Nat.mul_le_mul_right _ hr0
      rw [Nat.mul_comm (2 ^ w) k0]
      (clear hB3 hB hk; refine Nat.lt_of_not_le fun h => ?_; lia)
    repeat ((with_reducible apply And.intro); · ((repeat' (with_reducible apply And.intro)) <;> first | (first | lia | omega) | (unfold small; (first | lia | omega)) | (have := hw.2; (first | lia | omega)) | decide | trivial | (simp; (first | lia | omega))))
    refine hn _ ⟨_, _, _, rfl, by simp [hg], fun d hd => ?_, Nat.mod_lt _ hk0, ?_⟩
    · rcases List.mem_or_eq_of_mem_set hd with h | h
      · exact og d h
      · rw [h]; exact hq
    · have e1 : l.length - (i + 1) = j := by lia
      have e2 : l.length - i = j + 1 := by (clear hj hd; lia)
      rw [e1]
      rw [e2] at hv
      rw [List.drop_eq_getElem_cons hjl, List.drop_eq_getElem_cons (show j < (g.set j ((r * 2 ^ w + l[j]) / k0)).length by simp; (exact Nat.lt_of_lt_of_le hjl (Nat.le_of_eq hg.symm)))]
      rw [List.getElem_set_self, List.drop_set_of_lt (by (exact Nat.lt_succ_self _))]
      simp only [val]
      rw [hv, Nat.add_mul, Nat.mul_add]
      have e3 := Nat.div_add_mod (r * 2 ^ w + l[j]) k0
      have e4 : (r * 2 ^ w + l[j]) / k0 * k0 = k0 * ((r * 2 ^ w + l[j]) / k0) := Nat.mul_comm _ _
      have e5 : r * 2 ^ w = 2 ^ w * r := Nat.mul_comm _ _
      rw [Nat.mul_assoc]
      (clear hB3 hB hk; lia)
  · obtain ⟨g, r, o, rfl, hg, og, hr0, hv⟩ := hI
    rw [rangeD_len, Nat.sub_self, List.drop_zero, List.drop_zero, vx] at hv
    (refine use_of h0 ?_)
    refine ⟨rfl, w, g, hw, og, by (exact Nat.le_of_lt (Nat.lt_of_le_of_lt (Nat.le_trans (Nat.le_of_eq hg) lx) (by decide))), rfl, ?_⟩
    (try simp only [↓Ka, ↓Mh, ↓Mi, ↓Yg, ↓Yq, ↓Yr, Fs.frz, Rv.frz, bodyQ, bodyR, ↓vA, ↓vB, ↓vC, ↓vE, ↓vF, ↓vI, ↓vJ, ↓vL])
    refine ⟨by decide, ?_⟩
    have hd : x / k0 = val w g := by
      rw [hv, Nat.add_comm, Nat.add_mul_div_right _ _ hk0, Nat.div_eq_of_lt hr0, Nat.zero_add]
    have hm : x % k0 = r := by
      rw [hv, Nat.add_comm, Nat.add_mul_mod_self_right, Nat.mod_eq_of_lt hr0]
    rw [hd, hm] at hp
    exact hp

/-- shift_left, by less than a limb. -/
inductive spShl (ds : List D) (c : Option (List D)) (post : Option D → Option (List D) → Prop) : Prop
  | mk : (c = none) → ∀ w x n, (W w) → (sm x) → (n < w) → (ds = [L w x, .int ((n : Nat) : Int), .int w]) → (post (some (L w (x * 2 ^ n))) none) → spShl ds c post

theorem hsp_shift_left {T : Nat → Option LM.Spec} : ∀ ds c post, spShl ds c post → ds.length + (match c with | none => 0 | some _ => 1) = a_shift_left ∧ wSs T p_shift_left (entryΓ v_shift_left.length ds c) (bodyQ c post) (c = none ∧ ∃ c', post none c') := by
  rintro ds c post ⟨rfl, w, x, n, hw, hx, hn0, rfl, hp⟩
  refine ⟨rfl, ?_⟩
  have lx := sm_len hw hx
  have vx := val_lim hw.pos x
  have ox := ok_lim hw.pos x
  have hB := Nat.two_pow_pos w
  have hN := Nat.two_pow_pos n
  have hw8 := hw.2
  show wSs T p_shift_left ⟨[some (.d (L w x)), some (.d (.int ((n : Nat) : Int))), some (.d (.int w)), none, none, none, none, none, none], []⟩ _ _
  unfold p_shift_left
  (try simp only [↓Yd, ↓Ye, ↓Mw, ↓Mz, ↓Ka, ↓Kc, ↓Ki, ↓Ko, ↓Mb, ↓Mh, ↓Yg, ↓Yi, ↓Yl, ↓Yq, ↓Yz, ↓Ys, bodyQ, bodyR, ↓vA, ↓vJ, vK, decide_eq_true_eq, true_and, Nat.zero_le, L, nl, toNat_w, shl_one])
  refine ⟨by (exact Nat.lt_of_le_of_lt lx (by decide)), ?_⟩
  by_cases hx0 : (lim w x).length = 0
  · rw [if_pos (by (refine congrArg Nat.cast (?_ : (_ : Nat) = _); lia))]
    have : x = 0 := (lim_len_zero hw.pos).mp hx0
    subst this
    simp only [Nat.zero_mul, L, lim_zero, nl, List.map_nil] at hp
    repeat ((with_reducible apply And.intro); · ((repeat' (with_reducible apply And.intro)) <;> first | (first | lia | omega) | (unfold small; (first | lia | omega)) | (have := hw.2; (first | lia | omega)) | decide | trivial | (simp; (first | lia | omega))))
    exact hp
  rw [if_neg (by (exact Int.ne_of_gt (Int.ofNat_lt.mpr (Nat.pos_of_ne_zero hx0))))]
  unfold s_shift_left_1
  (try simp only [↓Ye, ↓Mq, ↓My, ↓Ka, ↓Kc, ↓Kg, ↓Me, ↓Mh, ↓Mi, ↓Mj, ↓Yg, ↓Yh, ↓Zd, ↓Zf, ↓Zg, ↓Zh, Fs.put, Fs.puts, Fs.own, bodyQ, bodyR, ↓vA, ↓vB, ↓vC, ↓vD, ↓vH, ↓vI, ↓vJ, true_and, L, nl, toNat_w, shl_one, fdiv_nat, fmod_nat, Nat.div_eq_of_lt hn0, Nat.mod_eq_of_lt hn0])
  repeat ((with_reducible apply And.intro); · ((repeat' (with_reducible apply And.intro)) <;> first | (first | decide | exact Int.natCast_nonneg _ | exact Int.ofNat_le.mpr (Nat.le_of_lt (Nat.lt_of_le_of_lt hw.2 (by decide))) | exact Int.ne_of_gt (Int.ofNat_lt.mpr (Nat.lt_of_le_of_lt (Nat.zero_le _) hn0)) | (refine Nat.lt_of_not_le fun h => ?_; lia) | lia | omega) | (unfold small; (first | lia | omega)) | (have := hw.2; (first | lia | omega)) | decide | trivial | (simp; (first | lia | omega))))
  generalize hl : lim w x = l at *
  refine for_gen _ (fun i Γ => Ex3 (fun f cy o => Γ = ⟨[some (.d (nl l)), some (.d (.int ((n : Nat) : Int))), some (.d (.int w)), some (.d (.int ((0 : Nat) : Int))), some (.d (.int ((n : Nat) : Int))), some (.c 0), some (.d (.int ((cy : Nat) : Int))), some (.d (.int (((2 ^ w : Nat) : Int) - 1))), o], [some (f.map fun n : Nat => D.int n)]⟩) (fun f cy o => Al4 (f.length = i) (Ok w f) (cy < 2 ^ n) (val w f + 2 ^ (w * i) * cy = val w (l.take i) * 2 ^ n))) ⟨[], 0, none, by simp [nl], rfl, (fun d hd => by cases hd), hN, by simp [val]⟩ (fun i d Γ hd hI k hn hc hr => ?_) fun Γ hI => ?_
  · obtain ⟨f, cy, o, rfl, hf, of, hcy, hv⟩ := hI
    obtain ⟨hi, rfl⟩ := map_get hd
    have ha := ox _ (List.getElem_mem hi)
    have hB3 := B_le hw
    unfold b_shift_left_0
    (try simp only [↓Yd, ↓Ye, ↓Mt, ↓Mu, ↓Ka, ↓Kg, ↓Yg, ↓Yh, ↓Zh, ↓Zi, ↓Zj, ↓Zk, Fs.put, Fs.setσ, ↓vA, ↓vB, ↓vC, ↓vD, ↓vR, vK, vS, true_and, ↓Zm, nl, toNat_w, shl_nat])
    refine ⟨⟨by (exact Int.natCast_nonneg _), by (exact Int.ofNat_le.mpr (Nat.le_of_lt (Nat.lt_trans (Nat.lt_of_lt_of_le hn0 hw.2) (by decide)))), by (clear hB; refine Nat.lt_of_not_le fun h => ?_; lia)⟩, ?_⟩
    rw [bor_shift' hcy, band_mask, shr_nat, app_one]
    refine ⟨by (exact Nat.lt_trans (Nat.lt_of_lt_of_le (Nat.lt_of_le_of_lt (Nat.le_of_eq hf) hi) lx) (by decide)), by (exact Int.natCast_nonneg _), hn _ ⟨f ++ [(l[i] * 2 ^ n + cy) % 2 ^ w], (l[i] * 2 ^ n + cy) / 2 ^ w, _, rfl, by simp [hf], mod_ok of, ?_, ?_⟩⟩
    · rw [Nat.div_lt_iff_lt_mul hB, Nat.mul_comm (2 ^ n)]
      have : l[i] * 2 ^ n + 2 ^ n ≤ 2 ^ w * 2 ^ n := by rw [← Nat.succ_mul]; exact Nat.mul_le_mul_right _ ha
      (clear hN hp; refine Nat.lt_of_not_le fun h => ?_; lia)
    · rw [step_val hf, val_take_succ hi, Nat.mul_add, Nat.add_mul, Nat.mul_assoc]
      lia
  · obtain ⟨f, cy, o, rfl, hf, of, hcy, hv⟩ := hI
    have hf : f.length = l.length := by simpa using hf
    have hv : val w f + 2 ^ (w * l.length) * cy = x * 2 ^ n := by simpa [vx] using hv
    unfold r_shift_left_0
    (try simp only [↓Yd, ↓Ye, ↓Mu, ↓Mw, ↓Ka, ↓Kc, ↓Ki, ↓Yg, ↓Yh, ↓Yi, ↓Yw, Fs.setσ, ↓vA, ↓vB, ↓vC, ↓vR, nl]); (try refine vP ?_)
    have hxn : x ≤ x * 2 ^ n := Nat.le_mul_of_pos_right _ hN
    have fin : ∀ g, Ok w g → val w g = x * 2 ^ n → (g = [] ∨ 2 ^ (w * (g.length - 1)) ≤ x * 2 ^ n) → post (some (.list (g.map fun n : Nat => D.int n))) none := fun g h1 h2 h3 => by
      have : post (some (nl (lim w (x * 2 ^ n)))) none := hp
      rw [lim_of hw.pos h1 h2 h3] at this
      exact this
    by_cases h0 : cy = 0
    · rw [if_neg (by (exact Int.not_lt.mpr (Int.ofNat_le.mpr (Nat.le_of_eq h0))))]
      (try simp only [↓Ye, ↓Yf, ↓Mz, ↓Ka, Fs.frz, Rv.frz, bodyQ, bodyR, ↓vA, ↓vB, ↓vC, ↓vE, ↓vF, ↓vL])
      refine fin f of (by rw [h0] at hv; simpa using hv) ?_
      right
      have := len_ge hw.pos (n := x) (by rw [hl]; intro e; rw [e] at hx0; exact hx0 rfl)
      rw [hl] at this
      rw [hf]; (exact Nat.le_trans this hxn)
    · rw [if_pos (by (exact Int.ofNat_lt.mpr (Nat.pos_of_ne_zero h0)))]
      (try simp only [↓Ye, ↓Yf, ↓Mz, ↓Ka, ↓Yg, Fs.frz, Rv.frz, bodyQ, bodyR, ↓vA, ↓vB, ↓vC, ↓vE, ↓vF, ↓vL, vK, vS, true_and, ↓reduceIte])
      refine ⟨by (exact Nat.lt_of_le_of_lt (Nat.le_trans (Nat.le_of_eq hf) lx) (by decide)), ?_⟩
      rw [app_one]
      have hva : val w (f ++ [cy]) = x * 2 ^ n := by rw [val_append, hf]; simpa [val] using hv
      have hcw : cy < 2 ^ w := Nat.lt_of_lt_of_le hcy (Nat.pow_le_pow_right (by decide) (by (exact Nat.le_of_lt hn0)))
      refine fin (f ++ [cy]) (of.app (Ok.one hcw)) hva (.inr ?_)
      rw [← hva, val_append]
      simp [val]
      have : 2 ^ (w * f.length) * 1 ≤ 2 ^ (w * f.length) * cy := Nat.mul_le_mul_left _ (by lia)
      (clear hf hcy; lia)

/-- shift_right, by less than a limb, of limbs in whatever form. -/
inductive spShr (ds : List D) (c : Option (List D)) (post : Option D → Option (List D) → Prop) : Prop
  | mk : (c = none) → ∀ w x n, (W w) → (sm x) → (n < w) → (ds = [L w x, .int ((n : Nat) : Int), .int w]) → (post (some (L w (x / 2 ^ n))) none) → spShr ds c post

theorem div_take {w i : Nat} {l : List Nat} (ho : Ok w l) (h : i ≤ l.length) : val w l / 2 ^ (w * i) = val w (l.drop i) := by
  rw [val_drop l i, List.length_take, Nat.min_eq_left h, Nat.add_mul_div_left _ _ (Nat.two_pow_pos _)]
  have := val_lt (ok_take (n := i) ho)
  rw [List.length_take, Nat.min_eq_left h] at this
  rw [Nat.div_eq_of_lt this, Nat.zero_add]

/-- one limb of a shift: its own upper bits and the lower bits of the limb above. -/
theorem shr_limb {w n a r ab : Nat} (hn : n < w) (ha : a < 2 ^ w) (hab : ab = r % 2 ^ w) : ((a / 2 ^ n) ||| (ab * 2 ^ (w - n))) % 2 ^ w = ((a + 2 ^ w * r) / 2 ^ n) % 2 ^ w := by
  have hp : 2 ^ w = 2 ^ n * 2 ^ (w - n) := by rw [← Nat.pow_add]; congr 1; lia
  have h1 : a / 2 ^ n < 2 ^ (w - n) := by rw [Nat.div_lt_iff_lt_mul (Nat.two_pow_pos n), Nat.mul_comm, ← hp]; exact ha
  rw [Nat.or_comm, or_shift h1]
  have h2 : (a + 2 ^ w * r) / 2 ^ n = a / 2 ^ n + 2 ^ (w - n) * r := by
    rw [hp, Nat.mul_assoc, Nat.add_mul_div_left _ _ (Nat.two_pow_pos n)]
  rw [h2, Nat.add_comm (a / 2 ^ n), Nat.add_mod, Nat.add_mod (2 ^ (w - n) * r)]
  congr 2
  subst hab
  rw [Nat.mul_comm (2 ^ (w - n)) r, Nat.mul_mod, Nat.mod_mod, ← Nat.mul_mod]

theorem hsp_shift_right {T : Nat → Option LM.Spec} (h0 : T 0 = some spNormal) : ∀ ds c post, spShr ds c post → ds.length + (match c with | none => 0 | some _ => 1) = a_shift_right ∧ wSs T p_shift_right (entryΓ v_shift_right.length ds c) (bodyQ c post) (c = none ∧ ∃ c', post none c') := by
  rintro ds c post ⟨rfl, w, x, n, hw, hx, hn0, rfl, hp⟩
  refine ⟨rfl, ?_⟩
  have lx := sm_len hw hx
  have vx := val_lim hw.pos x
  have ox := ok_lim hw.pos x
  have hB := Nat.two_pow_pos w
  have hN := Nat.two_pow_pos n
  have hw8 := hw.2
  have hB3 := B_le hw
  show wSs T p_shift_right ⟨[some (.d (L w x)), some (.d (.int ((n : Nat) : Int))), some (.d (.int w)), none, none, none, none, none, none], []⟩ _ _
  unfold p_shift_right
  (try simp only [↓Ye, ↓Mq, ↓My, ↓Ka, ↓Kc, ↓Kg, ↓Ko, ↓Mc, ↓Mh, ↓Mi, ↓Mn, ↓Yh, ↓Yl, ↓Yq, ↓Zd, ↓Zf, ↓Zg, ↓Zh, Fs.put, Fs.puts, Fs.own, bodyQ, bodyR, ↓vA, ↓vB, ↓vC, ↓vD, ↓vH, ↓vI, ↓vJ, vK, true_and, Nat.zero_le, L, nl, toNat_w, shl_one, fdiv_nat, fmod_nat, Nat.div_eq_of_lt hn0, Nat.mod_eq_of_lt hn0])
  repeat ((with_reducible apply And.intro); · ((repeat' (with_reducible apply And.intro)) <;> first | lia | (unfold small; lia) | (have := hw.2; (first | lia | omega)) | decide | trivial | (simp; (first | lia | omega))))
  generalize hl : lim w x = l at *
  have hn' : (((l.length : Nat) : Int) - ((0 : Nat) : Int)).toNat = l.length := by lia
  rw [hn']
  refine for_gen _ (fun i Γ => Ex3 (fun f o o' => Γ = ⟨[some (.d (nl l)), some (.d (.int ((n : Nat) : Int))), some (.d (.int w)), some (.d (.int ((0 : Nat) : Int))), some (.d (.int ((n : Nat) : Int))), some (.c 0), some (.d (.int (((2 ^ w : Nat) : Int) - 1))), o, o'], [some (f.map fun n : Nat => D.int n)]⟩) (fun f o o' => Al3 (f.length = i) (Ok w f) (val w f = (x / 2 ^ n) % 2 ^ (w * i)))) ⟨[], none, none, by simp [nl], rfl, (fun d hd => by cases hd), by simp [val, Nat.mod_one]⟩ (fun i d Γ hd hI k hn hc hr => ?_) fun Γ hI => ?_
  · obtain ⟨f, o, o', rfl, hf, of, hv⟩ := hI
    obtain ⟨hi, rfl⟩ := rangeD_get hd
    rw [show ((0 : Nat) : Int) + (i : Int) * 1 = (i : Int) by lia]
    have ha := ox _ (List.getElem_mem hi)
    have hdrop : x / 2 ^ (w * i) = l[i] + 2 ^ w * val w (l.drop (i + 1)) := by
      rw [← vx, div_take ox (by lia), List.drop_eq_getElem_cons hi]; rfl
    have hdig : ∀ ab, ab = val w (l.drop (i + 1)) % 2 ^ w → val w (f ++ [((l[i] / 2 ^ n) ||| (ab * 2 ^ (w - n))) % 2 ^ w]) = (x / 2 ^ n) % 2 ^ (w * (i + 1)) := fun ab hab => by
      rw [shr_limb hn0 ha hab, ← hdrop, val_append, hf, hv, Nat.mul_succ, Nat.pow_add, Nat.mod_mul]
      have e : x / 2 ^ (w * i) / 2 ^ n = x / 2 ^ n / 2 ^ (w * i) := by rw [Nat.div_div_eq_div_mul, Nat.div_div_eq_div_mul, Nat.mul_comm]
      rw [e]
      simp [val]
    have hgo : ∀ (X : Prop) (ab : Nat), ab < 2 ^ w → ab = val w (l.drop (i + 1)) % 2 ^ w → wSs T (.cons (.append 5 (.bin .band (.bin .bor (.bin .shr (.item (.var 0) (.var 7)) (.var 4)) (.bin .shl (.var 8) (.bin .sub (.var 2) (.var 4)))) (.var 6))) .nil)
        ⟨[some (.d (nl l)), some (.d (.int ((n : Nat) : Int))), some (.d (.int w)), some (.d (.int ((0 : Nat) : Int))), some (.d (.int ((n : Nat) : Int))), some (.c 0), some (.d (.int (((2 ^ w : Nat) : Int) - 1))), some (.d (.int (i : Int))), some (.d (.int ((ab : Nat) : Int)))], [some (f.map fun n : Nat => D.int n)]⟩ k X := by
      intro X ab hab he
      (try simp only [↓Yd, ↓Ye, ↓Mu, ↓Ka, ↓Kg, ↓Ky, ↓Yg, ↓Yh, ↓Yl, ↓Zd, ↓Zh, ↓Zi, ↓Zj, ↓Zk, Fs.setσ, ↓vA, ↓vB, ↓vC, ↓vR, nl])
      repeat ((with_reducible apply And.intro); · ((repeat' (with_reducible apply And.intro)) <;> first | (first | lia | omega) | (unfold small; (first | lia | omega)) | (have := hw.2; (first | lia | omega)) | decide | trivial | (simp; (first | lia | omega))))
      refine wIdx_nat (by lia) hi ?_
      have hwn : ((w : Nat) : Int) - ((n : Nat) : Int) = ((w - n : Nat) : Int) := by lia
      (try simp only [↓Yh, vK, hwn, toNat_w, shr_nat, shl_nat, bor_nat, band_mask, app_one])
      repeat ((with_reducible apply And.intro); · ((repeat' (with_reducible apply And.intro)) <;> first | lia | (unfold small; (first | lia | omega)) | (have := hw.2; (first | lia | omega)) | decide | trivial | (simp; (first | lia | omega))))
      refine hn _ ⟨_, _, _, rfl, by simp [hf], mod_ok of, hdig ab he⟩
    unfold b_shift_right_0
    generalize hrest : PSs.cons (.append 5 (.bin .band (.bin .bor (.bin .shr (.item (.var 0) (.var 7)) (.var 4)) (.bin .shl (.var 8) (.bin .sub (.var 2) (.var 4)))) (.var 6))) .nil = rest at hgo ⊢
    (try simp only [↓Ye, ↓Mp, ↓Ka, ↓Kc, ↓Kg, ↓Ki, ↓Kn, ↓Ko, ↓Ky, ↓Yh, ↓Yi, ↓Yl, ↓Zb, ↓Yv, Fs.put, ↓vA, ↓vB, ↓vC, ↓vD, vK, decide_eq_true_eq, ↓Zm, nl])
    refine ⟨by lia, ?_⟩
    by_cases h1 : i + 1 < l.length
    · rw [if_pos (by lia)]
      refine wIdx_int (j := i + 1) (by lia) (by lia) h1 ?_
      refine hgo _ _ (ox _ (List.getElem_mem h1)) ?_
      rw [List.drop_eq_getElem_cons h1]
      show _ = (l[i + 1] + 2 ^ w * _) % 2 ^ w
      rw [Nat.add_mul_mod_self_left, Nat.mod_eq_of_lt (ox _ (List.getElem_mem h1))]
    · rw [if_neg (by lia)]
      refine hgo _ 0 hB ?_
      rw [List.drop_of_length_le (by lia)]
      simp [val]
  · obtain ⟨f, o, o', rfl, hf, of, hv⟩ := hI
    rw [rangeD_len] at hf hv
    (refine use_of h0 ?_)
    refine ⟨rfl, w, f, hw, of, by lia, rfl, ?_⟩
    have hxl := val_lt ox
    rw [vx] at hxl
    rw [Nat.mod_eq_of_lt (Nat.lt_of_le_of_lt (Nat.div_le_self _ _) hxl)] at hv
    rw [hv]
    exact hp

/-- bits of one limb: some number of them. -/
inductive spBits (ds : List D) (c : Option (List D)) (post : Option D → Option (List D) → Prop) : Prop
  | mk : (c = none) → ∀ w k, (W w) → (0 < k) → (k < 2 ^ w) → (ds = [nl [k], .int w]) → (∀ s : Nat, 1 ≤ s → s ≤ w → k < 2 ^ s → post (some (.int ((s : Nat) : Int))) none) → spBits ds c post

theorem hsp_bits {T : Nat → Option LM.Spec} : ∀ ds c post, spBits ds c post → ds.length + (match c with | none => 0 | some _ => 1) = a_bits ∧ wSs T p_bits (entryΓ v_bits.length ds c) (bodyQ c post) (c = none ∧ ∃ c', post none c') := by
  rintro ds c post ⟨rfl, w, k, hw, hk0, hk, rfl, hp⟩
  refine ⟨rfl, ?_⟩
  have hw8 := hw.2
  show wSs T p_bits ⟨[some (.d (nl [k])), some (.d (.int w))], []⟩ _ _
  unfold p_bits
  (try simp only [↓Ye, ↓Mz, ↓Ka, ↓Kc, ↓Kd, ↓Kg, ↓Ki, ↓Kn, ↓Ko, ↓Ku, ↓Ky, ↓Yg, ↓Yh, ↓Yi, ↓Yl, ↓Zb, ↓Zd, ↓Ze, ↓Yw, bodyQ, bodyR, ↓vA, ↓vB, ↓vE, ↓vF, ↓vI, ↓vJ, decide_eq_true_eq, nl])
  refine ⟨by decide, ?_⟩
  rw [if_pos (by decide)]
  repeat ((with_reducible apply And.intro); · ((repeat' (with_reducible apply And.intro)) <;> first | (first | decide | exact Nat.two_pow_pos _ | (refine Nat.lt_of_not_le fun h => ?_; lia) | lia | omega) | (unfold small; (first | lia | omega)) | (have := hw.2; (first | lia | omega)) | decide | trivial | (simp; (first | lia | omega))))
  refine ⟨by simp, .int ((k : Nat) : Int), rfl, ?_⟩
  (try simp only [↓Yh])
  have hb : Builtin.Int.intBits ((k : Nat) : Int) = Nat.log2 k + 1 := by
    unfold Builtin.Int.intBits
    have : (((k : Nat) : Int) == 0) = false := by simp; (exact Nat.ne_of_gt hk0)
    rw [this]; simp
  have h1 : Nat.log2 k < w := (Nat.log2_lt (by (exact Nat.ne_of_gt hk0))).mpr hk
  have := hp (Nat.log2 k + 1) (by (exact Nat.succ_pos _)) (by assumption) Nat.lt_log2_self
  rw [← hb] at this
  simpa using this
end LM

namespace LM

theorem val_set {w v : Nat} : ∀ {l : List Nat} {j : Nat} (h : j < l.length), val w (l.set j v) + 2 ^ (w * j) * l[j] = val w l + 2 ^ (w * j) * v
  | d :: l, 0, _ => by simp [val]; lia
  | d :: l, j + 1, h => by
    have hj : j < l.length := by simpa using h
    have ih := val_set (w := w) (v := v) hj
    show d + 2 ^ w * val w (l.set j v) + 2 ^ (w * (j + 1)) * l[j] = d + 2 ^ w * val w l + 2 ^ (w * (j + 1)) * v
    rw [Nat.mul_succ, Nat.pow_add, Nat.mul_comm (2 ^ (w * j)) (2 ^ w), Nat.mul_assoc, Nat.mul_assoc, Nat.add_assoc, Nat.add_assoc, ← Nat.mul_add, ← Nat.mul_add, ih]
theorem ok_set {w v j : Nat} {l : List Nat} (h : Ok w l) (hv : v < 2 ^ w) : Ok w (l.set j v) := fun d hd => by
  rcases List.mem_or_eq_of_mem_set hd with h1 | h1
  · exact h d h1
  · rw [h1]; exact hv
theorem val_ge_at {w j : Nat} : ∀ {l : List Nat} (h : j < l.length), 2 ^ (w * j) * l[j] ≤ val w l := by
  intro l h
  have := val_set (w := w) (v := 0) h
  simp at this
  (exact Nat.le_trans (Nat.le_add_left _ _) (Nat.le_of_eq this))
/-- nought above the value. -/
theorem zero_above {w n j : Nat} {l : List Nat} (h : val w l < 2 ^ (w * n)) (hj : n ≤ j) (hl : j < l.length) : l[j] = 0 := by
  have h1 := val_ge_at (w := w) hl
  rcases Nat.eq_zero_or_pos l[j] with h0 | h0
  · exact h0
  · have h2 : 2 ^ (w * n) ≤ 2 ^ (w * j) := Nat.pow_le_pow_right (by decide) (Nat.mul_le_mul_left _ hj)
    have h3 : 2 ^ (w * j) * 1 ≤ 2 ^ (w * j) * l[j] := Nat.mul_le_mul_left _ h0
    (refine Decidable.byContradiction fun h => ?_; lia)
theorem enum_nat {l : List Nat} {i : Nat} {d : D} (h : (enumD 0 (l.map fun n : Nat => D.int n))[i]? = some d) : ∃ hi : i < l.length, d = .tup [.int (i : Int), .int ((l[i] : Nat) : Int)] := by
  obtain ⟨x, hx, rfl⟩ := enumD_get h
  obtain ⟨hi, rfl⟩ := map_get hx
  exact ⟨hi, by rw [Nat.zero_add]⟩
theorem idx_add (i j : Nat) : ((i : Int)) + ((j : Int)) = ((i + j : Nat) : Int) := by push_cast; rfl

/-- mul_school. -/
inductive spMul (ds : List D) (c : Option (List D)) (post : Option D → Option (List D) → Prop) : Prop
  | mk : (c = none) → ∀ w x y, (W w) → (sm x) → (sm y) → (ds = [L w x, L w y, .int w]) → (post (some (L w (x * y))) none) → spMul ds c post

theorem mul_step {B c r a b : Nat} (hc : c < B) (hr : r < B) (ha : a < B) (hb : b < B) : (c + (r + a * b)) / B < B := by
  have hB : 0 < B := by (exact Nat.lt_of_le_of_lt (Nat.zero_le _) hb)
  rw [Nat.div_lt_iff_lt_mul hB]
  have h1 : a * b ≤ (B - 1) * (B - 1) := Nat.mul_le_mul (by lia) (by lia)
  obtain ⟨k, rfl⟩ : ∃ k, B = k + 1 := ⟨B - 1, by lia⟩
  simp only [Nat.add_sub_cancel] at h1
  rw [Nat.add_mul, Nat.mul_add]
  lia

theorem hsp_mul_school {T : Nat → Option LM.Spec} (h0 : T 0 = some spNormal) : ∀ ds c post, spMul ds c post → ds.length + (match c with | none => 0 | some _ => 1) = a_mul_school ∧ wSs T p_mul_school (entryΓ v_mul_school.length ds c) (bodyQ c post) (c = none ∧ ∃ c', post none c') := by
  rintro ds c post ⟨rfl, w, x, y, hw, hx, hy, rfl, hp⟩
  refine ⟨rfl, ?_⟩
  have lx := sm_len hw hx
  have ly := sm_len hw hy
  have vx := val_lim hw.pos x
  have vy := val_lim hw.pos y
  have ox := ok_lim hw.pos x
  have oy := ok_lim hw.pos y
  have hB := Nat.two_pow_pos w
  have hB3 := B_le hw
  show wSs T p_mul_school ⟨[some (.d (L w x)), some (.d (L w y)), some (.d (.int w)), none, none, none, none, none, none, none], []⟩ _ _
  unfold p_mul_school
  (try simp only [↓Ye, ↓Mq, ↓My, ↓Ka, ↓Kc, ↓Kg, ↓Ko, ↓Me, ↓Mh, ↓Mi, ↓Mk, ↓Yg, ↓Yh, ↓Yl, ↓Zb, ↓Zd, ↓Zh, Fs.put, Fs.puts, Fs.own, bodyQ, bodyR, ↓vA, ↓vB, ↓vC, ↓vD, ↓vH, ↓vI, ↓vJ, vK, true_and, L, nl, toNat_w, shl_one, idx_add])
  repeat ((with_reducible apply And.intro); · ((repeat' (with_reducible apply And.intro)) <;> first | (first | decide | exact Int.natCast_nonneg _ | exact Nat.lt_of_le_of_lt lx (by decide) | exact Nat.lt_of_le_of_lt ly (by decide) | lia | omega) | (unfold small; (first | lia | omega)) | (have := hw.2; (exact Int.ofNat_le.mpr (Nat.le_of_lt (Nat.lt_of_le_of_lt hw.2 (by decide))))) | decide | trivial | (simp; (first | lia | omega))))
  generalize hl : lim w x = l at *
  generalize hm : lim w y = m at *
  refine for_gen _ (fun i Γ => Ex6 (fun f o5 o6 o7 o8 o9 => Γ = ⟨[some (.d (nl l)), some (.d (nl m)), some (.d (.int w)), some (.c 0), some (.d (.int (((2 ^ w : Nat) : Int) - 1))), o5, o6, o7, o8, o9], [some (f.map fun n : Nat => D.int n)]⟩) (fun f o5 o6 o7 o8 o9 => Al3 (f.length = l.length + m.length) (Ok w f) (val w f = val w (l.take i) * y))) ⟨List.replicate (l.length + m.length) 0, none, none, none, none, none, by simp [nl], by simp, (fun d hd => by rw [List.eq_of_mem_replicate hd]; exact hB), by simp [val, val_zeros]⟩ (fun i d Γ hd hI k hn hc hr => ?_) fun Γ hI => ?_
  · obtain ⟨f, o5, o6, o7, o8, o9, rfl, hf, of, hv⟩ := hI
    obtain ⟨hi, rfl⟩ := enum_nat hd
    have ha := ox _ (List.getElem_mem hi)
    unfold b_mul_school_0
    (try simp only [↓Ye, ↓Mp, ↓My, ↓Ka, ↓Kc, ↓Mk, ↓Yg, Fs.put, ↓vA, ↓vB, ↓vC, ↓vD, ↓Zn, nl, toNat_w])
    have hz : ∀ hlt : i + m.length < f.length, f[i + m.length] = 0 := fun hlt => by
      refine zero_above (w := w) (n := i + m.length) ?_ (Nat.le_refl _) hlt
      rw [hv, Nat.mul_add, Nat.pow_add]
      have h1 := val_lt (ok_take (n := i) ox)
      rw [List.length_take, Nat.min_eq_left (by (exact Nat.le_of_lt hi))] at h1
      have h2 := val_lt oy
      rw [vy] at h2
      exact Nat.mul_lt_mul_of_lt_of_le h1 (Nat.le_of_lt h2) (Nat.two_pow_pos _)
    refine for_gen _ (fun j Γ => Ex4 (fun g c o8 o9 => Γ = ⟨[some (.d (nl l)), some (.d (nl m)), some (.d (.int w)), some (.c 0), some (.d (.int (((2 ^ w : Nat) : Int) - 1))), some (.d (.int (i : Int))), some (.d (.int ((l[i] : Nat) : Int))), some (.d (.int ((c : Nat) : Int))), o8, o9], [some (g.map fun n : Nat => D.int n)]⟩) (fun g c o8 o9 => Al5 (g.length = l.length + m.length) (Ok w g) (c < 2 ^ w) ((∀ t (h : t < g.length) (h' : t < f.length), i + j ≤ t → g[t] = f[t])) (val w g + 2 ^ (w * (i + j)) * c = val w f + 2 ^ (w * i) * (l[i] * val w (m.take j)))))
      ⟨f, 0, o8, o9, by simp [nl], hf, of, hB, (fun t h h' _ => rfl), by simp [val]⟩ (fun j d Γ hd hI k' hn' hc' hr' => ?_) fun Γ hI => ?_
    · obtain ⟨g, c, o8, o9, rfl, hg, og, hcB, hsame, hgv⟩ := hI
      obtain ⟨hj, rfl⟩ := enum_nat hd
      have hb := oy _ (List.getElem_mem hj)
      have hij : i + j < g.length := by (refine Nat.lt_of_not_le fun h => ?_; lia)
      have hg0 := og _ (List.getElem_mem hij)
      unfold b_mul_school_1
      (try simp only [↓Yd, ↓Ye, ↓Ms, ↓Mt, ↓Ka, ↓Kg, ↓Ky, ↓Yg, ↓Yh, ↓Yn, ↓Zb, ↓Ze, ↓Zi, ↓Zj, Fs.put, Fs.setσ, ↓vA, ↓vB, ↓vC, ↓vD, vK, ↓Zn, nl, toNat_w, idx_add])
      refine wIdx_nat (by (refine Nat.lt_of_not_le fun h => ?_; lia)) hij ?_
      (try simp only [↓Yh, ↓Zb])
      have e1 : ((l[i] : Nat) : Int) * ((m[j] : Nat) : Int) = ((l[i] * m[j] : Nat) : Int) := by push_cast; rfl
      (try simp only [e1, idx_add, band_mask, shr_nat, toNat_w, set_nat])
      repeat ((with_reducible apply And.intro); · ((repeat' (with_reducible apply And.intro)) <;> first | (first | exact Int.natCast_nonneg _ | exact Int.ofNat_lt.mpr hij | (refine Nat.lt_of_not_le fun h => ?_; lia) | lia | omega) | (unfold small; (first | lia | omega)) | (have := hw.2; (first | lia | omega)) | decide | trivial | (simp; (first | lia | omega))))
      refine hn' _ ⟨_, _, _, _, rfl, by simp [hg], ok_set og (Nat.mod_lt _ hB), mul_step hcB hg0 ha hb, fun t h h' ht => ?_, ?_⟩
      · rw [List.getElem_set_ne (by (clear h h'; intro h; subst h; lia))]
        exact hsame t (by simpa using h) h' (by lia)
      · have e2 := val_set (w := w) (v := (c + (g[i + j] + l[i] * m[j])) % 2 ^ w) hij
        have e3 := Nat.mod_add_div (c + (g[i + j] + l[i] * m[j])) (2 ^ w)
        have e4 : 2 ^ (w * (i + (j + 1))) = 2 ^ (w * (i + j)) * 2 ^ w := by rw [← Nat.add_assoc, Nat.mul_succ, Nat.pow_add]
        rw [e4, val_take_succ hj]
        have e5 : 2 ^ (w * (i + j)) * (c + (g[i + j] + l[i] * m[j])) = 2 ^ (w * (i + j)) * ((c + (g[i + j] + l[i] * m[j])) % 2 ^ w) + 2 ^ (w * (i + j)) * 2 ^ w * ((c + (g[i + j] + l[i] * m[j])) / 2 ^ w) := by
          rw [Nat.mul_assoc, ← Nat.mul_add, e3]
        have e6 : 2 ^ (w * i) * (l[i] * (val w (m.take j) + 2 ^ (w * j) * m[j])) = 2 ^ (w * i) * (l[i] * val w (m.take j)) + 2 ^ (w * (i + j)) * (l[i] * m[j]) := by
          rw [Nat.mul_add, Nat.mul_add, Nat.mul_add w i j, Nat.pow_add]
          congr 1
          rw [Nat.mul_assoc, Nat.mul_left_comm l[i]]
        rw [e6]
        have e7 : 2 ^ (w * (i + j)) * (c + (g[i + j] + l[i] * m[j])) = 2 ^ (w * (i + j)) * c + (2 ^ (w * (i + j)) * g[i + j] + 2 ^ (w * (i + j)) * (l[i] * m[j])) := by
          rw [Nat.mul_add (2 ^ (w * (i + j))), Nat.mul_add (2 ^ (w * (i + j)))]
        (clear hB3 hB hcB ha hv; refine Decidable.byContradiction fun h => ?_; lia)
    · obtain ⟨g, c, o8, o9, rfl, hg, og, hcB, hsame, hgv⟩ := hI
      have hen : (enumD 0 (m.map fun n : Nat => D.int n)).length = m.length := by rw [enumD_length]; simp
      rw [hen] at hsame hgv
      rw [List.take_length, vy] at hgv
      have hil : i + m.length < g.length := by (refine Nat.lt_of_not_le fun h => ?_; lia)
      have hg0 : g[i + m.length] = 0 := by rw [hsame _ hil (by (exact Nat.lt_of_lt_of_le (Nat.lt_of_lt_of_le hil (Nat.le_of_eq hg)) (Nat.le_of_eq hf.symm))) (Nat.le_refl _)]; exact hz (by (exact Nat.lt_of_lt_of_le (Nat.lt_of_lt_of_le hil (Nat.le_of_eq hg)) (Nat.le_of_eq hf.symm)))
      unfold r_mul_school_1
      (try simp only [↓Yd, ↓Ye, ↓Ms, ↓Ka, ↓Kg, ↓Ko, ↓Yg, ↓Yh, ↓Yl, ↓Zb, Fs.setσ, ↓vA, ↓vB, ↓vC, vK, nl, toNat_w, idx_add, set_nat])
      repeat ((with_reducible apply And.intro); · ((repeat' (with_reducible apply And.intro)) <;> first | (first | exact Int.natCast_nonneg _ | exact Int.ofNat_lt.mpr hil | exact Nat.lt_of_le_of_lt ly (by decide) | (refine Nat.lt_of_not_le fun h => ?_; lia) | lia | omega) | (unfold small; (first | lia | omega)) | (have := hw.2; (first | lia | omega)) | decide | trivial | (simp; (first | lia | omega))))
      refine hn _ ⟨_, _, _, _, _, _, rfl, by simp [hg], ok_set og hcB, ?_⟩
      have e2 := val_set (w := w) (v := c) hil
      rw [hg0] at e2
      rw [val_take_succ hi, Nat.add_mul, Nat.mul_assoc, ← hv]
      simp at e2
      (exact e2.trans hgv)
  · obtain ⟨f, o5, o6, o7, o8, o9, rfl, hf, of, hv⟩ := hI
    have hen : (enumD 0 (l.map fun n : Nat => D.int n)).length = l.length := by rw [enumD_length]; simp
    rw [hen, List.take_length, vx] at hv
    (refine use_of h0 ?_)
    refine ⟨rfl, w, f, hw, of, by lia, rfl, ?_⟩
    rw [hv]
    exact hp

/-- guessed_limb: the quotient of the three top limbs by the two, one limb at most. -/
inductive spGuess (ds : List D) (c : Option (List D)) (post : Option D → Option (List D) → Prop) : Prop
  | mk : (c = none) → ∀ w t0 t1 t2 f s, (W w) → (t0 < 2 ^ w) → (t1 < 2 ^ w) → (t2 < 2 ^ w) → (0 < f) → (f < 2 ^ w) → (s < 2 ^ w) → (ds = [nl [t0, t1, t2], .int ((f : Nat) : Int), .int ((s : Nat) : Int), .int w]) → (∀ q : Nat, q < 2 ^ w → q * (f * 2 ^ w + s) ≤ (t2 * 2 ^ w + t1) * 2 ^ w + t0 → (q + 1 < 2 ^ w → (t2 * 2 ^ w + t1) * 2 ^ w + t0 < (q + 1) * (f * 2 ^ w + s)) → post (some (.int ((q : Nat) : Int))) none) → spGuess ds c post

theorem hsp_guessed_limb {T : Nat → Option LM.Spec} : ∀ ds c post, spGuess ds c post → ds.length + (match c with | none => 0 | some _ => 1) = a_guessed_limb ∧ wSs T p_guessed_limb (entryΓ v_guessed_limb.length ds c) (bodyQ c post) (c = none ∧ ∃ c', post none c') := by
  rintro ds c post ⟨rfl, w, t0, t1, t2, f, s, hw, h0, h1, h2, hf0, hf, hs, rfl, hp⟩
  refine ⟨rfl, ?_⟩
  have hB := Nat.two_pow_pos w
  have hB3 := B_le hw
  show wSs T p_guessed_limb ⟨[some (.d (nl [t0, t1, t2])), some (.d (.int ((f : Nat) : Int))), some (.d (.int ((s : Nat) : Int))), some (.d (.int w)), none, none, none, none], []⟩ _ _
  unfold p_guessed_limb
  (try simp only [↓Ye, ↓Mp, ↓Mq, ↓Mx, ↓Ka, ↓Kc, ↓Kg, ↓Kp, ↓Ky, ↓Mh, ↓Mi, ↓Yh, ↓Yl, ↓Zd, ↓Ze, ↓Zf, ↓Zh, ↓Zk, Fs.put, Fs.puts, bodyQ, bodyR, ↓vA, ↓vB, ↓vC, ↓vD, ↓vE, ↓vF, ↓vI, ↓vJ, true_and, nl, toNat_w, shl_one, shl_nat])
  refine ⟨by simp, .int ((t2 : Nat) : Int), rfl, ?_⟩
  (try simp only [↓Yh, nl, toNat_w, shl_one, shl_nat])
  repeat ((with_reducible apply And.intro); · ((repeat' (with_reducible apply And.intro)) <;> first | (first | exact Int.natCast_nonneg _ | (clear h1 h0; refine Nat.lt_of_not_le fun h => ?_; lia) | lia | omega) | (unfold small; (first | lia | omega)) | (have := hw.2; (exact Int.ofNat_le.mpr (Nat.le_of_lt (Nat.lt_of_le_of_lt hw.2 (by decide))))) | decide | trivial | (simp; (first | lia | omega))))
  refine ⟨by simp, .int ((t1 : Nat) : Int), rfl, ?_⟩
  (try simp only [↓Yh, nl, toNat_w, shl_one, shl_nat, bor_shift h1])
  repeat ((with_reducible apply And.intro); · ((repeat' (with_reducible apply And.intro)) <;> first | (first | decide | exact Int.natCast_nonneg _ | exact Int.ne_of_gt (Int.ofNat_lt.mpr hf0) | (clear hf; lia) | (clear hf0 h2 h1 h0; refine Nat.lt_of_not_le fun h => ?_; lia) | lia | omega) | (unfold small; (first | lia | omega)) | (have := hw.2; (exact Int.ofNat_le.mpr (Nat.le_of_lt (Nat.lt_of_le_of_lt hw.2 (by decide))))) | decide | trivial | (simp; (first | lia | omega))))
  obtain ⟨H, hH⟩ : ∃ H, H = t2 * 2 ^ w + t1 := ⟨_, rfl⟩
  obtain ⟨q0, hq0⟩ : ∃ q0 : Nat, q0 = if 2 ^ w - 1 < H / f then 2 ^ w - 1 else H / f := ⟨_, rfl⟩
  rw [← hH]
  rw [← hH] at hp
  have eq0 : (if ((2 ^ w : Nat) : Int) - 1 < ((H : Nat) : Int).fdiv ((f : Nat) : Int) then ((2 ^ w : Nat) : Int) - 1 else ((H : Nat) : Int).fdiv ((f : Nat) : Int)) = ((q0 : Nat) : Int) := by
    rw [fdiv_nat, hq0]
    by_cases h : 2 ^ w - 1 < H / f
    · rw [if_pos (by (refine Int.lt_of_not_ge fun h => ?_; lia)), if_pos h]; lia
    · rw [if_neg (by (clear hf hf0 h2 h1 h0 hw hB hq0; omega)), if_neg h]
  rw [eq0]
  have hq0B : q0 < 2 ^ w := by rw [hq0]; split <;> (first | exact Nat.sub_lt hB (by decide) | (clear eq0 hq0 hH hs hf hf0 h2 h1; omega) | lia | omega)
  have hdm := Nat.div_mul_le_self H f
  have hq0f : q0 * f ≤ H := by
    refine Nat.le_trans (Nat.mul_le_mul_right f ?_) hdm
    rw [hq0]; split <;> (first | exact Nat.le_refl _ | lia | omega)
  have hup0 : q0 + 1 < 2 ^ w → H * 2 ^ w + t0 < (q0 + 1) * (f * 2 ^ w + s) := fun h => by
    have e : q0 = H / f := by
      by_cases h5 : 2 ^ w - 1 < H / f
      · rw [if_pos h5] at hq0; (clear eq0; lia)
      · rw [if_neg h5] at hq0; exact hq0
    have h3 : H < (q0 + 1) * f := by rw [e, Nat.mul_comm]; exact Nat.lt_mul_div_succ H hf0
    have h4 : (H + 1) * 2 ^ w ≤ (q0 + 1) * f * 2 ^ w := Nat.mul_le_mul_right _ h3
    rw [Nat.mul_add, ← Nat.mul_assoc]
    rw [Nat.add_mul] at h4
    (clear hp; refine Nat.lt_of_not_le fun h => ?_; lia)
  refine ⟨fun n Γ => Ex2 (fun (q r : Nat) => n = q) (fun q r => Al4 (Γ = ⟨[some (.d (nl [t0, t1, t2])), some (.d (.int ((f : Nat) : Int))), some (.d (.int ((s : Nat) : Int))), some (.d (.int w)), some (.d (.int ((H : Nat) : Int))), some (.d (.int ((2 ^ w : Nat) : Int))), some (.d (.int ((q : Nat) : Int))), some (.d (.int ((r : Nat) : Int)))], []⟩) (q < 2 ^ w) (q * f + r = H) ((q + 1 < 2 ^ w → H * 2 ^ w + t0 < (q + 1) * (f * 2 ^ w + s)))), ⟨q0, q0, H - q0 * f, rfl, ?_, hq0B, by (clear hq0 hH hB3 hB hs hf hf0 h2 h1 h0 hq0B eq0 hdm; omega), hup0⟩, ?_⟩
  · have e : ((H : Nat) : Int) - ((q0 : Nat) : Int) * ((f : Nat) : Int) = ((H - q0 * f : Nat) : Int) := by
      rw [Int.ofNat_sub hq0f]; push_cast; rfl
    rw [e]
    simp only [nl, List.map_cons, List.map_nil]
  · rintro q Γ ⟨_, r, rfl, rfl, hqB, hr, hup⟩
    unfold t_guessed_limb_0
    (try simp only [↓Ka, ↓Kc, ↓Kg, ↓Ki, ↓Kk, ↓Ky, ↓Yh, ↓Yi, ↓Yl, ↓Ze, ↓Zh, ↓Zk, ↓Yv, ↓Yw, ↓vA, ↓vB, ↓vE, ↓vF, decide_eq_true_eq, Bool.false_eq_true, ↓reduceIte, nl, toNat_w, shl_nat, bor_shift h0])
    -- T in terms of q and r
    have hT : H * 2 ^ w + t0 = q * f * 2 ^ w + (r * 2 ^ w + t0) := by rw [← hr, Nat.add_mul]; (exact Nat.add_assoc _ _ _)
    have hD : q * (f * 2 ^ w + s) = q * f * 2 ^ w + q * s := by rw [Nat.mul_add, Nat.mul_assoc]
    by_cases hrB : r < 2 ^ w
    · rw [if_pos (by (exact Int.ofNat_lt.mpr hrB))]
      refine ⟨⟨by (refine Nat.lt_of_not_le fun h => ?_; lia), by (clear h2 h1 h0 hf; refine Nat.lt_of_not_le fun h => ?_; lia)⟩, ⟨by (exact Int.natCast_nonneg _), by have := hw.2; (exact Int.ofNat_le.mpr (Nat.le_of_lt (Nat.lt_of_le_of_lt hw.2 (by decide)))), by lia⟩, by simp, .int ((t0 : Nat) : Int), rfl, ?_⟩
      (try simp only [↓Yh, nl, bor_shift h0])
      have e1 : ((q : Nat) : Int) * ((s : Nat) : Int) = ((q * s : Nat) : Int) := by push_cast; rfl
      rw [e1]
      by_cases hc : r * 2 ^ w + t0 < q * s
      · rw [if_pos (by (exact Int.ofNat_lt.mpr hc))]
        unfold b_guessed_limb_0
        (try simp only [↓Yd, ↓Ye, ↓Mt, ↓Ka, ↓Kc, ↓Yh, ↓Zb, ↓Zd, Fs.put, ↓vA, ↓vB, ↓vC, ↓vD, nl])
        have hq1 : 0 < q := by
          rcases Nat.eq_zero_or_pos q with h | h
          · subst h; lia
          · exact h
        refine ⟨q - 1, by (exact Nat.sub_lt hq1 (by decide)), q - 1, r + f, rfl, ?_, by (exact Nat.lt_of_le_of_lt (Nat.sub_le _ _) hqB), ?_, fun _ => ?_⟩
        · have e2 : ((q : Nat) : Int) - 1 = ((q - 1 : Nat) : Int) := by lia
          have e3 : ((r : Nat) : Int) + ((f : Nat) : Int) = ((r + f : Nat) : Int) := by push_cast; rfl
          rw [e2, e3]
        · rw [Nat.sub_mul]
          have : 1 * f ≤ q * f := Nat.mul_le_mul_right f hq1
          (clear eq0 hq0 hH hB3 hB hs hf h2 h1 h0 hrB hD hT hdm hq0B hc e1 hq0f hqB; omega)
        · rw [show q - 1 + 1 = q by (exact Nat.sub_add_cancel (by assumption)), hT, hD]
          (clear eq0 hq0 hH hp hB3 hB hs hf hf0 h2 h1 h0 hw hr hqB hup0 hq0f hdm hq0B e1 hT hup; omega)
      · rw [if_neg (by (exact Int.not_lt.mpr (Int.ofNat_le.mpr (Nat.le_of_not_lt hc))))]
        (try simp only [↓Ye, ↓Mz, ↓Ka, ↓Yg, bodyQ, bodyR, ↓vA, ↓vB])
        exact hp q hqB (by rw [hT, hD]; (clear hq0 hH hp hB3 hB hs hf hf0 h2 h1 h0 hw hqB hup0 hq0f hdm hq0B eq0 hr hrB hD; omega)) hup
    · rw [if_neg (by (exact Int.not_lt.mpr (Int.ofNat_le.mpr (Nat.le_of_not_lt hrB))))]
      (try simp only [↓Ye, ↓Mz, ↓Ka, ↓Yg, bodyQ, bodyR, ↓vA, ↓vB])
      refine hp q hqB ?_ hup
      rw [hT, hD]
      have h5 : q * s ≤ 2 ^ w * 2 ^ w := Nat.mul_le_mul (by (exact Nat.le_of_lt hqB)) (by (exact Nat.le_of_lt hs))
      have h6 : 2 ^ w * 2 ^ w ≤ r * 2 ^ w := Nat.mul_le_mul_right _ (by (exact Nat.le_of_not_lt hrB))
      (clear hq0 hH hp hB3 hB hs hf hf0 h2 h1 h0 hw hqB hup0 hq0f hdm hq0B eq0 hr hrB hD; omega)
end LM

namespace LM

/-- limbs held in a list that a def turns. -/
noncomputable def il (l : List Nat) : List D := l.map fun n : Nat => .int (n : Int)

/-- take_away: a window less q times b, and whether it fell below nought. -/
inductive spTake (ds : List D) (c : Option (List D)) (post : Option D → Option (List D) → Prop) : Prop
  | mk : ∀ w b q at' R, (W w) → (Ok w b) → (Ok w R) → (q < 2 ^ w) → (b.length ≤ 1000) → (R.length ≤ 1000) → (at' + b.length < R.length) → (ds = [nl b, .int ((q : Nat) : Int), .int ((at' : Nat) : Int), .int w]) → (c = some (il R)) → (∀ R' r, R'.length = R.length → Ok w R' → r ≤ 1 → (∀ t (h : t < R'.length) (h' : t < R.length), at' + b.length < t → R'[t] = R[t]) → val w R' + 2 ^ (w * at') * (q * val w b) = val w R + 2 ^ (w * (at' + b.length + 1)) * r → post (some (.int ((r : Nat) : Int))) (some (il R'))) → spTake ds c post

theorem hsp_take_away {T : Nat → Option LM.Spec} : ∀ ds c post, spTake ds c post → ds.length + (match c with | none => 0 | some _ => 1) = a_take_away ∧ wSs T p_take_away (entryΓ v_take_away.length ds c) (bodyQ c post) (c = none ∧ ∃ c', post none c') := by
  rintro ds c post ⟨w, b, q, at', R, hw, ob, oR, hq, lb, lR, hat, rfl, rfl, hp⟩
  refine ⟨rfl, ?_⟩
  have hB := Nat.two_pow_pos w
  have hB3 := B_le hw
  show wSs T p_take_away ⟨[some (.c 0), some (.d (nl b)), some (.d (.int ((q : Nat) : Int))), some (.d (.int ((at' : Nat) : Int))), some (.d (.int w)), none, none, none, none, none], [some (il R)]⟩ _ _
  unfold p_take_away
  (try simp only [↓Ye, ↓Mq, ↓My, ↓Ka, ↓Kc, ↓Kg, ↓Mh, ↓Mi, ↓Mk, ↓Yg, ↓Yh, ↓Zh, Fs.put, Fs.puts, bodyQ, bodyR, ↓vA, ↓vB, ↓vC, ↓vD, ↓vI, ↓vJ, true_and, reduceCtorEq, nl, toNat_w, shl_one])
  repeat ((with_reducible apply And.intro); · ((repeat' (with_reducible apply And.intro)) <;> first | (first | decide | exact Int.natCast_nonneg _ | lia | omega) | (unfold small; (first | lia | omega)) | (have := hw.2; (exact Int.ofNat_le.mpr (Nat.le_of_lt (Nat.lt_of_le_of_lt hw.2 (by decide))))) | decide | trivial | (simp; (first | lia | omega))))
  refine for_gen _ (fun j Γ => Ex5 (fun g c o7 o8 o9 => Γ = ⟨[some (.c 0), some (.d (nl b)), some (.d (.int ((q : Nat) : Int))), some (.d (.int ((at' : Nat) : Int))), some (.d (.int w)), some (.d (.int ((c : Nat) : Int))), some (.d (.int ((2 ^ w : Nat) : Int))), o7, o8, o9], [some (il g)]⟩) (fun g c o7 o8 o9 => Al5 (g.length = R.length) (Ok w g) (c < 2 ^ w) ((∀ t (h : t < g.length) (h' : t < R.length), at' + j ≤ t → g[t] = R[t])) (val w g + 2 ^ (w * at') * (q * val w (b.take j)) = val w R + 2 ^ (w * (at' + j)) * c)))
    ⟨R, 0, none, none, none, by simp [nl], rfl, oR, hB, (fun t h h' _ => rfl), by simp [val]⟩ (fun j d Γ hd hI k hn hc hr => ?_) fun Γ hI => ?_
  · obtain ⟨g, c, o7, o8, o9, rfl, hg, og, hcB, hsame, hgv⟩ := hI
    obtain ⟨hj, rfl⟩ := enum_nat hd
    have hb := ob _ (List.getElem_mem hj)
    have hij : at' + j < g.length := by (refine Nat.lt_of_not_le fun h => ?_; lia)
    have hg0 := og _ (List.getElem_mem hij)
    obtain ⟨t, ht⟩ : ∃ t, t = q * b[j] + c := ⟨_, rfl⟩
    have htd := Nat.mod_add_div t (2 ^ w)
    have htm := Nat.mod_lt t hB
    -- the carry stays below a limb
    have htB : t / 2 ^ w < 2 ^ w ∧ (t / 2 ^ w = 2 ^ w - 1 → t % 2 ^ w = 0) := by
      have h1 : q * b[j] ≤ (2 ^ w - 1) * (2 ^ w - 1) := Nat.mul_le_mul (by lia) (by (clear hcB hq hB3 hB hd; lia))
      obtain ⟨kk, hk⟩ : ∃ kk, 2 ^ w = kk + 1 := ⟨2 ^ w - 1, by lia⟩
      rw [hk] at h1 htd htm hcB ⊢
      simp only [Nat.add_sub_cancel] at h1 ⊢
      have h2 : t ≤ (kk + 1) * kk := by rw [Nat.add_mul]; (clear hk; refine Nat.le_of_not_lt fun h => ?_; lia)
      have h3 : t / (kk + 1) ≤ kk := by
        have := Nat.div_le_div_right (c := kk + 1) h2
        rwa [Nat.mul_div_cancel_left _ (by (exact Nat.succ_pos _))] at this
      refine ⟨by (exact Nat.lt_succ_of_le h3), fun h4 => ?_⟩
      rw [h4] at htd
      (clear ht hk; lia)
    have hgo : ∀ (X : Prop) (h nv : Nat), h ≤ 1 → t / 2 ^ w + h < 2 ^ w → nv < 2 ^ w → nv + t % 2 ^ w = g[at' + j] + 2 ^ w * h →
        k .next ⟨[some (.c 0), some (.d (nl b)), some (.d (.int ((q : Nat) : Int))), some (.d (.int ((at' : Nat) : Int))), some (.d (.int w)), some (.d (.int ((t / 2 ^ w + h : Nat) : Int))), some (.d (.int ((2 ^ w : Nat) : Int))), some (.d (.int (j : Int))), some (.d (.int ((b[j] : Nat) : Int))), some (.d (.int (((g[at' + j] : Nat) : Int) - ((t % 2 ^ w : Nat) : Int))))], [some (il (g.set (at' + j) nv))]⟩ := by
      intro X h nv hh hcc hnv heq
      refine hn _ ⟨_, _, _, _, _, rfl, by simp [hg], ok_set og hnv, hcc, fun t' h1 h2 ht' => ?_, ?_⟩
      · rw [List.getElem_set_ne (by (clear h1 h2; intro h; subst h; lia))]
        exact hsame t' (by simpa using h1) h2 (by lia)
      · have e2 := val_set (w := w) (v := nv) hij
        have e4 : 2 ^ (w * (at' + (j + 1))) = 2 ^ (w * (at' + j)) * 2 ^ w := by rw [← Nat.add_assoc, Nat.mul_succ, Nat.pow_add]
        have e6 : 2 ^ (w * at') * (q * (val w (b.take j) + 2 ^ (w * j) * b[j])) = 2 ^ (w * at') * (q * val w (b.take j)) + 2 ^ (w * (at' + j)) * (q * b[j]) := by
          rw [Nat.mul_add, Nat.mul_add, Nat.mul_add w at' j, Nat.pow_add]
          congr 1
          rw [Nat.mul_assoc, Nat.mul_left_comm q]
        rw [e4, val_take_succ hj, e6]
        have e5 : 2 ^ (w * (at' + j)) * (nv + t % 2 ^ w) = 2 ^ (w * (at' + j)) * (g[at' + j] + 2 ^ w * h) := by rw [heq]
        rw [Nat.mul_add (2 ^ (w * (at' + j))), Nat.mul_add (2 ^ (w * (at' + j)))] at e5
        have e7 : 2 ^ (w * (at' + j)) * t = 2 ^ (w * (at' + j)) * (t % 2 ^ w) + 2 ^ (w * (at' + j)) * (2 ^ w * (t / 2 ^ w)) := by rw [← Nat.mul_add, htd]
        have e8 : 2 ^ (w * (at' + j)) * t = 2 ^ (w * (at' + j)) * (q * b[j]) + 2 ^ (w * (at' + j)) * c := by rw [← Nat.mul_add, ← ht]
        rw [Nat.mul_assoc (2 ^ (w * (at' + j))), Nat.mul_add (2 ^ w), Nat.mul_add (2 ^ (w * (at' + j))) (2 ^ w * (t / 2 ^ w))]
        (clear hcB e6; lia)
    unfold b_take_away_0
    (try simp only [↓Yd, ↓Ye, ↓Mp, ↓Ms, ↓Ka, ↓Kc, ↓Kg, ↓Ki, ↓Kn, ↓Ky, ↓Yg, ↓Yh, ↓Yi, ↓Yn, ↓Zb, ↓Zd, ↓Ze, ↓Zf, ↓Zg, ↓Yv, Fs.put, Fs.setσ, ↓vA, ↓vB, ↓vC, ↓vD, vK, decide_eq_true_eq, ↓Zn, nl, il, toNat_w, idx_add])
    refine wIdx_nat (by (exact Nat.lt_of_le_of_lt (Nat.le_trans (Nat.le_of_eq hg) lR) (by decide))) hij ?_
    (try simp only [↓Yh])
    have e1 : ((q : Nat) : Int) * ((b[j] : Nat) : Int) + ((c : Nat) : Int) = ((t : Nat) : Int) := by rw [ht]; push_cast; rfl
    (try simp only [e1, fmod_nat, fdiv_nat])
    repeat ((with_reducible apply And.intro); · ((repeat' (with_reducible apply And.intro)) <;> first | (first | exact Int.ne_of_gt (Int.ofNat_lt.mpr hB) | (refine Nat.lt_of_not_le fun h => ?_; lia) | lia | omega) | (unfold small; (first | lia | omega)) | (have := hw.2; (first | lia | omega)) | decide | trivial | (simp; (first | lia | omega))))
    by_cases hneg : ((g[at' + j] : Nat) : Int) - ((t % 2 ^ w : Nat) : Int) < 0
    · rw [if_pos hneg]
      repeat ((with_reducible apply And.intro); · ((repeat' (with_reducible apply And.intro)) <;> first | (first | lia | omega) | (unfold small; (first | lia | omega)) | (have := hw.2; (first | lia | omega)) | decide | trivial | (simp; (first | lia | omega))))
      rw [if_pos hneg]
      repeat ((with_reducible apply And.intro); · ((repeat' (with_reducible apply And.intro)) <;> first | (first | exact Int.natCast_nonneg _ | exact Int.ofNat_lt.mpr hij | exact Nat.lt_of_le_of_lt (Nat.le_trans (Nat.le_of_eq hg) lR) (by decide) | lia | omega) | (unfold small; (first | lia | omega)) | (have := hw.2; (first | lia | omega)) | decide | trivial | (simp; (first | lia | omega))))
      have e9 : ((g[at' + j] : Nat) : Int) - ((t % 2 ^ w : Nat) : Int) + ((2 ^ w : Nat) : Int) = ((g[at' + j] + 2 ^ w - t % 2 ^ w : Nat) : Int) := by (clear hB3 hB hq hg0 hb hcB htd; lia)
      rw [e9, set_nat]
      have e10 : ((t / 2 ^ w : Nat) : Int) + 1 = ((t / 2 ^ w + 1 : Nat) : Int) := by push_cast; rfl
      rw [e10]
      refine hgo True 1 _ (by (exact Nat.le_refl _)) ?_ (by (clear hg0; refine Nat.lt_of_not_le fun h => ?_; lia)) (by (clear hgo; refine Decidable.byContradiction fun h => ?_; lia))
      have := htB.1
      by_cases hh : t / 2 ^ w = 2 ^ w - 1
      · have := htB.2 hh; (clear hh; refine Nat.lt_of_not_le fun h => ?_; lia)
      · (clear htm htd hg0 hb hq htB hcB e9 hB3 hB; refine Nat.lt_of_not_le fun h => ?_; lia)
    · rw [if_neg hneg]
      repeat ((with_reducible apply And.intro); · ((repeat' (with_reducible apply And.intro)) <;> first | (first | lia | omega) | (unfold small; (first | lia | omega)) | (have := hw.2; (first | lia | omega)) | decide | trivial | (simp; (first | lia | omega))))
      rw [if_neg hneg]
      repeat ((with_reducible apply And.intro); · ((repeat' (with_reducible apply And.intro)) <;> first | (first | exact Int.natCast_nonneg _ | exact Int.ofNat_lt.mpr hij | exact Nat.lt_of_le_of_lt (Nat.le_trans (Nat.le_of_eq hg) lR) (by decide) | lia | omega) | (unfold small; (first | lia | omega)) | (have := hw.2; (first | lia | omega)) | decide | trivial | (simp; (first | lia | omega))))
      have e9 : ((g[at' + j] : Nat) : Int) - ((t % 2 ^ w : Nat) : Int) = ((g[at' + j] - t % 2 ^ w : Nat) : Int) := by (clear hg0; refine Decidable.byContradiction fun h => ?_; lia)
      have := hgo True 0 (g[at' + j] - t % 2 ^ w) (by (exact Nat.zero_le _)) (by have := htB.1; omega) (by (exact Nat.lt_of_le_of_lt (Nat.sub_le _ _) hg0)) (by (clear hg0 hgo; lia))
      rw [e9] at this
      rw [e9, set_nat, Int.add_zero]
      exact this
  · obtain ⟨g, c, o7, o8, o9, rfl, hg, og, hcB, hsame, hgv⟩ := hI
    have hen : (enumD 0 (b.map fun n : Nat => D.int n)).length = b.length := by rw [enumD_length]; simp
    rw [hen] at hsame hgv
    rw [List.take_length] at hgv
    have hil : at' + b.length < g.length := by (exact Nat.lt_of_lt_of_le hat (Nat.le_of_eq hg.symm))
    have hg0 := og _ (List.getElem_mem hil)
    have fin : ∀ h nv : Nat, h ≤ 1 → nv < 2 ^ w → nv + c = g[at' + b.length] + 2 ^ w * h → post (some (.int ((h : Nat) : Int))) (some (il (g.set (at' + b.length) nv))) := by
      intro h nv hh hnv heq
      refine hp _ h (by simp [hg]) (ok_set og hnv) hh (fun t h1 h2 ht => ?_) ?_
      · rw [List.getElem_set_ne (by (exact Nat.ne_of_lt ht))]
        exact hsame t (by simpa using h1) h2 (by (exact Nat.le_of_lt ht))
      · have e2 := val_set (w := w) (v := nv) hil
        have e4 : 2 ^ (w * (at' + b.length + 1)) = 2 ^ (w * (at' + b.length)) * 2 ^ w := by rw [Nat.mul_succ, Nat.pow_add]
        have e5 : 2 ^ (w * (at' + b.length)) * (nv + c) = 2 ^ (w * (at' + b.length)) * (g[at' + b.length] + 2 ^ w * h) := by rw [heq]
        rw [Nat.mul_add (2 ^ (w * (at' + b.length))), Nat.mul_add (2 ^ (w * (at' + b.length)))] at e5
        rw [e4, Nat.mul_assoc]
        (clear hcB; lia)
    unfold r_take_away_0
    (try simp only [↓Ye, ↓Mp, ↓Ms, ↓Mz, ↓Ka, ↓Kc, ↓Kg, ↓Ki, ↓Kn, ↓Ko, ↓Ky, ↓Yg, ↓Yh, ↓Yi, ↓Yl, ↓Yn, ↓Zb, ↓Zd, ↓Yv, Fs.put, Fs.setσ, bodyQ, bodyR, ↓vA, ↓vB, ↓vC, ↓vD, vK, decide_eq_true_eq, nl, il, idx_add, toNat_w])
    repeat ((with_reducible apply And.intro); · ((repeat' (with_reducible apply And.intro)) <;> first | (exact Nat.lt_of_le_of_lt lb (by decide)) | (unfold small; (first | lia | omega)) | (have := hw.2; (first | lia | omega)) | decide | trivial | (simp; (first | lia | omega))))
    refine wIdx_nat (by (exact Nat.lt_of_le_of_lt (Nat.le_trans (Nat.le_of_eq hg) lR) (by decide))) hil ?_
    (try simp only [↓Yh])
    repeat ((with_reducible apply And.intro); · ((repeat' (with_reducible apply And.intro)) <;> first | (first | lia | omega) | (unfold small; (first | lia | omega)) | (have := hw.2; (first | lia | omega)) | decide | trivial | (simp; (first | lia | omega))))
    by_cases hneg : ((g[at' + b.length] : Nat) : Int) - ((c : Nat) : Int) < 0
    · rw [if_pos hneg]
      repeat ((with_reducible apply And.intro); · ((repeat' (with_reducible apply And.intro)) <;> first | (first | exact Int.natCast_nonneg _ | exact Int.ofNat_lt.mpr hil | exact Nat.lt_of_le_of_lt lb (by decide) | exact Nat.lt_of_le_of_lt (Nat.le_trans (Nat.le_of_eq hg) lR) (by decide) | lia | omega) | (unfold small; (first | lia | omega)) | (have := hw.2; (first | lia | omega)) | decide | trivial | (simp; (first | lia | omega))))
      rw [if_pos hneg]
      have e9 : ((g[at' + b.length] : Nat) : Int) - ((c : Nat) : Int) + ((2 ^ w : Nat) : Int) = ((g[at' + b.length] + 2 ^ w - c : Nat) : Int) := by (clear hB hq hB3; lia)
      rw [e9, set_nat]
      exact fin 1 _ (by (exact Nat.le_refl _)) (by (clear hat lR hq hgv hg hen; omega)) (by (refine Decidable.byContradiction fun h => ?_; lia))
    · rw [if_neg hneg]
      repeat ((with_reducible apply And.intro); · ((repeat' (with_reducible apply And.intro)) <;> first | (first | exact Int.natCast_nonneg _ | exact Int.ofNat_lt.mpr hil | exact Nat.lt_of_le_of_lt lb (by decide) | exact Nat.lt_of_le_of_lt (Nat.le_trans (Nat.le_of_eq hg) lR) (by decide) | lia | omega) | (unfold small; (first | lia | omega)) | (have := hw.2; (first | lia | omega)) | decide | trivial | (simp; (first | lia | omega))))
      rw [if_neg hneg]
      have e9 : ((g[at' + b.length] : Nat) : Int) - ((c : Nat) : Int) = ((g[at' + b.length] - c : Nat) : Int) := by lia
      rw [e9, set_nat]
      exact fin 0 _ (by (exact Nat.zero_le _)) (by (exact Nat.lt_of_le_of_lt (Nat.sub_le _ _) hg0)) (by lia)
end LM

namespace LM

/-- put_back: a window and b once more. -/
inductive spPut (ds : List D) (c : Option (List D)) (post : Option D → Option (List D) → Prop) : Prop
  | mk : ∀ w b at' R, (W w) → (Ok w b) → (Ok w R) → (b.length ≤ 1000) → (R.length ≤ 1000) → (at' + b.length < R.length) → (ds = [nl b, .int ((at' : Nat) : Int), .int w]) → (c = some (il R)) → (∀ R' r, R'.length = R.length → Ok w R' → r ≤ 1 → (∀ t (h : t < R'.length) (h' : t < R.length), at' + b.length < t → R'[t] = R[t]) → val w R' + 2 ^ (w * (at' + b.length + 1)) * r = val w R + 2 ^ (w * at') * val w b → post (some .none) (some (il R'))) → spPut ds c post

theorem hsp_put_back {T : Nat → Option LM.Spec} : ∀ ds c post, spPut ds c post → ds.length + (match c with | none => 0 | some _ => 1) = a_put_back ∧ wSs T p_put_back (entryΓ v_put_back.length ds c) (bodyQ c post) (c = none ∧ ∃ c', post none c') := by
  rintro ds c post ⟨w, b, at', R, hw, ob, oR, lb, lR, hat, rfl, rfl, hp⟩
  refine ⟨rfl, ?_⟩
  have hB := Nat.two_pow_pos w
  have hB3 := B_le hw
  show wSs T p_put_back ⟨[some (.c 0), some (.d (nl b)), some (.d (.int ((at' : Nat) : Int))), some (.d (.int w)), none, none, none, none], [some (il R)]⟩ _ _
  unfold p_put_back
  (try simp only [↓Ye, ↓Mq, ↓My, ↓Ka, ↓Kc, ↓Kg, ↓Mh, ↓Mi, ↓Mk, ↓Yg, ↓Yh, ↓Zd, ↓Zh, Fs.put, Fs.puts, bodyQ, bodyR, ↓vA, ↓vB, ↓vC, ↓vD, ↓vI, ↓vJ, true_and, reduceCtorEq, nl, toNat_w, shl_one])
  repeat ((with_reducible apply And.intro); · ((repeat' (with_reducible apply And.intro)) <;> first | (first | decide | exact Int.natCast_nonneg _ | lia | omega) | (unfold small; (first | lia | omega)) | (have := hw.2; (exact Int.ofNat_le.mpr (Nat.le_of_lt (Nat.lt_of_le_of_lt hw.2 (by decide))))) | decide | trivial | (simp; (first | lia | omega))))
  refine for_gen _ (fun j Γ => Ex4 (fun g c o7 o8 => Γ = ⟨[some (.c 0), some (.d (nl b)), some (.d (.int ((at' : Nat) : Int))), some (.d (.int w)), some (.d (.int ((c : Nat) : Int))), some (.d (.int (((2 ^ w : Nat) : Int) - 1))), o7, o8], [some (il g)]⟩) (fun g c o7 o8 => Al5 (g.length = R.length) (Ok w g) (c ≤ 1) ((∀ t (h : t < g.length) (h' : t < R.length), at' + j ≤ t → g[t] = R[t])) (val w g + 2 ^ (w * (at' + j)) * c = val w R + 2 ^ (w * at') * val w (b.take j))))
    ⟨R, 0, none, none, by simp [nl], rfl, oR, by (exact Nat.zero_le _), (fun t h h' _ => rfl), by simp [val]⟩ (fun j d Γ hd hI k hn hc hr => ?_) fun Γ hI => ?_
  · obtain ⟨g, c, o7, o8, rfl, hg, og, hcB, hsame, hgv⟩ := hI
    obtain ⟨hj, rfl⟩ := enum_nat hd
    have hb := ob _ (List.getElem_mem hj)
    have hij : at' + j < g.length := by (refine Nat.lt_of_not_le fun h => ?_; lia)
    have hg0 := og _ (List.getElem_mem hij)
    unfold b_put_back_0
    (try simp only [↓Yd, ↓Ye, ↓Ms, ↓Mt, ↓Ka, ↓Kg, ↓Ky, ↓Yg, ↓Yh, ↓Yn, ↓Zb, ↓Zi, ↓Zj, Fs.put, Fs.setσ, ↓vA, ↓vB, ↓vC, ↓vD, vK, ↓Zn, nl, il, toNat_w, idx_add])
    refine wIdx_nat (by (exact Nat.lt_of_le_of_lt (Nat.le_trans (Nat.le_of_eq hg) lR) (by decide))) hij ?_
    (try simp only [↓Yh, ↓Zb, idx_add, band_mask, shr_nat, toNat_w, set_nat])
    repeat ((with_reducible apply And.intro); · ((repeat' (with_reducible apply And.intro)) <;> first | (first | exact Int.natCast_nonneg _ | exact Int.ofNat_lt.mpr hij | exact Nat.lt_of_le_of_lt (Nat.le_trans (Nat.le_of_eq hg) lR) (by decide) | lia | omega) | (unfold small; (first | lia | omega)) | (have := hw.2; (first | lia | omega)) | decide | trivial | (simp; (first | lia | omega))))
    refine hn _ ⟨_, _, _, _, rfl, by simp [hg], ok_set og (Nat.mod_lt _ hB), div_one hB (by (clear hB3 hB; refine Nat.lt_of_not_le fun h => ?_; lia)), fun t h h' ht => ?_, ?_⟩
    · rw [List.getElem_set_ne (by (clear h h'; intro h; subst h; lia))]
      exact hsame t (by simpa using h) h' (by lia)
    · have e2 := val_set (w := w) (v := (c + (g[at' + j] + b[j])) % 2 ^ w) hij
      have e3 := Nat.mod_add_div (c + (g[at' + j] + b[j])) (2 ^ w)
      have e4 : 2 ^ (w * (at' + (j + 1))) = 2 ^ (w * (at' + j)) * 2 ^ w := by rw [← Nat.add_assoc, Nat.mul_succ, Nat.pow_add]
      rw [e4, val_take_succ hj]
      have e5 : 2 ^ (w * (at' + j)) * (c + (g[at' + j] + b[j])) = 2 ^ (w * (at' + j)) * ((c + (g[at' + j] + b[j])) % 2 ^ w) + 2 ^ (w * (at' + j)) * 2 ^ w * ((c + (g[at' + j] + b[j])) / 2 ^ w) := by
        rw [Nat.mul_assoc, ← Nat.mul_add, e3]
      have e6 : 2 ^ (w * at') * (val w (b.take j) + 2 ^ (w * j) * b[j]) = 2 ^ (w * at') * val w (b.take j) + 2 ^ (w * (at' + j)) * b[j] := by
        rw [Nat.mul_add, Nat.mul_add w at' j, Nat.pow_add, Nat.mul_assoc]
      have e7 : 2 ^ (w * (at' + j)) * (c + (g[at' + j] + b[j])) = 2 ^ (w * (at' + j)) * c + (2 ^ (w * (at' + j)) * g[at' + j] + 2 ^ (w * (at' + j)) * b[j]) := by
        rw [Nat.mul_add (2 ^ (w * (at' + j))), Nat.mul_add (2 ^ (w * (at' + j)))]
      rw [e6]
      (clear hB3 hB; refine Decidable.byContradiction fun h => ?_; lia)
  · obtain ⟨g, c, o7, o8, rfl, hg, og, hcB, hsame, hgv⟩ := hI
    have hen : (enumD 0 (b.map fun n : Nat => D.int n)).length = b.length := by rw [enumD_length]; simp
    rw [hen] at hsame hgv
    rw [List.take_length] at hgv
    have hil : at' + b.length < g.length := by (exact Nat.lt_of_lt_of_le hat (Nat.le_of_eq hg.symm))
    have hg0 := og _ (List.getElem_mem hil)
    unfold r_put_back_0
    (try simp only [↓Yd, ↓Ye, ↓Ms, ↓Ka, ↓Kg, ↓Ko, ↓Ky, ↓Yg, ↓Yh, ↓Yl, ↓Yn, ↓Zb, ↓Zj, Fs.setσ, bodyQ, bodyR, ↓vA, ↓vB, ↓vC, vK, nl, il, idx_add, toNat_w])
    repeat ((with_reducible apply And.intro); · ((repeat' (with_reducible apply And.intro)) <;> first | (exact Nat.lt_of_le_of_lt lb (by decide)) | (unfold small; (first | lia | omega)) | (have := hw.2; (first | lia | omega)) | decide | trivial | (simp; (first | lia | omega))))
    refine wIdx_nat (by (exact Nat.lt_of_le_of_lt (Nat.le_trans (Nat.le_of_eq hg) lR) (by decide))) hil ?_
    (try simp only [↓Yh, ↓Zb, idx_add, band_mask, toNat_w, set_nat])
    repeat ((with_reducible apply And.intro); · ((repeat' (with_reducible apply And.intro)) <;> first | (first | exact Int.natCast_nonneg _ | exact Int.ofNat_lt.mpr hil | exact Nat.lt_of_le_of_lt lb (by decide) | exact Nat.lt_of_le_of_lt (Nat.le_trans (Nat.le_of_eq hg) lR) (by decide) | lia | omega) | (unfold small; (first | lia | omega)) | (have := hw.2; (first | lia | omega)) | decide | trivial | (simp; (first | lia | omega))))
    refine hp (g.set (at' + b.length) ((g[at' + b.length] + c) % 2 ^ w)) ((g[at' + b.length] + c) / 2 ^ w) (by simp [hg]) (ok_set og (Nat.mod_lt _ hB)) (div_one hB (by (clear hB hB3 hgv; refine Nat.lt_of_not_le fun h => ?_; lia))) (fun t h1 h2 ht => ?_) ?_
    · rw [List.getElem_set_ne (by (exact Nat.ne_of_lt ht))]
      exact hsame t (by simpa using h1) h2 (by (exact Nat.le_of_lt ht))
    · have e2 := val_set (w := w) (v := (g[at' + b.length] + c) % 2 ^ w) hil
      have e3 := Nat.mod_add_div (g[at' + b.length] + c) (2 ^ w)
      have e4 : 2 ^ (w * (at' + b.length + 1)) = 2 ^ (w * (at' + b.length)) * 2 ^ w := by rw [Nat.mul_succ, Nat.pow_add]
      have e5 : 2 ^ (w * (at' + b.length)) * (g[at' + b.length] + c) = 2 ^ (w * (at' + b.length)) * ((g[at' + b.length] + c) % 2 ^ w) + 2 ^ (w * (at' + b.length)) * 2 ^ w * ((g[at' + b.length] + c) / 2 ^ w) := by
        rw [Nat.mul_assoc, ← Nat.mul_add, e3]
      rw [Nat.mul_add (2 ^ (w * (at' + b.length)))] at e5
      rw [e4]
      (clear hB3 hB; refine Decidable.byContradiction fun h => ?_; lia)

theorem knuth {B P u D V T3 q : Nat} (hP : 0 < P) (hD1 : u * P ≤ D) (hD2 : D < (u + 1) * P) (hV1 : T3 * P ≤ V) (hV2 : V < (T3 + 1) * P) (hVD : V < D * B) (huB : B ≤ u) (hq1 : q * u ≤ T3) (hqB : q < B) (hq2 : q + 1 < B → T3 < (q + 1) * u) :
    V / D ≤ q ∧ q ≤ V / D + 1 := by
  have hu : 0 < u := by (exact Nat.lt_of_lt_of_le (Nat.lt_of_le_of_lt (Nat.zero_le _) hqB) huB)
  have hD : 0 < D := Nat.lt_of_lt_of_le (Nat.mul_pos hu hP) hD1
  constructor
  · apply Nat.le_of_not_lt
    intro hlt
    have hvB : V / D < B := by rw [Nat.div_lt_iff_lt_mul hD, Nat.mul_comm]; exact hVD
    have h1 := hq2 (by (clear hqB; refine Nat.lt_of_not_le fun h => ?_; lia))
    have h2 : T3 + 1 ≤ V / D * u := Nat.le_trans h1 (Nat.mul_le_mul_right u hlt)
    have h3 : (T3 + 1) * P ≤ V / D * D := by
      calc (T3 + 1) * P ≤ V / D * u * P := Nat.mul_le_mul_right P h2
        _ = V / D * (u * P) := Nat.mul_assoc _ _ _
        _ ≤ V / D * D := Nat.mul_le_mul_left _ hD1
    have h4 := Nat.div_mul_le_self V D
    (clear hqB hD2 hD1 hP hVD; lia)
  · apply Nat.le_of_not_lt
    intro hlt
    have hvB : V / D < B := by rw [Nat.div_lt_iff_lt_mul hD, Nat.mul_comm]; exact hVD
    obtain ⟨v, hv⟩ : ∃ v, v = V / D := ⟨_, rfl⟩
    rw [← hv] at hlt hvB
    have h1 : (v + 2) * u ≤ T3 := Nat.le_trans (Nat.mul_le_mul_right u (by assumption)) hq1
    have h2 : (v + 2) * u * P ≤ V := Nat.le_trans (Nat.mul_le_mul_right P h1) hV1
    have h3 : V < (v + 1) * D := by rw [hv, Nat.mul_comm]; exact Nat.lt_mul_div_succ V hD
    have h4 : (v + 1) * D ≤ (v + 1) * ((u + 1) * P) := Nat.mul_le_mul_left _ (Nat.le_of_lt hD2)
    rw [← Nat.mul_assoc] at h4
    have h5 : (v + 2) * u * P < (v + 1) * (u + 1) * P := by (exact Nat.lt_of_lt_of_le (Nat.lt_of_le_of_lt h2 h3) h4)
    have h6 : (v + 2) * u < (v + 1) * (u + 1) := Nat.lt_of_mul_lt_mul_right h5
    rw [Nat.add_mul, Nat.add_mul, Nat.mul_add v u 1] at h6
    (clear hlt; lia)

theorem val_all_zero {w : Nat} : ∀ {l : List Nat}, (∀ d ∈ l, d = 0) → val w l = 0
  | [], _ => rfl
  | d :: l, h => by
    show d + 2 ^ w * val w l = 0
    rw [h d (.head _), val_all_zero fun x hx => h x (.tail _ hx)]; simp
theorem val_lt_zero {w k : Nat} {l : List Nat} (ho : Ok w l) (hz : ∀ t (h : t < l.length), k ≤ t → l[t] = 0) : val w l < 2 ^ (w * k) := by
  rw [val_drop l k, val_all_zero (l := l.drop k) fun d hd => ?_]
  · have h1 := val_lt (ok_take (n := k) ho)
    have h2 : 2 ^ (w * (l.take k).length) ≤ 2 ^ (w * k) := Nat.pow_le_pow_right (by decide) (Nat.mul_le_mul_left _ (by rw [List.length_take]; lia))
    simp only [Nat.mul_zero, Nat.add_zero]
    (exact Nat.lt_of_lt_of_le h1 h2)
  · obtain ⟨i, hi, rfl⟩ := List.getElem_of_mem hd
    rw [List.getElem_drop]
    exact hz _ _ (by (exact Nat.le_add_right _ _))

/-- one row of a division: the limbs of x by D at the place of P. -/
theorem row_zero {x P D q v2 : Nat} (hP : 0 < P) (hD : 0 < D) (hq : x / P / D ≤ q) (h : v2 + P * (q * D) = x) : q = x / P / D ∧ v2 < D * P := by
  have h1 : q * D ≤ x / P := by
    rw [Nat.le_div_iff_mul_le hP]
    rw [Nat.mul_comm (q * D) P]; (exact Nat.le_trans (Nat.le_add_left _ _) (Nat.le_of_eq h))
  have h2 : q ≤ x / P / D := by rw [Nat.le_div_iff_mul_le hD]; exact h1
  have he : q = x / P / D := by lia
  refine ⟨he, ?_⟩
  have h3 : x / P < (q + 1) * D := by rw [he, Nat.mul_comm]; exact Nat.lt_mul_div_succ _ hD
  have h4 : x < P * (x / P + 1) := Nat.lt_mul_div_succ x hP
  have h5 : P * (x / P + 1) ≤ P * ((q + 1) * D) := Nat.mul_le_mul_left P h3
  have h6 : P * ((q + 1) * D) = P * (q * D) + P * D := by rw [Nat.add_mul, Nat.one_mul, Nat.mul_add]
  rw [Nat.mul_comm D P]
  (refine Nat.lt_of_not_le fun h => ?_; lia)
theorem row_one {x P D q v2 v3 G r' : Nat} (hP : 0 < P) (hD : 0 < D) (hq : q ≤ x / P / D + 1) (h2 : v2 < G) (h : v2 + P * (q * D) = x + G) (h3 : v3 < G) (hr : r' ≤ 1) (h4 : v3 + G * r' = v2 + P * D) :
    0 < q ∧ q - 1 = x / P / D ∧ v3 < D * P ∧ v3 + P * ((q - 1) * D) = x := by
  have h5 : x < P * (q * D) := by (refine Nat.lt_of_not_le fun h => ?_; lia)
  have h6 : x / P < q * D := by rw [Nat.div_lt_iff_lt_mul hP, Nat.mul_comm]; exact h5
  have h7 : x / P / D < q := by rw [Nat.div_lt_iff_lt_mul hD]; exact h6
  have he : q - 1 = x / P / D := by
    generalize x / P / D = v at *
    (refine congrArg Nat.cast (?_ : (_ : Nat) = _); lia)
  have hq0 : 0 < q := Nat.lt_of_le_of_lt (Nat.zero_le _) h7
  have h8 : P * (q * D) = P * ((q - 1) * D) + P * D := by
    rw [← Nat.mul_add]
    congr 1
    have : q = (q - 1) + 1 := by lia
    conv => lhs; rw [this, Nat.add_mul, Nat.one_mul]
  have h9 : P * ((q - 1) * D) ≤ x := by
    rw [he]
    calc P * (x / P / D * D) ≤ P * (x / P) := Nat.mul_le_mul_left P (Nat.div_mul_le_self _ _)
      _ ≤ x := Nat.mul_div_le x P
  have hr1 : r' = 1 := by
    rcases Nat.eq_zero_or_pos r' with h0 | h0
    · subst h0; (refine Decidable.byContradiction fun h => ?_; lia)
    · lia
  subst hr1
  have hv : v3 + P * ((q - 1) * D) = x := by lia
  exact ⟨hq0, he, (row_zero hP hD (Nat.le_of_eq he.symm) hv).2, hv⟩
end LM

namespace LM

/-- divide_rows. -/
inductive spRows (ds : List D) (c : Option (List D)) (post : Option D → Option (List D) → Prop) : Prop
  | mk : ∀ w b R, (W w) → (Ok w b) → (Ok w R) → (b.length ≤ 500) → (R.length ≤ 900) → (2 ≤ b.length) → (b.length ≤ R.length) → ((∀ h : b.length - 1 < b.length, 0 < b[b.length - 1])) → (val w R < val w b * 2 ^ (w * (R.length - b.length))) → (ds = [nl b, .int w]) → (c = some (il R)) → (∀ Q R', Q.length = R.length - b.length → R'.length = R.length → Ok w Q → Ok w R' → val w Q * val w b + val w R' = val w R → val w R' < val w b → post (some (nl Q)) (some (il R'))) → spRows ds c post

theorem take3 {l : List Nat} {a : Nat} (h : a + 2 < l.length) : (l.drop a).take 3 = [l[a], l[a + 1], l[a + 2]] := by
  rw [List.drop_eq_getElem_cons (show a < l.length by (exact Nat.lt_of_le_of_lt (Nat.le_add_right _ _) h)), List.drop_eq_getElem_cons (show a + 1 < l.length by (refine Nat.lt_of_not_le fun h => ?_; lia)), List.drop_eq_getElem_cons (show a + 1 + 1 < l.length by omega)]
  rfl

theorem top_two {w : Nat} {b : List Nat} (ob : Ok w b) (h2 : 2 ≤ b.length) : (b[b.length - 1] * 2 ^ w + b[b.length - 2]) * 2 ^ (w * (b.length - 2)) ≤ val w b ∧ val w b < (b[b.length - 1] * 2 ^ w + b[b.length - 2] + 1) * 2 ^ (w * (b.length - 2)) := by
  have hd : b.drop (b.length - 2) = [b[b.length - 2], b[b.length - 1]] := by
    rw [List.drop_eq_getElem_cons (show b.length - 2 < b.length by (exact Nat.sub_lt (Nat.lt_of_lt_of_le (by decide) h2) (by decide)))]
    have e : b.length - 2 + 1 = b.length - 1 := by lia
    rw [e, List.drop_eq_getElem_cons (show b.length - 1 < b.length by (exact Nat.sub_lt (Nat.lt_of_lt_of_le (by decide) h2) (by decide))), List.drop_of_length_le (by (clear e h2; omega))]
  have hv := val_drop (w := w) b (b.length - 2)
  rw [hd, List.length_take, Nat.min_eq_left (by (exact Nat.sub_le _ _))] at hv
  have hl := val_lt (ok_take (n := b.length - 2) ob)
  rw [List.length_take, Nat.min_eq_left (by (exact Nat.sub_le _ _))] at hl
  have e2 : val w [b[b.length - 2], b[b.length - 1]] = b[b.length - 1] * 2 ^ w + b[b.length - 2] := by
    show b[b.length - 2] + 2 ^ w * (b[b.length - 1] + 2 ^ w * 0) = _
    rw [Nat.mul_zero, Nat.add_zero, Nat.mul_comm, Nat.add_comm]
  rw [e2] at hv
  rw [Nat.add_mul _ 1, Nat.one_mul, Nat.mul_comm _ (2 ^ (w * (b.length - 2)))]
  (clear e2; omega)

theorem three_top {w j n : Nat} {R : List Nat} (oR : Ok w R) (h2 : 2 ≤ n) (hjn : j + n < R.length) (hx : val w R < 2 ^ (w * (j + n + 1))) :
    (((R[j + n] * 2 ^ w + R[j + n - 1]) * 2 ^ w + R[j + n - 2]) * 2 ^ (w * (n - 2)) ≤ val w R / 2 ^ (w * j)) ∧ val w R / 2 ^ (w * j) < ((R[j + n] * 2 ^ w + R[j + n - 1]) * 2 ^ w + R[j + n - 2] + 1) * 2 ^ (w * (n - 2)) := by
  rw [div_take oR (by (exact Nat.le_of_lt (Nat.lt_of_le_of_lt (Nat.le_add_right _ _) hjn)))]
  have hz : val w (R.drop (j + n + 1)) = 0 := by rw [← div_take oR (by assumption), Nat.div_eq_of_lt hx]
  have hd : R.drop (j + n - 2) = R[j + n - 2] :: R[j + n - 1] :: R[j + n] :: R.drop (j + n + 1) := by
    rw [List.drop_eq_getElem_cons (show j + n - 2 < R.length by (exact Nat.lt_of_le_of_lt (Nat.sub_le _ _) hjn))]
    have e : j + n - 2 + 1 = j + n - 1 := by lia
    rw [e, List.drop_eq_getElem_cons (show j + n - 1 < R.length by (exact Nat.lt_of_le_of_lt (Nat.sub_le _ _) hjn))]
    have e : j + n - 1 + 1 = j + n := by lia
    rw [e, List.drop_eq_getElem_cons (show j + n < R.length by omega)]
  have hv := val_drop (w := w) (R.drop j) (n - 2)
  rw [List.drop_drop, show j + (n - 2) = j + n - 2 by (clear hv hd; refine Nat.le_antisymm ?_ ?_ <;> lia), hd, List.length_take, List.length_drop, Nat.min_eq_left (by (clear hv; lia))] at hv
  have od : Ok w (R.drop j) := fun d hd => oR d (List.mem_of_mem_drop hd)
  have hl := val_lt (ok_take (n := n - 2) od)
  rw [List.length_take, List.length_drop, Nat.min_eq_left (by (clear hl hv; lia))] at hl
  have e2 : val w (R[j + n - 2] :: R[j + n - 1] :: R[j + n] :: R.drop (j + n + 1)) = (R[j + n] * 2 ^ w + R[j + n - 1]) * 2 ^ w + R[j + n - 2] := by
    show R[j + n - 2] + 2 ^ w * (R[j + n - 1] + 2 ^ w * (R[j + n] + 2 ^ w * val w (R.drop (j + n + 1)))) = _
    rw [hz, Nat.mul_zero, Nat.add_zero, Nat.mul_comm (2 ^ w) R[j + n], Nat.add_comm R[j + n - 1], Nat.mul_comm (2 ^ w), Nat.add_comm]
  rw [e2] at hv
  rw [Nat.add_mul _ 1, Nat.one_mul, Nat.mul_comm _ (2 ^ (w * (n - 2)))]
  (clear hz hx e2; omega)

theorem hsp_divide_rows {T : Nat → Option LM.Spec} (h29 : T 29 = some spGuess) (h30 : T 30 = some spTake) (h31 : T 31 = some spPut) : ∀ ds c post, spRows ds c post → ds.length + (match c with | none => 0 | some _ => 1) = a_divide_rows ∧ wSs T p_divide_rows (entryΓ v_divide_rows.length ds c) (bodyQ c post) (c = none ∧ ∃ c', post none c') := by
  rintro ds c post ⟨w, b, R, hw, ob, oR, lb, lR, hb2, hbR, htop, hlt, rfl, rfl, hp⟩
  refine ⟨rfl, ?_⟩
  have hB := Nat.two_pow_pos w
  have hB3 := B_le hw
  show wSs T p_divide_rows ⟨[some (.c 0), some (.d (nl b)), some (.d (.int w)), none, none, none, none], [some (il R)]⟩ _ _
  unfold p_divide_rows
  (repeat simp only [↓Ye, ↓Mp, ↓My, ↓Ka, ↓Kc, ↓Kd, ↓Kg, ↓Ko, ↓Me, ↓Mo, ↓Yg, ↓Yh, ↓Yl, ↓Yn, ↓Zd, Fs.put, Fs.own, bodyQ, bodyR, ↓vA, ↓vB, ↓vC, ↓vD, ↓vG, ↓vH, ↓vI, ↓vJ, vK, reduceCtorEq, nl, il, toNat_w, shl_one])
  repeat ((with_reducible apply And.intro); · ((repeat' (with_reducible apply And.intro)) <;> first | (first | decide | exact Nat.lt_of_le_of_lt lb (by decide) | exact Nat.lt_of_le_of_lt lR (by decide) | (clear lb hb2; lia) | lia | omega) | (unfold small; (first | decide | (clear lb hb2; constructor <;> first | (refine Int.lt_of_not_ge fun h => ?_; lia) | (refine Nat.lt_of_not_le fun h => ?_; lia) | lia) | lia | omega)) | (have := hw.2; (first | lia | omega)) | decide | trivial | (simp; (first | lia | omega))))
  have em : ((R.length : Nat) : Int) - ((b.length : Nat) : Int) = ((R.length - b.length : Nat) : Int) := by (clear lb; lia)
  (repeat simp only [em, toNat_w])
  repeat ((with_reducible apply And.intro); · ((repeat' (with_reducible apply And.intro)) <;> first | (first | lia | omega) | (unfold small; (first | lia | omega)) | (have := hw.2; (first | lia | omega)) | decide | trivial | (simp; (first | lia | omega))))
  rw [rangeN_down]
  obtain ⟨m, hm⟩ : ∃ m, m = R.length - b.length := ⟨_, rfl⟩
  obtain ⟨n, hn0⟩ : ∃ n, n = b.length := ⟨_, rfl⟩
  rw [← hm] at hlt ⊢
  have htt := top_two ob hb2
  have htp := htop (by (exact Nat.sub_lt (Nat.lt_of_lt_of_le (by decide) hb2) (by decide)))
  have hu : 2 ^ w ≤ b[b.length - 1] * 2 ^ w + b[b.length - 2] := by
    have : 1 * 2 ^ w ≤ b[b.length - 1] * 2 ^ w := Nat.mul_le_mul_right _ htp
    (clear h29 htt hlt hp htop htp hB3; omega)
  have hP2 := Nat.two_pow_pos (w * (b.length - 2))
  have hD0 : 0 < val w b := Nat.lt_of_lt_of_le (Nat.mul_pos (by (clear hbR lR htt hlt hB3 htp; omega)) hP2) htt.1
  have hDB : val w b < 2 ^ (w * b.length) := val_lt ob
  refine for_gen _ (fun i Γ => Ex4 (fun R' Q o5 o6 => Γ = ⟨[some (.c 0), some (.d (nl b)), some (.d (.int w)), some (.d (.int ((b.length : Nat) : Int))), some (.c 1), o5, o6], [some (il R'), some (il Q)]⟩) (fun R' Q o5 o6 => Al6 (R'.length = R.length) (Ok w R') (Q.length = m) (Ok w Q) (val w R' < val w b * 2 ^ (w * (m - i))) (2 ^ (w * (m - i)) * (val w (Q.drop (m - i)) * val w b) + val w R' = val w R)))
    ⟨R, List.replicate m 0, none, none, by simp [nl, il], rfl, oR, by simp, (fun d hd => by rw [List.eq_of_mem_replicate hd]; exact hB), hlt, by simp [val]⟩ (fun i d Γ hd hI k hn hc hr => ?_) fun Γ hI => ?_
  · obtain ⟨R', Q, o5, o6, rfl, hR', oR', hQ, oQ, hx, hv⟩ := hI
    obtain ⟨hi, rfl⟩ := rangeD_get hd
    obtain ⟨j, hj⟩ : ∃ j, j = m - 1 - i := ⟨_, rfl⟩
    have e : ((m : Nat) : Int) - 1 + (i : Int) * -1 = (j : Int) := by (clear hd; lia)
    rw [e]
    have hmi : m - i = j + 1 := by (clear hj hd; lia)
    have hmi' : m - (i + 1) = j := by lia
    rw [hmi] at hx hv
    rw [hmi'] at hn
    have hjn : j + b.length < R'.length := by (clear hd hmi' hj; refine Nat.lt_of_not_le fun h => ?_; lia)
    have hPj := Nat.two_pow_pos (w * j)
    have hpw : 2 ^ (w * (j + 1)) = 2 ^ (w * j) * 2 ^ w := by rw [Nat.mul_succ, Nat.pow_add]
    have hG : val w R' < 2 ^ (w * (j + b.length + 1)) := by
      refine Nat.lt_of_lt_of_le hx ?_
      have : 2 ^ (w * (j + b.length + 1)) = 2 ^ (w * b.length) * 2 ^ (w * (j + 1)) := by rw [← Nat.pow_add, ← Nat.mul_add]; congr 2; lia
      rw [this]
      exact Nat.mul_le_mul_right _ (Nat.le_of_lt hDB)
    have h3 := three_top oR' hb2 hjn hG
    have hVD : val w R' / 2 ^ (w * j) < val w b * 2 ^ w := by
      rw [Nat.div_lt_iff_lt_mul hPj, Nat.mul_assoc, Nat.mul_comm (2 ^ w), ← hpw]; exact hx
    have hz : ∀ t (h : t < R'.length), j + b.length < t → R'[t] = 0 := fun t h ht => zero_above hG (by assumption) h
    unfold b_divide_rows_0
    (repeat simp only [↓Ye, ↓Mp, ↓Ka, ↓Kc, ↓Kf, ↓Kg, ↓Kv, ↓Ky, ↓Kz, ↓Mh, ↓Mi, ↓Yh, ↓Yk, ↓Yl, ↓Yo, ↓Yp, ↓Yq, ↓Yr, ↓Zb, ↓Zd, Fs.put, ↓vA, ↓vB, ↓vC, ↓vD, vK, ↓Zm, nl, il, toNat_w, idx_add])
    have ea : ((j + b.length : Nat) : Int) - 2 = ((j + b.length - 2 : Nat) : Int) := by (clear h3 e; lia)
    have eb : ((j + b.length : Nat) : Int) + 1 = ((j + b.length + 1 : Nat) : Int) := by (exact Int.natCast_add _ _)
    (repeat simp only [ea, eb])
    repeat ((with_reducible apply And.intro); · ((repeat' (with_reducible apply And.intro)) <;> first | (first | decide | exact Nat.le_of_lt (Nat.lt_of_le_of_lt (Nat.le_trans (Nat.le_of_eq hR') lR) (by decide)) | lia | omega) | (unfold small; (first | lia | omega)) | (have := hw.2; (first | lia | omega)) | decide | trivial | (simp; (first | lia | omega))))
    refine wIdx_int (j := b.length - 1) (by lia) (by (exact Nat.lt_of_le_of_lt lb (by decide))) (by (exact Nat.sub_lt (Nat.lt_of_lt_of_le (by decide) hb2) (by decide))) ?_
    refine wIdx_int (j := b.length - 2) (by lia) (by (exact Nat.lt_of_le_of_lt lb (by decide))) (by (exact Nat.sub_lt (Nat.lt_of_lt_of_le (by decide) hb2) (by decide))) ?_
    (refine use_of h29 ?_)
    have hpick : pick (R'.map fun n : Nat => D.int n) (some ((j + b.length - 2 : Nat) : Int)) (some ((j + b.length + 1 : Nat) : Int)) none = [D.int ((R'[j + b.length - 2] : Nat) : Int), .int ((R'[j + b.length - 1] : Nat) : Int), .int ((R'[j + b.length] : Nat) : Int)] := by
      rw [pick_both (by (exact Nat.le_trans (Nat.sub_le _ _) (Nat.le_add_right _ _))) (by simp; assumption), show j + b.length + 1 - (j + b.length - 2) = 3 by (clear e; lia), ← List.map_drop, ← List.map_take, take3 (by (clear e; refine Nat.lt_of_not_le fun h => ?_; lia))]
      simp only [List.map_cons, List.map_nil]
      have e1 : j + b.length - 2 + 1 = j + b.length - 1 := by (clear e; lia)
      have e2 : j + b.length - 2 + 2 = j + b.length := by (clear e; lia)
      simp only [e1, e2]
    rw [hpick]
    refine ⟨rfl, w, R'[j + b.length - 2], R'[j + b.length - 1], R'[j + b.length], b[b.length - 1], b[b.length - 2], hw, oR' _ (List.getElem_mem _), oR' _ (List.getElem_mem _), oR' _ (List.getElem_mem _), htp, ob _ (List.getElem_mem _), ob _ (List.getElem_mem _), rfl, fun q hqB hq1 hq2 => ?_⟩
    obtain ⟨hk1, hk2⟩ := knuth hP2 htt.1 htt.2 h3.1 h3.2 hVD hu hq1 hqB hq2
    (refine use_of h30 ?_)
    refine ⟨w, b, q, j, R', hw, ob, oR', hqB, by (exact Nat.le_of_lt (Nat.lt_of_le_of_lt lb (by decide))), by (exact Nat.le_of_lt (Nat.lt_of_le_of_lt (Nat.le_trans (Nat.le_of_eq hR') lR) (by decide))), hjn, rfl, rfl, fun R2 r hl2 o2 hr1 hs2 hv2 => ?_⟩
    have hz2 : val w R2 < 2 ^ (w * (j + b.length + 1)) := val_lt_zero o2 fun t h ht => by rw [hs2 t h (by (exact Nat.lt_of_lt_of_le h (Nat.le_of_eq hl2))) (by assumption)]; exact hz t (by (exact Nat.lt_of_lt_of_le h (Nat.le_of_eq hl2))) (by assumption)
    have hQj : j < Q.length := by (exact Nat.lt_of_lt_of_le (Nat.lt_of_lt_of_le (Nat.lt_of_lt_of_le (Nat.lt_succ_self _) (Nat.le_of_eq hmi.symm)) (Nat.sub_le _ _)) (Nat.le_of_eq hQ.symm))
    have hdone : ∀ (R3 : List Nat) (q3 : Nat) (o5 o6 : Option Rv), R3.length = R.length → Ok w R3 → q3 < 2 ^ w → val w R3 < val w b * 2 ^ (w * j) → val w R3 + 2 ^ (w * j) * (q3 * val w b) = val w R' → ∀ X, wSs T s_divide_rows_0 ⟨[some (.c 0), some (.d (nl b)), some (.d (.int w)), some (.d (.int ((b.length : Nat) : Int))), some (.c 1), some (.d (.int (j : Int))), some (.d (.int ((q3 : Nat) : Int)))], [some (il R3), some (il Q)]⟩ k X := by
      intro R3 q3 o5 o6 hl3 o3 hq3 hx3 hv3 X
      unfold s_divide_rows_0
      (repeat simp only [↓Yd, ↓Ye, ↓Ms, ↓Ka, ↓Yg, ↓Yh, Fs.setσ, ↓vA, ↓vB, ↓vC, ↓vD, vK, nl, il, toNat_w, set_nat])
      repeat ((with_reducible apply And.intro); · ((repeat' (with_reducible apply And.intro)) <;> first | (first | exact Int.natCast_nonneg _ | exact Int.ofNat_lt.mpr hQj | exact Nat.lt_of_le_of_lt (Nat.le_trans (Nat.le_trans (Nat.le_trans (Nat.le_of_eq hQ) (Nat.le_of_eq hm)) (Nat.sub_le _ _)) lR) (by decide) | lia | omega) | (unfold small; (first | lia | omega)) | (have := hw.2; (first | lia | omega)) | decide | trivial | (simp; (first | lia | omega))))
      refine hn _ ⟨R3, Q.set j q3, _, _, rfl, hl3, o3, by simp [hQ], ok_set oQ hq3, hx3, ?_⟩
      rw [List.drop_eq_getElem_cons (show j < (Q.set j q3).length by simp; omega), List.getElem_set_self, List.drop_set_of_lt (by (exact Nat.lt_succ_self _))]
      show 2 ^ (w * j) * ((q3 + 2 ^ w * val w (Q.drop (j + 1))) * val w b) + val w R3 = val w R
      rw [hpw] at hv
      rw [Nat.add_mul, Nat.mul_add]
      have e1 : 2 ^ (w * j) * (2 ^ w * val w (Q.drop (j + 1)) * val w b) = 2 ^ (w * j) * 2 ^ w * (val w (Q.drop (j + 1)) * val w b) := by
        rw [Nat.mul_assoc (2 ^ w), ← Nat.mul_assoc]
      rw [e1]
      (clear hlt; lia)
    (repeat simp only [↓Yd, ↓Ye, ↓Mt, ↓Mv, ↓Ka, ↓Kc, ↓Kx, ↓Mh, ↓Mi, ↓Yg, ↓Yh, ↓Yi, ↓Yq, ↓Yr, ↓Zd, ↓Yz, ↓Ys, Fs.put, Fs.setσ, ↓vA, ↓vB, ↓vC, ↓vD]); (try refine vP ?_)
    by_cases hr0 : r = 0
    · subst hr0
      rw [if_neg (by decide)]
      rw [Nat.mul_zero, Nat.add_zero] at hv2
      obtain ⟨_, hlow⟩ := row_zero hPj hD0 hk1 hv2
      exact hdone R2 q none none (by (exact hl2.trans hR')) o2 hqB hlow hv2 _
    · have : r = 1 := by lia
      subst this
      rw [if_pos (by decide)]
      (refine use_of h31 ?_)
      rw [Nat.mul_one] at hv2
      refine ⟨w, b, j, R2, hw, ob, o2, by (exact Nat.le_of_lt (Nat.lt_of_le_of_lt lb (by decide))), by (exact Nat.le_of_lt (Nat.lt_of_le_of_lt (Nat.le_trans (Nat.le_trans (Nat.le_of_eq hl2) (Nat.le_of_eq hR')) lR) (by decide))), by (exact Nat.lt_of_lt_of_le hjn (Nat.le_of_eq hl2.symm)), rfl, rfl, fun R3 r' hl3 o3 hr' hs3 hv3 => ?_⟩
      have hz3 : val w R3 < 2 ^ (w * (j + b.length + 1)) := val_lt_zero o3 fun t h ht => by
        rw [hs3 t h (by (exact Nat.lt_of_lt_of_le h (Nat.le_of_eq hl3))) (by assumption), hs2 t (by (exact Nat.lt_of_lt_of_le h (Nat.le_of_eq hl3))) (by (exact Nat.lt_of_lt_of_le (Nat.lt_of_lt_of_le h (Nat.le_of_eq hl3)) (Nat.le_of_eq hl2))) (by assumption)]; exact hz t (by (exact Nat.lt_of_lt_of_le (Nat.lt_of_lt_of_le h (Nat.le_of_eq hl3)) (Nat.le_of_eq hl2))) (by assumption)
      obtain ⟨hq0, _, hlow, hx3⟩ := row_one hPj hD0 hk2 hz2 hv2 hz3 hr' hv3
      (repeat simp only [])
      have e1 : ((q : Nat) : Int) - 1 = ((q - 1 : Nat) : Int) := by (clear hk2; lia)
      rw [e1]
      exact hdone R3 (q - 1) none none (by (exact (hl3.trans hl2).trans hR')) o3 (by (exact Nat.lt_of_le_of_lt (Nat.sub_le _ _) hqB)) hlow hx3 _
  · obtain ⟨R', Q, o5, o6, rfl, hR', oR', hQ, oQ, hx, hv⟩ := hI
    rw [rangeD_len, Nat.sub_self] at hx hv
    simp only [Nat.mul_zero, Nat.pow_zero, Nat.mul_one, Nat.one_mul, List.drop_zero] at hx hv
    exact hp Q R' (by (exact hQ.trans hm)) hR' oQ oR' hv hx
end LM

namespace LM

/-- divrem_small: by one limb. -/
inductive spDivSmall (ds : List D) (c : Option (List D)) (post : Option D → Option (List D) → Prop) : Prop
  | mk : (c = none) → ∀ w x y, (W w) → (sm x) → (0 < y) → (y < 2 ^ w) → (ds = [L w x, L w y, .int w]) → (post (some (.tup [L w (x / y), L w (x % y)])) none) → spDivSmall ds c post

theorem lim_small {w y : Nat} (hw : 0 < w) (h0 : 0 < y) (h : y < 2 ^ w) : lim w y = [y] := by
  rw [lim_pos hw h0, Nat.mod_eq_of_lt h, Nat.div_eq_of_lt h, lim_zero]
theorem hsp_divrem_small {T : Nat → Option LM.Spec} (h5 : T 5 = some spDivLimb) : ∀ ds c post, spDivSmall ds c post → ds.length + (match c with | none => 0 | some _ => 1) = a_divrem_small ∧ wSs T p_divrem_small (entryΓ v_divrem_small.length ds c) (bodyQ c post) (c = none ∧ ∃ c', post none c') := by
  rintro ds c post ⟨rfl, w, x, y, hw, hx, hy0, hy, rfl, hp⟩
  refine ⟨rfl, ?_⟩
  have hB3 := B_le hw
  have ly := lim_small hw.pos hy0 hy
  show wSs T p_divrem_small ⟨[some (.d (L w x)), some (.d (L w y)), some (.d (.int w)), none, none], []⟩ _ _
  have eL : L w y = .list [.int ((y : Nat) : Int)] := by unfold L nl; rw [ly]; rfl
  rw [eL]
  (first | (skip))
  refine ⟨by simp, .int ((y : Nat) : Int), rfl, ?_⟩
  (refine use_of h5 ?_)
  refine ⟨rfl, w, x, y, hw, hx, hy0, hy, rfl, ?_⟩
  (repeat (first | simp only [↓Ye, ↓Mz, ↓Ka, ↓Kc, ↓Ki, ↓Kn, ↓Ma, ↓Mb, ↓Mh, ↓Mi, ↓Yg, ↓Yh, ↓Yi, ↓Yq, ↓Yr, ↓Yw, Fs.put, Fs.puts, bodyQ, bodyR, ↓vA, ↓vB, ↓vC, ↓vD, ↓vE, ↓vF, ↓vI, ↓vJ] | (with_reducible refine And.intro True.intro ?_) | (with_reducible show wSs _ c_divrem_small_0 _ _ _; unfold c_divrem_small_0))); (try refine vP ?_)
  have hm := Nat.mod_lt x hy0
  by_cases hz : x % y = 0
  · rw [if_neg (by (exact Int.not_lt.mpr (Int.ofNat_le.mpr (Nat.le_of_eq hz))))]
    repeat ((with_reducible apply And.intro); · ((repeat' (with_reducible apply And.intro)) <;> first | (first | decide | exact Nat.zero_le _ | lia | omega) | (unfold small; (first | lia | omega)) | (have := hw.2; (first | lia | omega)) | decide | trivial | (simp; (first | lia | omega))))
    rw [hz] at hp
    simp only [L, lim_zero, nl, List.map_nil] at hp ⊢
    exact hp
  · rw [if_pos (by (exact Int.ofNat_lt.mpr (Nat.pos_of_ne_zero hz)))]
    repeat ((with_reducible apply And.intro); · ((repeat' (with_reducible apply And.intro)) <;> first | (first | decide | exact Nat.two_pow_pos _ | lia | omega) | (unfold small; (first | lia | omega)) | (have := hw.2; (first | lia | omega)) | decide | trivial | (simp; (first | lia | omega))))
    have e : L w (x % y) = .list [.int ((x % y : Nat) : Int)] := by unfold L nl; rw [lim_small hw.pos (by (exact Nat.pos_of_ne_zero hz)) (by (exact Nat.lt_trans hm hy))]; rfl
    rw [e] at hp
    exact hp

/-- divrem_school. -/
inductive spDiv (ds : List D) (c : Option (List D)) (post : Option D → Option (List D) → Prop) : Prop
  | mk : (c = none) → ∀ w x y, (W w) → (x < 2 ^ 900) → (0 < y) → (y < 2 ^ 900) → (ds = [L w x, L w y, .int w]) → (post (some (.tup [L w (x / y), L w (x % y)])) none) → spDiv ds c post

theorem sm_900 {x : Nat} (h : x < 2 ^ 900) : sm x := Nat.lt_of_lt_of_le h (Nat.pow_le_pow_right (by decide) (by decide))
theorem sm_shift {x n : Nat} (h : x < 2 ^ 900) (hn : n ≤ 8) : sm (x * 2 ^ n) := by
  unfold sm
  have h1 : x * 2 ^ n < 2 ^ 900 * 2 ^ n := Nat.mul_lt_mul_of_pos_right h (Nat.two_pow_pos n)
  have h2 : 2 ^ 900 * 2 ^ n ≤ 2 ^ 1000 := by rw [← Nat.pow_add]; exact Nat.pow_le_pow_right (by decide) (by lia)
  (exact Nat.lt_of_lt_of_le h1 h2)
theorem last_lim {w y : Nat} (hw : 0 < w) (hy : 0 < y) (h : (lim w y).length - 1 < (lim w y).length) : 0 < (lim w y)[(lim w y).length - 1] := by
  have := canon_lim hw y ((lim w y)[(lim w y).length - 1]) (by rw [List.getLast?_eq_getElem?, List.getElem?_eq_getElem h]; rfl)
  (exact Nat.pos_of_ne_zero this)
theorem lim_top {w y k : Nat} (hw : 0 < w) (hy : 0 < y) (h : (lim w y).length - 1 < (lim w y).length) (hk : (lim w y)[(lim w y).length - 1] < 2 ^ k) : y < 2 ^ k * 2 ^ (w * ((lim w y).length - 1)) := by
  have ho := ok_lim hw y
  have hv := val_drop (w := w) (lim w y) ((lim w y).length - 1)
  rw [val_lim hw, List.drop_eq_getElem_cons h, List.drop_of_length_le (by (clear hv; lia)), List.length_take, Nat.min_eq_left (by (exact Nat.sub_le _ _))] at hv
  have hl := val_lt (ok_take (n := (lim w y).length - 1) ho)
  rw [List.length_take, Nat.min_eq_left (by (exact Nat.sub_le _ _))] at hl
  simp only [val, Nat.mul_zero, Nat.add_zero] at hv
  have h2 : 2 ^ (w * ((lim w y).length - 1)) * ((lim w y)[(lim w y).length - 1] + 1) ≤ 2 ^ (w * ((lim w y).length - 1)) * 2 ^ k := Nat.mul_le_mul_left _ hk
  rw [Nat.mul_add, Nat.mul_one] at h2
  rw [Nat.mul_comm]
  (clear hk; refine Nat.lt_of_not_le fun h => ?_; lia)

theorem hsp_divrem_school {T : Nat → Option LM.Spec} (h0 : T 0 = some spNormal) (h1 : T 1 = some spCompare) (h6 : T 6 = some spShl) (h7 : T 7 = some spShr) (h8 : T 8 = some spBits) (h28 : T 28 = some spDivSmall) (h32 : T 32 = some spRows) :
    ∀ ds c post, spDiv ds c post → ds.length + (match c with | none => 0 | some _ => 1) = a_divrem_school ∧ wSs T p_divrem_school (entryΓ v_divrem_school.length ds c) (bodyQ c post) (c = none ∧ ∃ c', post none c') := by
  rintro ds c post ⟨rfl, w, x, y, hw, hx9, hy0, hy9, rfl, hp⟩
  refine ⟨rfl, ?_⟩
  have hx := sm_900 hx9
  have hy := sm_900 hy9
  have lx := sm_len hw hx
  have ly := sm_len hw hy
  have hB := Nat.two_pow_pos w
  have hB3 := B_le hw
  have hw8 := hw.2
  have hpos : 0 < (lim w y).length := (lim_len_pos hw.pos).mpr hy0
  show wSs T p_divrem_school ⟨[some (.d (L w x)), some (.d (L w y)), some (.d (.int w)), none, none, none, none], []⟩ _ _
  unfold p_divrem_school
  (repeat simp only [↓Yd, ↓Ye, ↓Mw, ↓Ya, ↓Ka, ↓Kc, ↓Ki, ↓Ko, ↓Yi, ↓Yl, ↓Yz, ↓Ys, ↓vA, ↓vB, vK, decide_eq_true_eq, true_and, L, nl])
  refine ⟨by (exact Nat.lt_of_le_of_lt ly (by decide)), ?_⟩
  rw [if_neg (by (exact Int.ne_of_gt (Int.ofNat_lt.mpr hpos)))]
  (refine use_of h1 ?_)
  refine ⟨rfl, w, x, y, hw, hx, hy, rfl, ?_⟩
  (repeat simp only [↓Yd, ↓Ye, ↓Mz, ↓Ka, ↓Kc, ↓Kf, ↓Kz, ↓Ma, ↓Mb, ↓Mh, ↓Mi, ↓Yg, ↓Yh, ↓Yi, ↓Yj, ↓Yp, ↓Yq, ↓Yr, ↓Yv, bodyQ, bodyR, ↓vA, ↓vI, ↓vJ]); (try refine vP ?_)
  by_cases hlt : x < y
  · rw [if_pos (by rw [if_pos hlt]; decide)]
    repeat ((with_reducible apply And.intro); · ((repeat' (with_reducible apply And.intro)) <;> first | (first | decide | exact Nat.zero_le _ | lia | omega) | (unfold small; (first | lia | omega)) | (have := hw.2; (first | lia | omega)) | decide | trivial | (simp; (exact Nat.le_of_lt (Nat.lt_of_le_of_lt lx (by decide))))))
    rw [Nat.div_eq_of_lt hlt, Nat.mod_eq_of_lt hlt] at hp
    rw [pick_all]
    simp only [L, lim_zero, nl, List.map_nil] at hp ⊢
    exact hp
  rw [if_neg (by rw [if_neg hlt]; split <;> decide)]
  unfold s_divrem_school_1
  (repeat simp only [↓Yd, ↓Ye, ↓Mw, ↓Mz, ↓Ka, ↓Kc, ↓Ki, ↓Ko, ↓Kv, ↓Mh, ↓Mi, ↓Yg, ↓Yi, ↓Yl, ↓Yq, ↓Yr, ↓Yz, ↓Ys, bodyQ, bodyR, ↓vA, ↓vB, vK, decide_eq_true_eq])
  refine ⟨by (exact Nat.lt_of_le_of_lt ly (by decide)), ?_⟩
  by_cases hl1 : (lim w y).length = 1
  · rw [if_pos (by (refine congrArg Nat.cast (?_ : (_ : Nat) = _); lia))]
    (refine use_of h28 ?_)
    have hyB : y < 2 ^ w := by
      have := val_lt (ok_lim hw.pos y)
      rw [val_lim hw.pos, hl1, Nat.mul_one] at this
      exact this
    exact ⟨rfl, w, x, y, hw, hx, hy0, hyB, rfl, hp⟩
  rw [if_neg (by (clear hpos; refine fun h => ?_; lia))]
  unfold s_divrem_school_0
  (repeat simp only [↓Ye, ↓Mp, ↓Ka, ↓Kd, ↓Kg, ↓Kv, ↓Ky, ↓Mb, ↓Mh, ↓Mi, ↓Yh, ↓Yl, ↓Yq, ↓Yr, ↓Zd, Fs.put, ↓vA, ↓vB, ↓vC, ↓vD, ↓vI, ↓vJ])
  have hlast : (lim w y).length - 1 < (lim w y).length := by (exact Nat.sub_lt hpos (by decide))
  have hk0 := last_lim hw.pos hy0 hlast
  have hkB := ok_lim hw.pos y _ (List.getElem_mem hlast)
  refine ⟨by simp; (exact Nat.lt_of_le_of_lt ly (by decide)), .int (((lim w y)[(lim w y).length - 1] : Nat) : Int), ?_, ?_⟩
  · unfold place
    rw [if_neg (by decide), if_pos (by simp; (clear hl1; lia))]
    simp only [Option.bind_some, List.length_map]
    rw [show (-1 + (((lim w y).length : Nat) : Int)).toNat = (lim w y).length - 1 by lia]
    exact nl_get hlast
  (first | (skip))
  repeat ((with_reducible apply And.intro); · ((repeat' (with_reducible apply And.intro)) <;> first | (exact Nat.two_pow_pos _) | (unfold small; (first | lia | omega)) | (have := hw.2; (first | lia | omega)) | decide | trivial | (simp; (first | lia | omega)))); (first | refine use_of h8 ?_ | skip)
  refine ⟨rfl, w, (lim w y)[(lim w y).length - 1], hw, hk0, hkB, rfl, fun s hs1 hsw hks => ?_⟩
  obtain ⟨z, hz⟩ : ∃ z, z = w - s := ⟨_, rfl⟩
  have ez : ((w : Nat) : Int) - ((s : Nat) : Int) = ((z : Nat) : Int) := by (clear hw8 hB3 hB hkB; lia)
  (repeat (first | simp only [↓Ye, ↓Mp, ↓Ka, ↓Kv, ↓Mh, ↓Mi, ↓Yh, ↓Yq, ↓Yr, Fs.put, ↓vA, ↓vB, ↓vC, ↓vD, ez] | (with_reducible show wSs _ c_divrem_school_3 _ _ _; unfold c_divrem_school_3))); (first | refine use_of h6 ?_ | skip)
  have hZ := Nat.two_pow_pos z
  have hyz : sm (y * 2 ^ z) := sm_shift hy9 (by (exact Nat.le_trans (Nat.le_trans (Nat.le_of_eq hz) (Nat.sub_le _ _)) hw.2))
  have hxz : sm (x * 2 ^ z) := sm_shift hx9 (by (exact Nat.le_trans (Nat.le_trans (Nat.le_of_eq hz) (Nat.sub_le _ _)) hw.2))
  have hyz0 : 0 < y * 2 ^ z := Nat.mul_pos hy0 hZ
  refine ⟨rfl, w, y, z, hw, hy, by (clear hz; refine Nat.lt_of_not_le fun h => ?_; lia), rfl, ?_⟩
  (refine use_of h6 ?_)
  refine ⟨rfl, w, x, z, hw, hx, by (clear hz; refine Nat.lt_of_not_le fun h => ?_; lia), rfl, ?_⟩
  -- the lengths
  have hyt := lim_top hw.pos hy0 hlast hks
  have hylen : (lim w (y * 2 ^ z)).length ≤ (lim w y).length := by
    refine lim_len hw.pos ?_
    have e1 : 2 ^ (w * (lim w y).length) = 2 ^ s * 2 ^ (w * ((lim w y).length - 1)) * 2 ^ z := by
      rw [← Nat.pow_add, ← Nat.pow_add]; congr 1
      have : w * (lim w y).length = w * ((lim w y).length - 1) + w := by rw [← Nat.mul_succ]; congr 1; (clear hpos; lia)
      (clear hz; lia)
    rw [e1]
    exact Nat.mul_lt_mul_of_pos_right hyt hZ
  have hyge : (lim w y).length ≤ (lim w (y * 2 ^ z)).length := len_mono hw.pos (Nat.le_mul_of_pos_right _ hZ)
  have hxy := len_mono hw.pos (show y ≤ x by (exact Nat.le_of_not_lt hlt))
  have hxlen : (lim w (x * 2 ^ z)).length ≤ (lim w x).length + 1 := by
    refine lim_len hw.pos ?_
    have h1 := val_lt (ok_lim hw.pos x)
    rw [val_lim hw.pos] at h1
    rw [Nat.mul_succ, Nat.pow_add]
    exact Nat.mul_lt_mul_of_lt_of_le h1 (Nat.pow_le_pow_right (by decide) (by (exact Nat.le_trans (Nat.le_of_eq hz) (Nat.sub_le _ _)))) (Nat.two_pow_pos _)
  have lxz := sm_len hw hxz
  have lyz := sm_len hw hyz
  have ez2 : (((lim w x).length : Nat) : Int) + 1 - (((lim w (x * 2 ^ z)).length : Nat) : Int) = (((lim w x).length + 1 - (lim w (x * 2 ^ z)).length : Nat) : Int) := by (clear hZ ez hz hks hsw hs1 hkB hk0 hl1 hlt hpos hw8 hB3 hB hx9 hw hylen hyt hyz0 hxz hyge lyz lxz; omega)
  obtain ⟨k, hk⟩ : ∃ k, k = (lim w x).length + 1 - (lim w (x * 2 ^ z)).length := ⟨_, rfl⟩
  rw [← hk] at ez2
  (repeat (first | simp only [↓Ye, ↓Mp, ↓Ka, ↓Kc, ↓Kg, ↓Ko, ↓Kx, ↓Md, ↓Mf, ↓Mh, ↓Mi, ↓Yg, ↓Yh, ↓Yj, ↓Yl, ↓Yq, ↓Yr, ↓Zb, ↓Zd, Fs.put, Fs.setσ, Fs.own, ↓vA, ↓vB, ↓vC, ↓vD, ↓vH, ↓vJ, vK, L, nl, ez2, toNat_w, List.length_replicate] | (with_reducible show wSs _ c_divrem_school_1 _ _ _; unfold c_divrem_school_1)))
  repeat ((with_reducible apply And.intro); · ((repeat' (with_reducible apply And.intro)) <;> first | (first | exact Int.natCast_nonneg _ | exact Nat.lt_of_le_of_lt lx (by decide) | exact Nat.lt_of_le_of_lt lxz (by decide) | lia | omega) | (unfold small; (first | lia | omega)) | (have := hw.2; (first | lia | omega)) | decide | trivial | (simp; (first | lia | omega)))); (first | refine use_of h32 ?_ | skip)
  have eR : (List.map (fun n : Nat => D.int (n : Int)) (lim w (x * 2 ^ z)) ++ List.replicate k (D.int 0)) = il (lim w (x * 2 ^ z) ++ List.replicate k 0) := by
    unfold il; rw [List.map_append, List.map_replicate]; rfl
  rw [eR]
  have hlenR : (lim w (x * 2 ^ z) ++ List.replicate k 0).length = (lim w x).length + 1 := by rw [List.length_append, List.length_replicate]; (clear lx hxy; lia)
  have hvalR : val w (lim w (x * 2 ^ z) ++ List.replicate k 0) = x * 2 ^ z := by rw [val_append, val_zeros, val_lim hw.pos]; simp
  have hlb : (lim w (y * 2 ^ z)).length = (lim w y).length := by lia
  have hvy := val_lim hw.pos (y * 2 ^ z)
  refine ⟨w, lim w (y * 2 ^ z), lim w (x * 2 ^ z) ++ List.replicate k 0, hw, ok_lim hw.pos _, (ok_lim hw.pos _).app (fun d hd => by rw [List.eq_of_mem_replicate hd]; exact hB), by (exact Nat.le_of_lt (Nat.lt_of_le_of_lt lyz (by decide))), by lia, by (clear hylen; lia), by (exact Nat.le_trans (Nat.le_trans (Nat.le_trans hylen hxy) (Nat.le_add_right _ _)) (Nat.le_of_eq hlenR.symm)), fun h => last_lim hw.pos hyz0 h, ?_, rfl, rfl, fun Q R' hQl hRl oQ oR' hdv hrem => ?_⟩
  · rw [hvalR, hvy, hlenR, hlb]
    have h1 := val_lt (ok_lim hw.pos x)
    rw [val_lim hw.pos] at h1
    have h2 := le_of_len (n := y) (k := (lim w y).length - 1) hw.pos (by omega)
    have e1 : 2 ^ (w * (lim w x).length) = 2 ^ (w * ((lim w y).length - 1)) * 2 ^ (w * ((lim w x).length + 1 - (lim w y).length)) := by
      rw [← Nat.pow_add, ← Nat.mul_add]; congr 2; (clear hk0 hl1 hlt; lia)
    have h3 : 2 ^ (w * (lim w x).length) ≤ y * 2 ^ (w * ((lim w x).length + 1 - (lim w y).length)) := by rw [e1]; exact Nat.mul_le_mul_right _ h2
    have h4 : x < y * 2 ^ (w * ((lim w x).length + 1 - (lim w y).length)) := by (exact Nat.lt_of_lt_of_le h1 h3)
    rw [Nat.mul_right_comm]
    exact Nat.mul_lt_mul_of_pos_right h4 hZ
  rw [hvalR, hvy] at hdv
  rw [hvy] at hrem
  have hq : val w Q = x / y := by
    have h1 : x * 2 ^ z / (y * 2 ^ z) = val w Q := by
      rw [← hdv, Nat.add_comm, Nat.add_mul_div_right _ _ hyz0, Nat.div_eq_of_lt hrem, Nat.zero_add]
    rw [← h1, Nat.mul_div_mul_right _ _ hZ]
  have hr : val w R' / 2 ^ z = x % y := by
    have h1 : x * 2 ^ z % (y * 2 ^ z) = val w R' := by
      rw [← hdv, Nat.add_comm, Nat.add_mul_mod_self_right, Nat.mod_eq_of_lt hrem]
    rw [← h1, Nat.mul_mod_mul_right, Nat.mul_div_cancel _ hZ]
  have hrs : sm (val w R') := sm_le hyz (Nat.le_of_lt hrem)
  (refine use_of h0 ?_)
  refine ⟨rfl, w, Q, hw, oQ, by (clear hyge hvy hlb eR; lia), rfl, ?_⟩
  (refine use_of h0 ?_)
  refine ⟨rfl, w, R', hw, oR', by lia, rfl, ?_⟩
  (refine use_of h7 ?_)
  refine ⟨rfl, w, val w R', z, hw, hrs, by (clear hz; refine Nat.lt_of_not_le fun h => ?_; lia), rfl, ?_⟩
  (repeat simp only [↓Mh, ↓Yg, ↓Yq, ↓Yr, bodyQ, bodyR, ↓vI, ↓vJ])
  rw [hq, hr]
  exact ⟨by decide, hp⟩
end LM

namespace LM

/-- a signed number. -/
noncomputable def S (w : Nat) (i : Int) : D := .tup [.bool (decide (i < 0)), L w i.natAbs]
noncomputable def sg (b : Bool) (n : Nat) : Int := if b = true then -(n : Int) else n

theorem place0 (n : Nat) : place (n + 1) 0 = some 0 := by unfold place; rw [if_pos (by decide), if_pos (by (exact Int.ofNat_lt.mpr (Nat.succ_pos _)))]; rfl
theorem place1 (n : Nat) : place (n + 2) 1 = some 1 := by unfold place; rw [if_pos (by decide), if_pos (by (refine Int.lt_of_not_ge fun h => ?_; lia))]; rfl
theorem wIdx0 {d : D} {l : List D} {k : D → Prop} (hl : (d :: l).length < 2 ^ 62) (h : k d) : wIdx (d :: l) 0 k := ⟨hl, d, by rw [List.length_cons, place0]; rfl, h⟩
theorem wIdx1 {d e : D} {l : List D} {k : D → Prop} (hl : (d :: e :: l).length < 2 ^ 62) (h : k e) : wIdx (d :: e :: l) 1 k := ⟨hl, e, by rw [List.length_cons, List.length_cons, place1]; rfl, h⟩

/-- signed. -/
inductive spSigned (ds : List D) (c : Option (List D)) (post : Option D → Option (List D) → Prop) : Prop
  | mk : (c = none) → ∀ w b n, (W w) → (sm n) → (ds = [.bool b, L w n]) → (post (some (S w (sg b n))) none) → spSigned ds c post

theorem hsp_signed {T : Nat → Option LM.Spec} : ∀ ds c post, spSigned ds c post → ds.length + (match c with | none => 0 | some _ => 1) = a_signed ∧ wSs T p_signed (entryΓ v_signed.length ds c) (bodyQ c post) (c = none ∧ ∃ c', post none c') := by
  rintro ds c post ⟨rfl, w, b, n, hw, hn, rfl, hp⟩
  refine ⟨rfl, ?_⟩
  have ln := sm_len hw hn
  have hpos := lim_len_pos (n := n) hw.pos
  show wSs T p_signed ⟨[some (.d (.bool b)), some (.d (L w n))], []⟩ _ _
  unfold p_signed
  (try simp only [↓Ye, ↓Mz, ↓Ka, ↓Kc, ↓Ki, ↓Kk, ↓Ko, ↓Ma, ↓Mh, ↓Mi, ↓Yg, ↓Yh, ↓Yi, ↓Yq, ↓Yr, ↓Yw, bodyQ, bodyR, ↓vA, ↓vB, ↓vI, ↓vJ])
  cases b with
  | false =>
    have e : S w (sg false n) = .tup [.bool false, L w n] := by
      unfold S sg
      simp
    rw [e] at hp
    (try simp only [↓vO])
    repeat ((with_reducible apply And.intro); · ((repeat' (with_reducible apply And.intro)) <;> first | decide | (unfold small; (first | lia | omega)) | (have := hw.2; (first | lia | omega)) | decide | trivial | (simp; (first | lia | omega))))
    exact hp
  | true =>
    have e : S w (sg true n) = .tup [.bool (decide (0 < (((lim w n).length : Nat) : Int))), L w n] := by
      unfold S sg
      have h1 : decide (-(n : Int) < 0) = decide (0 < (((lim w n).length : Nat) : Int)) := by
        apply decide_eq_decide.mpr; (clear ln; omega)
      simp [h1]
      lia
    rw [e] at hp
    (try simp only [↓Yl, vK, ↓reduceIte, L, nl])
    repeat ((with_reducible apply And.intro); · ((repeat' (with_reducible apply And.intro)) <;> first | (first | decide | exact Nat.lt_of_le_of_lt ln (by decide) | lia | omega) | (unfold small; (first | lia | omega)) | (have := hw.2; (first | lia | omega)) | decide | trivial | (simp; (first | lia | omega))))
    exact hp

/-- s_neg, s_abs. -/
inductive spNeg (ds : List D) (c : Option (List D)) (post : Option D → Option (List D) → Prop) : Prop
  | mk : (c = none) → ∀ w i, (W w) → (sm i.natAbs) → (ds = [S w i]) → (post (some (S w (-i))) none) → spNeg ds c post
inductive spAbs (ds : List D) (c : Option (List D)) (post : Option D → Option (List D) → Prop) : Prop
  | mk : (c = none) → ∀ w i, (W w) → (sm i.natAbs) → (ds = [S w i]) → (post (some (S w i.natAbs)) none) → spAbs ds c post

theorem hsp_s_neg {T : Nat → Option LM.Spec} (h16 : T 16 = some spSigned) : ∀ ds c post, spNeg ds c post → ds.length + (match c with | none => 0 | some _ => 1) = a_s_neg ∧ wSs T p_s_neg (entryΓ v_s_neg.length ds c) (bodyQ c post) (c = none ∧ ∃ c', post none c') := by
  rintro ds c post ⟨rfl, w, i, hw, hn, rfl, hp⟩
  refine ⟨rfl, ?_⟩
  show wSs T p_s_neg ⟨[some (.d (S w i))], []⟩ _ _
  (first | ((try simp only [↓Ye, ↓Mz, ↓Ka, ↓Kc, ↓Kh, ↓Kv, ↓Ky, ↓Mh, ↓Mi, ↓Yg, ↓Yh, ↓Ym, ↓Yq, ↓Yr, bodyQ, bodyR, ↓vA, S])))
  refine wIdx0 (by simp) ?_
  refine wIdx1 (by simp) ?_
  (refine use_of h16 ?_)
  refine ⟨rfl, w, !(decide (i < 0)), i.natAbs, hw, hn, rfl, ?_⟩
  have e : S w (sg (!(decide (i < 0))) i.natAbs) = S w (-i) := by
    by_cases h0 : i = 0
    · subst h0; unfold S sg; simp
    · congr 1
      unfold sg
      by_cases h : i < 0
      · simp [h]; (clear hn hp; lia)
      · simp [h]; lia
  (try simp only [e])
  exact hp
theorem hsp_s_abs {T : Nat → Option LM.Spec} : ∀ ds c post, spAbs ds c post → ds.length + (match c with | none => 0 | some _ => 1) = a_s_abs ∧ wSs T p_s_abs (entryΓ v_s_abs.length ds c) (bodyQ c post) (c = none ∧ ∃ c', post none c') := by
  rintro ds c post ⟨rfl, w, i, hw, hn, rfl, hp⟩
  refine ⟨rfl, ?_⟩
  unfold p_s_abs
  (try simp only [↓Ye, ↓Mz, ↓Ka, ↓Kc, ↓Ke, ↓Ky, ↓Ma, ↓Mh, ↓Mi, ↓Yg, ↓Yh, ↓Ym, ↓Yq, ↓Yr, bodyQ, bodyR, ↓vA, ↓vI, ↓vJ, S])
  refine wIdx1 (by simp) ?_
  repeat ((with_reducible apply And.intro); · ((repeat' (with_reducible apply And.intro)) <;> first | decide | (unfold small; (first | lia | omega)) | (have := hw.2; (first | lia | omega)) | decide | trivial | (simp; (first | lia | omega))))
  have e : S w ((i.natAbs : Nat) : Int) = .tup [.bool false, L w i.natAbs] := by unfold S; simp
  rw [e] at hp
  exact hp

/-- s_add. -/
inductive spSAdd (ds : List D) (c : Option (List D)) (post : Option D → Option (List D) → Prop) : Prop
  | mk : (c = none) → ∀ w i j, (W w) → (i.natAbs < 2 ^ 900) → (j.natAbs < 2 ^ 900) → (ds = [S w i, S w j, .int w]) → (post (some (S w (i + j))) none) → spSAdd ds c post

theorem sm_add {x y : Nat} (h : x < 2 ^ 900) (k : y < 2 ^ 900) : sm (x + y) := by
  unfold sm
  have : (2 : Nat) ^ 900 + 2 ^ 900 ≤ 2 ^ 1000 := by
    have e : (2 : Nat) ^ 900 + 2 ^ 900 = 2 ^ 901 := by rw [show (901 : Nat) = 900 + 1 by rfl, Nat.pow_succ, Nat.mul_two]
    rw [e]; exact Nat.pow_le_pow_right (by decide) (by decide)
  (refine Nat.lt_of_not_le fun h => ?_; lia)
theorem hsp_s_add {T : Nat → Option LM.Spec} (h1 : T 1 = some spCompare) (h2 : T 2 = some spAdd) (h3 : T 3 = some spSub) (h16 : T 16 = some spSigned) : ∀ ds c post, spSAdd ds c post → ds.length + (match c with | none => 0 | some _ => 1) = a_s_add ∧ wSs T p_s_add (entryΓ v_s_add.length ds c) (bodyQ c post) (c = none ∧ ∃ c', post none c') := by
  rintro ds c post ⟨rfl, w, i, j, hw, hi, hj, rfl, hp⟩
  refine ⟨rfl, ?_⟩
  have si := sm_900 hi
  have sj := sm_900 hj
  show wSs T p_s_add ⟨[some (.d (S w i)), some (.d (S w j)), some (.d (.int w))], []⟩ _ _
  (try simp only [↓Yd, ↓Ye, ↓Mw, ↓Mz, ↓Ka, ↓Kc, ↓Ki, ↓Kv, ↓Ky, ↓Mh, ↓Mi, ↓Yg, ↓Yh, ↓Yi, ↓Ym, ↓Yq, ↓Yr, ↓Yz, bodyQ, bodyR, ↓vA, ↓vB, S])
  refine wIdx0 (by simp) ?_
  refine wIdx0 (by simp) ?_
  refine vP ?_
  by_cases hs : decide (i < 0) = decide (j < 0)
  · rw [if_pos hs]
    refine wIdx0 (by simp) ?_
    refine wIdx1 (by simp) ?_
    refine wIdx1 (by simp) ?_
    (refine use_of h2 ?_)
    refine ⟨rfl, w, i.natAbs, j.natAbs, hw, si, sj, rfl, ?_⟩
    (refine use_of h16 ?_)
    refine ⟨rfl, w, decide (i < 0), i.natAbs + j.natAbs, hw, sm_add hi hj, rfl, ?_⟩
    have e : sg (decide (i < 0)) (i.natAbs + j.natAbs) = i + j := by
      have hs' := decide_eq_decide.mp hs
      unfold sg
      by_cases h : i < 0
      · have := hs'.mp h; simp [h]; (clear hs'; omega)
      · have : ¬ j < 0 := fun h' => h (hs'.mpr h'); simp [h]; lia
    (try simp only [e])
    exact hp
  · rw [if_neg hs]
    have hs' : ¬ (i < 0 ↔ j < 0) := fun h => hs (decide_eq_decide.mpr h)
    unfold s_s_add_1
    (try simp only [↓Yd, ↓Ye, ↓Mw, ↓Mz, ↓Ka, ↓Kc, ↓Ki, ↓Kv, ↓Ky, ↓Mh, ↓Mi, ↓Yg, ↓Yh, ↓Yi, ↓Ym, ↓Yq, ↓Yr, ↓Yv, bodyQ, bodyR, ↓vA, ↓vB, S])
    refine wIdx1 (by simp) ?_
    refine wIdx1 (by simp) ?_
    (refine use_of h1 ?_)
    refine ⟨rfl, w, i.natAbs, j.natAbs, hw, si, sj, rfl, ?_⟩
    refine vP ?_
    by_cases hlt : i.natAbs < j.natAbs
    · rw [if_pos (by rw [if_pos hlt]; decide)]
      refine wIdx0 (by simp) ?_
      refine wIdx1 (by simp) ?_
      refine wIdx1 (by simp) ?_
      (refine use_of h3 ?_)
      refine ⟨rfl, w, j.natAbs, i.natAbs, hw, sj, by (exact Nat.le_of_lt hlt), rfl, ?_⟩
      (refine use_of h16 ?_)
      refine ⟨rfl, w, decide (j < 0), j.natAbs - i.natAbs, hw, sm_le sj (by (exact Nat.sub_le _ _)), rfl, ?_⟩
      have e : sg (decide (j < 0)) (j.natAbs - i.natAbs) = i + j := by
        unfold sg
        by_cases h : j < 0
        · simp [h]; (clear hj hi sj si; lia)
        · simp [h]; (clear hj hi; lia)
      (try simp only [e])
      exact hp
    · rw [if_neg (by rw [if_neg hlt]; split <;> decide)]
      unfold s_s_add_0
      (try simp only [↓Ye, ↓Mz, ↓Ka, ↓Kc, ↓Kv, ↓Ky, ↓Mh, ↓Mi, ↓Yg, ↓Yh, ↓Ym, ↓Yq, ↓Yr, bodyQ, bodyR, ↓vA, ↓vB, S])
      refine wIdx0 (by simp) ?_
      refine wIdx1 (by simp) ?_
      refine wIdx1 (by simp) ?_
      (refine use_of h3 ?_)
      refine ⟨rfl, w, i.natAbs, j.natAbs, hw, si, by (exact Nat.le_of_not_lt hlt), rfl, ?_⟩
      (refine use_of h16 ?_)
      refine ⟨rfl, w, decide (i < 0), i.natAbs - j.natAbs, hw, sm_le si (by (exact Nat.sub_le _ _)), rfl, ?_⟩
      have e : sg (decide (i < 0)) (i.natAbs - j.natAbs) = i + j := by
        unfold sg
        by_cases h : i < 0
        · simp [h]; (clear hj hi si; lia)
        · simp [h]; (clear sj hp hj; lia)
      (try simp only [e])
      exact hp

/-- s_sub, s_mul. -/
inductive spSSub (ds : List D) (c : Option (List D)) (post : Option D → Option (List D) → Prop) : Prop
  | mk : (c = none) → ∀ w i j, (W w) → (i.natAbs < 2 ^ 900) → (j.natAbs < 2 ^ 900) → (ds = [S w i, S w j, .int w]) → (post (some (S w (i - j))) none) → spSSub ds c post
theorem hsp_s_sub {T : Nat → Option LM.Spec} (h17 : T 17 = some spNeg) (h19 : T 19 = some spSAdd) : ∀ ds c post, spSSub ds c post → ds.length + (match c with | none => 0 | some _ => 1) = a_s_sub ∧ wSs T p_s_sub (entryΓ v_s_sub.length ds c) (bodyQ c post) (c = none ∧ ∃ c', post none c') := by
  rintro ds c post ⟨rfl, w, i, j, hw, hi, hj, rfl, hp⟩
  refine ⟨rfl, ?_⟩
  (refine use_of h17 ?_)
  refine ⟨rfl, w, j, hw, sm_900 hj, rfl, ?_⟩
  (refine use_of h19 ?_)
  refine ⟨rfl, w, i, -j, hw, hi, by (clear hi; omega), rfl, ?_⟩
  exact hp
inductive spSMul (ds : List D) (c : Option (List D)) (post : Option D → Option (List D) → Prop) : Prop
  | mk : (c = none) → ∀ w i j, (W w) → (sm i.natAbs) → (sm j.natAbs) → (sm (i.natAbs * j.natAbs)) → (ds = [S w i, S w j, .int w, .fn 27]) → (post (some (S w (i * j))) none) → spSMul ds c post
theorem hsp_s_mul {T : Nat → Option LM.Spec} (h16 : T 16 = some spSigned) (h27 : T 27 = some spMul) : ∀ ds c post, spSMul ds c post → ds.length + (match c with | none => 0 | some _ => 1) = a_s_mul ∧ wSs T p_s_mul (entryΓ v_s_mul.length ds c) (bodyQ c post) (c = none ∧ ∃ c', post none c') := by
  rintro ds c post ⟨rfl, w, i, j, hw, hi, hj, hij, rfl, hp⟩
  refine ⟨rfl, ?_⟩
  show wSs T p_s_mul ⟨[some (.d (S w i)), some (.d (S w j)), some (.d (.int w)), some (.d (.fn 27))], []⟩ _ _
  (try simp only [↓Ye, ↓Mz, ↓Ka, ↓Kc, ↓Ki, ↓Kv, ↓Kw, ↓Ky, ↓Mh, ↓Mi, ↓Yg, ↓Yh, ↓Ym, ↓Yq, ↓Yr, ↓Za, bodyQ, bodyR, ↓vA, ↓vB, S])
  refine wIdx0 (by simp) ?_
  refine wIdx0 (by simp) ?_
  (try simp only [↓Yt, S])
  refine wIdx1 (by simp) ?_
  refine wIdx1 (by simp) ?_
  (refine use_of h27 ?_)
  refine ⟨rfl, w, i.natAbs, j.natAbs, hw, hi, hj, rfl, ?_⟩
  (refine use_of h16 ?_)
  refine ⟨rfl, w, _, i.natAbs * j.natAbs, hw, hij, rfl, ?_⟩
  have e : S w (sg (!(decide (decide (i < 0) = decide (j < 0)))) (i.natAbs * j.natAbs)) = S w (i * j) := by
    congr 1
    unfold sg
    rw [← Int.natAbs_mul]
    by_cases h : i < 0 <;> by_cases h' : j < 0
    · have : 0 < i * j := Int.mul_pos_of_neg_of_neg h h'
      simp [h, h']; lia
    · have : i * j ≤ 0 := Int.mul_nonpos_of_nonpos_of_nonneg (by (exact Int.le_of_lt h)) (by (exact Int.not_lt.mp h'))
      simp [h, h']; lia
    · have : i * j ≤ 0 := Int.mul_nonpos_of_nonneg_of_nonpos (by (exact Int.not_lt.mp h)) (by (exact Int.le_of_lt h'))
      simp [h, h']; lia
    · have : 0 ≤ i * j := Int.mul_nonneg (by (exact Int.not_lt.mp h)) (by (exact Int.not_lt.mp h'))
      simp [h, h']; (clear h'; omega)
  (try simp only [e])
  exact hp

/-- tdiv, fdiv, s_mod by a positive number. -/
inductive spTdiv (ds : List D) (c : Option (List D)) (post : Option D → Option (List D) → Prop) : Prop
  | mk : (c = none) → ∀ w i m, (W w) → (i.natAbs < 2 ^ 900) → (0 < m) → (m < 2 ^ 900) → (ds = [S w i, S w ((m : Nat) : Int), .int w, .fn 33]) → (post (some (.tup [S w (sg (decide (i < 0)) (i.natAbs / m)), S w (sg (decide (i < 0)) (i.natAbs % m))])) none) → spTdiv ds c post

theorem S_nat (w m : Nat) : S w ((m : Nat) : Int) = .tup [.bool false, L w m] := by unfold S; simp
theorem hsp_tdiv {T : Nat → Option LM.Spec} (h16 : T 16 = some spSigned) (h33 : T 33 = some spDiv) : ∀ ds c post, spTdiv ds c post → ds.length + (match c with | none => 0 | some _ => 1) = a_tdiv ∧ wSs T p_tdiv (entryΓ v_tdiv.length ds c) (bodyQ c post) (c = none ∧ ∃ c', post none c') := by
  rintro ds c post ⟨rfl, w, i, m, hw, hi, hm0, hm, rfl, hp⟩
  refine ⟨rfl, ?_⟩
  have si := sm_900 hi
  have lm := sm_len hw (sm_900 hm)
  have lp := (lim_len_pos (n := m) hw.pos).mpr hm0
  show wSs T p_tdiv ⟨[some (.d (S w i)), some (.d (S w ((m : Nat) : Int))), some (.d (.int w)), some (.d (.fn 33)), none, none], []⟩ _ _
  unfold p_tdiv
  rw [S_nat]
  (repeat simp only [↓Yd, ↓Ye, ↓Mw, ↓Ya, ↓Ka, ↓Kc, ↓Ki, ↓Ko, ↓Ky, ↓Yh, ↓Yi, ↓Ym, ↓Yz, ↓Ys, ↓vA, ↓vB, S])
  refine wIdx1 (by simp) ?_
  (repeat simp only [↓Yl, vK, decide_eq_true_eq, true_and, L, nl])
  refine ⟨by (exact Nat.lt_of_le_of_lt lm (by decide)), ?_⟩
  rw [if_neg (by (exact Int.ne_of_gt (Int.ofNat_lt.mpr lp)))]
  unfold s_tdiv_0
  (repeat simp only [↓Ye, ↓Mr, ↓Ka, ↓Kc, ↓Kw, ↓Ky, ↓Mh, ↓Mi, ↓Yg, ↓Yh, ↓Ym, ↓Yq, ↓Yr, ↓vA, ↓vB, ↓vI, ↓vJ, S])
  refine wIdx1 (by simp) ?_
  refine wIdx1 (by simp) ?_
  (refine use_of h33 ?_)
  refine ⟨rfl, w, i.natAbs, m, hw, hi, hm0, hm, rfl, ?_⟩
  (repeat (first | simp only [↓Ye, ↓Mz, ↓Ka, ↓Kc, ↓Ki, ↓Kv, ↓Ky, ↓Ma, ↓Mh, ↓Mi, ↓Yg, ↓Yh, ↓Ym, ↓Yq, ↓Yr, ↓Za, Fs.put, Fs.puts, bodyQ, bodyR, ↓vA, ↓vB, ↓vC, ↓vD, ↓vE, ↓vF, ↓vI, ↓vJ, S] | (with_reducible refine And.intro True.intro ?_) | (with_reducible show wSs _ c_tdiv_0 _ _ _; unfold c_tdiv_0)))
  refine wIdx0 (by simp) ?_
  refine wIdx0 (by simp) ?_
  (refine use_of h16 ?_)
  refine ⟨rfl, w, _, i.natAbs / m, hw, sm_le si (Nat.div_le_self _ _), rfl, ?_⟩
  refine wIdx0 (by simp) ?_
  (refine use_of h16 ?_)
  refine ⟨rfl, w, _, i.natAbs % m, hw, sm_le si (Nat.mod_le _ _), rfl, ?_⟩
  repeat ((with_reducible apply And.intro); · ((repeat' (with_reducible apply And.intro)) <;> first | decide | (unfold small; (first | lia | omega)) | (have := hw.2; (first | lia | omega)) | decide | trivial | (simp; (first | lia | omega))))
  have e : (!(decide (decide (i < 0) = false))) = decide (i < 0) := by cases decide (i < 0) <;> rfl
  simp only [e]
  exact hp

inductive spFdiv (ds : List D) (c : Option (List D)) (post : Option D → Option (List D) → Prop) : Prop
  | mk : (c = none) → ∀ w i m, (W w) → (i.natAbs < 2 ^ 900) → (0 < m) → (m < 2 ^ 900) → (ds = [S w i, S w ((m : Nat) : Int), .int w, .fn 33]) → (∀ q, post (some (.tup [q, S w (i % (m : Int))])) none) → spFdiv ds c post

theorem emod_neg {i : Int} {m : Nat} (hm : 0 < m) (hi : i < 0) (h : i.natAbs % m ≠ 0) : i % (m : Int) = (m : Int) - ((i.natAbs % m : Nat) : Int) := by
  have e : i = -((i.natAbs : Nat) : Int) := by lia
  have h1 := Nat.mod_lt i.natAbs hm
  have h2 := Nat.div_add_mod i.natAbs m
  have e2 : i = ((m : Int) - ((i.natAbs % m : Nat) : Int)) + (m : Int) * (-((i.natAbs / m : Nat) : Int) - 1) := by
    conv => lhs; rw [e, ← h2]
    push_cast
    rw [Int.mul_sub, Int.mul_neg]
    lia
  rw [e2, Int.add_mul_emod_self_left, Int.emod_eq_of_lt (by lia) (by (refine Int.lt_of_not_ge fun h => ?_; lia))]
  congr 2
  rw [← e2]
theorem emod_neg0 {i : Int} {m : Nat} (hi : i < 0) (h : i.natAbs % m = 0) : i % (m : Int) = 0 := by
  have : (m : Int) ∣ i := by
    rw [← Int.natCast_dvd_natCast.symm.trans (Int.dvd_natAbs (a := (m : Int)) (b := i))] 
    exact Nat.dvd_of_mod_eq_zero h
  exact Int.emod_eq_zero_of_dvd this
theorem hsp_fdiv {T : Nat → Option LM.Spec} (h4 : T 4 = some spAddLimb) (h19 : T 19 = some spSAdd) (h22 : T 22 = some spTdiv) : ∀ ds c post, spFdiv ds c post → ds.length + (match c with | none => 0 | some _ => 1) = a_fdiv ∧ wSs T p_fdiv (entryΓ v_fdiv.length ds c) (bodyQ c post) (c = none ∧ ∃ c', post none c') := by
  rintro ds c post ⟨rfl, w, i, m, hw, hi, hm0, hm, rfl, hp⟩
  refine ⟨rfl, ?_⟩
  have si := sm_900 hi
  have hB := B_ge hw
  have hml := Nat.mod_lt i.natAbs hm0
  have smm : sm (i.natAbs % m) := sm_le si (Nat.mod_le _ _)
  have lr := sm_len hw smm
  have lp := lim_len_pos (n := i.natAbs % m) hw.pos
  show wSs T p_fdiv ⟨[some (.d (S w i)), some (.d (S w ((m : Nat) : Int))), some (.d (.int w)), some (.d (.fn 33)), none, none], []⟩ _ _
  (refine use_of h22 ?_)
  refine ⟨rfl, w, i, m, hw, hi, hm0, hm, rfl, ?_⟩
  have habs : ∀ b n, (sg b n).natAbs = n := fun b n => by unfold sg; split <;> simp
  (repeat (first | simp only [↓Yd, ↓Ye, ↓Mw, ↓Mz, ↓Ka, ↓Kc, ↓Ke, ↓Ki, ↓Kk, ↓Ko, ↓Kv, ↓Ky, ↓Ma, ↓Mh, ↓Mi, ↓Yg, ↓Yh, ↓Yi, ↓Ym, ↓Yq, ↓Yr, ↓Yw, ↓Za, Fs.put, Fs.puts, bodyQ, bodyR, ↓vA, ↓vB, ↓vC, ↓vD, ↓vE, ↓vF, ↓vI, ↓vJ, decide_eq_true_eq, Bool.false_eq_true, true_and, ↓reduceIte, S, habs] | (with_reducible show wSs _ c_fdiv_0 _ _ _; unfold c_fdiv_0)))
  refine wIdx1 (by simp) ?_
  (repeat simp only [↓Yl, vK, L, nl])
  refine ⟨by (exact Nat.lt_of_le_of_lt lr (by decide)), ?_⟩
  by_cases hr0 : i.natAbs % m = 0
  · rw [if_neg (by lia)]
    unfold s_fdiv_0
    (repeat simp only [↓Ye, ↓Mz, ↓Ka, ↓Ma, ↓Mh, ↓Mi, ↓Yg, ↓Yq, ↓Yr, bodyQ, bodyR, ↓vA, ↓vB, ↓vI, ↓vJ])
    repeat ((with_reducible apply And.intro); · ((repeat' (with_reducible apply And.intro)) <;> first | decide | (unfold small; (first | lia | omega)) | (have := hw.2; (first | lia | omega)) | decide | trivial | (simp; (first | lia | omega))))
    have e : sg (decide (i < 0)) (i.natAbs % m) = i % (m : Int) := by
      rw [hr0]
      by_cases h : i < 0
      · rw [emod_neg0 h hr0]; unfold sg; simp
      · have e2 : i = ((i.natAbs : Nat) : Int) := by lia
        conv => rhs; rw [e2]
        rw [← Int.natCast_emod, hr0]; unfold sg; simp
    have := hp (S w (sg (decide (i < 0)) (i.natAbs / m)))
    rw [← e] at this
    simpa only [S, habs, L, nl] using this
  · rw [if_pos (by (refine Int.lt_of_not_ge fun h => ?_; lia))]
    refine wIdx0 (by simp) ?_
    refine wIdx0 (by simp) ?_
    (repeat simp only [↓Yt, S])
    by_cases h : i < 0
    · have hd1 : decide (i < 0) = true := decide_eq_true h
      have hd2 : decide (((m : Nat) : Int) < 0) = false := decide_eq_false (by (exact Int.not_lt.mpr (Int.natCast_nonneg _)))
      rw [hd1, hd2]
      refine wIdx1 (by simp) ?_
      (refine use_of h4 ?_)
      refine ⟨rfl, w, i.natAbs / m, 1, hw, sm_le si (Nat.div_le_self _ _), by (exact Nat.lt_of_lt_of_le (by decide) hB), rfl, ?_⟩
      (first | (skip))
      repeat ((with_reducible apply And.intro); · ((repeat' (with_reducible apply And.intro)) <;> first | decide | (unfold small; (first | lia | omega)) | (have := hw.2; (first | lia | omega)) | decide | trivial | (simp; (first | lia | omega)))); (first | refine use_of h19 ?_ | skip)
      refine ⟨rfl, w, sg true (i.natAbs % m), ((m : Nat) : Int), hw, by rw [habs]; (exact Nat.lt_trans hml hm), by simpa using hm, by simp only [S, habs, L, nl, hd2], ?_⟩
      repeat ((with_reducible apply And.intro); · ((repeat' (with_reducible apply And.intro)) <;> first | decide | (unfold small; (first | lia | omega)) | (have := hw.2; (first | lia | omega)) | decide | trivial | (simp; (first | lia | omega))))
      have e : sg true (i.natAbs % m) + ((m : Nat) : Int) = i % (m : Int) := by
        rw [emod_neg hm0 h hr0]; unfold sg; simp; lia
      rw [e]
      exact hp _
    · have hd1 : decide (i < 0) = false := decide_eq_false h
      have hd2 : decide (((m : Nat) : Int) < 0) = false := decide_eq_false (by (exact Int.not_lt.mpr (Int.natCast_nonneg _)))
      rw [hd1, hd2]
      rw [if_neg (by simp)]
      unfold s_fdiv_0
      (repeat simp only [↓Ye, ↓Mz, ↓Ka, ↓Ma, ↓Mh, ↓Mi, ↓Yg, ↓Yq, ↓Yr, bodyQ, bodyR, ↓vA, ↓vB, ↓vI, ↓vJ])
      repeat ((with_reducible apply And.intro); · ((repeat' (with_reducible apply And.intro)) <;> first | decide | (unfold small; (first | lia | omega)) | (have := hw.2; (first | lia | omega)) | decide | trivial | (simp; (first | lia | omega))))
      have e : sg false (i.natAbs % m) = i % (m : Int) := by
        have e2 : i = ((i.natAbs : Nat) : Int) := by lia
        conv => rhs; rw [e2]
        rw [← Int.natCast_emod]; rfl
      have := hp (S w (sg false (i.natAbs / m)))
      rw [← e] at this
      simpa only [S, habs, L, nl] using this
end LM

namespace LM

inductive spSMod (ds : List D) (c : Option (List D)) (post : Option D → Option (List D) → Prop) : Prop
  | mk : (c = none) → ∀ w i m, (W w) → (i.natAbs < 2 ^ 900) → (0 < m) → (m < 2 ^ 900) → (ds = [S w i, S w ((m : Nat) : Int), .int w, .fn 33]) → (post (some (L w (i % (m : Int)).toNat)) none) → spSMod ds c post
theorem hsp_s_mod {T : Nat → Option LM.Spec} (h18 : T 18 = some spAbs) (h23 : T 23 = some spFdiv) : ∀ ds c post, spSMod ds c post → ds.length + (match c with | none => 0 | some _ => 1) = a_s_mod ∧ wSs T p_s_mod (entryΓ v_s_mod.length ds c) (bodyQ c post) (c = none ∧ ∃ c', post none c') := by
  rintro ds c post ⟨rfl, w, i, m, hw, hi, hm0, hm, rfl, hp⟩
  refine ⟨rfl, ?_⟩
  show wSs T p_s_mod ⟨[some (.d (S w i)), some (.d (S w ((m : Nat) : Int))), some (.d (.int w)), some (.d (.fn 33))], []⟩ _ _
  (refine use_of h18 ?_)
  refine ⟨rfl, w, ((m : Nat) : Int), hw, by simpa using sm_900 hm, rfl, ?_⟩
  (try simp only [↓Ka, ↓Kc, ↓Mh, ↓Mi, ↓Yg, ↓Yh, ↓Yq, ↓Yr, bodyQ, bodyR, ↓vA, ↓vB, true_and, Int.natAbs_natCast]); (first | refine use_of h23 ?_ | skip)
  refine ⟨rfl, w, i, m, hw, hi, hm0, hm, rfl, fun q => ?_⟩
  refine wIdx1 (by simp) ?_
  refine wIdx1 (by simp) ?_
  have : (i % (m : Int)).natAbs = (i % (m : Int)).toNat := by
    have := Int.emod_nonneg i (show (m : Int) ≠ 0 by (exact Int.ne_of_gt (Int.ofNat_lt.mpr hm0)))
    lia
  rw [this]
  exact hp

/-- gcd_ext. -/
inductive spGcd (ds : List D) (c : Option (List D)) (post : Option D → Option (List D) → Prop) : Prop
  | mk : (c = none) → ∀ w a b, (W w) → (a < 2 ^ 400) → (0 < b) → (b < 2 ^ 400) → (ds = [L w a, L w b, .int w, .fn 27, .fn 33]) → (∀ s t : Int, s * (a : Int) + t * (b : Int) = ((Nat.gcd a b : Nat) : Int) → s.natAbs ≤ b → post (some (.tup [L w (Nat.gcd a b), S w s, S w t])) none) → spGcd ds c post

theorem L_one {w : Nat} (hw : W w) : L w 1 = .list [.int 1] := by
  have := B_ge hw
  unfold L nl; rw [lim_small hw.pos (by decide) (by (exact Nat.lt_of_lt_of_le (by decide) this))]; rfl
theorem L_zero (w : Nat) : L w 0 = .list [] := by unfold L nl; rw [lim_zero]; rfl
theorem p400 {x : Nat} (h : x < 2 ^ 400) : x < 2 ^ 900 := Nat.lt_of_lt_of_le h (Nat.pow_le_pow_right (by decide) (by decide))
theorem natAbs_step (s l : Int) (q : Nat) : (s - (q : Int) * l).natAbs ≤ s.natAbs + q * l.natAbs := by
  have h1 := Int.natAbs_add_le s (-((q : Int) * l))
  rw [Int.natAbs_neg, Int.natAbs_mul, Int.natAbs_natCast] at h1
  rw [Int.sub_eq_add_neg]; exact h1
theorem size_step {x y C : Nat} {s l : Int} (h : s.natAbs * y + l.natAbs * x ≤ C) (hx : 0 < x) : l.natAbs * (x % y) + (s - ((x / y : Nat) : Int) * l).natAbs * y ≤ C ∧ l.natAbs ≤ C ∧ (x / y) * l.natAbs ≤ C := by
  have h1 := Nat.div_add_mod x y
  have h2 := Nat.mul_le_mul_right y (natAbs_step s l (x / y))
  have h3 : l.natAbs * x = l.natAbs * (x % y) + x / y * l.natAbs * y := by
    conv => lhs; rw [← h1]
    rw [Nat.mul_add, Nat.add_comm]
    congr 1
    rw [Nat.mul_comm y, ← Nat.mul_assoc, Nat.mul_comm l.natAbs]
  rw [Nat.add_mul] at h2
  have h4 : l.natAbs * 1 ≤ l.natAbs * x := Nat.mul_le_mul_left _ hx
  have h5 : x / y * l.natAbs ≤ x * l.natAbs := Nat.mul_le_mul_right _ (Nat.div_le_self _ _)
  rw [Nat.mul_comm x] at h5
  refine ⟨by (clear h4 h1 hx; omega), by lia, by (exact Nat.le_trans (Nat.le_trans h5 (Nat.le_add_left _ _)) h)⟩

theorem hsp_gcd_ext {T : Nat → Option LM.Spec} (h16 : T 16 = some spSigned) (h20 : T 20 = some spSSub) (h21 : T 21 = some spSMul) (h33 : T 33 = some spDiv) : ∀ ds c post, spGcd ds c post → ds.length + (match c with | none => 0 | some _ => 1) = a_gcd_ext ∧ wSs T p_gcd_ext (entryΓ v_gcd_ext.length ds c) (bodyQ c post) (c = none ∧ ∃ c', post none c') := by
  rintro ds c post ⟨rfl, w, a, b, hw, ha, hb0, hb, rfl, hp⟩
  refine ⟨rfl, ?_⟩
  have la := sm_len hw (sm_900 (p400 ha))
  have lb := sm_len hw (sm_900 (p400 hb))
  have pa := lim_len_pos (n := a) hw.pos
  have pb := lim_len_pos (n := b) hw.pos
  have s1 : sm 1 := sm_900 (Nat.one_lt_two_pow (by decide))
  have s0 : sm 0 := sm_900 (Nat.two_pow_pos _)
  have l1 := L_one hw
  have l0 := L_zero w
  show wSs T p_gcd_ext ⟨[some (.d (L w a)), some (.d (L w b)), some (.d (.int w)), some (.d (.fn 27)), some (.d (.fn 33)), none, none, none, none, none, none, none], []⟩ _ _
  unfold p_gcd_ext
  (first | ((repeat simp only [↓Ye, ↓Mq, ↓Kc, ↓Ke, ↓Kv, ↓Mb, ↓Mh, ↓Mi, ↓Yq, ↓Yr, Fs.put, Fs.puts, ↓vC, ↓vD, ↓vI, ↓vJ])))
  repeat ((with_reducible apply And.intro); · ((repeat' (with_reducible apply And.intro)) <;> first | (exact Nat.two_pow_pos _) | (unfold small; (first | lia | omega)) | (have := hw.2; (first | lia | omega)) | decide | trivial | (simp; (first | lia | omega)))); (first | refine use_of h16 ?_ | skip)
  refine ⟨rfl, w, false, 1, hw, s1, by rw [l1], ?_⟩
  (first | (skip))
  repeat ((with_reducible apply And.intro); · ((repeat' (with_reducible apply And.intro)) <;> first | (exact Nat.zero_le _) | (unfold small; (first | lia | omega)) | (have := hw.2; (first | lia | omega)) | decide | trivial | (simp; (first | lia | omega)))); (first | refine use_of h16 ?_ | skip)
  refine ⟨rfl, w, false, 0, hw, s0, by rw [l0], ?_⟩
  have e1 : sg false 1 = 1 := rfl
  have e0 : sg false 0 = 0 := rfl
  (repeat (first | simp only [↓Yd, ↓Ye, ↓Mp, ↓Mq, ↓Mw, ↓Ka, ↓Kc, ↓Ke, ↓Ki, ↓Kn, ↓Ko, ↓Kv, ↓Mb, ↓Mh, ↓Mi, ↓Yh, ↓Yi, ↓Yq, ↓Yr, ↓Yw, ↓Yz, ↓Ys, Fs.put, Fs.puts, bodyQ, bodyR, ↓vA, ↓vB, ↓vC, ↓vD, ↓vI, ↓vJ, decide_eq_true_eq, true_and, Nat.zero_le, e1, e0] | (with_reducible show wSs _ c_gcd_ext_4 _ _ _; unfold c_gcd_ext_4)))
  repeat ((with_reducible apply And.intro); · ((repeat' (with_reducible apply And.intro)) <;> first | (first | lia | omega) | (unfold small; (first | lia | omega)) | (have := hw.2; (first | lia | omega)) | decide | trivial | (simp; (first | lia | omega))))
  have eLa : L w a = .list ((lim w a).map fun n : Nat => .int (n : Int)) := rfl
  have eLb : L w b = .list ((lim w b).map fun n : Nat => .int (n : Int)) := rfl
  by_cases hz : a = 0
  · subst hz
    rw [l0]
    (repeat simp only [↓Yl, ↓vJ])
    repeat ((with_reducible apply And.intro); · ((repeat' (with_reducible apply And.intro)) <;> first | (exact Nat.two_pow_pos _) | (unfold small; (first | lia | omega)) | (have := hw.2; (first | lia | omega)) | decide | trivial | (simp; (first | lia | omega))))
    rw [eLb]
    (repeat simp only [↓Yl])
    repeat ((with_reducible apply And.intro); · ((repeat' (with_reducible apply And.intro)) <;> first | (first | lia | omega) | (unfold small; (first | lia | omega)) | (have := hw.2; (first | lia | omega)) | decide | trivial | (simp; (first | lia | omega))))
    rw [if_pos (by assumption)]
    (repeat simp only [vK])
    repeat ((with_reducible apply And.intro); · ((repeat' (with_reducible apply And.intro)) <;> first | (exact Nat.lt_of_le_of_lt lb (by decide)) | (unfold small; (first | lia | omega)) | (have := hw.2; (first | lia | omega)) | decide | trivial | (simp; (first | lia | omega))))
    rw [if_pos (by (refine Int.lt_of_not_ge fun h => ?_; lia))]
    (first | (skip))
    repeat ((with_reducible apply And.intro); · ((repeat' (with_reducible apply And.intro)) <;> first | (exact Nat.two_pow_pos _) | (unfold small; (first | lia | omega)) | (have := hw.2; (first | lia | omega)) | decide | trivial | (simp; (first | lia | omega)))); (first | refine use_of h16 ?_ | skip)
    refine ⟨rfl, w, false, 1, hw, s1, by rw [l1], ?_⟩
    (repeat (first | simp only [↓Ye, ↓Mz, ↓Ka, ↓Ma, ↓Mh, ↓Mi, ↓Yg, ↓Yq, ↓Yr, ↓vA, ↓vB, ↓vI, ↓vJ, e1] | (with_reducible show wSs _ c_gcd_ext_3 _ _ _; unfold c_gcd_ext_3)))
    repeat ((with_reducible apply And.intro); · ((repeat' (with_reducible apply And.intro)) <;> first | decide | (unfold small; (first | lia | omega)) | (have := hw.2; (first | lia | omega)) | decide | trivial | (simp; (first | lia | omega))))
    have := hp 0 1 (by simp) (by simp)
    rw [Nat.gcd_zero_left, eLb] at this
    exact this
  · rw [eLa]
    (repeat simp only [↓Yl, vK])
    repeat ((with_reducible apply And.intro); · ((repeat' (with_reducible apply And.intro)) <;> first | (exact Nat.lt_of_le_of_lt la (by decide)) | (unfold small; (first | lia | omega)) | (have := hw.2; (first | lia | omega)) | decide | trivial | (simp; (first | lia | omega))))
    rw [if_neg (by (clear ha; lia))]
    rw [← eLa]
    unfold s_gcd_ext_0
    (repeat simp only [↓Ye, ↓Mx, bodyQ, bodyR])
    refine ⟨fun n Γ => Ex9 (fun (x y : Nat) (s ls t lt : Int) (o9 o10 o11 : Option Rv) => n = y) (fun x y s ls t lt o9 o10 o11 => Al8 (Γ = ⟨[some (.d (L w x)), some (.d (L w y)), some (.d (.int w)), some (.d (.fn 27)), some (.d (.fn 33)), some (.d (S w s)), some (.d (S w ls)), some (.d (S w t)), some (.d (S w lt)), o9, o10, o11], []⟩) (0 < x) (x < 2 ^ 400) (y < 2 ^ 400) (s * (a : Int) + t * (b : Int) = (x : Int)) (ls * (a : Int) + lt * (b : Int) = (y : Int)) (s.natAbs * y + ls.natAbs * x ≤ b) (t.natAbs * y + lt.natAbs * x ≤ a ∧ s.natAbs ≤ b ∧ t.natAbs ≤ a ∧ Nat.gcd x y = Nat.gcd a b)),
      ⟨b, a, b, 1, 0, 0, 1, none, none, none, rfl, rfl, by (exact Nat.pos_of_ne_zero hz), ha, hb, by simp, by simp, by simp, by simp, by simp; assumption, by simp, rfl⟩, ?_⟩
    rintro y Γ ⟨x, _, s, ls, t, lt, o9, o10, o11, rfl, rfl, hx0, hx, hy, hs, hls, hc1, hc2, hsb, hta, hg⟩
    have ly := sm_len hw (sm_900 (p400 hy))
    have py := lim_len_pos (n := y) hw.pos
    have eLy : L w y = .list ((lim w y).map fun n : Nat => .int (n : Int)) := rfl
    unfold t_gcd_ext_0 b_gcd_ext_0 r_gcd_ext_0
    conv => rw [eLy]
    (repeat simp only [↓Ye, ↓Mr, ↓Mz, ↓Ka, ↓Kc, ↓Ki, ↓Ko, ↓Kw, ↓Ma, ↓Mh, ↓Mi, ↓Yg, ↓Yh, ↓Yi, ↓Yl, ↓Yq, ↓Yr, ↓Yw, bodyQ, bodyR, ↓vA, ↓vB, ↓vI, ↓vJ, vK, decide_eq_true_eq])
    repeat ((with_reducible apply And.intro); · ((repeat' (with_reducible apply And.intro)) <;> first | (exact Nat.lt_of_le_of_lt ly (by decide)) | (unfold small; (first | lia | omega)) | (have := hw.2; (first | lia | omega)) | decide | trivial | (simp; (first | lia | omega))))
    by_cases hy0 : y = 0
    · rw [if_neg (by lia)]
      repeat ((with_reducible apply And.intro); · ((repeat' (with_reducible apply And.intro)) <;> first | decide | (unfold small; (first | lia | omega)) | (have := hw.2; (first | lia | omega)) | decide | trivial | (simp; (first | lia | omega))))
      subst hy0
      rw [Nat.gcd_zero_right] at hg
      have := hp s t (by rw [← hg]; exact hs) hsb
      rw [← hg] at this
      exact this
    · rw [if_pos (by (clear hc2 hc1 hls hy; refine Int.lt_of_not_ge fun h => ?_; lia))]
      obtain ⟨z1, z2, z3⟩ := size_step hc1 hx0
      obtain ⟨z4, z5, z6⟩ := size_step hc2 hx0
      have hqx := Nat.div_le_self x y
      have hry := Nat.mod_lt x (show 0 < y by (exact Nat.pos_of_ne_zero hy0))
      have hq9 : x / y < 2 ^ 900 := Nat.lt_of_le_of_lt hqx (p400 hx)
      have h49 : (2 : Nat) ^ 400 ≤ 2 ^ 900 := Nat.pow_le_pow_right (by decide) (by decide)
      (refine use_of h33 ?_)
      refine ⟨rfl, w, x, y, hw, p400 hx, by (exact Nat.pos_of_ne_zero hy0), p400 hy, rfl, ?_⟩
      (first | ((repeat (first | simp only [↓Ye, ↓Mp, ↓Ka, ↓Ke, ↓Kv, ↓Mh, ↓Mi, ↓Yq, ↓Yr, Fs.put, Fs.puts, ↓vA, ↓vB, ↓vC, ↓vD, ↓vE, ↓vF, ↓vI, ↓vJ] | (with_reducible refine And.intro True.intro ?_) | (with_reducible show wSs _ c_gcd_ext_2 _ _ _; unfold c_gcd_ext_2))); (first | refine use_of h16 ?_ | skip)))
      refine ⟨rfl, w, false, x / y, hw, sm_900 hq9, rfl, ?_⟩
      have eq : sg false (x / y) = ((x / y : Nat) : Int) := rfl
      (repeat (first | simp only [↓Ye, ↓Mq, ↓Ka, ↓Kv, ↓Mh, ↓Mi, ↓Yq, ↓Yr, Fs.put, Fs.puts, ↓vA, ↓vB, ↓vC, ↓vD, ↓vI, ↓vJ, true_and, eq] | (with_reducible show wSs _ c_gcd_ext_1 _ _ _; unfold c_gcd_ext_1))); (first | refine use_of h21 ?_ | skip)
      refine ⟨rfl, w, ((x / y : Nat) : Int), ls, hw, by rw [Int.natAbs_natCast]; exact sm_900 hq9, sm_900 (by (exact Nat.lt_of_lt_of_le (Nat.lt_of_le_of_lt z2 hb) h49)), by rw [Int.natAbs_natCast]; exact sm_900 (by (exact Nat.lt_of_lt_of_le (Nat.lt_of_le_of_lt z3 hb) h49)), rfl, ?_⟩
      (refine use_of h20 ?_)
      refine ⟨rfl, w, s, ((x / y : Nat) : Int) * ls, hw, by (exact Nat.lt_of_lt_of_le (Nat.lt_of_le_of_lt hsb hb) h49), by rw [Int.natAbs_mul, Int.natAbs_natCast]; (exact Nat.lt_of_lt_of_le (Nat.lt_of_le_of_lt z3 hb) h49), rfl, ?_⟩
      (refine use_of h21 ?_)
      refine ⟨rfl, w, ((x / y : Nat) : Int), lt, hw, by rw [Int.natAbs_natCast]; exact sm_900 hq9, sm_900 (by (exact Nat.lt_of_lt_of_le (Nat.lt_of_le_of_lt z5 ha) h49)), by rw [Int.natAbs_natCast]; exact sm_900 (by (exact Nat.lt_of_lt_of_le (Nat.lt_of_le_of_lt z6 ha) h49)), rfl, ?_⟩
      (refine use_of h20 ?_)
      refine ⟨rfl, w, t, ((x / y : Nat) : Int) * lt, hw, by (exact Nat.lt_of_lt_of_le (Nat.lt_of_le_of_lt hta ha) h49), by rw [Int.natAbs_mul, Int.natAbs_natCast]; (exact Nat.lt_of_lt_of_le (Nat.lt_of_le_of_lt z6 ha) h49), rfl, ?_⟩
      (repeat (first | simp only [↓Yd, ↓Mh, Fs.put, Fs.puts, ↓vC, ↓vD, ↓vI, ↓vJ] | (with_reducible refine And.intro True.intro ?_)))
      repeat ((with_reducible apply And.intro); · ((repeat' (with_reducible apply And.intro)) <;> first | (first | lia | omega) | (unfold small; (first | lia | omega)) | (have := hw.2; (first | lia | omega)) | decide | trivial | (simp; (first | lia | omega))))
      have hxe : (x : Int) = ((x / y : Nat) : Int) * (y : Int) + ((x % y : Nat) : Int) := by
        have := Nat.div_add_mod x y
        rw [Nat.mul_comm] at this
        exact_mod_cast this.symm
      refine ⟨x % y, hry, y, x % y, ls, s - ((x / y : Nat) : Int) * ls, lt, t - ((x / y : Nat) : Int) * lt, _, _, _, rfl, rfl, by (exact Nat.pos_of_ne_zero hy0), hy, by (exact Nat.lt_trans hry hy), hls, ?_, z1, z4, z2, z5, ?_⟩
      · rw [Int.sub_mul, Int.sub_mul, Int.mul_assoc, Int.mul_assoc]
        have : ((x / y : Nat) : Int) * (ls * (a : Int)) + ((x / y : Nat) : Int) * (lt * (b : Int)) = ((x / y : Nat) : Int) * (y : Int) := by rw [← Int.mul_add, hls]
        lia
      · rw [← hg, Nat.gcd_comm x y, Nat.gcd_rec y x, Nat.gcd_comm]

/-- inverse_mod: the inverse, or NoInverse. -/
inductive spInv (ds : List D) (c : Option (List D)) (post : Option D → Option (List D) → Prop) : Prop
  | mk : (c = none) → ∀ w a m, (W w) → (a < 2 ^ 300) → (0 < m) → (m < 2 ^ 300) → (ds = [L w a, L w m, .int w, .fn 27, .fn 33]) → ((Nat.gcd a m = 1 → ∀ v, v < m → v * a % m = 1 % m → post (some (L w v)) none)) → ((Nat.gcd a m ≠ 1 → post none none)) → spInv ds c post

theorem p300 {x : Nat} (h : x < 2 ^ 300) : x < 2 ^ 400 := Nat.lt_of_lt_of_le h (Nat.pow_le_pow_right (by decide) (by decide))
theorem hsp_inverse_mod {T : Nat → Option LM.Spec} (h1 : T 1 = some spCompare) (h16 : T 16 = some spSigned) (h24 : T 24 = some spSMod) (h25 : T 25 = some spGcd) (h33 : T 33 = some spDiv) : ∀ ds c post, spInv ds c post → ds.length + (match c with | none => 0 | some _ => 1) = a_inverse_mod ∧ wSs T p_inverse_mod (entryΓ v_inverse_mod.length ds c) (bodyQ c post) (c = none ∧ ∃ c', post none c') := by
  rintro ds c post ⟨rfl, w, a, m, hw, ha, hm0, hm, rfl, hp1, hp2⟩
  refine ⟨rfl, ?_⟩
  have lm := sm_len hw (sm_900 (p400 (p300 hm)))
  have pm := lim_len_pos (n := m) hw.pos
  have l1 := L_one hw
  have hB := B_ge hw
  have s1 : sm 1 := sm_900 (Nat.one_lt_two_pow (by decide))
  have eLm : L w m = .list ((lim w m).map fun n : Nat => .int (n : Int)) := rfl
  have hgc : Nat.gcd (a % m) m = Nat.gcd a m := by rw [Nat.gcd_comm a m, Nat.gcd_rec m a]
  have hgm : Nat.gcd a m ≤ m := Nat.gcd_le_right a hm0
  show wSs T p_inverse_mod ⟨[some (.d (L w a)), some (.d (L w m)), some (.d (.int w)), some (.d (.fn 27)), some (.d (.fn 33)), none, none, none], []⟩ _ _
  unfold p_inverse_mod
  rw [eLm]
  (repeat simp only [↓Yd, ↓Ye, ↓Mw, ↓Ya, ↓Ka, ↓Kc, ↓Ki, ↓Ko, ↓Yi, ↓Yl, ↓Yz, ↓Ys, ↓vA, ↓vB, vK, decide_eq_true_eq, true_and])
  repeat ((with_reducible apply And.intro); · ((repeat' (with_reducible apply And.intro)) <;> first | (exact Nat.lt_of_le_of_lt lm (by decide)) | (unfold small; (first | lia | omega)) | (have := hw.2; (first | lia | omega)) | decide | trivial | (simp; (first | lia | omega))))
  rw [if_neg (by (refine fun h => ?_; lia)), ← eLm]
  (refine use_of h33 ?_)
  refine ⟨rfl, w, a, m, hw, p400 (p300 ha), hm0, p400 (p300 hm), rfl, ?_⟩
  (repeat simp only [↓Ka, ↓Kc, ↓Mh, ↓Mi, ↓Yg, ↓Yh, ↓Ym, ↓Yq, ↓Yr, ↓vA, ↓vB, ↓vI, ↓vJ])
  refine wIdx1 (by simp) ?_
  (refine use_of h25 ?_)
  refine ⟨rfl, w, a % m, m, hw, Nat.lt_trans (Nat.mod_lt _ hm0) (p300 hm), hm0, p300 hm, rfl, fun s t hst hsm => ?_⟩
  rw [hgc] at hst ⊢
  (first | ((repeat (first | simp only [↓Yd, ↓Ye, ↓Mw, ↓Ya, ↓Ka, ↓Kc, ↓Ki, ↓Kv, ↓Mb, ↓Mh, ↓Mi, ↓Yi, ↓Yq, ↓Yr, ↓Za, Fs.put, Fs.puts, ↓vA, ↓vB, ↓vC, ↓vD, ↓vE, ↓vF, ↓vI, ↓vJ] | (with_reducible refine And.intro True.intro ?_) | (with_reducible show wSs _ c_inverse_mod_0 _ _ _; unfold c_inverse_mod_0)))))
  repeat ((with_reducible apply And.intro); · ((repeat' (with_reducible apply And.intro)) <;> first | (exact Nat.two_pow_pos _) | (unfold small; (first | lia | omega)) | (have := hw.2; (first | lia | omega)) | decide | trivial | (simp; (first | lia | omega)))); (first | refine use_of h1 ?_ | skip)
  refine ⟨rfl, w, Nat.gcd a m, 1, hw, sm_le (sm_900 (p400 (p300 hm))) hgm, s1, by rw [l1], ?_⟩
  (repeat simp only [↓Ys])
  by_cases hg : Nat.gcd a m = 1
  · rw [hg]
    rw [if_neg (by decide)]
    (refine use_of h16 ?_)
    refine ⟨rfl, w, false, m, hw, sm_900 (p400 (p300 hm)), rfl, ?_⟩
    have e : sg false m = ((m : Nat) : Int) := rfl
    (first | refine use_of h24 ?_ | skip)
    have h39 : (2 : Nat) ^ 300 ≤ 2 ^ 900 := Nat.pow_le_pow_right (by decide) (by decide)
    refine ⟨rfl, w, s, m, hw, by (exact Nat.lt_of_lt_of_le (Nat.lt_of_le_of_lt hsm hm) h39), hm0, by (exact Nat.lt_of_lt_of_le hm h39), rfl, ?_⟩
    have hm' : (m : Int) ≠ 0 := by (exact Int.ne_of_gt (Int.ofNat_lt.mpr hm0))
    have h0 := Int.emod_nonneg s hm'
    have hlt := Int.emod_lt_of_pos s (show (0 : Int) < m by (exact Int.ofNat_lt.mpr hm0))
    refine hp1 hg _ (by (clear hgm hm0; refine Nat.lt_of_not_le fun h => ?_; lia)) ?_
    rw [hg] at hst
    have hv : ((s % (m : Int)).toNat : Int) = s % (m : Int) := by lia
    have key : (((s % (m : Int)).toNat * a % m : Nat) : Int) = ((1 % m : Nat) : Int) := by
      push_cast
      rw [hv]
      have h2 : (1 : Int) = s * (a : Int) + (t - s * ((a / m : Nat) : Int)) * (m : Int) := by
        have h3 : (a : Int) = (m : Int) * ((a / m : Nat) : Int) + ((a % m : Nat) : Int) := by exact_mod_cast (Nat.div_add_mod a m).symm
        have h4 : s * (a : Int) = s * ((m : Int) * ((a / m : Nat) : Int)) + s * ((a % m : Nat) : Int) := by
          conv => lhs; rw [h3]
          rw [Int.mul_add]
        rw [h4, Int.sub_mul, Int.mul_assoc s, Int.mul_comm ((a / m : Nat) : Int)]
        have h5 : (((1 : Nat)) : Int) = 1 := rfl
        rw [h5] at hst
        lia
      conv => rhs; rw [h2]
      rw [Int.add_mul_emod_self_right, Int.mul_emod, Int.emod_emod_of_dvd _ (Int.dvd_refl _), ← Int.mul_emod]
    exact_mod_cast key
  · rw [if_pos (by
      have : ¬ (Nat.gcd a m < 1) := by have := Nat.gcd_pos_of_pos_right a hm0; (clear hg; refine fun h => ?_; lia)
      rw [if_neg this, if_neg hg]; decide)]
    exact ⟨none, hp2 hg⟩
end LM

namespace LM

inductive spUndone (ds : List D) (c : Option (List D)) (post : Option D → Option (List D) → Prop) : Prop
  | mk : (c = none) → ∀ w a m, (W w) → (a < 2 ^ 300) → (0 < m) → (m < 2 ^ 300) → (ds = [L w a, L w m, .int w]) → ((Nat.gcd a m = 1 → ∀ v, v < m → v * a % m = 1 % m → post (some (L w v)) none)) → ((Nat.gcd a m ≠ 1 → post none none)) → spUndone ds c post
theorem hsp_law_undone {T : Nat → Option LM.Spec} (h26 : T 26 = some spInv) : ∀ ds c post, spUndone ds c post → ds.length + (match c with | none => 0 | some _ => 1) = a_law_undone ∧ wSs T p_law_undone (entryΓ v_law_undone.length ds c) (bodyQ c post) (c = none ∧ ∃ c', post none c') := by
  rintro ds c post ⟨rfl, w, a, m, hw, ha, hm0, hm, rfl, hp1, hp2⟩
  refine ⟨rfl, ?_⟩
  (refine use_of h26 ?_)
  refine ⟨rfl, w, a, m, hw, ha, hm0, hm, rfl, fun hg v hv he => ?_, fun hg => ?_⟩
  · skip
    exact hp1 hg v hv he
  · (try simp only [true_and])
    exact ⟨none, hp2 hg⟩

theorem pow_nat (w : Nat) : (2 : Int) ^ w = ((2 ^ w : Nat) : Int) := by push_cast; rfl

/-- _law_limbs. -/
inductive spLimbs (ds : List D) (c : Option (List D)) (post : Option D → Option (List D) → Prop) : Prop
  | mk : (c = none) → ∀ w n, (W w) → (sm n) → (ds = [.int ((n : Nat) : Int), .int w]) → (post (some (L w n)) none) → spLimbs ds c post
theorem hsp_law_limbs {T : Nat → Option LM.Spec} : ∀ ds c post, spLimbs ds c post → ds.length + (match c with | none => 0 | some _ => 1) = a_law_limbs ∧ wSs T p_law_limbs (entryΓ v_law_limbs.length ds c) (bodyQ c post) (c = none ∧ ∃ c', post none c') := by
  rintro ds c post ⟨rfl, w, n, hw, hn, rfl, hp⟩
  refine ⟨rfl, ?_⟩
  have ln := sm_len hw hn
  have hB := Nat.two_pow_pos w
  have hB3 := B_le hw
  have hB2 := B_ge hw
  show wSs T p_law_limbs ⟨[some (.d (.int ((n : Nat) : Int))), some (.d (.int w)), none], []⟩ _ _
  unfold p_law_limbs
  (try simp only [↓Ye, ↓Mp, ↓Mx, ↓Mc, ↓Mh, ↓Yq, Fs.put, Fs.own, bodyQ, bodyR, ↓vC, ↓vD, ↓vH, ↓vJ])
  repeat ((with_reducible apply And.intro); · ((repeat' (with_reducible apply And.intro)) <;> first | (exact Nat.zero_le _) | (unfold small; (first | lia | omega)) | (have := hw.2; (first | lia | omega)) | decide | trivial | (simp; (first | lia | omega))))
  refine ⟨fun k Γ => Ex1 (fun (f : List Nat) => Γ = ⟨[some (.d (.int ((k : Nat) : Int))), some (.d (.int w)), some (.c 0)], [some (il f)]⟩) (fun f => lim w n = f ++ lim w k), ⟨n, [], rfl, rfl⟩, ?_⟩
  rintro k Γ ⟨f, rfl, hf⟩
  have hfl : f.length ≤ 200 := by have := congrArg List.length hf; rw [List.length_append] at this; (exact Nat.le_trans (Nat.le_trans (Nat.le_add_right _ _) (Nat.le_of_eq this.symm)) ln)
  refine vP ?_
  by_cases hk : k = 0
  · rw [if_neg (by (exact Int.not_lt.mpr (Int.ofNat_le.mpr (Nat.le_of_eq hk))))]
    subst hk
    rw [lim_zero, List.append_nil] at hf
    (try simp only [↓Ye, ↓Yf, ↓Mz, ↓Ka, Fs.frz, Rv.frz, bodyQ, bodyR, ↓vA, ↓vB, ↓vC, ↓vE, ↓vF, ↓vL])
    have : post (some (nl (lim w n))) none := hp
    rw [hf] at this
    exact this
  · rw [if_pos (by (exact Int.ofNat_lt.mpr (Nat.pos_of_ne_zero hk)))]
    unfold b_law_limbs_0
    (try simp only [↓Yd, ↓Ye, ↓Mp, ↓Mu, ↓Ka, ↓Kc, ↓Kg, ↓Yg, ↓Yh, ↓Zf, ↓Zg, ↓Zl, Fs.put, Fs.setσ, ↓vA, ↓vB, ↓vC, ↓vR, vK, vS, true_and, toNat_w, pow_nat, fmod_nat, fdiv_nat, il])
    repeat ((with_reducible apply And.intro); · ((repeat' (with_reducible apply And.intro)) <;> first | (first | decide | exact Int.natCast_nonneg _ | exact Int.ne_of_gt (Int.ofNat_lt.mpr hB) | exact Nat.lt_of_le_of_lt hfl (by decide) | (refine Nat.lt_of_not_le fun h => ?_; lia) | lia | omega) | (unfold small; (first | lia | omega)) | (have := hw.2; (exact Int.ofNat_le.mpr (Nat.le_of_lt (Nat.lt_of_le_of_lt hw.2 (by decide))))) | decide | trivial | (simp; (first | lia | omega))))
    refine ⟨k / 2 ^ w, Nat.div_lt_self (by (exact Nat.pos_of_ne_zero hk)) (by (exact Nat.lt_of_lt_of_le (by decide) hB2)), f ++ [k % 2 ^ w], ?_, ?_⟩
    · rw [app_one]
    · rw [hf, lim_pos hw.pos (by (exact Nat.pos_of_ne_zero hk))]; simp

theorem wComp_gen {f : D → (D → Prop) → Prop} : ∀ {ds : List D} (g : Nat → D) {K : List D → Prop}, (∀ i d, ds[i]? = some d → ∀ k : D → Prop, k (g i) → f d k) → K ((List.range ds.length).map g) → wComp f ds K
  | [], g, K, _, hK => hK
  | d :: ds, g, K, h, hK => by
    show f d _
    refine h 0 d rfl _ ?_
    refine wComp_gen (ds := ds) (fun i => g (i + 1)) (fun i d' hd k hk => h (i + 1) d' (by simpa using hd) k hk) ?_
    rw [List.length_cons, List.range_succ_eq_map, List.map_cons, List.map_map] at hK
    exact hK
theorem val_sum {w : Nat} : ∀ (l : List Nat) (j : Nat), ((List.range l.length).map fun i => (((l.getD i 0) * 2 ^ (w * (i + j)) : Nat) : Int)).sum = ((2 ^ (w * j) * val w l : Nat) : Int)
  | [], j => by simp [val]
  | d :: l, j => by
    rw [List.length_cons, List.range_succ_eq_map, List.map_cons, List.map_map, List.sum_cons]
    have e : ((fun i => ((((d :: l).getD i 0) * 2 ^ (w * (i + j)) : Nat) : Int)) ∘ Nat.succ) = fun i => (((l.getD i 0) * 2 ^ (w * (i + (j + 1))) : Nat) : Int) := by
      funext i
      simp only [Function.comp, List.getD_cons_succ, Nat.succ_eq_add_one]
      rw [show i + 1 + j = i + (j + 1) by (exact Nat.add_right_comm _ _ _)]
    rw [e, val_sum l (j + 1)]
    simp only [List.getD_cons_zero, Nat.zero_add, val]
    have e2 : 2 ^ (w * (j + 1)) = 2 ^ (w * j) * 2 ^ w := by rw [Nat.mul_succ, Nat.pow_add]
    rw [e2, Nat.mul_add (2 ^ (w * j)), Nat.mul_comm d, Nat.mul_assoc]
    push_cast
    rfl

/-- _law_number. -/
inductive spNumber (ds : List D) (c : Option (List D)) (post : Option D → Option (List D) → Prop) : Prop
  | mk : (c = none) → ∀ w n, (W w) → (n < 2 ^ 30) → (ds = [L w n, .int w]) → (post (some (.int ((n : Nat) : Int))) none) → spNumber ds c post
theorem hsp_law_number {T : Nat → Option LM.Spec} : ∀ ds c post, spNumber ds c post → ds.length + (match c with | none => 0 | some _ => 1) = a_law_number ∧ wSs T p_law_number (entryΓ v_law_number.length ds c) (bodyQ c post) (c = none ∧ ∃ c', post none c') := by
  rintro ds c post ⟨rfl, w, n, hw, hn, rfl, hp⟩
  refine ⟨rfl, ?_⟩
  have hw5 := hw.1
  have hw8 := hw.2
  have hB3 := B_le hw
  have ln : (lim w n).length ≤ 6 := lim_len hw.pos (Nat.lt_of_lt_of_le hn (Nat.pow_le_pow_right (by decide) (by lia)))
  have on := ok_lim hw.pos n
  have vn := val_lim hw.pos n
  unfold p_law_number
  (try simp only [↓Ye, ↓Mz, ↓Ka, ↓Kc, ↓Kg, ↓Ks, ↓Mg, ↓Mk, ↓Yg, ↓Yh, ↓Ze, ↓Zl, bodyQ, bodyR, ↓vA, L, nl])
  refine ⟨by rw [enumD_length]; simp; (exact Nat.le_of_lt (Nat.lt_of_le_of_lt ln (by decide))), ?_⟩
  refine wComp_gen (fun i => .int ((((lim w n).getD i 0) * 2 ^ (w * (i + 0)) : Nat) : Int)) (fun i d hd k hk => ?_) ?_
  · obtain ⟨hi, rfl⟩ := enum_nat hd
    have hd' := on _ (List.getElem_mem hi)
    have hwi : w * i ≤ 8 * 5 := Nat.mul_le_mul hw8 (by lia)
    have h240 : 2 ^ (w * i) ≤ 2 ^ 40 := Nat.pow_le_pow_right (by decide) hwi
    have ewi : ((w : Nat) : Int) * ((i : Nat) : Int) = ((w * i : Nat) : Int) := by push_cast; rfl
    show bindT (.two 0 1) _ (compρ ["at", "limb"] [1] ⟨[some (.d (.list _)), some (.d (.int w))], []⟩) _
    have ec : compρ ["at", "limb"] [1] ⟨[some (.d (.list ((lim w n).map fun n : Nat => D.int n))), some (.d (.int ((w : Nat) : Int)))], []⟩ = [none, none, some (.d (.int ((w : Nat) : Int)))] := rfl
    rw [ec]
    (try simp only [↓Yh, ↓vA, ↓vB, ↓vC, ↓vD, ↓Zn, ewi, toNat_w, pow_nat])
    repeat ((with_reducible apply And.intro); · ((repeat' (with_reducible apply And.intro)) <;> first | (first | decide | exact Int.natCast_nonneg _ | exact Int.ofNat_le.mpr (Nat.le_of_lt (Nat.lt_of_le_of_lt hwi (by decide))) | (refine Nat.lt_of_not_le fun h => ?_; lia) | (clear ec ewi h240 hwi hn hw hk vn; omega) | (clear hw5; refine Nat.lt_of_not_le fun h => ?_; lia) | lia | omega) | (unfold small; (first | lia | omega)) | (have := hw.2; (first | lia | omega)) | decide | trivial | (simp; (first | lia | omega))))
    rw [List.getD_eq_getElem?_getD, List.getElem?_eq_getElem hi] at hk
    simp only [Option.getD_some, Nat.add_zero] at hk
    have e2 : (((lim w n)[i] : Nat) : Int) * ((2 ^ (w * i) : Nat) : Int) = (((lim w n)[i] * 2 ^ (w * i) : Nat) : Int) := by push_cast; rfl
    rw [e2]
    exact hk
  · skip
    refine ⟨(List.range (enumD 0 ((lim w n).map fun n : Nat => D.int n)).length).map fun i => ((((lim w n).getD i 0) * 2 ^ (w * (i + 0)) : Nat) : Int), by rw [List.map_map]; rfl, by rw [List.length_map, List.length_range, enumD_length]; simp; (exact Nat.le_of_lt (Nat.lt_of_le_of_lt ln (by decide))), ?_⟩
    have el : (enumD 0 ((lim w n).map fun n : Nat => D.int n)).length = (lim w n).length := by rw [enumD_length]; simp
    rw [el, val_sum, vn]
    simpa using hp

/-- _law_common. -/
inductive spCommon (ds : List D) (c : Option (List D)) (post : Option D → Option (List D) → Prop) : Prop
  | mk : (c = none) → ∀ a b : Nat, (ds = [.int ((a : Nat) : Int), .int ((b : Nat) : Int)]) → (post (some (.int ((Nat.gcd a b : Nat) : Int))) none) → spCommon ds c post
theorem hsp_law_common {T : Nat → Option LM.Spec} : ∀ ds c post, spCommon ds c post → ds.length + (match c with | none => 0 | some _ => 1) = a_law_common ∧ wSs T p_law_common (entryΓ v_law_common.length ds c) (bodyQ c post) (c = none ∧ ∃ c', post none c') := by
  rintro ds c post ⟨rfl, a, b, rfl, hp⟩
  refine ⟨rfl, ?_⟩
  (try simp only [↓Ye, ↓Mx, bodyQ, bodyR])
  refine ⟨fun n Γ => Ex1 (fun (x : Nat) => Γ = ⟨[some (.d (.int ((x : Nat) : Int))), some (.d (.int ((n : Nat) : Int)))], []⟩) (fun x => Nat.gcd x n = Nat.gcd a b), ⟨b, a, rfl, rfl⟩, ?_⟩
  rintro n Γ ⟨x, rfl, hg⟩
  unfold t_law_common_0
  refine vP ?_
  by_cases hn : n = 0
  · subst hn
    rw [if_neg (by decide)]
    (try simp only [↓Ye, ↓Mz, ↓Ka, ↓Yg, bodyQ, bodyR, ↓vA])
    rw [Nat.gcd_zero_right] at hg
    rw [hg]; exact hp
  · rw [if_pos (by (exact Int.ofNat_lt.mpr (Nat.pos_of_ne_zero hn)))]
    unfold b_law_common_0
    (try simp only [↓Yd, ↓Ye, ↓Mq, ↓Ka, ↓Kg, ↓Mh, ↓Mi, ↓Yh, ↓Zg, Fs.put, Fs.puts, ↓vA, ↓vB, ↓vC, ↓vD, ↓vI, ↓vJ, true_and, fmod_nat])
    repeat ((with_reducible apply And.intro); · ((repeat' (with_reducible apply And.intro)) <;> first | (exact Int.ne_of_gt (Int.ofNat_lt.mpr (Nat.pos_of_ne_zero hn))) | (unfold small; (first | lia | omega)) | (have := hw.2; (first | lia | omega)) | decide | trivial | (simp; (first | lia | omega))))
    exact ⟨x % n, Nat.mod_lt _ (by (exact Nat.pos_of_ne_zero hn)), n, rfl, by rw [← hg, Nat.gcd_comm x n, Nat.gcd_rec n x, Nat.gcd_comm]⟩

/-- _law_pair. -/
noncomputable def PR (w x m : Nat) : D := .tup [L w (x % m), L w m]
inductive spPair (ds : List D) (c : Option (List D)) (post : Option D → Option (List D) → Prop) : Prop
  | mk : (c = none) → ∀ w x m, (W w) → (x < 2 ^ 60) → (0 < m) → (m < 2 ^ 60) → (ds = [.int ((x : Nat) : Int), .int ((m : Nat) : Int), .int w]) → (post (some (PR w x m)) none) → spPair ds c post
theorem sm_60 {x : Nat} (h : x < 2 ^ 60) : sm x := Nat.lt_of_lt_of_le h (Nat.pow_le_pow_right (by decide) (by decide))
theorem hsp_law_pair {T : Nat → Option LM.Spec} (h35 : T 35 = some spLimbs) : ∀ ds c post, spPair ds c post → ds.length + (match c with | none => 0 | some _ => 1) = a_law_pair ∧ wSs T p_law_pair (entryΓ v_law_pair.length ds c) (bodyQ c post) (c = none ∧ ∃ c', post none c') := by
  rintro ds c post ⟨rfl, w, x, m, hw, hx, hm0, hm, rfl, hp⟩
  refine ⟨rfl, ?_⟩
  show wSs T p_law_pair ⟨[some (.d (.int ((x : Nat) : Int))), some (.d (.int ((m : Nat) : Int))), some (.d (.int w))], []⟩ _ _
  unfold p_law_pair
  (try simp only [↓Ye, ↓Mz, ↓Ka, ↓Kg, ↓Kv, ↓Ma, ↓Mh, ↓Mi, ↓Yg, ↓Yh, ↓Yq, ↓Yr, ↓Zg, bodyQ, bodyR, ↓vA, ↓vB, ↓vI, ↓vJ, true_and, fmod_nat])
  repeat ((with_reducible apply And.intro); · ((repeat' (with_reducible apply And.intro)) <;> first | (exact Int.ne_of_gt (Int.ofNat_lt.mpr hm0)) | (unfold small; (first | lia | omega)) | (have := hw.2; (first | lia | omega)) | decide | trivial | (simp; (first | lia | omega)))); (first | refine use_of h35 ?_ | skip)
  refine ⟨rfl, w, x % m, hw, sm_le (sm_60 hx) (Nat.mod_le _ _), rfl, ?_⟩
  (refine use_of h35 ?_)
  refine ⟨rfl, w, m, hw, sm_60 hm, rfl, ?_⟩
  repeat ((with_reducible apply And.intro); · ((repeat' (with_reducible apply And.intro)) <;> first | decide | (unfold small; (first | lia | omega)) | (have := hw.2; (first | lia | omega)) | decide | trivial | (simp; (first | lia | omega))))
  exact hp

/-- _law_spooled: some number below many, one more turn of the reel. -/
noncomputable def reel (k : Nat) (ns : List Int) : List D := [.int ((k : Nat) : Int), .list (ns.map .int)]
inductive spSpooled (ds : List D) (c : Option (List D)) (post : Option D → Option (List D) → Prop) : Prop
  | mk : ∀ (many k : Nat) (ns : List Int), (0 < many) → (k < 2 ^ 40) → (ns.length ≤ 1000) → (ds = [.int ((many : Nat) : Int)]) → (c = some (reel k ns)) → (∀ r : Nat, r < many → post (some (.int ((r : Nat) : Int))) (some (reel (k + 1) ns))) → spSpooled ds c post
theorem hsp_law_spooled {T : Nat → Option LM.Spec} : ∀ ds c post, spSpooled ds c post → ds.length + (match c with | none => 0 | some _ => 1) = a_law_spooled ∧ wSs T p_law_spooled (entryΓ v_law_spooled.length ds c) (bodyQ c post) (c = none ∧ ∃ c', post none c') := by
  rintro ds c post ⟨many, k, ns, hm, hk, hns, rfl, rfl, hp⟩
  refine ⟨rfl, ?_⟩
  have hfm : ∀ x : Int, ∃ r : Nat, r < many ∧ x.fmod ((many : Nat) : Int) = ((r : Nat) : Int) := fun x => by
    have h1 := Int.fmod_nonneg_of_pos x (show (0 : Int) < (many : Int) by (exact Int.ofNat_lt.mpr hm))
    have h2 := Int.fmod_lt_of_pos x (show (0 : Int) < (many : Int) by (exact Int.ofNat_lt.mpr hm))
    exact ⟨(x.fmod (many : Int)).toNat, by (clear h1 hns hk; omega), by (clear hns hk hm; omega)⟩
  show wSs T p_law_spooled ⟨[some (.c 0), some (.d (.int ((many : Nat) : Int)))], [some (reel k ns)]⟩ _ _
  unfold p_law_spooled
  (try simp only [↓Yd, ↓Ye, ↓Ms, ↓Mw, ↓Mz, ↓Ka, ↓Kc, ↓Kg, ↓Ki, ↓Ko, ↓Ky, ↓Yg, ↓Yh, ↓Yi, ↓Yn, ↓Zd, ↓Zg, ↓Yx, Fs.setσ, bodyQ, bodyR, ↓vA, ↓vB, ↓vC, ↓vI, ↓vJ, reel])
  refine wIdx0 (by simp) ?_
  (try simp only [↓Zb])
  repeat ((with_reducible apply And.intro); · ((repeat' (with_reducible apply And.intro)) <;> first | (first | decide | exact Int.natCast_nonneg _ | lia | omega) | (unfold small; (first | lia | omega)) | (have := hw.2; (first | lia | omega)) | decide | trivial | (simp; (first | lia | omega))))
  have e0 : (0 : Int).toNat = 0 := rfl
  have e1 : ((k : Nat) : Int) + 1 = ((k + 1 : Nat) : Int) := by push_cast; rfl
  rw [e0, List.set_cons_zero, e1]
  refine wIdx0 (by simp) ?_
  (try simp only [↓Yh])
  refine wIdx1 (by simp) ?_
  (try simp only [↓Yl, vK, decide_eq_true_eq, reduceCtorEq])
  repeat ((with_reducible apply And.intro); · ((repeat' (with_reducible apply And.intro)) <;> first | (exact Nat.lt_of_le_of_lt hns (by decide)) | (unfold small; (first | lia | omega)) | (have := hw.2; (first | lia | omega)) | decide | trivial | (simp; (first | lia | omega))))
  by_cases hle : k + 1 ≤ ns.length
  · rw [if_pos (by (exact Int.ofNat_le.mpr hle))]
    refine wIdx1 (by simp) ?_
    refine wIdx0 (by simp) ?_
    (try simp only [↓Yh])
    have e2 : ((k + 1 : Nat) : Int) - 1 = ((k : Nat) : Int) := by lia
    rw [e2]
    have hkl : k < ns.length := by assumption
    refine ⟨by simp; (exact Nat.lt_of_le_of_lt hns (by decide)), .int ns[k], ?_, ?_⟩
    · unfold place
      rw [if_pos (by (exact Int.natCast_nonneg _)), if_pos (by simp; omega)]
      simp only [Option.bind_some, Int.toNat_natCast, List.getElem?_map, List.getElem?_eq_getElem hkl, Option.map_some]
    (try simp only [↓Yh])
    repeat ((with_reducible apply And.intro); · ((repeat' (with_reducible apply And.intro)) <;> first | (exact Int.ne_of_gt (Int.ofNat_lt.mpr hm)) | (unfold small; (first | lia | omega)) | (have := hw.2; (first | lia | omega)) | decide | trivial | (simp; (first | lia | omega))))
    obtain ⟨r, hr, e3⟩ := hfm ns[k]
    rw [e3]
    exact hp r hr
  · rw [if_neg (by (exact Int.not_le.mpr (Int.ofNat_lt.mpr (Nat.lt_of_not_le hle))))]
    unfold s_law_spooled_0
    (try simp only [↓Ye, ↓Mz, ↓Ka, ↓Kc, ↓Kg, ↓Ky, ↓Yg, ↓Yh, ↓Yn, ↓Zb, ↓Ze, ↓Zf, ↓Zg, bodyQ, bodyR, ↓vA, ↓vB])
    refine wIdx0 (by simp) ?_
    (try simp only [↓Yh])
    repeat ((with_reducible apply And.intro); · ((repeat' (with_reducible apply And.intro)) <;> first | (first | decide | (clear hle e1 hp hns hm; omega) | lia | omega) | (unfold small; (first | lia | omega)) | (have := hw.2; (first | lia | omega)) | decide | trivial | (simp; (first | lia | omega))))
    refine wIdx0 (by simp) ?_
    (try simp only [↓Yh])
    repeat ((with_reducible apply And.intro); · ((repeat' (with_reducible apply And.intro)) <;> first | (first | decide | exact Int.ne_of_gt (Int.ofNat_lt.mpr hm) | lia | omega) | (unfold small; (first | lia | omega)) | (have := hw.2; (first | lia | omega)) | decide | trivial | (simp; (first | lia | omega))))
    obtain ⟨r, hr, e3⟩ := hfm (9 * ((k + 1 : Nat) : Int) + (((k + 1 : Nat) : Int)).fdiv 3 + 5)
    rw [e3]
    exact hp r hr
end LM

namespace LM

noncomputable def LL (w : Nat) (ms : List Nat) : D := .list (ms.map (L w))
noncomputable def sz (n : Nat) : Prop := n < 2 ^ 200
theorem sz_sm {n : Nat} (h : sz n) : sm n := Nat.lt_of_lt_of_le h (Nat.pow_le_pow_right (by decide) (by decide))

/-- level_above, of two or three. -/
inductive spLevel (ds : List D) (c : Option (List D)) (post : Option D → Option (List D) → Prop) : Prop
  | mk : (c = none) → ∀ w, (W w) → (((Ex2 (fun a b => sz a) (fun a b => Al3 (sz b) (ds = [LL w [a, b], .int w, .fn 27]) (post (some (LL w [a * b])) none))) ∨ (Ex3 (fun a b d => sz a) (fun a b d => Al3 (sz b) (ds = [LL w [a, b, d], .int w, .fn 27]) (post (some (LL w [a * b, d])) none))))) → spLevel ds c post
theorem rangeN2 : rangeN 0 ((((0 + 1 + 1 : Nat)) : Int) - 1) 2 = 1 := by decide
theorem rangeN3 : rangeN 0 ((((0 + 1 + 1 + 1 : Nat)) : Int) - 1) 2 = 1 := by decide
theorem rangeD_one (x z : Int) : rangeD x z 1 = [.int x] := by rw [rangeD_succ, rangeD_zero]

theorem pickd2 (x y : D) : pick [x, y] (some ((((0 + 1 : Nat)) : Int) * 2)) none none = [] := by
  show pick [x, y] (some ((2 : Nat) : Int)) none none = []
  rw [pick_from (by simp)]; rfl
theorem pickd3 (x y z : D) : pick [x, y, z] (some ((((0 + 1 : Nat)) : Int) * 2)) none none = [z] := by
  show pick [x, y, z] (some ((2 : Nat) : Int)) none none = [z]
  rw [pick_from (by simp)]; rfl

theorem hsp_level_above {T : Nat → Option LM.Spec} (h27 : T 27 = some spMul) : ∀ ds c post, spLevel ds c post → ds.length + (match c with | none => 0 | some _ => 1) = a_level_above ∧ wSs T p_level_above (entryΓ v_level_above.length ds c) (bodyQ c post) (c = none ∧ ∃ c', post none c') := by
  rintro ds c post ⟨rfl, w, hw, ⟨a, b, ha, hb, rfl, hp⟩ | ⟨a, b, d, ha, hb, rfl, hp⟩⟩
  · refine ⟨rfl, ?_⟩
    show wSs T p_level_above ⟨[some (.d (LL w [a, b])), some (.d (.int w)), some (.d (.fn 27)), none, none], []⟩ _ _
    unfold p_level_above
    (try simp only [↓Ye, ↓Mp, ↓My, ↓Ka, ↓Kc, ↓Kg, ↓Ko, ↓Mc, ↓Mh, ↓Mo, ↓Yh, ↓Yl, ↓Yq, ↓Zd, Fs.put, Fs.own, bodyQ, bodyR, ↓vA, ↓vC, ↓vD, ↓vE, ↓vF, ↓vH, ↓vI, ↓vJ, true_and, Nat.zero_le, LL, rangeN2, rangeD_one, ↓Zp, ↓Zq, ↓Zm])
    repeat ((with_reducible apply And.intro); · ((repeat' (with_reducible apply And.intro)) <;> first | decide | (unfold small; decide) | (have := hw.2; (first | lia | omega)) | decide | trivial | (simp; (first | lia | omega))))
    unfold b_level_above_0
    (try simp only [↓Yd, ↓Ye, ↓Mu, ↓Ka, ↓Kc, ↓Kg, ↓Kw, ↓Ky, ↓Mh, ↓Mi, ↓Yg, ↓Yh, ↓Yl, ↓Yq, ↓Yr, ↓Zb, Fs.setσ, ↓vA, ↓vB, ↓vC, ↓vH, ↓vJ, ↓vR])
    repeat ((with_reducible apply And.intro); · ((repeat' (with_reducible apply And.intro)) <;> first | (first | lia | omega) | (unfold small; (first | lia | omega)) | (have := hw.2; (first | lia | omega)) | decide | trivial | (simp; (first | lia | omega))))
    refine wIdx0 (by simp) ?_
    refine wIdx1 (by simp) ?_
    (refine use_of h27 ?_)
    refine ⟨rfl, w, a, b, hw, sz_sm ha, sz_sm hb, rfl, ?_⟩
    repeat ((with_reducible apply And.intro); · ((repeat' (with_reducible apply And.intro)) <;> first | (exact Nat.two_pow_pos _) | (unfold small; (first | lia | omega)) | (have := hw.2; (first | lia | omega)) | decide | trivial | (simp; (first | lia | omega))))
    unfold r_level_above_0
    (try simp only [↓Ye, ↓Mz, ↓Ka, ↓Kc, ↓Kf, ↓Kg, ↓Ko, ↓Kz, ↓Yg, ↓Yh, ↓Yj, ↓Yk, ↓Yn, ↓Yo, ↓Yp, ↓Ze, ↓Zt, bodyQ, bodyR, ↓vA, ↓vB, ↓vG, ↓vH, ↓vI, ↓vJ])
    rw [pickd2]
    repeat ((with_reducible apply And.intro); · ((repeat' (with_reducible apply And.intro)) <;> first | (first | decide | exact Nat.two_pow_pos _ | lia | omega) | (unfold small; (first | lia | omega)) | (have := hw.2; (first | lia | omega)) | decide | trivial | (simp; (first | lia | omega))))
    exact hp
  · refine ⟨rfl, ?_⟩
    show wSs T p_level_above ⟨[some (.d (LL w [a, b, d])), some (.d (.int w)), some (.d (.fn 27)), none, none], []⟩ _ _
    unfold p_level_above
    (try simp only [↓Ye, ↓Mp, ↓My, ↓Ka, ↓Kc, ↓Kg, ↓Ko, ↓Mc, ↓Mh, ↓Mo, ↓Yh, ↓Yl, ↓Yq, ↓Zd, Fs.put, Fs.own, bodyQ, bodyR, ↓vA, ↓vC, ↓vD, ↓vE, ↓vF, ↓vH, ↓vI, ↓vJ, true_and, Nat.zero_le, LL, rangeN3, rangeD_one, ↓Zp, ↓Zq, ↓Zm])
    repeat ((with_reducible apply And.intro); · ((repeat' (with_reducible apply And.intro)) <;> first | decide | (unfold small; decide) | (have := hw.2; (first | lia | omega)) | decide | trivial | (simp; (first | lia | omega))))
    unfold b_level_above_0
    (try simp only [↓Yd, ↓Ye, ↓Mu, ↓Ka, ↓Kc, ↓Kg, ↓Kw, ↓Ky, ↓Mh, ↓Mi, ↓Yg, ↓Yh, ↓Yl, ↓Yq, ↓Yr, ↓Zb, Fs.setσ, ↓vA, ↓vB, ↓vC, ↓vH, ↓vJ, ↓vR])
    repeat ((with_reducible apply And.intro); · ((repeat' (with_reducible apply And.intro)) <;> first | (first | lia | omega) | (unfold small; (first | lia | omega)) | (have := hw.2; (first | lia | omega)) | decide | trivial | (simp; (first | lia | omega))))
    refine wIdx0 (by simp) ?_
    refine wIdx1 (by simp) ?_
    (refine use_of h27 ?_)
    refine ⟨rfl, w, a, b, hw, sz_sm ha, sz_sm hb, rfl, ?_⟩
    repeat ((with_reducible apply And.intro); · ((repeat' (with_reducible apply And.intro)) <;> first | (exact Nat.two_pow_pos _) | (unfold small; (first | lia | omega)) | (have := hw.2; (first | lia | omega)) | decide | trivial | (simp; (first | lia | omega))))
    unfold r_level_above_0
    (try simp only [↓Ye, ↓Mz, ↓Ka, ↓Kc, ↓Kf, ↓Kg, ↓Ko, ↓Kz, ↓Yg, ↓Yh, ↓Yj, ↓Yk, ↓Yn, ↓Yo, ↓Yp, ↓Ze, ↓Zt, bodyQ, bodyR, ↓vA, ↓vB, ↓vG, ↓vH, ↓vI, ↓vJ])
    rw [pickd3]
    (try simp only [↓vI, ↓vJ])
    repeat ((with_reducible apply And.intro); · ((repeat' (with_reducible apply And.intro)) <;> first | decide | (unfold small; (first | lia | omega)) | (have := hw.2; (first | lia | omega)) | decide | trivial | (simp; (first | lia | omega))))
    exact hp

/-- crossed_above, of two or three. -/
inductive spCrossA (ds : List D) (c : Option (List D)) (post : Option D → Option (List D) → Prop) : Prop
  | mk : (c = none) → ∀ w, (W w) → (((Ex4 (fun s t a b => sz s) (fun s t a b => Al7 (sz t) (sz a) (sz b) (sz (s * b)) (sz (t * a)) (ds = [LL w [s, t], LL w [a, b], .int w, .fn 27]) (post (some (LL w [s * b + t * a])) none))) ∨ (Ex6 (fun s t u a b d => sz s) (fun s t u a b d => Al7 (sz t) (sz a) (sz b) (sz (s * b)) (sz (t * a)) (ds = [LL w [s, t, u], LL w [a, b, d], .int w, .fn 27]) (post (some (LL w [s * b + t * a, u])) none))))) → spCrossA ds c post
theorem hsp_crossed_above {T : Nat → Option LM.Spec} (h2 : T 2 = some spAdd) (h27 : T 27 = some spMul) : ∀ ds c post, spCrossA ds c post → ds.length + (match c with | none => 0 | some _ => 1) = a_crossed_above ∧ wSs T p_crossed_above (entryΓ v_crossed_above.length ds c) (bodyQ c post) (c = none ∧ ∃ c', post none c') := by
  rintro ds c post ⟨rfl, w, hw, ⟨s, t, a, b, hs, ht, ha, hb, hsb, hta, rfl, hp⟩ | ⟨s, t, u, a, b, d, hs, ht, ha, hb, hsb, hta, rfl, hp⟩⟩
  · refine ⟨rfl, ?_⟩
    show wSs T p_crossed_above ⟨[some (.d (LL w [s, t])), some (.d (LL w [a, b])), some (.d (.int w)), some (.d (.fn 27)), none, none, none, none], []⟩ _ _
    unfold p_crossed_above
    (repeat simp only [↓Ye, ↓Mp, ↓My, ↓Ka, ↓Kc, ↓Kg, ↓Ko, ↓Mc, ↓Mh, ↓Mo, ↓Yh, ↓Yl, ↓Yq, ↓Zd, Fs.put, Fs.own, bodyQ, bodyR, ↓vA, ↓vB, ↓vC, ↓vD, ↓vE, ↓vF, ↓vH, ↓vI, ↓vJ, true_and, Nat.zero_le, LL, rangeN2, rangeD_one, ↓Zp, ↓Zq, ↓Zm])
    repeat ((with_reducible apply And.intro); · ((repeat' (with_reducible apply And.intro)) <;> first | decide | (unfold small; decide) | (have := hw.2; (first | lia | omega)) | decide | trivial | (simp; (first | lia | omega))))
    unfold b_crossed_above_0
    (repeat simp only [↓Ye, ↓Mq, ↓Ka, ↓Kc, ↓Kg, ↓Kw, ↓Ky, ↓Mh, ↓Mi, ↓Yh, ↓Yl, ↓Yq, ↓Yr, ↓Zb, Fs.put, Fs.puts, ↓vA, ↓vB, ↓vC, ↓vD, ↓vI, ↓vJ])
    repeat ((with_reducible apply And.intro); · ((repeat' (with_reducible apply And.intro)) <;> first | (first | lia | omega) | (unfold small; (first | lia | omega)) | (have := hw.2; (first | lia | omega)) | decide | trivial | (simp; (first | lia | omega))))
    refine wIdx0 (by simp) ?_
    refine wIdx1 (by simp) ?_
    (refine use_of h27 ?_)
    refine ⟨rfl, w, s, b, hw, sz_sm hs, sz_sm hb, rfl, ?_⟩
    refine wIdx1 (by simp) ?_
    refine wIdx0 (by simp) ?_
    (refine use_of h27 ?_)
    refine ⟨rfl, w, t, a, hw, sz_sm ht, sz_sm ha, rfl, ?_⟩
    (first | ((repeat (first | simp only [↓Yd, ↓Ye, ↓Mu, ↓Ka, ↓Kv, ↓Mh, ↓Mi, ↓Yg, ↓Yq, ↓Yr, Fs.setσ, ↓vA, ↓vB, ↓vC, ↓vH, ↓vJ, ↓vR] | (with_reducible refine And.intro True.intro ?_) | (with_reducible show wSs _ c_crossed_above_0 _ _ _; unfold c_crossed_above_0)))))
    repeat ((with_reducible apply And.intro); · ((repeat' (with_reducible apply And.intro)) <;> first | (first | lia | omega) | (unfold small; (first | lia | omega)) | (have := hw.2; (first | lia | omega)) | decide | trivial | (simp; (first | lia | omega)))); (first | refine use_of h2 ?_ | skip)
    refine ⟨rfl, w, s * b, t * a, hw, sz_sm hsb, sz_sm hta, rfl, ?_⟩
    repeat ((with_reducible apply And.intro); · ((repeat' (with_reducible apply And.intro)) <;> first | (exact Nat.two_pow_pos _) | (unfold small; (first | lia | omega)) | (have := hw.2; (first | lia | omega)) | decide | trivial | (simp; (first | lia | omega))))
    unfold r_crossed_above_0
    (repeat simp only [↓Ye, ↓Mz, ↓Ka, ↓Kc, ↓Kf, ↓Kg, ↓Ko, ↓Kz, ↓Yg, ↓Yh, ↓Yj, ↓Yk, ↓Yn, ↓Yo, ↓Yp, ↓Ze, ↓Zt, bodyQ, bodyR, ↓vA, ↓vB, ↓vG, ↓vH, ↓vI, ↓vJ])
    rw [pickd2]
    repeat ((with_reducible apply And.intro); · ((repeat' (with_reducible apply And.intro)) <;> first | (first | decide | exact Nat.two_pow_pos _ | lia | omega) | (unfold small; (first | lia | omega)) | (have := hw.2; (first | lia | omega)) | decide | trivial | (simp; (first | lia | omega))))
    exact hp
  · refine ⟨rfl, ?_⟩
    show wSs T p_crossed_above ⟨[some (.d (LL w [s, t, u])), some (.d (LL w [a, b, d])), some (.d (.int w)), some (.d (.fn 27)), none, none, none, none], []⟩ _ _
    unfold p_crossed_above
    (repeat simp only [↓Ye, ↓Mp, ↓My, ↓Ka, ↓Kc, ↓Kg, ↓Ko, ↓Mc, ↓Mh, ↓Mo, ↓Yh, ↓Yl, ↓Yq, ↓Zd, Fs.put, Fs.own, bodyQ, bodyR, ↓vA, ↓vB, ↓vC, ↓vD, ↓vE, ↓vF, ↓vH, ↓vI, ↓vJ, true_and, Nat.zero_le, LL, rangeN3, rangeD_one, ↓Zp, ↓Zq, ↓Zm])
    repeat ((with_reducible apply And.intro); · ((repeat' (with_reducible apply And.intro)) <;> first | decide | (unfold small; decide) | (have := hw.2; (first | lia | omega)) | decide | trivial | (simp; (first | lia | omega))))
    unfold b_crossed_above_0
    (repeat simp only [↓Ye, ↓Mq, ↓Ka, ↓Kc, ↓Kg, ↓Kw, ↓Ky, ↓Mh, ↓Mi, ↓Yh, ↓Yl, ↓Yq, ↓Yr, ↓Zb, Fs.put, Fs.puts, ↓vA, ↓vB, ↓vC, ↓vD, ↓vI, ↓vJ])
    repeat ((with_reducible apply And.intro); · ((repeat' (with_reducible apply And.intro)) <;> first | (first | lia | omega) | (unfold small; (first | lia | omega)) | (have := hw.2; (first | lia | omega)) | decide | trivial | (simp; (first | lia | omega))))
    refine wIdx0 (by simp) ?_
    refine wIdx1 (by simp) ?_
    (refine use_of h27 ?_)
    refine ⟨rfl, w, s, b, hw, sz_sm hs, sz_sm hb, rfl, ?_⟩
    refine wIdx1 (by simp) ?_
    refine wIdx0 (by simp) ?_
    (refine use_of h27 ?_)
    refine ⟨rfl, w, t, a, hw, sz_sm ht, sz_sm ha, rfl, ?_⟩
    (first | ((repeat (first | simp only [↓Yd, ↓Ye, ↓Mu, ↓Ka, ↓Kv, ↓Mh, ↓Mi, ↓Yg, ↓Yq, ↓Yr, Fs.setσ, ↓vA, ↓vB, ↓vC, ↓vH, ↓vJ, ↓vR] | (with_reducible refine And.intro True.intro ?_) | (with_reducible show wSs _ c_crossed_above_0 _ _ _; unfold c_crossed_above_0)))))
    repeat ((with_reducible apply And.intro); · ((repeat' (with_reducible apply And.intro)) <;> first | (first | lia | omega) | (unfold small; (first | lia | omega)) | (have := hw.2; (first | lia | omega)) | decide | trivial | (simp; (first | lia | omega)))); (first | refine use_of h2 ?_ | skip)
    refine ⟨rfl, w, s * b, t * a, hw, sz_sm hsb, sz_sm hta, rfl, ?_⟩
    repeat ((with_reducible apply And.intro); · ((repeat' (with_reducible apply And.intro)) <;> first | (exact Nat.two_pow_pos _) | (unfold small; (first | lia | omega)) | (have := hw.2; (first | lia | omega)) | decide | trivial | (simp; (first | lia | omega))))
    unfold r_crossed_above_0
    (repeat simp only [↓Ye, ↓Mz, ↓Ka, ↓Kc, ↓Kf, ↓Kg, ↓Ko, ↓Kz, ↓Yg, ↓Yh, ↓Yj, ↓Yk, ↓Yn, ↓Yo, ↓Yp, ↓Ze, ↓Zt, bodyQ, bodyR, ↓vA, ↓vB, ↓vG, ↓vH, ↓vI, ↓vJ])
    rw [pickd3]
    (repeat simp only [↓vI, ↓vJ])
    repeat ((with_reducible apply And.intro); · ((repeat' (with_reducible apply And.intro)) <;> first | decide | (unfold small; (first | lia | omega)) | (have := hw.2; (first | lia | omega)) | decide | trivial | (simp; (first | lia | omega))))
    exact hp

/-- product_tree, of two or three. -/
inductive spTree (ds : List D) (c : Option (List D)) (post : Option D → Option (List D) → Prop) : Prop
  | mk : (c = none) → ∀ w, (W w) → (((Ex2 (fun a b => sz a) (fun a b => Al3 (sz b) (ds = [LL w [a, b], .int w, .fn 27]) (post (some (.list [LL w [a, b], LL w [a * b]])) none))) ∨ (Ex3 (fun a b d => sz a) (fun a b d => Al5 (sz b) (sz d) (sz (a * b)) (ds = [LL w [a, b, d], .int w, .fn 27]) (post (some (.list [LL w [a, b, d], LL w [a * b, d], LL w [a * b * d]])) none))))) → spTree ds c post
theorem wIdxL1 {x : D} {k : D → Prop} (h : k x) : wIdx [x] (-1) k := ⟨by simp, x, rfl, h⟩
theorem wIdxL2 {x y : D} {k : D → Prop} (h : k y) : wIdx [x, y] (-1) k := ⟨by simp, y, rfl, h⟩
theorem wIdxL3 {x y z : D} {k : D → Prop} (h : k z) : wIdx [x, y, z] (-1) k := ⟨by simp, z, rfl, h⟩

theorem hsp_product_tree {T : Nat → Option LM.Spec} (h9 : T 9 = some spLevel) : ∀ ds c post, spTree ds c post → ds.length + (match c with | none => 0 | some _ => 1) = a_product_tree ∧ wSs T p_product_tree (entryΓ v_product_tree.length ds c) (bodyQ c post) (c = none ∧ ∃ c', post none c') := by
  rintro ds c post ⟨rfl, w, hw, ⟨a, b, ha, hb, rfl, hp⟩ | ⟨a, b, d, ha, hb, hd, hab, rfl, hp⟩⟩
  · refine ⟨rfl, ?_⟩
    show wSs T p_product_tree ⟨[some (.d (LL w [a, b])), some (.d (.int w)), some (.d (.fn 27)), none], []⟩ _ _
    unfold p_product_tree
    (try simp only [↓Ye, ↓Mp, ↓Mx, ↓Ka, ↓Kf, ↓Kz, ↓Mc, ↓Mh, ↓Mi, ↓Yj, ↓Yp, ↓Yq, ↓Yr, Fs.put, Fs.own, bodyQ, bodyR, ↓vA, ↓vC, ↓vD, ↓vE, ↓vF, ↓vH, ↓vI, ↓vJ, true_and, LL, pick_all])
    repeat ((with_reducible apply And.intro); · ((repeat' (with_reducible apply And.intro)) <;> first | (first | decide | exact Nat.two_pow_pos _ | lia | omega) | (unfold small; (first | lia | omega)) | (have := hw.2; (first | lia | omega)) | decide | trivial | (simp; (first | lia | omega))))
    refine ⟨fun n Γ => (n = 1 ∧ Γ = ⟨[some (.d (LL w [a, b])), some (.d (.int w)), some (.d (.fn 27)), some (.c 0)], [some [LL w [a, b]]]⟩) ∨ (n = 0 ∧ Γ = ⟨[some (.d (LL w [a, b])), some (.d (.int w)), some (.d (.fn 27)), some (.c 0)], [some [LL w [a, b], LL w [a * b]]]⟩), ⟨1, .inl ⟨rfl, rfl⟩⟩, ?_⟩
    rintro n Γ (⟨rfl, rfl⟩ | ⟨rfl, rfl⟩)
    · unfold t_product_tree_0
      (try simp only [↓Ka, ↓Kc, ↓Kd, ↓Ki, ↓Ko, ↓Ky, ↓Yh, ↓Yi, ↓Yn, ↓Yw, ↓vA, ↓vB])
      refine wIdxL1 ?_
      (try simp only [↓Yl, ↓vE, ↓vF, ↓vI, ↓vJ, decide_eq_true_eq, LL])
      repeat ((with_reducible apply And.intro); · ((repeat' (with_reducible apply And.intro)) <;> first | decide | (unfold small; (first | lia | omega)) | (have := hw.2; (first | lia | omega)) | decide | trivial | (simp; (first | lia | omega))))
      rw [if_pos (by decide)]
      unfold b_product_tree_0
      (try simp only [↓Yd, ↓Ye, ↓Mu, ↓Ka, ↓Kd, ↓Kv, ↓Ky, ↓Mh, ↓Mi, ↓Yg, ↓Yh, ↓Yn, ↓Yq, ↓Yr, Fs.setσ, ↓vA, ↓vB, ↓vC, ↓vG, ↓vH, ↓vI, ↓vJ, ↓vR, vS, true_and])
      refine wIdxL1 ?_
      (refine use_of h9 ?_)
      refine ⟨rfl, w, hw, .inl ⟨a, b, ha, hb, rfl, ?_⟩⟩
      repeat ((with_reducible apply And.intro); · ((repeat' (with_reducible apply And.intro)) <;> first | decide | (unfold small; (first | lia | omega)) | (have := hw.2; (first | lia | omega)) | decide | trivial | (simp; (first | lia | omega))))
      exact ⟨0, by decide, .inr ⟨rfl, rfl⟩⟩
    · unfold t_product_tree_0
      (try simp only [↓Ka, ↓Kc, ↓Kd, ↓Ki, ↓Ko, ↓Ky, ↓Yh, ↓Yi, ↓Yn, ↓Yw, ↓vA, ↓vB])
      refine wIdxL2 ?_
      (try simp only [↓Yl, ↓vE, ↓vF, ↓vI, ↓vJ, decide_eq_true_eq, LL])
      repeat ((with_reducible apply And.intro); · ((repeat' (with_reducible apply And.intro)) <;> first | decide | (unfold small; (first | lia | omega)) | (have := hw.2; (first | lia | omega)) | decide | trivial | (simp; (first | lia | omega))))
      rw [if_neg (by decide)]
      (try simp only [↓Ye, ↓Yf, ↓Mz, ↓Ka, Fs.frz, Rv.frz, bodyQ, bodyR, ↓vA, ↓vB, ↓vC, ↓vE, ↓vF, ↓vL])
      exact hp
  · refine ⟨rfl, ?_⟩
    show wSs T p_product_tree ⟨[some (.d (LL w [a, b, d])), some (.d (.int w)), some (.d (.fn 27)), none], []⟩ _ _
    unfold p_product_tree
    (try simp only [↓Ye, ↓Mp, ↓Mx, ↓Ka, ↓Kf, ↓Kz, ↓Mc, ↓Mh, ↓Mi, ↓Yj, ↓Yp, ↓Yq, ↓Yr, Fs.put, Fs.own, bodyQ, bodyR, ↓vA, ↓vC, ↓vD, ↓vE, ↓vF, ↓vH, ↓vI, ↓vJ, true_and, LL, pick_all])
    repeat ((with_reducible apply And.intro); · ((repeat' (with_reducible apply And.intro)) <;> first | (first | decide | exact Nat.two_pow_pos _ | lia | omega) | (unfold small; (first | lia | omega)) | (have := hw.2; (first | lia | omega)) | decide | trivial | (simp; (first | lia | omega))))
    refine ⟨fun n Γ => (n = 2 ∧ Γ = ⟨[some (.d (LL w [a, b, d])), some (.d (.int w)), some (.d (.fn 27)), some (.c 0)], [some [LL w [a, b, d]]]⟩) ∨ (n = 1 ∧ Γ = ⟨[some (.d (LL w [a, b, d])), some (.d (.int w)), some (.d (.fn 27)), some (.c 0)], [some [LL w [a, b, d], LL w [a * b, d]]]⟩) ∨
      (n = 0 ∧ Γ = ⟨[some (.d (LL w [a, b, d])), some (.d (.int w)), some (.d (.fn 27)), some (.c 0)], [some [LL w [a, b, d], LL w [a * b, d], LL w [a * b * d]]]⟩), ⟨2, .inl ⟨rfl, rfl⟩⟩, ?_⟩
    rintro n Γ (⟨rfl, rfl⟩ | ⟨rfl, rfl⟩ | ⟨rfl, rfl⟩)
    · unfold t_product_tree_0
      (try simp only [↓Ka, ↓Kc, ↓Kd, ↓Ki, ↓Ko, ↓Ky, ↓Yh, ↓Yi, ↓Yn, ↓Yw, ↓vA, ↓vB])
      refine wIdxL1 ?_
      (try simp only [↓Yl, ↓vE, ↓vF, ↓vI, ↓vJ, decide_eq_true_eq, LL])
      repeat ((with_reducible apply And.intro); · ((repeat' (with_reducible apply And.intro)) <;> first | decide | (unfold small; (first | lia | omega)) | (have := hw.2; (first | lia | omega)) | decide | trivial | (simp; (first | lia | omega))))
      rw [if_pos (by decide)]
      unfold b_product_tree_0
      (try simp only [↓Yd, ↓Ye, ↓Mu, ↓Ka, ↓Kd, ↓Kv, ↓Ky, ↓Mh, ↓Mi, ↓Yg, ↓Yh, ↓Yn, ↓Yq, ↓Yr, Fs.setσ, ↓vA, ↓vB, ↓vC, ↓vG, ↓vH, ↓vI, ↓vJ, ↓vR, vS, true_and])
      refine wIdxL1 ?_
      (refine use_of h9 ?_)
      refine ⟨rfl, w, hw, .inr ⟨a, b, d, ha, hb, rfl, ?_⟩⟩
      repeat ((with_reducible apply And.intro); · ((repeat' (with_reducible apply And.intro)) <;> first | decide | (unfold small; (first | lia | omega)) | (have := hw.2; (first | lia | omega)) | decide | trivial | (simp; (first | lia | omega))))
      exact ⟨1, by decide, .inr (.inl ⟨rfl, rfl⟩)⟩
    · unfold t_product_tree_0
      (try simp only [↓Ka, ↓Kc, ↓Kd, ↓Ki, ↓Ko, ↓Ky, ↓Yh, ↓Yi, ↓Yn, ↓Yw, ↓vA, ↓vB])
      refine wIdxL2 ?_
      (try simp only [↓Yl, ↓vE, ↓vF, ↓vI, ↓vJ, decide_eq_true_eq, LL])
      repeat ((with_reducible apply And.intro); · ((repeat' (with_reducible apply And.intro)) <;> first | decide | (unfold small; (first | lia | omega)) | (have := hw.2; (first | lia | omega)) | decide | trivial | (simp; (first | lia | omega))))
      rw [if_pos (by decide)]
      unfold b_product_tree_0
      (try simp only [↓Yd, ↓Ye, ↓Mu, ↓Ka, ↓Kd, ↓Kv, ↓Ky, ↓Mh, ↓Mi, ↓Yg, ↓Yh, ↓Yn, ↓Yq, ↓Yr, Fs.setσ, ↓vA, ↓vB, ↓vC, ↓vG, ↓vH, ↓vI, ↓vJ, ↓vR, vS, true_and])
      refine wIdxL2 ?_
      (refine use_of h9 ?_)
      refine ⟨rfl, w, hw, .inl ⟨a * b, d, hab, hd, rfl, ?_⟩⟩
      repeat ((with_reducible apply And.intro); · ((repeat' (with_reducible apply And.intro)) <;> first | decide | (unfold small; (first | lia | omega)) | (have := hw.2; (first | lia | omega)) | decide | trivial | (simp; (first | lia | omega))))
      exact ⟨0, by decide, .inr (.inr ⟨rfl, rfl⟩)⟩
    · unfold t_product_tree_0
      (try simp only [↓Ka, ↓Kc, ↓Kd, ↓Ki, ↓Ko, ↓Ky, ↓Yh, ↓Yi, ↓Yn, ↓Yw, ↓vA, ↓vB])
      refine wIdxL3 ?_
      (try simp only [↓Yl, ↓vE, ↓vF, ↓vI, ↓vJ, decide_eq_true_eq, LL])
      repeat ((with_reducible apply And.intro); · ((repeat' (with_reducible apply And.intro)) <;> first | decide | (unfold small; (first | lia | omega)) | (have := hw.2; (first | lia | omega)) | decide | trivial | (simp; (first | lia | omega))))
      rw [if_neg (by decide)]
      (try simp only [↓Ye, ↓Yf, ↓Mz, ↓Ka, Fs.frz, Rv.frz, bodyQ, bodyR, ↓vA, ↓vB, ↓vC, ↓vE, ↓vF, ↓vL])
      exact hp

/-- crossed, of two or three. -/
inductive spCross (ds : List D) (c : Option (List D)) (post : Option D → Option (List D) → Prop) : Prop
  | mk : (c = none) → ∀ w, (W w) → (((Ex5 (fun s t a b M => sz s) (fun s t a b M => Al7 (sz t) (sz a) (sz b) (sz (s * b)) (sz (t * a)) (ds = [LL w [s, t], .list [LL w [a, b], LL w [M]], .int w, .fn 27]) (post (some (L w (s * b + t * a))) none))) ∨ (Ex8 (fun s t u a b d e M => sz s) (fun s t u a b d e M => Al8 (sz t) (sz u) (sz a) (sz b) (sz d) (sz e) (sz (s * b)) (sz (t * a) ∧ sz (s * b + t * a) ∧ sz ((s * b + t * a) * d) ∧ sz (u * e) ∧ ds = [LL w [s, t, u], .list [LL w [a, b, d], LL w [e, d], LL w [M]], .int w, .fn 27] ∧ post (some (L w ((s * b + t * a) * d + u * e))) none))))) → spCross ds c post
theorem pickl2 (x y : D) : pick [x, y] none (some (-1)) none = [x] := by
  have e : sliceBounds none (some (-1)) none [x, y].length = (((0 : Nat) : Int), ((1 : Nat) : Int), 1) := by
    show sliceBounds none (some (-1)) none 2 = _
    decide
  unfold pick
  rw [e]
  show (sliceRange ((0 : Nat) : Int) ((1 : Nat) : Int) 1).filterMap _ = _
  rw [sliceRange_one (by decide), range_pick _ _ _ (by simp)]; rfl
theorem pickl3 (x y z : D) : pick [x, y, z] none (some (-1)) none = [x, y] := by
  have e : sliceBounds none (some (-1)) none [x, y, z].length = (((0 : Nat) : Int), ((2 : Nat) : Int), 1) := by
    show sliceBounds none (some (-1)) none 3 = _
    decide
  unfold pick
  rw [e]
  show (sliceRange ((0 : Nat) : Int) ((2 : Nat) : Int) 1).filterMap _ = _
  rw [sliceRange_one (by decide), range_pick _ _ _ (by simp)]; rfl
theorem hsp_crossed {T : Nat → Option LM.Spec} (h12 : T 12 = some spCrossA) : ∀ ds c post, spCross ds c post → ds.length + (match c with | none => 0 | some _ => 1) = a_crossed ∧ wSs T p_crossed (entryΓ v_crossed.length ds c) (bodyQ c post) (c = none ∧ ∃ c', post none c') := by
  rintro ds c post ⟨rfl, w, hw, ⟨s, t, a, b, M, hs, ht, ha, hb, hsb, hta, rfl, hp⟩ | ⟨s, t, u, a, b, d, e, M, hs, ht, hu, ha, hb, hd, he, hsb, hta, hv, hvd, hue, rfl, hp⟩⟩
  · refine ⟨rfl, ?_⟩
    show wSs T p_crossed ⟨[some (.d (LL w [s, t])), some (.d (.list [LL w [a, b], LL w [M]])), some (.d (.int w)), some (.d (.fn 27)), none], []⟩ _ _
    unfold p_crossed
    (try simp only [↓Ye, ↓My, ↓Ka, ↓Kd, ↓Kf, ↓Kz, ↓Mj, ↓Yg, ↓Yj, ↓Yo, ↓Yp, bodyQ, bodyR, ↓vA, ↓vB, ↓vC, ↓vD, ↓vI, ↓vJ, true_and, pickl2, ↓Zp, ↓Zq, ↓Zm])
    repeat ((with_reducible apply And.intro); · ((repeat' (with_reducible apply And.intro)) <;> first | decide | (unfold small; (first | lia | omega)) | (have := hw.2; (first | lia | omega)) | decide | trivial | (simp; (first | lia | omega))))
    (refine use_of h12 ?_)
    refine ⟨rfl, w, hw, .inl ⟨s, t, a, b, hs, ht, ha, hb, hsb, hta, rfl, ?_⟩⟩
    (try simp only [↓Yd, Fs.put, ↓vC])
    unfold r_crossed_0
    (try simp only [↓Ye, ↓Mz, ↓Ka, ↓Kc, ↓Ki, ↓Kn, ↓Ko, ↓Ky, ↓Mb, ↓Mh, ↓Yg, ↓Yh, ↓Yi, ↓Yl, ↓Yq, ↓Yw, bodyQ, bodyR, ↓vA, ↓vE, ↓vF, ↓vI, ↓vJ, decide_eq_true_eq, true_and, Nat.zero_le, LL])
    repeat ((with_reducible apply And.intro); · ((repeat' (with_reducible apply And.intro)) <;> first | decide | (unfold small; (first | lia | omega)) | (have := hw.2; (first | lia | omega)) | decide | trivial | (simp; (first | lia | omega))))
    rw [if_pos (by decide)]
    refine wIdx0 (by simp) ?_
    exact hp
  · refine ⟨rfl, ?_⟩
    show wSs T p_crossed ⟨[some (.d (LL w [s, t, u])), some (.d (.list [LL w [a, b, d], LL w [e, d], LL w [M]])), some (.d (.int w)), some (.d (.fn 27)), none], []⟩ _ _
    unfold p_crossed
    (try simp only [↓Ye, ↓My, ↓Ka, ↓Kd, ↓Kf, ↓Kz, ↓Mj, ↓Yg, ↓Yj, ↓Yo, ↓Yp, bodyQ, bodyR, ↓vA, ↓vB, ↓vC, ↓vD, ↓vI, ↓vJ, true_and, pickl3, ↓Zp, ↓Zq, ↓Zm])
    repeat ((with_reducible apply And.intro); · ((repeat' (with_reducible apply And.intro)) <;> first | decide | (unfold small; (first | lia | omega)) | (have := hw.2; (first | lia | omega)) | decide | trivial | (simp; (first | lia | omega))))
    (refine use_of h12 ?_)
    refine ⟨rfl, w, hw, .inr ⟨s, t, u, a, b, d, hs, ht, ha, hb, hsb, hta, rfl, ?_⟩⟩
    (refine use_of h12 ?_)
    refine ⟨rfl, w, hw, .inl ⟨s * b + t * a, u, e, d, hv, hu, he, hd, hvd, hue, rfl, ?_⟩⟩
    (try simp only [↓Yd, Fs.put, ↓vC, ↓vD])
    unfold r_crossed_0
    (try simp only [↓Ye, ↓Mz, ↓Ka, ↓Kc, ↓Ki, ↓Kn, ↓Ko, ↓Ky, ↓Mb, ↓Mh, ↓Yg, ↓Yh, ↓Yi, ↓Yl, ↓Yq, ↓Yw, bodyQ, bodyR, ↓vA, ↓vE, ↓vF, ↓vI, ↓vJ, decide_eq_true_eq, true_and, Nat.zero_le, LL])
    repeat ((with_reducible apply And.intro); · ((repeat' (with_reducible apply And.intro)) <;> first | decide | (unfold small; (first | lia | omega)) | (have := hw.2; (first | lia | omega)) | decide | trivial | (simp; (first | lia | omega))))
    rw [if_pos (by decide)]
    refine wIdx0 (by simp) ?_
    exact hp
end LM

namespace LM

theorem mapL_get {w : Nat} {l : List Nat} {i : Nat} {d : D} (h : (l.map (L w))[i]? = some d) : ∃ hi : i < l.length, d = L w l[i] := by
  have hi := (List.getElem?_eq_some_iff.mp h).1
  simp at hi
  refine ⟨hi, ?_⟩
  rw [List.getElem?_map, List.getElem?_eq_getElem hi] at h
  exact (Option.some.inj h).symm
theorem wIdx_L {w i : Nat} {l : List Nat} {k : D → Prop} (hl : l.length < 2 ^ 62) (h : i < l.length) (hk : k (L w l[i])) : wIdx (l.map (L w)) (i : Int) k := by
  refine ⟨by simpa using hl, L w l[i], ?_, hk⟩
  unfold place
  rw [if_pos (by (exact Int.natCast_nonneg _)), if_pos (by simp; omega)]
  simp only [Option.bind_some, Int.toNat_natCast, List.getElem?_map, List.getElem?_eq_getElem h, Option.map_some]

noncomputable def idx (rs ms : List Nat) (i : Nat) : Nat := if rs.length < ms.length then i / 2 else i
/-- one level of the remainder tree. -/
theorem rem_pass {T : Nat → Option LM.Spec} (h33 : T 33 = some spDiv) {w : Nat} {rs ms : List Nat} {o0 o1 : Option Rv} (hw : W w) (hms : ∀ m ∈ ms, 0 < m ∧ m < 2 ^ 900) (hrs : ∀ r ∈ rs, r < 2 ^ 900) (hl1 : rs.length ≤ 10) (hl2 : ms.length ≤ 10) (hidx : ∀ i, i < ms.length → idx rs ms i < rs.length)
    {k : Out → Fs → Prop} {X : Prop} (hk : k .next ⟨[o0, o1, some (.d (.int w)), some (.d (.fn 33)), some (.d (.list ((List.range ms.length).map fun i => L w (rs.getD (idx rs ms i) 0 % ms.getD i 1)))), some (.d (LL w ms))], []⟩) :
    wSs T b_remainder_tree_0 ⟨[o0, o1, some (.d (.int w)), some (.d (.fn 33)), some (.d (LL w rs)), some (.d (LL w ms))], []⟩ k X := by
  unfold b_remainder_tree_0
  (try simp only [↓Yd, ↓Ye, ↓Mw, ↓Ya, ↓Ka, ↓Kc, ↓Ki, ↓Ko, ↓Kt, ↓Mg, ↓Mj, ↓Yg, ↓Yi, ↓Yz, ↓Ys, ↓vA, ↓vB, LL])
  repeat ((with_reducible apply And.intro); · ((repeat' (with_reducible apply And.intro)) <;> first | (first | lia | omega) | (unfold small; (first | lia | omega)) | (have := hw.2; (first | lia | omega)) | decide | trivial | (simp; (exact Nat.le_of_lt (Nat.lt_of_le_of_lt hl2 (by decide))))))
  refine wComp_gen (fun _ => .bool false) (fun i d hd kk hkk => ?_) ?_
  · obtain ⟨hi, rfl⟩ := mapL_get hd
    obtain ⟨hm0, hm⟩ := hms _ (List.getElem_mem hi)
    have lp := (lim_len_pos (n := ms[i]) hw.pos).mpr hm0
    have ll := sm_len hw (sm_900 hm)
    have ec : ∀ Γ : Fs, compρ ["one"] [] Γ = [none] := fun _ => rfl
    rw [ec]
    (try simp only [↓Yl, ↓vA, ↓vC, vK, ↓Zm, L, nl])
    repeat ((with_reducible apply And.intro); · ((repeat' (with_reducible apply And.intro)) <;> first | (exact Nat.lt_of_le_of_lt ll (by decide)) | (unfold small; (first | lia | omega)) | (have := hw.2; (first | lia | omega)) | decide | trivial | (simp; (first | lia | omega))))
    have : decide ((((lim w ms[i]).length : Nat) : Int) = 0) = false := decide_eq_false (by (exact Int.ne_of_gt (Int.ofNat_lt.mpr lp)))
    rw [this]
    exact hkk
  refine ⟨List.replicate ms.length false, ?_, by simp; (exact Nat.le_of_lt (Nat.lt_of_le_of_lt hl2 (by decide))), ?_⟩
  · rw [List.map_replicate]
    congr 1
    apply List.ext_getElem
    · simp
    · intro i h1 h2; simp
  have ha : (List.replicate ms.length false).any id = false := by
    rw [List.any_eq_false]; intro x hx; rw [List.eq_of_mem_replicate hx]; simp
  rw [ha]
  (try simp only [↓vO])
  unfold s_remainder_tree_0
  (try simp only [↓Yd, ↓Ye, ↓Mp, ↓Ka, ↓Kc, ↓Kg, ↓Ki, ↓Kn, ↓Ko, ↓Kw, ↓Ky, ↓Mg, ↓Mh, ↓Mi, ↓Mk, ↓Yg, ↓Yh, ↓Yi, ↓Yr, ↓Zf, ↓Yv, Fs.put, ↓vA, ↓vB, ↓vC, ↓vD])
  refine ⟨by rw [enumD_length]; simp; (exact Nat.le_of_lt (Nat.lt_of_le_of_lt hl2 (by decide))), ?_⟩
  refine wComp_gen (fun i => L w (rs.getD (idx rs ms i) 0 % ms.getD i 1)) (fun i d hd kk hkk => ?_) ?_
  · obtain ⟨x, hx, rfl⟩ := enumD_get hd
    obtain ⟨hi, rfl⟩ := mapL_get hx
    rw [Nat.zero_add]
    obtain ⟨hm0, hm⟩ := hms _ (List.getElem_mem hi)
    have hix := hidx i hi
    have hr := hrs _ (List.getElem_mem hix)
    have ec : compρ ["at", "one"] [3, 2, 4, 5] ⟨[o0, o1, some (.d (.int w)), some (.d (.fn 33)), some (.d (.list (rs.map (L w)))), some (.d (.list (ms.map (L w))))], []⟩ = [none, none, some (.d (.fn 33)), some (.d (.int w)), some (.d (.list (rs.map (L w)))), some (.d (.list (ms.map (L w))))] := rfl
    rw [ec]
    (try simp only [↓Yh, ↓Yl, ↓Yq, ↓Yr, ↓vA, ↓vB, ↓vC, ↓vD, vK, decide_eq_true_eq, ↓Zn])
    repeat ((with_reducible apply And.intro); · ((repeat' (with_reducible apply And.intro)) <;> first | (first | exact Nat.lt_of_le_of_lt hl1 (by decide) | exact Nat.lt_of_le_of_lt hl2 (by decide) | lia | omega) | (unfold small; (first | lia | omega)) | (have := hw.2; (first | lia | omega)) | decide | trivial | (simp; (first | lia | omega))))
    rw [List.getD_eq_getElem?_getD, List.getElem?_eq_getElem hix, List.getD_eq_getElem?_getD, List.getElem?_eq_getElem hi] at hkk
    simp only [Option.getD_some] at hkk
    by_cases hlt : rs.length < ms.length
    · rw [if_pos (by (exact Int.ofNat_lt.mpr hlt))]
      have e2 : (((i : Nat) : Int)).fdiv 2 = ((i / 2 : Nat) : Int) := fdiv_nat i 2
      have e3 : idx rs ms i = i / 2 := if_pos hlt
      (try simp only [e2])
      repeat ((with_reducible apply And.intro); · ((repeat' (with_reducible apply And.intro)) <;> first | decide | (unfold small; (first | lia | omega)) | (have := hw.2; (first | lia | omega)) | decide | trivial | (simp; (first | lia | omega))))
      refine wIdx_L (by (exact Nat.lt_of_le_of_lt hl1 (by decide))) (by (exact Nat.lt_of_le_of_lt (Nat.le_of_eq e3.symm) hix)) ?_
      (refine use_of h33 ?_)
      refine ⟨rfl, w, rs[i / 2]'(by (exact Nat.lt_of_le_of_lt (Nat.le_of_eq e3.symm) hix)), ms[i], hw, hrs _ (List.getElem_mem _), hm0, hm, rfl, ?_⟩
      refine wIdx1 (by simp) ?_
      simpa only [e3] using hkk
    · rw [if_neg (by (exact Int.not_lt.mpr (Int.ofNat_le.mpr (Nat.le_of_not_lt hlt))))]
      have e3 : idx rs ms i = i := if_neg hlt
      repeat ((with_reducible apply And.intro); · ((repeat' (with_reducible apply And.intro)) <;> first | (first | lia | omega) | (unfold small; (first | lia | omega)) | (have := hw.2; (first | lia | omega)) | decide | trivial | (simp; (first | lia | omega))))
      refine wIdx_L (by (exact Nat.lt_of_le_of_lt hl1 (by decide))) (by (exact Nat.lt_of_lt_of_le hi (Nat.le_of_not_lt hlt))) ?_
      (refine use_of h33 ?_)
      refine ⟨rfl, w, rs[i]'(by (exact Nat.lt_of_lt_of_le hi (Nat.le_of_not_lt hlt))), ms[i], hw, hrs _ (List.getElem_mem _), hm0, hm, rfl, ?_⟩
      refine wIdx1 (by simp) ?_
      simpa only [e3] using hkk
  · skip
    have el : (enumD 0 (ms.map (L w))).length = ms.length := by rw [enumD_length]; simp
    rw [el]
    exact hk

/-- remainder_tree, of two or three. -/
inductive spRem (ds : List D) (c : Option (List D)) (post : Option D → Option (List D) → Prop) : Prop
  | mk : (c = none) → ∀ w a, (W w) → (a < 2 ^ 900) → (((Ex3 (fun m1 m2 M => (∀ m ∈ [m1, m2, M], 0 < m ∧ m < 2 ^ 900)) (fun m1 m2 M => ds = [L w a, .list [LL w [m1, m2], LL w [M]], .int w, .fn 33] ∧ post (some (LL w [a % M % m1, a % M % m2])) none)) ∨ (Ex5 (fun m1 m2 m3 e M => (∀ m ∈ [m1, m2, m3, e, M], 0 < m ∧ m < 2 ^ 900)) (fun m1 m2 m3 e M => ds = [L w a, .list [LL w [m1, m2, m3], LL w [e, m3], LL w [M]], .int w, .fn 33] ∧ post (some (LL w [a % M % e % m1, a % M % e % m2, a % M % m3 % m3])) none)))) → spRem ds c post
theorem pickr2 (x y : D) : pick [x, y] none none (some (-1)) = [y, x] := by
  have e : sliceBounds none none (some (-1)) [x, y].length = (1, -1, -1) := by
    show sliceBounds none none (some (-1)) 2 = _
    decide
  unfold pick
  rw [e]
  show (sliceRange 1 (-1) (-1)).filterMap _ = _
  have e2 : sliceRange 1 (-1) (-1) = [1, 0] := by decide
  rw [e2]; rfl
theorem pickr3 (x y z : D) : pick [x, y, z] none none (some (-1)) = [z, y, x] := by
  have e : sliceBounds none none (some (-1)) [x, y, z].length = (2, -1, -1) := by
    show sliceBounds none none (some (-1)) 3 = _
    decide
  unfold pick
  rw [e]
  show (sliceRange 2 (-1) (-1)).filterMap _ = _
  have e2 : sliceRange 2 (-1) (-1) = [2, 1, 0] := by decide
  rw [e2]; rfl
theorem lt_mod9 {a m : Nat} (h : 0 < m ∧ m < 2 ^ 900) : a % m < 2 ^ 900 := Nat.lt_trans (Nat.mod_lt _ h.1) h.2
theorem hsp_remainder_tree {T : Nat → Option LM.Spec} (h33 : T 33 = some spDiv) : ∀ ds c post, spRem ds c post → ds.length + (match c with | none => 0 | some _ => 1) = a_remainder_tree ∧ wSs T p_remainder_tree (entryΓ v_remainder_tree.length ds c) (bodyQ c post) (c = none ∧ ∃ c', post none c') := by
  rintro ds c post ⟨rfl, w, a, hw, ha, ⟨m1, m2, M, hm, rfl, hp⟩ | ⟨m1, m2, m3, e, M, hm, rfl, hp⟩⟩
  · refine ⟨rfl, ?_⟩
    have hM := hm M (by simp)
    show wSs T p_remainder_tree ⟨[some (.d (L w a)), some (.d (.list [LL w [m1, m2], LL w [M]])), some (.d (.int w)), some (.d (.fn 33)), none, none], []⟩ _ _
    unfold p_remainder_tree
    (try simp only [↓Yd, ↓Ye, ↓Mw, ↓Mz, ↓Ka, ↓Kc, ↓Ki, ↓Ko, ↓Ky, ↓Mb, ↓Mh, ↓Yg, ↓Yh, ↓Yi, ↓Yl, ↓Yq, ↓Yz, ↓Ys, bodyQ, bodyR, ↓vA, ↓vB, ↓vJ])
    refine wIdx0 (by simp) ?_
    (try simp only [↓Yl, ↓vE, ↓vF, ↓vI, ↓vJ, decide_eq_true_eq, true_and, Nat.zero_le, LL])
    repeat ((with_reducible apply And.intro); · ((repeat' (with_reducible apply And.intro)) <;> first | decide | (unfold small; (first | lia | omega)) | (have := hw.2; (first | lia | omega)) | decide | trivial | (simp; (first | lia | omega))))
    rw [if_neg (by decide)]
    unfold s_remainder_tree_1
    (try simp only [↓Ye, ↓Mp, ↓My, ↓Ka, ↓Kd, ↓Kf, ↓Kz, ↓Mb, ↓Mh, ↓Mi, ↓Mj, ↓Yg, ↓Yj, ↓Yo, ↓Yp, ↓Yq, ↓Yr, Fs.put, bodyQ, bodyR, ↓vA, ↓vB, ↓vC, ↓vD, ↓vI, ↓vJ, pickr2, ↓Zp, ↓Zq, ↓Zm])
    repeat ((with_reducible apply And.intro); · ((repeat' (with_reducible apply And.intro)) <;> first | (first | decide | exact Nat.two_pow_pos _ | lia | omega) | (unfold small; (first | lia | omega)) | (have := hw.2; (first | lia | omega)) | decide | trivial | (simp; (first | lia | omega))))
    refine rem_pass (rs := [a]) (ms := [M]) h33 hw (by simpa using hM) (by simpa using ha) (by simp) (by simp) (fun i hi => ?_) ?_
    · simp at hi; subst hi; simp [idx]
    have e1 : (D.list ((List.range [M].length).map fun i => L w ([a].getD (idx [a] [M] i) 0 % [M].getD i 1))) = LL w [a % M] := by simp [idx, LL, List.range_succ]
    rw [e1]
    refine rem_pass (rs := [a % M]) (ms := [m1, m2]) h33 hw (fun m h => hm m (by simp at h ⊢; lia)) (by simpa using lt_mod9 hM) (by simp) (by simp) (fun i hi => ?_) ?_
    · simp at hi
      have : i = 0 ∨ i = 1 := by lia
      rcases this with rfl | rfl <;> simp [idx]
    have e2 : (D.list ((List.range [m1, m2].length).map fun i => L w ([a % M].getD (idx [a % M] [m1, m2] i) 0 % [m1, m2].getD i 1))) = LL w [a % M % m1, a % M % m2] := by simp [idx, LL, List.range_succ]
    rw [e2]
    exact hp
  · refine ⟨rfl, ?_⟩
    have hM := hm M (by simp)
    have he := hm e (by simp)
    have h3 := hm m3 (by simp)
    show wSs T p_remainder_tree ⟨[some (.d (L w a)), some (.d (.list [LL w [m1, m2, m3], LL w [e, m3], LL w [M]])), some (.d (.int w)), some (.d (.fn 33)), none, none], []⟩ _ _
    unfold p_remainder_tree
    (try simp only [↓Yd, ↓Ye, ↓Mw, ↓Mz, ↓Ka, ↓Kc, ↓Ki, ↓Ko, ↓Ky, ↓Mb, ↓Mh, ↓Yg, ↓Yh, ↓Yi, ↓Yl, ↓Yq, ↓Yz, ↓Ys, bodyQ, bodyR, ↓vA, ↓vB, ↓vJ])
    refine wIdx0 (by simp) ?_
    (try simp only [↓Yl, ↓vE, ↓vF, ↓vI, ↓vJ, decide_eq_true_eq, true_and, Nat.zero_le, LL])
    repeat ((with_reducible apply And.intro); · ((repeat' (with_reducible apply And.intro)) <;> first | decide | (unfold small; (first | lia | omega)) | (have := hw.2; (first | lia | omega)) | decide | trivial | (simp; (first | lia | omega))))
    rw [if_neg (by decide)]
    unfold s_remainder_tree_1
    (try simp only [↓Ye, ↓Mp, ↓My, ↓Ka, ↓Kd, ↓Kf, ↓Kz, ↓Mb, ↓Mh, ↓Mi, ↓Mj, ↓Yg, ↓Yj, ↓Yo, ↓Yp, ↓Yq, ↓Yr, Fs.put, bodyQ, bodyR, ↓vA, ↓vB, ↓vC, ↓vD, ↓vI, ↓vJ, pickr3, ↓Zp, ↓Zq, ↓Zm])
    repeat ((with_reducible apply And.intro); · ((repeat' (with_reducible apply And.intro)) <;> first | (first | decide | exact Nat.two_pow_pos _ | lia | omega) | (unfold small; (first | lia | omega)) | (have := hw.2; (first | lia | omega)) | decide | trivial | (simp; (first | lia | omega))))
    refine rem_pass (rs := [a]) (ms := [M]) h33 hw (by simpa using hM) (by simpa using ha) (by simp) (by simp) (fun i hi => ?_) ?_
    · simp at hi; subst hi; simp [idx]
    have e1 : (D.list ((List.range [M].length).map fun i => L w ([a].getD (idx [a] [M] i) 0 % [M].getD i 1))) = LL w [a % M] := by simp [idx, LL, List.range_succ]
    rw [e1]
    refine rem_pass (rs := [a % M]) (ms := [e, m3]) h33 hw (fun m h => hm m (by simp at h ⊢; lia)) (by simpa using lt_mod9 hM) (by simp) (by simp) (fun i hi => ?_) ?_
    · simp at hi
      have : i = 0 ∨ i = 1 := by lia
      rcases this with rfl | rfl <;> simp [idx]
    have e2 : (D.list ((List.range [e, m3].length).map fun i => L w ([a % M].getD (idx [a % M] [e, m3] i) 0 % [e, m3].getD i 1))) = LL w [a % M % e, a % M % m3] := by simp [idx, LL, List.range_succ]
    rw [e2]
    refine rem_pass (rs := [a % M % e, a % M % m3]) (ms := [m1, m2, m3]) h33 hw (fun m h => hm m (by simp at h ⊢; lia)) (fun r hr => ?_) (by simp) (by simp) (fun i hi => ?_) ?_
    · simp at hr
      rcases hr with rfl | rfl
      · exact lt_mod9 he
      · exact lt_mod9 h3
    · simp at hi
      have : i = 0 ∨ i = 1 ∨ i = 2 := by lia
      rcases this with rfl | rfl | rfl <;> simp [idx]
    have e3 : (D.list ((List.range [m1, m2, m3].length).map fun i => L w ([a % M % e, a % M % m3].getD (idx [a % M % e, a % M % m3] [m1, m2, m3] i) 0 % [m1, m2, m3].getD i 1))) = LL w [a % M % e % m1, a % M % e % m2, a % M % m3 % m3] := by simp [idx, LL, List.range_succ]
    rw [e3]
    exact hp
end LM

namespace LM

theorem p60 {x : Nat} (h : x < 2 ^ 60) : x < 2 ^ 300 := Nat.lt_of_lt_of_le h (Nat.pow_le_pow_right (by decide) (by decide))
theorem p100 {x : Nat} (h : x < 2 ^ 100) : x < 2 ^ 300 := Nat.lt_of_lt_of_le h (Nat.pow_le_pow_right (by decide) (by decide))

/-- one pair of chinese. -/
theorem chin_item {T : Nat → Option LM.Spec} (h1 : T 1 = some spCompare) (h27 : T 27 = some spMul) (h33 : T 33 = some spDiv) (h38 : T 38 = some spUndone) {w r m o : Nat} {S0 : List D} {q0 q5 q6 q7 q12 : Option Rv} (hw : W w) (hr : r < 2 ^ 100) (hm0 : 0 < m) (hm : m < 2 ^ 60) (ho : o < 2 ^ 100) (hS : S0.length ≤ 10)
    {k : Out → Fs → Prop} {X : Prop} (hk : ∀ t q9 q10 q11 q12, t < m → (t * o) % m = r % m → (m ≠ 1 → Nat.gcd o m = 1) → k .next ⟨[q0, some (.d (.int w)), some (.d (.fn 27)), some (.d (.fn 33)), some (.d (.fn 38)), q5, q6, q7, some (.c 0), q9, q10, q11, q12], [some (S0 ++ [L w t])]⟩ ∧ k .cont ⟨[q0, some (.d (.int w)), some (.d (.fn 27)), some (.d (.fn 33)), some (.d (.fn 38)), q5, q6, q7, some (.c 0), q9, q10, q11, q12], [some (S0 ++ [L w t])]⟩)
    (hX : m ≠ 1 → Nat.gcd o m ≠ 1 → X) :
    wSs T b_chinese_0 ⟨[q0, some (.d (.int w)), some (.d (.fn 27)), some (.d (.fn 33)), some (.d (.fn 38)), q5, q6, q7, some (.c 0), some (.d (L w r)), some (.d (L w m)), some (.d (L w o)), q12], [some S0]⟩ k X := by
  have s1 : sm 1 := sm_900 (Nat.one_lt_two_pow (by decide))
  have l1 := L_one hw
  have l0 := L_zero w
  have sm_m : sm m := sm_60 hm
  have h39 : (2 : Nat) ^ 300 ≤ 2 ^ 900 := Nat.pow_le_pow_right (by decide) (by decide)
  have hm3 := p60 hm
  have hr3 := p100 hr
  unfold b_chinese_0
  (first | ((repeat simp only [↓Yd, ↓Ye, ↓Mu, ↓Mw, ↓Yb, ↓Ka, ↓Kc, ↓Ki, ↓Kv, ↓Mb, ↓Mh, ↓Mi, ↓Yg, ↓Yi, ↓Yq, ↓Yr, ↓Yz, Fs.setσ, ↓vA, ↓vB, ↓vC, ↓vI, ↓vJ, ↓vR])))
  repeat ((with_reducible apply And.intro); · ((repeat' (with_reducible apply And.intro)) <;> first | (exact Nat.two_pow_pos _) | (unfold small; (first | lia | omega)) | (have := hw.2; (first | lia | omega)) | decide | trivial | (simp; (first | lia | omega)))); (first | refine use_of h1 ?_ | skip)
  refine ⟨rfl, w, m, 1, hw, sm_m, s1, by rw [l1], ?_⟩
  refine vP ?_
  by_cases hm1 : m = 1
  · rw [if_pos (by rw [hm1]; decide)]
    repeat ((with_reducible apply And.intro); · ((repeat' (with_reducible apply And.intro)) <;> first | (first | exact Nat.zero_le _ | exact Nat.lt_of_le_of_lt hS (by decide) | lia | omega) | (unfold small; (first | lia | omega)) | (have := hw.2; (first | lia | omega)) | decide | trivial | (simp; (first | lia | omega))))
    have := (hk 0 (some (.d (L w r))) (some (.d (L w m))) (some (.d (L w o))) q12 hm0 (by rw [hm1]; simp [Nat.mod_one]) (fun h => (h hm1).elim)).2
    rw [l0] at this
    exact this
  · rw [if_neg (by
      have : ¬ m < 1 := by (clear hm1; refine fun h => ?_; lia)
      rw [if_neg this, if_neg hm1]; decide)]
    (refine use_of h33 ?_)
    refine ⟨rfl, w, r, m, hw, by (exact Nat.lt_of_lt_of_le hr3 h39), hm0, by (exact Nat.lt_of_lt_of_le hm3 h39), rfl, ?_⟩
    (repeat simp only [↓Ka, ↓Kc, ↓Kw, ↓Mh, ↓Mi, ↓Yh, ↓Ym, ↓Yq, ↓Yr, Fs.put, ↓vA, ↓vB, ↓vC, ↓vD])
    refine wIdx1 (by simp) ?_
    (refine use_of h38 ?_)
    refine ⟨rfl, w, o, m, hw, p100 ho, hm0, hm3, rfl, fun hg v hv hva => ?_, fun hg => ?_⟩
    · (refine use_of h27 ?_)
      have hrm := Nat.mod_lt r hm0
      refine ⟨rfl, w, r % m, v, hw, sm_le sm_m (by (exact Nat.le_of_lt hrm)), sm_le sm_m (by (exact Nat.le_of_lt hv)), rfl, ?_⟩
      (repeat (first | simp only [↓Yd, ↓Ye, ↓Mu, ↓Ka, ↓Kc, ↓Kw, ↓Ky, ↓Mh, ↓Mi, ↓Yg, ↓Yh, ↓Yq, ↓Yr, Fs.setσ, ↓vA, ↓vB, ↓vC, ↓vR, vS, true_and] | (with_reducible show wSs _ c_chinese_0 _ _ _; unfold c_chinese_0))); (first | refine use_of h33 ?_ | skip)
      have hsc : r % m * v < 2 ^ 900 := by
        have h1 : r % m * v ≤ m * m := Nat.mul_le_mul (by (exact Nat.le_of_lt hrm)) (by (exact Nat.le_of_lt hv))
        have h2 : m * m ≤ 2 ^ 60 * 2 ^ 60 := Nat.mul_le_mul (by (exact Nat.le_of_lt hm)) (by (exact Nat.le_of_lt hm))
        have h3 : (2 : Nat) ^ 60 * 2 ^ 60 < 2 ^ 900 := by rw [← Nat.pow_add]; exact Nat.pow_lt_pow_right (by decide) (by decide)
        (exact Nat.lt_of_le_of_lt (Nat.le_trans h1 h2) h3)
      refine ⟨rfl, w, r % m * v, m, hw, hsc, hm0, by (exact Nat.lt_of_lt_of_le hm3 h39), rfl, ?_⟩
      refine wIdx1 (by simp) ?_
      repeat ((with_reducible apply And.intro); · ((repeat' (with_reducible apply And.intro)) <;> first | (exact Nat.lt_of_le_of_lt hS (by decide)) | (unfold small; (first | lia | omega)) | (have := hw.2; (first | lia | omega)) | decide | trivial | (simp; (first | lia | omega))))
      refine (hk (r % m * v % m) _ _ _ _ (Nat.mod_lt _ hm0) ?_ (fun _ => hg)).1
      rw [Nat.mul_mod, Nat.mod_mod, ← Nat.mul_mod, Nat.mul_assoc, Nat.mul_mod, hva, ← Nat.mul_mod, Nat.mul_one, Nat.mod_mod]
    · skip
      exact hX hm1 hg
end LM

namespace LM

noncomputable def pr (w r m : Nat) : D := .tup [L w r, L w m]

theorem other2 {m1 m2 : Nat} : (1 * m2 + 1 * m1) % (m1 * m2) % m1 = m2 % m1 ∧ (1 * m2 + 1 * m1) % (m1 * m2) % m2 = m1 % m2 := by
  rw [Nat.mod_mul_right_mod, Nat.mod_mul_left_mod, Nat.one_mul, Nat.one_mul]
  exact ⟨Nat.add_mod_right _ _, Nat.add_mod_left _ _⟩
theorem crt2 {m1 m2 t1 t2 r1 r2 : Nat} (h1 : t1 * (m2 % m1) % m1 = r1 % m1) (h2 : t2 * (m1 % m2) % m2 = r2 % m2) :
    (t1 * m2 + t2 * m1) % (m1 * m2) % m1 = r1 % m1 ∧ (t1 * m2 + t2 * m1) % (m1 * m2) % m2 = r2 % m2 := by
  rw [Nat.mod_mul_right_mod, Nat.mod_mul_left_mod, Nat.add_mul_mod_self_right, Nat.add_comm, Nat.add_mul_mod_self_right, ← h1, ← h2]
  exact ⟨by rw [Nat.mul_mod, Nat.mul_mod t1 (m2 % m1), Nat.mod_mod], by rw [Nat.mul_mod, Nat.mul_mod t2 (m1 % m2), Nat.mod_mod]⟩

/-- chinese of two pairs. -/
noncomputable def spChin2 (w r1 m1 r2 m2 : Nat) (post : Option D → Option (List D) → Prop) : Prop :=
  W w ∧ r1 < 2 ^ 100 ∧ r2 < 2 ^ 100 ∧ 0 < m1 ∧ m1 < 2 ^ 30 ∧ 0 < m2 ∧ m2 < 2 ^ 30 ∧ (Nat.gcd m1 m2 = 1 → ∀ R, R < m1 * m2 → R % m1 = r1 % m1 → R % m2 = r2 % m2 → post (some (.tup [L w R, L w (m1 * m2)])) none) ∧ (Nat.gcd m1 m2 ≠ 1 → post none none)

theorem sz30 {m : Nat} (h : m < 2 ^ 30) : sz m := Nat.lt_of_lt_of_le h (Nat.pow_le_pow_right (by decide) (by decide))
theorem sz60 {m : Nat} (h : m < 2 ^ 60) : sz m := Nat.lt_of_lt_of_le h (Nat.pow_le_pow_right (by decide) (by decide))
theorem sz100 {m : Nat} (h : m < 2 ^ 100) : sz m := Nat.lt_of_lt_of_le h (Nat.pow_le_pow_right (by decide) (by decide))
theorem mul60 {a b : Nat} (ha : a < 2 ^ 30) (hb : b < 2 ^ 30) : a * b < 2 ^ 60 := by
  have h : a * b ≤ (2 ^ 30 - 1) * (2 ^ 30 - 1) := Nat.mul_le_mul (by lia) (by lia)
  (exact Nat.lt_of_le_of_lt h (by decide))

theorem chin2 {T : Nat → Option LM.Spec} (h1 : T 1 = some spCompare) (h10 : T 10 = some spTree) (h11 : T 11 = some spRem) (h13 : T 13 = some spCross) (h27 : T 27 = some spMul) (h33 : T 33 = some spDiv) (h38 : T 38 = some spUndone) {w r1 m1 r2 m2 : Nat} {post : Option D → Option (List D) → Prop}
    (h : spChin2 w r1 m1 r2 m2 post) : wSs T p_chinese (entryΓ v_chinese.length [.list [pr w r1 m1, pr w r2 m2], .int w, .fn 27, .fn 33, .fn 38] none) (bodyQ none post) ((none : Option (List D)) = none ∧ ∃ c', post none c') := by
  obtain ⟨hw, hr1, hr2, hm10, hm1, hm20, hm2, hp, hX⟩ := h
  have l1 := L_one hw
  have hMM := mul60 hm1 hm2
  have hM0 : 0 < m1 * m2 := Nat.mul_pos hm10 hm20
  have h69 : (2 : Nat) ^ 60 ≤ 2 ^ 900 := Nat.pow_le_pow_right (by decide) (by decide)
  have hs1 : sz 1 := sz30 (by decide)
  show wSs T p_chinese ⟨[some (.d (.list [pr w r1 m1, pr w r2 m2])), some (.d (.int w)), some (.d (.fn 27)), some (.d (.fn 33)), some (.d (.fn 38)), none, none, none, none, none, none, none, none], []⟩ _ _
  unfold p_chinese
  (repeat simp only [↓Yd, ↓Ye, ↓Mw, ↓Mz, ↓Ka, ↓Kc, ↓Ki, ↓Ko, ↓Ma, ↓Mb, ↓Mh, ↓Mi, ↓Yg, ↓Yi, ↓Yl, ↓Yq, ↓Yr, ↓Yz, ↓Ys, bodyQ, bodyR, ↓vA, ↓vI, ↓vJ, decide_eq_true_eq, true_and, Nat.zero_le])
  repeat ((with_reducible apply And.intro); · ((repeat' (with_reducible apply And.intro)) <;> first | decide | (unfold small; (first | lia | omega)) | (have := hw.2; (first | lia | omega)) | decide | trivial | (simp; (first | lia | omega))))
  rw [if_neg (by decide)]
  unfold s_chinese_1
  simp only [↓Ye, ↓Mp, ↓Kv, ↓Mi, ↓Mg, ↓Mj, ↓Ka, ↓vA, ↓vB, ↓Yg]
  (repeat simp only [↓Ye, ↓Mp, ↓Ka, ↓Kv, ↓Mg, ↓Mh, ↓Mi, ↓Mj, ↓Yg, ↓Yq, ↓Yr, Fs.put, ↓vA, ↓vB, ↓vC, ↓vD, ↓vE, ↓vF, ↓vI, ↓vJ, pr, ↓Zr, ↓Zs, ↓Zn, compρ, List.append_nil])
  repeat ((with_reducible apply And.intro); · ((repeat' (with_reducible apply And.intro)) <;> first | decide | (unfold small; (first | lia | omega)) | (have := hw.2; (first | lia | omega)) | decide | trivial | (simp; (first | lia | omega)))); (first | refine use_of h10 ?_ | skip)
  refine ⟨rfl, w, hw, .inl ⟨m1, m2, sz30 hm1, sz30 hm2, rfl, ?_⟩⟩
  (first | ((repeat (first | simp only [↓Ye, ↓Mp, ↓Ka, ↓Kc, ↓Ko, ↓Kv, ↓Mb, ↓Md, ↓Mh, ↓Mi, ↓Yg, ↓Yh, ↓Yl, ↓Yq, ↓Yr, Fs.put, ↓vA, ↓vB, ↓vC, ↓vD, ↓vI, ↓vJ] | (with_reducible show wSs _ c_chinese_2 _ _ _; unfold c_chinese_2)))))
  repeat ((with_reducible apply And.intro); · ((repeat' (with_reducible apply And.intro)) <;> first | (first | decide | exact Nat.two_pow_pos _ | exact Int.natCast_nonneg _ | lia | omega) | (unfold small; (first | lia | omega)) | (have := hw.2; (first | lia | omega)) | decide | trivial | (simp; (first | lia | omega)))); (first | refine use_of h13 ?_ | skip)
  have e11 : [D.list (List.replicate (((0 + 1 + 1 : Nat)) : Int).toNat (D.list [D.int 1])), D.list [LL w [m1, m2], LL w [m1 * m2]], D.int ((w : Nat) : Int), D.fn 27] = [LL w [1, 1], D.list [LL w [m1, m2], LL w [m1 * m2]], D.int ((w : Nat) : Int), D.fn 27] := by
    have : LL w [1, 1] = .list [.list [.int 1], .list [.int 1]] := by unfold LL; simp [l1]
    rw [this]; rfl
  refine ⟨rfl, w, hw, .inl ⟨1, 1, m1, m2, m1 * m2, hs1, hs1, sz30 hm1, sz30 hm2, by rw [Nat.one_mul]; exact sz30 hm2, by rw [Nat.one_mul]; exact sz30 hm1, e11, ?_⟩⟩
  (refine use_of h11 ?_)
  refine ⟨rfl, w, 1 * m2 + 1 * m1, hw, by (refine Nat.lt_of_not_le fun h => ?_; lia), .inl ⟨m1, m2, m1 * m2, fun m hm => by simp at hm; rcases hm with rfl | rfl | rfl <;> exact ⟨by omega, by (first | exact Nat.lt_of_lt_of_le hMM h69 | exact Nat.lt_trans hm1 (by decide) | exact Nat.lt_trans hm2 (by decide) | lia | omega)⟩, rfl, ?_⟩⟩
  rw [(other2 (m1 := m1) (m2 := m2)).1, (other2 (m1 := m1) (m2 := m2)).2]
  (repeat (first | simp only [↓Ye, ↓Mp, ↓My, ↓Ka, ↓Mc, ↓Mh, ↓Ml, ↓Yg, ↓Yq, Fs.put, Fs.own, bodyQ, bodyR, ↓vA, ↓vB, ↓vC, ↓vD, ↓vE, ↓vF, ↓vH, ↓vJ, true_and, Nat.zero_le, LL, zipD, ↓Zp, ↓Zq] | (with_reducible show wSs _ c_chinese_1 _ _ _; unfold c_chinese_1)))
  repeat ((with_reducible apply And.intro); · ((repeat' (with_reducible apply And.intro)) <;> first | (first | lia | omega) | (unfold small; (first | lia | omega)) | (have := hw.2; (first | lia | omega)) | decide | trivial | (simp; (first | lia | omega))))
  have hgc : Nat.gcd (m2 % m1) m1 = Nat.gcd m1 m2 := by rw [Nat.gcd_rec m1 m2]
  have ho1 := Nat.mod_lt m2 hm10
  have ho2 := Nat.mod_lt m1 hm20
  refine chin_item h1 h27 h33 h38 hw hr1 hm10 (by (exact Nat.lt_trans hm1 (by decide))) (by (exact Nat.lt_trans (Nat.lt_trans ho1 hm1) (by decide))) (by simp) (fun t1 q9 q10 q11 q12 ht1 hc1 hg1 => (fun g => ⟨g, g⟩) ?_) (fun _ hg => ⟨none, hX (by rw [← hgc]; exact hg)⟩)
  (repeat simp only [↓vH])
  refine chin_item h1 h27 h33 h38 hw hr2 hm20 (by (exact Nat.lt_trans hm2 (by decide))) (by (exact Nat.lt_trans (Nat.lt_trans ho2 hm2) (by decide))) (by simp) (fun t2 q9 q10 q11 q12 ht2 hc2 hg2 => (fun g => ⟨g, g⟩) ?_) (fun _ hg => ⟨none, hX (by rw [Nat.gcd_comm, Nat.gcd_rec m2 m1]; exact hg)⟩)
  have hcop : Nat.gcd m1 m2 = 1 := by
    by_cases hm : m1 = 1
    · rw [hm]; simp
    · rw [← hgc]; exact hg1 hm
  (refine use_of h13 ?_)
  have b1 : t1 * m2 < 2 ^ 60 := mul60 (by (exact Nat.lt_trans ht1 hm1)) hm2
  have b2 : t2 * m1 < 2 ^ 60 := mul60 (by (exact Nat.lt_trans ht2 hm2)) hm1
  refine ⟨rfl, w, hw, .inl ⟨t1, t2, m1, m2, m1 * m2, sz30 (by (exact Nat.lt_trans ht1 hm1)), sz30 (by (exact Nat.lt_trans ht2 hm2)), sz30 hm1, sz30 hm2, sz60 b1, sz60 b2, rfl, ?_⟩⟩
  (repeat simp only [↓Ka, ↓Kc, ↓Kd, ↓Ky, ↓Mh, ↓Mi, ↓Yg, ↓Yh, ↓Yl, ↓Yq, ↓Yr, Fs.frz, Rv.frz, bodyQ, bodyR, ↓vA, ↓vB, ↓vC, ↓vE, ↓vF, ↓vG, ↓vH, ↓vI, ↓vJ, ↓vL])
  refine wIdxL2 ?_
  refine wIdx0 (by simp) ?_
  (refine use_of h33 ?_)
  refine ⟨rfl, w, t1 * m2 + t2 * m1, m1 * m2, hw, by (clear e11 hM0 hMM; refine Nat.lt_of_not_le fun h => ?_; lia), hM0, by (exact Nat.lt_of_lt_of_le hMM h69), rfl, ?_⟩
  refine wIdx1 (by simp) ?_
  refine wIdxL2 ?_
  refine wIdx0 (by simp) ?_
  repeat ((with_reducible apply And.intro); · ((repeat' (with_reducible apply And.intro)) <;> first | decide | (unfold small; (first | lia | omega)) | (have := hw.2; (first | lia | omega)) | decide | trivial | (simp; (first | lia | omega))))
  obtain ⟨c1, c2⟩ := crt2 hc1 hc2
  exact hp hcop _ (Nat.mod_lt _ hM0) c1 c2
end LM

namespace LM

noncomputable def ot3 (m1 m2 m3 : Nat) : Nat := (1 * m2 + 1 * m1) * m3 + 1 * (m1 * m2)
theorem other3 {m1 m2 m3 : Nat} : ot3 m1 m2 m3 % (m1 * m2 * m3) % (m1 * m2) % m1 = m2 * m3 % m1 ∧ ot3 m1 m2 m3 % (m1 * m2 * m3) % (m1 * m2) % m2 = m1 * m3 % m2 ∧ ot3 m1 m2 m3 % (m1 * m2 * m3) % m3 % m3 = m1 * m2 % m3 := by
  have e : ot3 m1 m2 m3 = m2 * m3 + m1 * m3 + m1 * m2 := by unfold ot3; rw [Nat.one_mul, Nat.one_mul, Nat.one_mul, Nat.add_mul]
  have f1 : ∀ a, a % (m1 * m2 * m3) % (m1 * m2) % m1 = a % m1 := fun a => by rw [Nat.mod_mul_right_mod, Nat.mul_assoc, Nat.mod_mul_right_mod]
  have f2 : ∀ a, a % (m1 * m2 * m3) % (m1 * m2) % m2 = a % m2 := fun a => by rw [Nat.mod_mul_left_mod, Nat.mul_comm m1 m2, Nat.mul_assoc, Nat.mod_mul_right_mod]
  have f3 : ∀ a, a % (m1 * m2 * m3) % m3 % m3 = a % m3 := fun a => by rw [Nat.mod_mul_left_mod, Nat.mod_mod]
  rw [e, f1, f2, f3]
  refine ⟨?_, ?_, ?_⟩
  · rw [Nat.add_assoc, ← Nat.mul_add, Nat.add_mul_mod_self_left]
  · rw [Nat.add_comm (m2 * m3), Nat.add_assoc, Nat.mul_comm m1 m2, ← Nat.mul_add, Nat.add_mul_mod_self_left]
  · rw [← Nat.add_mul, Nat.add_comm, Nat.add_mul_mod_self_right]
theorem crt3 {m1 m2 m3 t1 t2 t3 r1 r2 r3 : Nat} (h1 : t1 * (m2 * m3 % m1) % m1 = r1 % m1) (h2 : t2 * (m1 * m3 % m2) % m2 = r2 % m2) (h3 : t3 * (m1 * m2 % m3) % m3 = r3 % m3) :
    ((t1 * m2 + t2 * m1) * m3 + t3 * (m1 * m2)) % (m1 * m2 * m3) % m1 = r1 % m1 ∧ ((t1 * m2 + t2 * m1) * m3 + t3 * (m1 * m2)) % (m1 * m2 * m3) % m2 = r2 % m2 ∧ ((t1 * m2 + t2 * m1) * m3 + t3 * (m1 * m2)) % (m1 * m2 * m3) % m3 = r3 % m3 := by
  have e : (t1 * m2 + t2 * m1) * m3 + t3 * (m1 * m2) = t1 * (m2 * m3) + t2 * (m1 * m3) + t3 * (m1 * m2) := by rw [Nat.add_mul, Nat.mul_assoc, Nat.mul_assoc]
  have em : ∀ a, a % (m1 * m2 * m3) % m1 = a % m1 := fun a => by rw [Nat.mul_assoc, Nat.mod_mul_right_mod]
  have em2 : ∀ a, a % (m1 * m2 * m3) % m2 = a % m2 := fun a => by rw [Nat.mul_comm m1 m2, Nat.mul_assoc, Nat.mod_mul_right_mod]
  rw [e, em, em2, Nat.mod_mul_left_mod, ← h1, ← h2, ← h3]
  refine ⟨?_, ?_, ?_⟩
  · have : t1 * (m2 * m3) + t2 * (m1 * m3) + t3 * (m1 * m2) = t1 * (m2 * m3) + m1 * (t2 * m3 + t3 * m2) := by
      rw [Nat.mul_add, Nat.add_assoc, Nat.mul_left_comm t2, Nat.mul_left_comm t3]
    rw [this, Nat.add_mul_mod_self_left, Nat.mul_mod, Nat.mul_mod t1 (m2 * m3 % m1), Nat.mod_mod]
  · have : t1 * (m2 * m3) + t2 * (m1 * m3) + t3 * (m1 * m2) = t2 * (m1 * m3) + m2 * (t1 * m3 + t3 * m1) := by
      rw [Nat.mul_add, Nat.add_comm (t1 * (m2 * m3)), Nat.add_assoc, Nat.mul_left_comm t1, Nat.mul_comm m1 m2, Nat.mul_left_comm t3]
    rw [this, Nat.add_mul_mod_self_left, Nat.mul_mod, Nat.mul_mod t2 (m1 * m3 % m2), Nat.mod_mod]
  · have : t1 * (m2 * m3) + t2 * (m1 * m3) + t3 * (m1 * m2) = t3 * (m1 * m2) + m3 * (t1 * m2 + t2 * m1) := by
      rw [Nat.mul_add, Nat.add_comm, ← Nat.mul_assoc t1, ← Nat.mul_assoc t2, Nat.mul_comm m3, Nat.mul_comm m3]
    rw [this, Nat.add_mul_mod_self_left, Nat.mul_mod, Nat.mul_mod t3 (m1 * m2 % m3), Nat.mod_mod]

theorem cop_mul {a b m : Nat} (ha : Nat.gcd a m = 1) (hb : Nat.gcd b m = 1) : Nat.gcd (a * b % m) m = 1 := by
  rw [← Nat.gcd_rec m (a * b), Nat.gcd_comm]
  exact Nat.Coprime.mul_left ha hb

/-- chinese of three pairs, pairwise coprime. -/
noncomputable def spChin3 (w r1 m1 r2 m2 r3 m3 : Nat) (post : Option D → Option (List D) → Prop) : Prop :=
  W w ∧ r1 < 2 ^ 100 ∧ r2 < 2 ^ 100 ∧ r3 < 2 ^ 100 ∧ 0 < m1 ∧ m1 < 2 ^ 10 ∧ 0 < m2 ∧ m2 < 2 ^ 10 ∧ 0 < m3 ∧ m3 < 2 ^ 10 ∧ Nat.gcd m1 m2 = 1 ∧ Nat.gcd m1 m3 = 1 ∧ Nat.gcd m2 m3 = 1 ∧
  ∀ R, R < m1 * m2 * m3 → R % m1 = r1 % m1 → R % m2 = r2 % m2 → R % m3 = r3 % m3 → post (some (.tup [L w R, L w (m1 * m2 * m3)])) none

theorem mulb {a b p q : Nat} (ha : a < 2 ^ p) (hb : b < 2 ^ q) : a * b < 2 ^ (p + q) := by
  rw [Nat.pow_add]
  rcases Nat.eq_zero_or_pos b with h | h
  · subst h; exact Nat.mul_pos (Nat.two_pow_pos _) (Nat.two_pow_pos _)
  · exact Nat.mul_lt_mul_of_lt_of_le ha (Nat.le_of_lt hb) (Nat.two_pow_pos _)
theorem chin3 {T : Nat → Option LM.Spec} (h1 : T 1 = some spCompare) (h10 : T 10 = some spTree) (h11 : T 11 = some spRem) (h13 : T 13 = some spCross) (h27 : T 27 = some spMul) (h33 : T 33 = some spDiv) (h38 : T 38 = some spUndone) {w r1 m1 r2 m2 r3 m3 : Nat} {post : Option D → Option (List D) → Prop}
    (h : spChin3 w r1 m1 r2 m2 r3 m3 post) : wSs T p_chinese (entryΓ v_chinese.length [.list [pr w r1 m1, pr w r2 m2, pr w r3 m3], .int w, .fn 27, .fn 33, .fn 38] none) (bodyQ none post) ((none : Option (List D)) = none ∧ ∃ c', post none c') := by
  obtain ⟨hw, hr1, hr2, hr3, hm10, hm1, hm20, hm2, hm30, hm3, g12, g13, g23, hp⟩ := h
  have l1 := L_one hw
  have b12 : m1 * m2 < 2 ^ 20 := mulb hm1 hm2
  have b123 : m1 * m2 * m3 < 2 ^ 30 := mulb b12 hm3
  have p12 : 0 < m1 * m2 := Nat.mul_pos hm10 hm20
  have p123 : 0 < m1 * m2 * m3 := Nat.mul_pos p12 hm30
  have h69 : (2 : Nat) ^ 60 ≤ 2 ^ 900 := Nat.pow_le_pow_right (by decide) (by decide)
  have hs1 : sz 1 := sz30 (by decide)
  have bs : (1 * m2 + 1 * m1) * m3 < 2 ^ 30 := by
    have h : 1 * m2 + 1 * m1 < 2 ^ 11 := by (refine Nat.lt_of_not_le fun h => ?_; lia)
    have := mulb h hm3
    (exact Nat.lt_trans this (by decide))
  show wSs T p_chinese ⟨[some (.d (.list [pr w r1 m1, pr w r2 m2, pr w r3 m3])), some (.d (.int w)), some (.d (.fn 27)), some (.d (.fn 33)), some (.d (.fn 38)), none, none, none, none, none, none, none, none], []⟩ _ _
  unfold p_chinese
  (repeat simp only [↓Yd, ↓Ye, ↓Mw, ↓Mz, ↓Ka, ↓Kc, ↓Ki, ↓Ko, ↓Ma, ↓Mb, ↓Mh, ↓Mi, ↓Yg, ↓Yi, ↓Yl, ↓Yq, ↓Yr, ↓Yz, ↓Ys, bodyQ, bodyR, ↓vA, ↓vI, ↓vJ, decide_eq_true_eq, true_and, Nat.zero_le])
  repeat ((with_reducible apply And.intro); · ((repeat' (with_reducible apply And.intro)) <;> first | decide | (unfold small; (first | lia | omega)) | (have := hw.2; (first | lia | omega)) | decide | trivial | (simp; (first | lia | omega))))
  rw [if_neg (by decide)]
  unfold s_chinese_1
  simp only [↓Ye, ↓Mp, ↓Kv, ↓Mi, ↓Mg, ↓Mj, ↓Ka, ↓vA, ↓vB, ↓Yg]
  (repeat simp only [↓Ye, ↓Mp, ↓Ka, ↓Kv, ↓Mg, ↓Mh, ↓Mi, ↓Mj, ↓Yg, ↓Yq, ↓Yr, Fs.put, ↓vA, ↓vB, ↓vC, ↓vD, ↓vE, ↓vF, ↓vI, ↓vJ, pr, ↓Zr, ↓Zs, ↓Zn, compρ, List.append_nil])
  repeat ((with_reducible apply And.intro); · ((repeat' (with_reducible apply And.intro)) <;> first | decide | (unfold small; (first | lia | omega)) | (have := hw.2; (first | lia | omega)) | decide | trivial | (simp; (first | lia | omega)))); (first | refine use_of h10 ?_ | skip)
  refine ⟨rfl, w, hw, .inr ⟨m1, m2, m3, sz30 (by (exact Nat.lt_trans hm1 (by decide))), sz30 (by (exact Nat.lt_trans hm2 (by decide))), sz30 (by (exact Nat.lt_trans hm3 (by decide))), sz60 (by (exact Nat.lt_trans b12 (by decide))), rfl, ?_⟩⟩
  (first | ((repeat (first | simp only [↓Ye, ↓Mp, ↓Ka, ↓Kc, ↓Ko, ↓Kv, ↓Mb, ↓Md, ↓Mh, ↓Mi, ↓Yg, ↓Yh, ↓Yl, ↓Yq, ↓Yr, Fs.put, ↓vA, ↓vB, ↓vC, ↓vD, ↓vI, ↓vJ] | (with_reducible show wSs _ c_chinese_2 _ _ _; unfold c_chinese_2)))))
  repeat ((with_reducible apply And.intro); · ((repeat' (with_reducible apply And.intro)) <;> first | (first | decide | exact Nat.two_pow_pos _ | exact Int.natCast_nonneg _ | lia | omega) | (unfold small; (first | lia | omega)) | (have := hw.2; (first | lia | omega)) | decide | trivial | (simp; (first | lia | omega)))); (first | refine use_of h13 ?_ | skip)
  have e11 : [D.list (List.replicate (((0 + 1 + 1 + 1 : Nat)) : Int).toNat (D.list [D.int 1])), D.list [LL w [m1, m2, m3], LL w [m1 * m2, m3], LL w [m1 * m2 * m3]], D.int ((w : Nat) : Int), D.fn 27] = [LL w [1, 1, 1], D.list [LL w [m1, m2, m3], LL w [m1 * m2, m3], LL w [m1 * m2 * m3]], D.int ((w : Nat) : Int), D.fn 27] := by
    have : LL w [1, 1, 1] = .list [.list [.int 1], .list [.int 1], .list [.int 1]] := by unfold LL; simp [l1]
    rw [this]; rfl
  refine ⟨rfl, w, hw, .inr ⟨1, 1, 1, m1, m2, m3, m1 * m2, m1 * m2 * m3, hs1, hs1, hs1, sz30 (by (exact Nat.lt_trans hm1 (by decide))), sz30 (by (exact Nat.lt_trans hm2 (by decide))), sz30 (by (exact Nat.lt_trans hm3 (by decide))), sz30 (by (exact Nat.lt_trans b12 (by decide))), sz30 (by (refine Nat.lt_of_not_le fun h => ?_; lia)), sz30 (by (refine Nat.lt_of_not_le fun h => ?_; lia)), sz30 (by (refine Nat.lt_of_not_le fun h => ?_; lia)), sz30 (by omega), sz30 (by (refine Nat.lt_of_not_le fun h => ?_; lia)), e11, ?_⟩⟩
  (refine use_of h11 ?_)
  refine ⟨rfl, w, ot3 m1 m2 m3, hw, by unfold ot3; (refine Nat.lt_of_not_le fun h => ?_; lia), .inr ⟨m1, m2, m3, m1 * m2, m1 * m2 * m3, fun m hm => by simp at hm; rcases hm with rfl | rfl | rfl | rfl | rfl <;> exact ⟨by omega, by (first | exact Nat.lt_trans hm1 (by decide) | exact Nat.lt_trans hm2 (by decide) | exact Nat.lt_trans hm3 (by decide) | exact Nat.lt_trans b12 (by decide) | exact Nat.lt_trans b123 (by decide) | lia | omega)⟩, rfl, ?_⟩⟩
  obtain ⟨o1, o2, o3⟩ := other3 (m1 := m1) (m2 := m2) (m3 := m3)
  rw [o1, o2, o3]
  (repeat (first | simp only [↓Ye, ↓Mp, ↓My, ↓Ka, ↓Mc, ↓Mh, ↓Ml, ↓Yg, ↓Yq, Fs.put, Fs.own, bodyQ, bodyR, ↓vA, ↓vB, ↓vC, ↓vD, ↓vE, ↓vF, ↓vH, ↓vJ, true_and, Nat.zero_le, LL, zipD, ↓Zp, ↓Zq] | (with_reducible show wSs _ c_chinese_1 _ _ _; unfold c_chinese_1)))
  repeat ((with_reducible apply And.intro); · ((repeat' (with_reducible apply And.intro)) <;> first | (first | lia | omega) | (unfold small; (first | lia | omega)) | (have := hw.2; (first | lia | omega)) | decide | trivial | (simp; (first | lia | omega))))
  have ho1 := Nat.mod_lt (m2 * m3) hm10
  have ho2 := Nat.mod_lt (m1 * m3) hm20
  have ho3 := Nat.mod_lt (m1 * m2) hm30
  refine chin_item h1 h27 h33 h38 hw hr1 hm10 (by (exact Nat.lt_trans hm1 (by decide))) (by (exact Nat.lt_trans (Nat.lt_trans ho1 hm1) (by decide))) (by simp) (fun t1 q9 q10 q11 q12 ht1 hc1 _ => (fun g => ⟨g, g⟩) ?_) (fun _ hg => (hg (cop_mul (by rw [Nat.gcd_comm]; exact g12) (by rw [Nat.gcd_comm]; exact g13))).elim)
  (repeat simp only [↓vH])
  refine chin_item h1 h27 h33 h38 hw hr2 hm20 (by (exact Nat.lt_trans hm2 (by decide))) (by (exact Nat.lt_trans (Nat.lt_trans ho2 hm2) (by decide))) (by simp) (fun t2 q9 q10 q11 q12 ht2 hc2 _ => (fun g => ⟨g, g⟩) ?_) (fun _ hg => (hg (cop_mul g12 (by rw [Nat.gcd_comm]; exact g23))).elim)
  (repeat simp only [↓vG, ↓vH])
  refine chin_item h1 h27 h33 h38 hw hr3 hm30 (by (exact Nat.lt_trans hm3 (by decide))) (by (exact Nat.lt_trans (Nat.lt_trans ho3 hm3) (by decide))) (by simp) (fun t3 q9 q10 q11 q12 ht3 hc3 _ => (fun g => ⟨g, g⟩) ?_) (fun _ hg => (hg (cop_mul g13 g23)).elim)
  (refine use_of h13 ?_)
  have b1 : t1 * m2 < 2 ^ 20 := mulb (p := 10) (q := 10) (by (exact Nat.lt_trans ht1 hm1)) hm2
  have b2 : t2 * m1 < 2 ^ 20 := mulb (p := 10) (q := 10) (by (exact Nat.lt_trans ht2 hm2)) hm1
  have b3 : (t1 * m2 + t2 * m1) * m3 < 2 ^ 31 := mulb (p := 21) (q := 10) (by (refine Nat.lt_of_not_le fun h => ?_; lia)) hm3
  have b4 : t3 * (m1 * m2) < 2 ^ 30 := mulb (p := 10) (q := 20) (by (exact Nat.lt_trans ht3 hm3)) b12
  refine ⟨rfl, w, hw, .inr ⟨t1, t2, t3, m1, m2, m3, m1 * m2, m1 * m2 * m3, sz30 (by (exact Nat.lt_trans (Nat.lt_trans ht1 hm1) (by decide))), sz30 (by (exact Nat.lt_trans (Nat.lt_trans ht2 hm2) (by decide))), sz30 (by (exact Nat.lt_trans (Nat.lt_trans ht3 hm3) (by decide))), sz30 (by (exact Nat.lt_trans hm1 (by decide))), sz30 (by (exact Nat.lt_trans hm2 (by decide))), sz30 (by (exact Nat.lt_trans hm3 (by decide))), sz30 (by (exact Nat.lt_trans b12 (by decide))), sz60 (by (exact Nat.lt_trans b1 (by decide))), sz60 (by (exact Nat.lt_trans b2 (by decide))), sz60 (by (refine Nat.lt_of_not_le fun h => ?_; lia)), sz60 (by (exact Nat.lt_trans b3 (by decide))), sz60 (by (exact Nat.lt_trans b4 (by decide))), rfl, ?_⟩⟩
  (repeat simp only [↓Ka, ↓Kc, ↓Kd, ↓Ky, ↓Mh, ↓Mi, ↓Yg, ↓Yh, ↓Yl, ↓Yq, ↓Yr, Fs.frz, Rv.frz, bodyQ, bodyR, ↓vA, ↓vB, ↓vC, ↓vE, ↓vF, ↓vG, ↓vH, ↓vI, ↓vJ, ↓vL])
  refine wIdxL3 ?_
  refine wIdx0 (by simp) ?_
  (refine use_of h33 ?_)
  refine ⟨rfl, w, (t1 * m2 + t2 * m1) * m3 + t3 * (m1 * m2), m1 * m2 * m3, hw, by (refine Nat.lt_of_not_le fun h => ?_; lia), p123, by (exact Nat.lt_trans b123 (by decide)), rfl, ?_⟩
  refine wIdx1 (by simp) ?_
  refine wIdxL3 ?_
  refine wIdx0 (by simp) ?_
  repeat ((with_reducible apply And.intro); · ((repeat' (with_reducible apply And.intro)) <;> first | decide | (unfold small; (first | lia | omega)) | (have := hw.2; (first | lia | omega)) | decide | trivial | (simp; (first | lia | omega))))
  obtain ⟨c1, c2, c3⟩ := crt3 hc1 hc2 hc3
  exact hp _ (Nat.mod_lt _ p123) c1 c2 c3
end LM

namespace LM

inductive spChinese (ds : List D) (c : Option (List D)) (post : Option D → Option (List D) → Prop) : Prop
  | mk : (c = none) → (((Ex5 (fun w r1 m1 r2 m2 => ds = [.list [pr w r1 m1, pr w r2 m2], .int ((w : Nat) : Int), .fn 27, .fn 33, .fn 38]) (fun w r1 m1 r2 m2 => spChin2 w r1 m1 r2 m2 post)) ∨ (Ex7 (fun w r1 m1 r2 m2 r3 m3 => ds = [.list [pr w r1 m1, pr w r2 m2, pr w r3 m3], .int ((w : Nat) : Int), .fn 27, .fn 33, .fn 38]) (fun w r1 m1 r2 m2 r3 m3 => spChin3 w r1 m1 r2 m2 r3 m3 post)))) → spChinese ds c post
theorem hsp_chinese {T : Nat → Option LM.Spec} (h1 : T 1 = some spCompare) (h10 : T 10 = some spTree) (h11 : T 11 = some spRem) (h13 : T 13 = some spCross) (h27 : T 27 = some spMul) (h33 : T 33 = some spDiv) (h38 : T 38 = some spUndone) :
    ∀ ds c post, spChinese ds c post → ds.length + (match c with | none => 0 | some _ => 1) = a_chinese ∧ wSs T p_chinese (entryΓ v_chinese.length ds c) (bodyQ c post) (c = none ∧ ∃ c', post none c') := by
  rintro ds c post ⟨rfl, ⟨w, r1, m1, r2, m2, rfl, h⟩ | ⟨w, r1, m1, r2, m2, r3, m3, rfl, h⟩⟩
  · exact ⟨rfl, chin2 h1 h10 h11 h13 h27 h33 h38 h⟩
  · exact ⟨rfl, chin3 h1 h10 h11 h13 h27 h33 h38 h⟩

inductive spTwo (ds : List D) (c : Option (List D)) (post : Option D → Option (List D) → Prop) : Prop
  | mk : (c = none) → ∀ w r1 m1 r2 m2, (ds = [pr w r1 m1, pr w r2 m2, .int ((w : Nat) : Int), .fn 27, .fn 33, .fn 38]) → (spChin2 w r1 m1 r2 m2 post) → spTwo ds c post
theorem hsp_chinese_two {T : Nat → Option LM.Spec} (h14 : T 14 = some spChinese) : ∀ ds c post, spTwo ds c post → ds.length + (match c with | none => 0 | some _ => 1) = a_chinese_two ∧ wSs T p_chinese_two (entryΓ v_chinese_two.length ds c) (bodyQ c post) (c = none ∧ ∃ c', post none c') := by
  rintro ds c post ⟨rfl, w, r1, m1, r2, m2, rfl, hw, hr1, hr2, hm10, hm1, hm20, hm2, hp, hX⟩
  refine ⟨rfl, ?_⟩
  show wSs T p_chinese_two ⟨[some (.d (pr w r1 m1)), some (.d (pr w r2 m2)), some (.d (.int ((w : Nat) : Int))), some (.d (.fn 27)), some (.d (.fn 33)), some (.d (.fn 38))], []⟩ _ _
  unfold p_chinese_two
  (first | ((try simp only [↓Ye, ↓Mz, ↓Ka, ↓Kv, ↓Mb, ↓Mh, ↓Mi, ↓Yg, ↓Yq, ↓Yr, bodyQ, bodyR, ↓vA, ↓vB, ↓vI, ↓vJ])))
  repeat ((with_reducible apply And.intro); · ((repeat' (with_reducible apply And.intro)) <;> first | decide | (unfold small; (first | lia | omega)) | (have := hw.2; (first | lia | omega)) | decide | trivial | (simp; (first | lia | omega)))); (first | refine use_of h14 ?_ | skip)
  refine ⟨rfl, .inl ⟨w, r1, m1, r2, m2, rfl, hw, hr1, hr2, hm10, hm1, hm20, hm2, fun hg R h1 h2 h3 => ?_, fun hg => ?_⟩⟩
  · skip
    exact hp hg R h1 h2 h3
  · (try simp only [true_and])
    exact ⟨none, hX hg⟩

inductive spLawTwo (ds : List D) (c : Option (List D)) (post : Option D → Option (List D) → Prop) : Prop
  | mk : (c = none) → ∀ w r1 m1 r2 m2, (ds = [pr w r1 m1, pr w r2 m2, .int ((w : Nat) : Int)]) → (W w) → (r1 < 2 ^ 100) → (r2 < 2 ^ 100) → (0 < m1) → (m1 < 2 ^ 30) → (0 < m2) → (m2 < 2 ^ 30) → ((Nat.gcd m1 m2 = 1 → ∀ R, R < m1 * m2 → R % m1 = r1 % m1 → R % m2 = r2 % m2 → post (some (.tup [L w R, L w (m1 * m2)])) none)) → ((Nat.gcd m1 m2 ≠ 1 → post (some .none) none)) → spLawTwo ds c post
theorem hsp_law_two {T : Nat → Option LM.Spec} (h15 : T 15 = some spTwo) : ∀ ds c post, spLawTwo ds c post → ds.length + (match c with | none => 0 | some _ => 1) = a_law_two ∧ wSs T p_law_two (entryΓ v_law_two.length ds c) (bodyQ c post) (c = none ∧ ∃ c', post none c') := by
  rintro ds c post ⟨rfl, w, r1, m1, r2, m2, rfl, hw, hr1, hr2, hm10, hm1, hm20, hm2, hp, hX⟩
  refine ⟨rfl, ?_⟩
  show wSs T p_law_two ⟨[some (.d (pr w r1 m1)), some (.d (pr w r2 m2)), some (.d (.int ((w : Nat) : Int)))], []⟩ _ _
  unfold p_law_two
  (try simp only [↓Ye, ↓Yc, ↓Ka, ↓Kb, ↓Kv, ↓Mh, ↓Mi, ↓Yg, ↓Yq, ↓Yr, bodyQ, bodyR, ↓vA, ↓vB, true_and]); (first | refine use_of h15 ?_ | skip)
  refine ⟨rfl, w, r1, m1, r2, m2, rfl, hw, hr1, hr2, hm10, hm1, hm20, hm2, fun hg R h1 h2 h3 => ?_, fun hg => ?_⟩
  · skip
    exact hp hg R h1 h2 h3
  · skip
    intro _
    exact hX hg
end LM

namespace LM

theorem same_self (d : D) : D.same d d = true := by unfold D.same; simp
theorem plains_L : ∀ (n : Nat) (l : List Nat), D.plains (n + 1) (l.map fun n : Nat => D.int n) = true
  | _, [] => rfl
  | n, d :: l => by
    show (D.plain (n + 1) (.int (d : Nat)) && D.plains (n + 1) (l.map _)) = true
    rw [plains_L n l]; rfl
theorem plain_PR (w x m : Nat) : D.plain 5 (PR w x m) = true := by
  show (D.plains 3 ((lim w (x % m)).map fun n : Nat => D.int n) && (D.plains 3 ((lim w m).map fun n : Nat => D.int n) && true)) = true
  rw [plains_L, plains_L]; rfl
theorem wEq_PR {w x m : Nat} {k : Bool → Prop} (hk : k true) : wEq (.d (PR w x m)) (.d (PR w x m)) k := by
  show (D.plain 5 (PR w x m) = true ∧ D.plain 5 (PR w x m) = true) ∧ k (D.same (PR w x m) (PR w x m))
  rw [same_self]
  exact ⟨⟨plain_PR _ _ _, plain_PR _ _ _⟩, hk⟩
theorem natmul (a b : Nat) : ((a : Int)) * ((b : Nat) : Int) = ((a * b : Nat) : Int) := (Int.natCast_mul a b).symm
theorem natadd (a b : Nat) : ((a : Int)) + ((b : Nat) : Int) = ((a + b : Nat) : Int) := (Int.natCast_add a b).symm

theorem crt_uniq {a b x y : Nat} (hg : Nat.gcd a b = 1) (hx : x < a * b) (hy : y < a * b) (h1 : x % a = y % a) (h2 : x % b = y % b) : x = y := by
  have key : ∀ x y : Nat, x < a * b → x % a = y % a → x % b = y % b → x - y = 0 := fun x y hx h1 h2 => by
    have d1 := Nat.dvd_of_mod_eq_zero (Nat.sub_mod_eq_zero_of_mod_eq h1)
    have d2 := Nat.dvd_of_mod_eq_zero (Nat.sub_mod_eq_zero_of_mod_eq h2)
    have d3 := Nat.Coprime.mul_dvd_of_dvd_of_dvd hg d1 d2
    exact Nat.eq_zero_of_dvd_of_lt d3 (by (exact Nat.lt_of_le_of_lt (Nat.sub_le _ _) hx))
  have := key x y hx h1 h2
  have := key y x hy h1.symm h2.symm
  (clear hx; lia)

/-- one turn of law's loop over the moduli. -/
theorem law_turn {T : Nat → Option LM.Spec} (h36 : T 36 = some spNumber) (h39 : T 39 = some spLawTwo) (h40 : T 40 = some spPair) {w x last s m : Nat} (hw : W w) (hx : x < 2 ^ 20) (hl : last < 2 ^ 10) (hs0 : 0 < s) (hs : s < 2 ^ 12) (hm0 : 0 < m) (hm : m < 2 ^ 6) (hg : Nat.gcd s m = 1)
    {q0 q3 q4 q5 q9 q10 q13 q14 q15 q16 : Option Rv} {σ : List (Option (List D))} {k : Out → Fs → Prop} {X : Prop}
    (hk : ∀ q6 q13 q14, k .next ⟨[q0, some (.c 0), some (.d (.int ((w : Nat) : Int))), q3, q4, q5, q6, some (.d (.int ((x : Nat) : Int))), some (.d (.int ((last : Nat) : Int))), q9, q10, some (.d (.int ((s * m : Nat) : Int))), some (.d (PR w x (s * m))), q13, q14, q15, q16], σ⟩) :
    wSs T b_law_2 ⟨[q0, some (.c 0), some (.d (.int ((w : Nat) : Int))), q3, q4, q5, some (.d (.int ((m : Nat) : Int))), some (.d (.int ((x : Nat) : Int))), some (.d (.int ((last : Nat) : Int))), q9, q10, some (.d (.int ((s : Nat) : Int))), some (.d (PR w x s)), q13, q14, q15, q16], σ⟩ k X := by
  have hsm : s * m < 2 ^ 18 := mulb (p := 12) (q := 6) hs hm
  have hsm0 : 0 < s * m := Nat.mul_pos hs0 hm0
  have em := Nat.mod_lt x hm0
  have es := Nat.mod_lt x hs0
  have esm := Nat.mod_lt x hsm0
  (refine use_of h40 ?_)
  refine ⟨rfl, w, x, m, hw, by (exact Nat.lt_trans hx (by decide)), hm0, by (exact Nat.lt_trans hm (by decide)), rfl, ?_⟩
  (first | ((repeat (first | simp only [↓Ye, ↓Mq, ↓Ka, ↓Kg, ↓Kv, ↓Mh, ↓Mi, ↓Yh, ↓Yq, ↓Yr, ↓Ze, Fs.put, Fs.puts, ↓vA, ↓vB, ↓vC, ↓vD, ↓vI, ↓vJ] | (with_reducible refine And.intro True.intro ?_) | (with_reducible show wSs _ c_law_2 _ _ _; unfold c_law_2))); (first | refine use_of h39 ?_ | skip)))
  refine ⟨rfl, w, x % s, s, x % m, m, rfl, hw, by (exact Nat.lt_trans (Nat.lt_trans es hs) (by decide)), by (exact Nat.lt_trans (Nat.lt_trans em hm) (by decide)), hs0, by (exact Nat.lt_trans hs (by decide)), hm0, by (exact Nat.lt_trans hm (by decide)), fun _ R hR h1 h2 => ?_, fun h => absurd hg h⟩
  · have e : (.tup [L w R, L w (s * m)] : D) = PR w x (s * m) := by
      have : R = x % (s * m) := crt_uniq hg hR esm (by rw [h1, Nat.mod_mod, Nat.mod_mul_right_mod]) (by rw [h2, Nat.mod_mod, Nat.mod_mul_left_mod])
      rw [this]; rfl
    rw [e]
    (repeat simp only [true_and, natmul])
    repeat ((with_reducible apply And.intro); · ((repeat' (with_reducible apply And.intro)) <;> first | (first | (clear es hs0; refine Nat.lt_of_not_le fun h => ?_; lia) | (clear em hm0; refine Nat.lt_of_not_le fun h => ?_; lia) | lia | omega) | (unfold small; (first | lia | omega)) | (have := hw.2; (first | lia | omega)) | decide | trivial | (simp; (first | lia | omega)))); (first | refine use_of h40 ?_ | skip)
    refine ⟨rfl, w, x, s * m, hw, by (exact Nat.lt_trans hx (by decide)), hsm0, by (exact Nat.lt_trans hsm (by decide)), rfl, ?_⟩
    (repeat simp only [↓Yd, ↓Ye, ↓Mz, ↓Ka, ↓Ke, ↓Kg, ↓Ki, ↓Kv, ↓Mh, ↓Mi, ↓Yg, ↓Yh, ↓Yi, ↓Yq, ↓Yr, ↓Zf, ↓Za, ↓vA, ↓vB, ↓vN])
    refine wEq_PR ?_
    (first | refine use_of h40 ?_ | skip)
    refine ⟨rfl, w, x, m, hw, by (exact Nat.lt_trans hx (by decide)), hm0, by (exact Nat.lt_trans hm (by decide)), rfl, ?_⟩
    refine wEq_PR ?_
    have ed : (((s * m : Nat) : Int)).fdiv (m : Int) = ((s : Nat) : Int) := by rw [fdiv_nat, Nat.mul_div_cancel _ hm0]
    (repeat simp only [Bool.false_eq_true, ↓reduceIte, Bool.not_true, ed])
    repeat ((with_reducible apply And.intro); · ((repeat' (with_reducible apply And.intro)) <;> first | (first | exact Int.ne_of_gt (Int.ofNat_lt.mpr hm0) | (clear em hm0; refine Nat.lt_of_not_le fun h => ?_; lia) | lia | omega) | (unfold small; (first | lia | omega)) | (have := hw.2; (first | lia | omega)) | decide | trivial | (simp; (first | lia | omega)))); (first | refine use_of h40 ?_ | skip)
    refine ⟨rfl, w, x, s, hw, by (exact Nat.lt_trans hx (by decide)), hs0, by (exact Nat.lt_trans hs (by decide)), rfl, ?_⟩
    refine wEq_PR ?_
    (repeat simp only [Bool.false_eq_true, ↓reduceIte, Bool.not_true])
    unfold s_law_1
    (repeat simp only [↓Yd, ↓Ye, ↓Mw, ↓Mz, ↓Ka, ↓Kc, ↓Ke, ↓Kg, ↓Ki, ↓Kv, ↓Ky, ↓Mh, ↓Mi, ↓Yg, ↓Yh, ↓Yi, ↓Ym, ↓Yq, ↓Yr, ↓Zf, ↓Zg, ↓Za, ↓vA, ↓vB, ed, fmod_nat, PR])
    repeat ((with_reducible apply And.intro); · ((repeat' (with_reducible apply And.intro)) <;> first | (first | exact Int.ne_of_gt (Int.ofNat_lt.mpr hm0) | exact Int.ne_of_gt (Int.ofNat_lt.mpr hs0) | exact Int.ne_of_gt (Int.ofNat_lt.mpr hsm0) | (clear em hm0; refine Nat.lt_of_not_le fun h => ?_; lia) | lia | omega) | (unfold small; (first | lia | omega)) | (have := hw.2; (first | lia | omega)) | decide | trivial | (simp; (first | lia | omega))))
    refine wIdx0 (by simp) ?_
    (refine use_of h36 ?_)
    refine ⟨rfl, w, x % s, hw, by (exact Nat.lt_trans (Nat.lt_trans es hs) (by decide)), rfl, ?_⟩
    have em2 : x % (s * m) % s = x % s := Nat.mod_mul_right_mod _ _ _
    (repeat simp only [↓Ys, Bool.false_eq_true, ↓reduceIte, em2, Bool.not_true, decide_true])
    unfold s_law_0
    by_cases h1s : 1 < s * m
    · (repeat simp only [↓Yd, ↓Ye, ↓Mw, ↓Mz, ↓Ka, ↓Kc, ↓Ke, ↓Kg, ↓Ki, ↓Kj, ↓Kk, ↓Kv, ↓Mh, ↓Mi, ↓Yg, ↓Yh, ↓Yi, ↓Yq, ↓Yr, ↓Zb, ↓Yw, ↓vA, ↓vB, decide_eq_true_eq, Bool.false_eq_true, ↓reduceIte, natadd])
      rw [if_pos (by first | (exact Int.ofNat_lt.mpr h1s) | (simp; (first | lia | omega)))]
      refine use_of h40 ?_
      refine ⟨rfl, w, x + last, s * m, hw, by (refine Nat.lt_of_not_le fun h => ?_; lia), hsm0, by (exact Nat.lt_trans hsm (by decide)), rfl, ?_⟩
      have em3 := Nat.mod_lt (x + last) hsm0
      (refine use_of h39 ?_)
      refine ⟨rfl, w, x % (s * m), s * m, (x + last) % (s * m), s * m, rfl, hw, by (exact Nat.lt_trans (Nat.lt_trans esm hsm) (by decide)), by (exact Nat.lt_trans (Nat.lt_trans em3 hsm) (by decide)), hsm0, by (exact Nat.lt_trans hsm (by decide)), hsm0, by (exact Nat.lt_trans hsm (by decide)), fun hgg => ?_, fun _ => ?_⟩
      · rw [Nat.gcd_self] at hgg; lia
      · skip
        exact hk _ _ _
    · refine vP ?_
      rw [if_neg (by (exact Int.not_lt.mpr (Int.ofNat_le.mpr (Nat.le_of_not_lt h1s))))]
      exact hk _ _ _
/-- after the loop: two moduli. -/
theorem law_tail2 {T : Nat → Option LM.Spec} (h14 : T 14 = some spChinese) (h39 : T 39 = some spLawTwo) (h40 : T 40 = some spPair) {w x m1 m2 : Nat} (hw : W w) (hx : x < 2 ^ 20) (hm10 : 0 < m1) (hm1 : m1 < 2 ^ 6) (hm20 : 0 < m2) (hm2 : m2 < 2 ^ 6) (hg : Nat.gcd m1 m2 = 1)
    {q0 q5 q6 q8 q9 q10 q13 q14 q15 q16 : Option Rv} {rl : List D} {Q : Out → Fs → Prop} {X : Prop} (hq : ∀ Γ, Q (.ret (.bool true)) Γ) :
    wSs T r_law_2 ⟨[q0, some (.c 0), some (.d (.int ((w : Nat) : Int))), some (.c 1), some (.d (.int ((m1 * m2 : Nat) : Int))), q5, q6, some (.d (.int ((x : Nat) : Int))), q8, q9, q10, some (.d (.int ((m1 * m2 : Nat) : Int))), some (.d (PR w x (m1 * m2))), q13, q14, q15, q16], [some rl, some [.int ((m1 : Nat) : Int), .int ((m2 : Nat) : Int)]]⟩ Q X := by
  have hN : m1 * m2 < 2 ^ 12 := mulb (p := 6) (q := 6) hm1 hm2
  have hN0 : 0 < m1 * m2 := Nat.mul_pos hm10 hm20
  have em1 := Nat.mod_lt x hm10
  have em2 := Nat.mod_lt x hm20
  have eN := Nat.mod_lt x hN0
  have e01 : ((0 : Nat) : Int) = 0 := rfl
  have e11 : ((1 : Nat) : Int) = 1 := rfl
  have n1 : (.tup [L w (x % (m1 * m2)), L w (m1 * m2 * 1)] : D) = PR w x (m1 * m2) := by rw [Nat.mul_one]; rfl
  have n2 : (.tup [L w (x % (m1 * m2)), L w (1 * (m1 * m2))] : D) = PR w x (m1 * m2) := by rw [Nat.one_mul]; rfl
  (refine use_of h40 ?_)
  refine ⟨rfl, w, 0, 1, hw, by decide, by decide, by decide, rfl, ?_⟩
  (refine use_of h39 ?_)
  refine ⟨rfl, w, x % (m1 * m2), m1 * m2, 0 % 1, 1, rfl, hw, by (exact Nat.lt_trans (Nat.lt_trans eN hN) (by decide)), by decide, hN0, by (exact Nat.lt_trans hN (by decide)), by decide, by decide, fun _ R hR hR1 hR2 => ?_, fun h => absurd (Nat.gcd_one_right _) h⟩
  have hRe : R = x % (m1 * m2) := by rw [Nat.mul_one] at hR; rw [Nat.mod_mod, Nat.mod_eq_of_lt hR] at hR1; exact hR1
  subst hRe
  rw [n1]
  (repeat simp only [↓Yd, ↓Ye, ↓Mz, ↓Ka, ↓Kc, ↓Ke, ↓Ki, ↓Kv, ↓Mh, ↓Mi, ↓Yg, ↓Yi, ↓Yq, ↓Yr, ↓Za, ↓vA, ↓vB, ↓vN])
  refine wEq_PR ?_
  (first | refine use_of h40 ?_ | skip)
  refine ⟨rfl, w, 0, 1, hw, by decide, by decide, by decide, rfl, ?_⟩
  (refine use_of h39 ?_)
  refine ⟨rfl, w, 0 % 1, 1, x % (m1 * m2), m1 * m2, rfl, hw, by decide, by (exact Nat.lt_trans (Nat.lt_trans eN hN) (by decide)), by decide, by decide, hN0, by (exact Nat.lt_trans hN (by decide)), fun _ R hR hR1 hR2 => ?_, fun h => absurd (Nat.gcd_one_left _) h⟩
  have hRe : R = x % (m1 * m2) := by rw [Nat.one_mul] at hR; rw [Nat.mod_mod, Nat.mod_eq_of_lt hR] at hR2; exact hR2
  subst hRe
  rw [n2]
  refine wEq_PR ?_
  (repeat simp only [↓Ye, ↓Mp, ↓Ka, ↓Kd, ↓Kv, ↓Ky, ↓Mh, ↓Mi, ↓Yh, ↓Yn, ↓Yq, ↓Yr, Fs.put, ↓vA, ↓vB, ↓vC, ↓vD])
  refine wIdxL2 ?_
  (refine use_of h40 ?_)
  refine ⟨rfl, w, x, m2, hw, by (exact Nat.lt_trans hx (by decide)), hm20, by (exact Nat.lt_trans hm2 (by decide)), rfl, ?_⟩
  (repeat (first | simp only [↓Yd, ↓Ye, ↓Mp, ↓Mw, ↓Ka, ↓Kc, ↓Ki, ↓Ko, ↓Kv, ↓Ky, ↓Mh, ↓Mi, ↓Yh, ↓Yi, ↓Yn, ↓Yq, ↓Yr, ↓Yz, ↓Ys, Fs.put, ↓vA, ↓vB, ↓vC, ↓vD, ↓vI, ↓vJ] | (with_reducible show wSs _ c_law_4 _ _ _; unfold c_law_4)))
  repeat ((with_reducible apply And.intro); · ((repeat' (with_reducible apply And.intro)) <;> first | decide | (unfold small; (first | lia | omega)) | (have := hw.2; (first | lia | omega)) | decide | trivial | (simp; (first | lia | omega))))
  rw [if_neg (by simp)]
  unfold s_law_3
  (repeat simp only [↓Yd, ↓Ye, ↓Mw, ↓Mz, ↓Ka, ↓Kc, ↓Ke, ↓Ki, ↓Kv, ↓Ky, ↓Mh, ↓Mi, ↓Yg, ↓Yh, ↓Yi, ↓Yn, ↓Yq, ↓Yr, ↓Za, ↓vA, ↓vB])
  refine wIdx0 (by simp) ?_
  (refine use_of h40 ?_)
  refine ⟨rfl, w, x, m1, hw, by (exact Nat.lt_trans hx (by decide)), hm10, by (exact Nat.lt_trans hm1 (by decide)), rfl, ?_⟩
  (refine use_of h39 ?_)
  refine ⟨rfl, w, x % m2, m2, x % m1, m1, rfl, hw, by (exact Nat.lt_trans (Nat.lt_trans em2 hm2) (by decide)), by (exact Nat.lt_trans (Nat.lt_trans em1 hm1) (by decide)), hm20, by (exact Nat.lt_trans hm2 (by decide)), hm10, by (exact Nat.lt_trans hm1 (by decide)), fun _ R hR hR1 hR2 => ?_, fun h => absurd ((Nat.gcd_comm _ _).trans hg) h⟩
  have n3 : (.tup [L w R, L w (m2 * m1)] : D) = PR w x (m1 * m2) := by
    rw [Nat.mul_comm m2 m1] at hR ⊢
    have : R = x % (m1 * m2) := crt_uniq hg hR eN (by rw [hR2, Nat.mod_mod, Nat.mod_mul_right_mod]) (by rw [hR1, Nat.mod_mod, Nat.mod_mul_left_mod])
    rw [this]; rfl
  rw [n3]
  refine wEq_PR ?_
  (repeat simp only [Bool.false_eq_true, ↓reduceIte, Bool.not_true])
  unfold s_law_2
  (repeat simp only [↓Ye, ↓Yf, ↓Mp, ↓Ka, ↓Kb, ↓Kv, ↓Mg, ↓Mh, ↓Mi, ↓Mj, ↓Yg, ↓Yq, ↓Yr, Fs.put, Fs.frz, Rv.frz, ↓vA, ↓vB, ↓vC, ↓vD, ↓vE, ↓vF, ↓vG, ↓vH, ↓vI, ↓vJ, ↓vL, ↓reduceIte, reduceCtorEq, ↓Zr, ↓Zs, ↓Zm, compρ, Option.some.injEq, Nat.reduceEqDiff, Rv.d.injEq])
  repeat ((with_reducible apply And.intro); · ((repeat' (with_reducible apply And.intro)) <;> first | decide | (unfold small; (first | lia | omega)) | (have := hw.2; (first | lia | omega)) | decide | trivial | (simp; (first | lia | omega)))); (first | refine use_of h40 ?_ | skip)
  refine ⟨rfl, w, x, m1, hw, by (exact Nat.lt_trans hx (by decide)), hm10, by (exact Nat.lt_trans hm1 (by decide)), rfl, ?_⟩
  (refine use_of h40 ?_)
  refine ⟨rfl, w, x, m2, hw, by (exact Nat.lt_trans hx (by decide)), hm20, by (exact Nat.lt_trans hm2 (by decide)), rfl, ?_⟩
  (refine use_of h14 ?_)
  refine ⟨rfl, .inl ⟨w, x % m1, m1, x % m2, m2, rfl, hw, by (exact Nat.lt_trans (Nat.lt_trans em1 hm1) (by decide)), by (exact Nat.lt_trans (Nat.lt_trans em2 hm2) (by decide)), hm10, by (exact Nat.lt_trans hm1 (by decide)), hm20, by (exact Nat.lt_trans hm2 (by decide)), fun _ R hR hR1 hR2 => ?_, fun h => absurd hg h⟩⟩
  have n4 : (.tup [L w R, L w (m1 * m2)] : D) = PR w x (m1 * m2) := by
    have : R = x % (m1 * m2) := crt_uniq hg hR eN (by rw [hR1, Nat.mod_mod, Nat.mod_mul_right_mod]) (by rw [hR2, Nat.mod_mod, Nat.mod_mul_left_mod])
    rw [this]; rfl
  rw [n4]
  (repeat (first | simp only [↓Ye, ↓Mz, ↓Ka, ↓Ki, ↓Kk, ↓Kv, ↓Mh, ↓Mi, ↓Yg, ↓Yi, ↓Yq, ↓Yr, ↓Yz, ↓vA, ↓vB] | (with_reducible show wSs _ c_law_3 _ _ _; unfold c_law_3)))
  refine wEq_PR ?_
  first | refine use_of h40 ?_ | skip
  refine ⟨rfl, w, x, m1 * m2, hw, by (exact Nat.lt_trans hx (by decide)), hN0, by (exact Nat.lt_trans hN (by decide)), rfl, ?_⟩
  refine wEq_PR ?_
  exact hq _

/-- after the loop: three moduli. -/
theorem law_tail3 {T : Nat → Option LM.Spec} (h14 : T 14 = some spChinese) (h39 : T 39 = some spLawTwo) (h40 : T 40 = some spPair) {w x m1 m2 m3 : Nat} (hw : W w) (hx : x < 2 ^ 20) (hm10 : 0 < m1) (hm1 : m1 < 2 ^ 6) (hm20 : 0 < m2) (hm2 : m2 < 2 ^ 6) (hm30 : 0 < m3) (hm3 : m3 < 2 ^ 6) (hg : Nat.gcd m1 m2 = 1) (hg13 : Nat.gcd m1 m3 = 1) (hg23 : Nat.gcd m2 m3 = 1)
    {q0 q5 q6 q8 q9 q10 q13 q14 q15 q16 : Option Rv} {rl : List D} {Q : Out → Fs → Prop} {X : Prop} (hq : ∀ Γ, Q (.ret (.bool true)) Γ) :
    wSs T r_law_2 ⟨[q0, some (.c 0), some (.d (.int ((w : Nat) : Int))), some (.c 1), some (.d (.int ((m1 * m2 * m3 : Nat) : Int))), q5, q6, some (.d (.int ((x : Nat) : Int))), q8, q9, q10, some (.d (.int ((m1 * m2 * m3 : Nat) : Int))), some (.d (PR w x (m1 * m2 * m3))), q13, q14, q15, q16], [some rl, some [.int ((m1 : Nat) : Int), .int ((m2 : Nat) : Int), .int ((m3 : Nat) : Int)]]⟩ Q X := by
  have h12 : m1 * m2 < 2 ^ 12 := mulb (p := 6) (q := 6) hm1 hm2
  have h12p : 0 < m1 * m2 := Nat.mul_pos hm10 hm20
  have hN : m1 * m2 * m3 < 2 ^ 18 := mulb (p := 12) (q := 6) h12 hm3
  have hN0 : 0 < m1 * m2 * m3 := Nat.mul_pos h12p hm30
  have em3 := Nat.mod_lt x hm30
  have h32 : m3 * m2 < 2 ^ 12 := mulb (p := 6) (q := 6) hm3 hm2
  have h32p : 0 < m3 * m2 := Nat.mul_pos hm30 hm20
  have e32 := Nat.mod_lt x h32p
  have em1 := Nat.mod_lt x hm10
  have em2 := Nat.mod_lt x hm20
  have eN := Nat.mod_lt x hN0
  have e01 : ((0 : Nat) : Int) = 0 := rfl
  have e11 : ((1 : Nat) : Int) = 1 := rfl
  have n1 : (.tup [L w (x % (m1 * m2 * m3)), L w (m1 * m2 * m3 * 1)] : D) = PR w x (m1 * m2 * m3) := by rw [Nat.mul_one]; rfl
  have n2 : (.tup [L w (x % (m1 * m2 * m3)), L w (1 * (m1 * m2 * m3))] : D) = PR w x (m1 * m2 * m3) := by rw [Nat.one_mul]; rfl
  (refine use_of h40 ?_)
  refine ⟨rfl, w, 0, 1, hw, by decide, by decide, by decide, rfl, ?_⟩
  (refine use_of h39 ?_)
  refine ⟨rfl, w, x % (m1 * m2 * m3), m1 * m2 * m3, 0 % 1, 1, rfl, hw, by (exact Nat.lt_trans (Nat.lt_trans eN hN) (by decide)), by decide, hN0, by (exact Nat.lt_trans hN (by decide)), by decide, by decide, fun _ R hR hR1 hR2 => ?_, fun h => absurd (Nat.gcd_one_right _) h⟩
  have hRe : R = x % (m1 * m2 * m3) := by rw [Nat.mul_one] at hR; rw [Nat.mod_mod, Nat.mod_eq_of_lt hR] at hR1; exact hR1
  subst hRe
  rw [n1]
  (repeat simp only [↓Yd, ↓Ye, ↓Mz, ↓Ka, ↓Kc, ↓Ke, ↓Ki, ↓Kv, ↓Mh, ↓Mi, ↓Yg, ↓Yi, ↓Yq, ↓Yr, ↓Za, ↓vA, ↓vB, ↓vN])
  refine wEq_PR ?_
  (first | refine use_of h40 ?_ | skip)
  refine ⟨rfl, w, 0, 1, hw, by decide, by decide, by decide, rfl, ?_⟩
  (refine use_of h39 ?_)
  refine ⟨rfl, w, 0 % 1, 1, x % (m1 * m2 * m3), m1 * m2 * m3, rfl, hw, by decide, by (exact Nat.lt_trans (Nat.lt_trans eN hN) (by decide)), by decide, by decide, hN0, by (exact Nat.lt_trans hN (by decide)), fun _ R hR hR1 hR2 => ?_, fun h => absurd (Nat.gcd_one_left _) h⟩
  have hRe : R = x % (m1 * m2 * m3) := by rw [Nat.one_mul] at hR; rw [Nat.mod_mod, Nat.mod_eq_of_lt hR] at hR2; exact hR2
  subst hRe
  rw [n2]
  refine wEq_PR ?_
  (repeat simp only [↓Ye, ↓Mp, ↓Ka, ↓Kd, ↓Kv, ↓Ky, ↓Mh, ↓Mi, ↓Yh, ↓Yn, ↓Yq, ↓Yr, Fs.put, ↓vA, ↓vB, ↓vC, ↓vD])
  refine wIdxL3 ?_
  (refine use_of h40 ?_)
  refine ⟨rfl, w, x, m3, hw, by (exact Nat.lt_trans hx (by decide)), hm30, by (exact Nat.lt_trans hm3 (by decide)), rfl, ?_⟩
  (repeat (first | simp only [↓Yd, ↓Ye, ↓Mp, ↓Mw, ↓Ka, ↓Kc, ↓Ki, ↓Ko, ↓Kv, ↓Ky, ↓Mh, ↓Mi, ↓Yh, ↓Yi, ↓Yn, ↓Yq, ↓Yr, ↓Yz, ↓Ys, Fs.put, ↓vA, ↓vB, ↓vC, ↓vD, ↓vI, ↓vJ] | (with_reducible show wSs _ c_law_4 _ _ _; unfold c_law_4)))
  repeat ((with_reducible apply And.intro); · ((repeat' (with_reducible apply And.intro)) <;> first | decide | (unfold small; (first | lia | omega)) | (have := hw.2; (first | lia | omega)) | decide | trivial | (simp; (first | lia | omega))))
  rw [if_pos (by simp)]
  refine wIdx1 (by simp) ?_
  (refine use_of h40 ?_)
  refine ⟨rfl, w, x, m2, hw, by (exact Nat.lt_trans hx (by decide)), hm20, by (exact Nat.lt_trans hm2 (by decide)), rfl, ?_⟩
  (refine use_of h39 ?_)
  refine ⟨rfl, w, x % m3, m3, x % m2, m2, rfl, hw, by (exact Nat.lt_trans (Nat.lt_trans em3 hm3) (by decide)), by (exact Nat.lt_trans (Nat.lt_trans em2 hm2) (by decide)), hm30, by (exact Nat.lt_trans hm3 (by decide)), hm20, by (exact Nat.lt_trans hm2 (by decide)), fun _ R hR hR1 hR2 => ?_, fun h => absurd ((Nat.gcd_comm _ _).trans hg23) h⟩
  have n5 : (.tup [L w R, L w (m3 * m2)] : D) = PR w x (m3 * m2) := by
    have : R = x % (m3 * m2) := crt_uniq ((Nat.gcd_comm _ _).trans hg23) hR e32 (by rw [hR1, Nat.mod_mod, Nat.mod_mul_right_mod]) (by rw [hR2, Nat.mod_mod, Nat.mod_mul_left_mod])
    rw [this]; rfl
  rw [n5]
  unfold s_law_3
  (repeat simp only [↓Yd, ↓Ye, ↓Mw, ↓Mz, ↓Ka, ↓Kc, ↓Ke, ↓Ki, ↓Kv, ↓Ky, ↓Mh, ↓Mi, ↓Yg, ↓Yh, ↓Yi, ↓Yn, ↓Yq, ↓Yr, ↓Za, ↓vA, ↓vB])
  refine wIdx0 (by simp) ?_
  (refine use_of h40 ?_)
  refine ⟨rfl, w, x, m1, hw, by (exact Nat.lt_trans hx (by decide)), hm10, by (exact Nat.lt_trans hm1 (by decide)), rfl, ?_⟩
  (refine use_of h39 ?_)
  have g321 : Nat.gcd (m3 * m2) m1 = 1 := Nat.Coprime.mul_left ((Nat.gcd_comm _ _).trans hg13) ((Nat.gcd_comm _ _).trans hg)
  have e321 : m3 * m2 * m1 = m1 * m2 * m3 := by rw [Nat.mul_comm (m3 * m2), Nat.mul_comm m3, Nat.mul_assoc]
  refine ⟨rfl, w, x % (m3 * m2), m3 * m2, x % m1, m1, rfl, hw, by (exact Nat.lt_trans (Nat.lt_trans e32 h32) (by decide)), by (exact Nat.lt_trans (Nat.lt_trans em1 hm1) (by decide)), h32p, by (exact Nat.lt_trans h32 (by decide)), hm10, by (exact Nat.lt_trans hm1 (by decide)), fun _ R hR hR1 hR2 => ?_, fun h => absurd g321 h⟩
  have n6 : (.tup [L w R, L w (m3 * m2 * m1)] : D) = PR w x (m1 * m2 * m3) := by
    have : R = x % (m3 * m2 * m1) := crt_uniq g321 hR (by rw [e321]; exact eN) (by rw [hR1, Nat.mod_mod, Nat.mod_mul_right_mod]) (by rw [hR2, Nat.mod_mod, Nat.mod_mul_left_mod])
    rw [this, e321]; rfl
  rw [n6]
  refine wEq_PR ?_
  (repeat simp only [Bool.false_eq_true, ↓reduceIte, Bool.not_true])
  unfold s_law_2
  (repeat simp only [↓Ye, ↓Yf, ↓Mp, ↓Ka, ↓Kb, ↓Kv, ↓Mg, ↓Mh, ↓Mi, ↓Mj, ↓Yg, ↓Yq, ↓Yr, Fs.put, Fs.frz, Rv.frz, ↓vA, ↓vB, ↓vC, ↓vD, ↓vE, ↓vF, ↓vG, ↓vH, ↓vI, ↓vJ, ↓vL, ↓reduceIte, reduceCtorEq, ↓Zr, ↓Zs, ↓Zm, compρ, Option.some.injEq, Nat.reduceEqDiff, Rv.d.injEq])
  repeat ((with_reducible apply And.intro); · ((repeat' (with_reducible apply And.intro)) <;> first | decide | (unfold small; (first | lia | omega)) | (have := hw.2; (first | lia | omega)) | decide | trivial | (simp; (first | lia | omega)))); (first | refine use_of h40 ?_ | skip)
  refine ⟨rfl, w, x, m1, hw, by (exact Nat.lt_trans hx (by decide)), hm10, by (exact Nat.lt_trans hm1 (by decide)), rfl, ?_⟩
  (refine use_of h40 ?_)
  refine ⟨rfl, w, x, m2, hw, by (exact Nat.lt_trans hx (by decide)), hm20, by (exact Nat.lt_trans hm2 (by decide)), rfl, ?_⟩
  (refine use_of h40 ?_)
  refine ⟨rfl, w, x, m3, hw, by (exact Nat.lt_trans hx (by decide)), hm30, by (exact Nat.lt_trans hm3 (by decide)), rfl, ?_⟩
  (refine use_of h14 ?_)
  refine ⟨rfl, .inr ⟨w, x % m1, m1, x % m2, m2, x % m3, m3, rfl, hw, by (exact Nat.lt_trans (Nat.lt_trans em1 hm1) (by decide)), by (exact Nat.lt_trans (Nat.lt_trans em2 hm2) (by decide)), by (exact Nat.lt_trans (Nat.lt_trans em3 hm3) (by decide)), hm10, by (exact Nat.lt_trans hm1 (by decide)), hm20, by (exact Nat.lt_trans hm2 (by decide)), hm30, by (exact Nat.lt_trans hm3 (by decide)), hg, hg13, hg23, fun R hR hR1 hR2 hR3 => ?_⟩⟩
  have n4 : (.tup [L w R, L w (m1 * m2 * m3)] : D) = PR w x (m1 * m2 * m3) := by
    have e12 := Nat.mod_lt x h12p
    have h4 : R % (m1 * m2) = x % (m1 * m2) := crt_uniq hg (Nat.mod_lt _ h12p) e12 (by rw [Nat.mod_mul_right_mod, Nat.mod_mul_right_mod, hR1, Nat.mod_mod]) (by rw [Nat.mod_mul_left_mod, Nat.mod_mul_left_mod, hR2, Nat.mod_mod])
    have : R = x % (m1 * m2 * m3) := crt_uniq (Nat.Coprime.mul_left hg13 hg23) hR eN (by rw [h4, Nat.mod_mul_right_mod]) (by rw [hR3, Nat.mod_mod, Nat.mod_mul_left_mod])
    rw [this]; rfl
  rw [n4]
  (repeat (first | simp only [↓Ye, ↓Mz, ↓Ka, ↓Ki, ↓Kk, ↓Kv, ↓Mh, ↓Mi, ↓Yg, ↓Yi, ↓Yq, ↓Yr, ↓Yz, ↓vA, ↓vB] | (with_reducible show wSs _ c_law_3 _ _ _; unfold c_law_3)))
  refine wEq_PR ?_
  first | refine use_of h40 ?_ | skip
  refine ⟨rfl, w, x, m1 * m2 * m3, hw, by (exact Nat.lt_trans hx (by decide)), hN0, by (exact Nat.lt_trans hN (by decide)), rfl, ?_⟩
  refine wEq_PR ?_
  exact hq _
end LM

namespace LM

theorem PR_one (w x y : Nat) : PR w x 1 = PR w y 1 := by unfold PR; rw [Nat.mod_one, Nat.mod_one]
theorem pick_rot {l : List D} {a : Nat} (ha : a ≤ l.length) : pick l (some (a : Int)) none none ++ pick l none (some (a : Int)) none = l.drop a ++ l.take a := by
  rw [pick_from ha, pick_to ha]

/-- law after its moduli are set: two of them. -/
theorem law_rest2 {T : Nat → Option LM.Spec} (h14 : T 14 = some spChinese) (h34 : T 34 = some spSpooled) (h36 : T 36 = some spNumber) (h39 : T 39 = some spLawTwo) (h40 : T 40 = some spPair) {w m1 m2 k : Nat} {ns : List Int} (hw : W w) (hk : k < 2 ^ 30) (hns : ns.length ≤ 1000) (hm10 : 0 < m1) (hm1 : m1 < 2 ^ 6) (hm20 : 0 < m2) (hm2 : m2 < 2 ^ 6) (hg : Nat.gcd m1 m2 = 1)
    {q0 q5 q6 : Option Rv} {Q : Out → Fs → Prop} {X : Prop} (hq : ∀ Γ, Q (.ret (.bool true)) Γ) :
    wSs T r_law_0 ⟨[q0, some (.c 0), some (.d (.int ((w : Nat) : Int))), some (.c 1), some (.d (.int ((m1 * m2 : Nat) : Int))), q5, q6, none, none, none, none, none, none, none, none, none, none], [some (reel k ns), some [.int ((m1 : Nat) : Int), .int ((m2 : Nat) : Int)]]⟩ Q X := by
  have hN : m1 * m2 < 2 ^ 12 := mulb (p := 6) (q := 6) hm1 hm2
  have hN0 : 0 < m1 * m2 := Nat.mul_pos hm10 hm20
  (refine use_of h34 ?_)
  refine ⟨130, k, ns, by decide, by (exact Nat.lt_trans hk (by decide)), hns, rfl, rfl, fun r1 hr1 => ?_⟩
  (refine use_of h34 ?_)
  refine ⟨130, k + 1, ns, by decide, by (refine Nat.lt_of_not_le fun h => ?_; lia), hns, rfl, rfl, fun r2 hr2 => ?_⟩
  have e130 : (130 : Int) * (r2 : Int) = ((130 * r2 : Nat) : Int) := by push_cast; rfl
  (repeat simp only [↓Ka, ↓Kc, ↓Kg, ↓Kx, ↓Mh, ↓Mi, ↓Yh, ↓Yq, ↓Yr, ↓Zb, ↓Ze, ↓Zg, Fs.put, Fs.puts, Fs.setσ, ↓vA, ↓vB, ↓vC, ↓vD, ↓vI, ↓vJ, true_and, e130, natadd, fmod_nat])
  repeat ((with_reducible apply And.intro); · ((repeat' (with_reducible apply And.intro)) <;> first | (first | decide | exact Int.ne_of_gt (Int.ofNat_lt.mpr hN0) | (refine Nat.lt_of_not_le fun h => ?_; lia) | lia | omega) | (unfold small; (first | lia | omega)) | (have := hw.2; (first | lia | omega)) | decide | trivial | (simp; (first | lia | omega)))); (first | refine use_of h34 ?_ | skip)
  have ex := Nat.mod_lt (r1 + 130 * r2) hN0
  generalize (r1 + 130 * r2) % (m1 * m2) = x at ex ⊢
  refine ⟨3, k + 1 + 1, ns, by decide, by (refine Nat.lt_of_not_le fun h => ?_; lia), hns, rfl, rfl, fun r3 hr3 => ?_⟩
  have e1 : (1 : Int) + (r3 : Int) = ((1 + r3 : Nat) : Int) := by push_cast; rfl
  (repeat (first | simp only [↓Ye, ↓Mp, ↓Ka, ↓Ko, ↓Kx, ↓Mh, ↓Mi, ↓Yn, ↓Yq, ↓Yr, ↓Zb, Fs.put, Fs.setσ, ↓vA, ↓vB, ↓vC, ↓vD, ↓vI, ↓vJ, e1] | (with_reducible show wSs _ c_law_7 _ _ _; unfold c_law_7)))
  repeat ((with_reducible apply And.intro); · ((repeat' (with_reducible apply And.intro)) <;> first | decide | (unfold small; (first | lia | omega)) | (have := hw.2; (first | lia | omega)) | decide | trivial | (simp; (first | lia | omega)))); (first | refine use_of h34 ?_ | skip)
  refine ⟨2, k + 1 + 1 + 1, ns, by decide, by (refine Nat.lt_of_not_le fun h => ?_; lia), hns, rfl, rfl, fun f hf => ?_⟩
  (first | ((repeat (first | simp only [↓Ye, ↓Mp, ↓Mq, ↓Ka, ↓Kc, ↓Kf, ↓Kg, ↓Kv, ↓Kz, ↓Mh, ↓Mi, ↓Yj, ↓Yk, ↓Yo, ↓Yp, ↓Yq, ↓Yr, ↓Zc, Fs.put, Fs.puts, ↓vA, ↓vB, ↓vC, ↓vD, ↓vI, ↓vJ] | (with_reducible show wSs _ c_law_6 _ _ _; unfold c_law_6)))))
  repeat ((with_reducible apply And.intro); · ((repeat' (with_reducible apply And.intro)) <;> first | decide | (unfold small; (first | lia | omega)) | (have := hw.2; (first | lia | omega)) | decide | trivial | (simp; (first | lia | omega))))
  rw [pick_rot (by simp; (exact Nat.le_of_lt hf))]
  refine ⟨by rw [pick_from (by simp; (exact Nat.le_of_lt hf)), pick_to (by simp; (exact Nat.le_of_lt hf))]; simp; lia, ?_⟩
  refine And.intro trivial (use_of h40 ?_)
  refine ⟨rfl, w, 0, 1, hw, by decide, by decide, by decide, rfl, ?_⟩
  rw [PR_one w 0 x]
  have hf2 : f = 0 ∨ f = 1 := by lia
  rcases hf2 with rfl | rfl
  · (repeat (first | simp only [↓Ye, ↓My, ↓Ka, ↓Mj, ↓Yg, ↓vA, ↓vB] | (with_reducible show wSs _ c_law_5 _ _ _; unfold c_law_5)))
    show wFor _ [.int ((m1 : Nat) : Int), .int ((m2 : Nat) : Int)] _ _
    (repeat simp only [↓vC, ↓vD, ↓Zp, ↓Zq, ↓Zm])
    refine law_turn h36 h39 h40 (s := 1) hw (by (exact Nat.lt_trans (Nat.lt_trans ex hN) (by decide))) (by (clear e1; refine Nat.lt_of_not_le fun h => ?_; lia)) (by decide) (by decide) hm10 hm1 (Nat.gcd_one_left _) fun _ _ _ => ?_
    (repeat simp only [↓vC, ↓vD, Nat.one_mul])
    refine law_turn h36 h39 h40 hw (by (exact Nat.lt_trans (Nat.lt_trans ex hN) (by decide))) (by (clear e1; refine Nat.lt_of_not_le fun h => ?_; lia)) hm10 (by (exact Nat.lt_trans hm1 (by decide))) hm20 hm2 hg fun _ _ _ => ?_
    exact law_tail2 h14 h39 h40 hw (by (exact Nat.lt_trans (Nat.lt_trans ex hN) (by decide))) hm10 hm1 hm20 hm2 hg hq
  · (repeat (first | simp only [↓Ye, ↓My, ↓Ka, ↓Mj, ↓Yg, ↓vA, ↓vB] | (with_reducible show wSs _ c_law_5 _ _ _; unfold c_law_5)))
    show wFor _ [.int ((m2 : Nat) : Int), .int ((m1 : Nat) : Int)] _ _
    (repeat simp only [↓vC, ↓vD, ↓Zp, ↓Zq, ↓Zm])
    refine law_turn h36 h39 h40 (s := 1) hw (by (exact Nat.lt_trans (Nat.lt_trans ex hN) (by decide))) (by (clear e1; refine Nat.lt_of_not_le fun h => ?_; lia)) (by decide) (by decide) hm20 hm2 (Nat.gcd_one_left _) fun _ _ _ => ?_
    (repeat simp only [↓vC, ↓vD, Nat.one_mul])
    refine law_turn h36 h39 h40 hw (by (exact Nat.lt_trans (Nat.lt_trans ex hN) (by decide))) (by (clear e1; refine Nat.lt_of_not_le fun h => ?_; lia)) hm20 (by (exact Nat.lt_trans hm2 (by decide))) hm10 hm1 ((Nat.gcd_comm _ _).trans hg) fun _ _ _ => ?_
    (repeat simp only [])
    rw [Nat.mul_comm m2 m1]
    exact law_tail2 h14 h39 h40 hw (by (exact Nat.lt_trans (Nat.lt_trans ex hN) (by decide))) hm10 hm1 hm20 hm2 hg hq

/-- law after its moduli are set: three of them. -/
theorem law_rest3 {T : Nat → Option LM.Spec} (h14 : T 14 = some spChinese) (h34 : T 34 = some spSpooled) (h36 : T 36 = some spNumber) (h39 : T 39 = some spLawTwo) (h40 : T 40 = some spPair) {w m1 m2 m3 k : Nat} {ns : List Int} (hw : W w) (hk : k < 2 ^ 30) (hns : ns.length ≤ 1000) (hm10 : 0 < m1) (hm1 : m1 < 2 ^ 6) (hm20 : 0 < m2) (hm2 : m2 < 2 ^ 6) (hm30 : 0 < m3) (hm3 : m3 < 2 ^ 6) (hg : Nat.gcd m1 m2 = 1) (hg13 : Nat.gcd m1 m3 = 1) (hg23 : Nat.gcd m2 m3 = 1)
    {q0 q5 q6 : Option Rv} {Q : Out → Fs → Prop} {X : Prop} (hq : ∀ Γ, Q (.ret (.bool true)) Γ) :
    wSs T r_law_0 ⟨[q0, some (.c 0), some (.d (.int ((w : Nat) : Int))), some (.c 1), some (.d (.int ((m1 * m2 * m3 : Nat) : Int))), q5, q6, none, none, none, none, none, none, none, none, none, none], [some (reel k ns), some [.int ((m1 : Nat) : Int), .int ((m2 : Nat) : Int), .int ((m3 : Nat) : Int)]]⟩ Q X := by
  have h12 : m1 * m2 < 2 ^ 12 := mulb (p := 6) (q := 6) hm1 hm2
  have h12p : 0 < m1 * m2 := Nat.mul_pos hm10 hm20
  have h23 : m2 * m3 < 2 ^ 12 := mulb (p := 6) (q := 6) hm2 hm3
  have h23p : 0 < m2 * m3 := Nat.mul_pos hm20 hm30
  have h31 : m3 * m1 < 2 ^ 12 := mulb (p := 6) (q := 6) hm3 hm1
  have h31p : 0 < m3 * m1 := Nat.mul_pos hm30 hm10
  have hN : m1 * m2 * m3 < 2 ^ 18 := mulb (p := 12) (q := 6) h12 hm3
  have hN0 : 0 < m1 * m2 * m3 := Nat.mul_pos h12p hm30
  (refine use_of h34 ?_)
  refine ⟨130, k, ns, by decide, by (exact Nat.lt_trans hk (by decide)), hns, rfl, rfl, fun r1 hr1 => ?_⟩
  (refine use_of h34 ?_)
  refine ⟨130, k + 1, ns, by decide, by (refine Nat.lt_of_not_le fun h => ?_; lia), hns, rfl, rfl, fun r2 hr2 => ?_⟩
  have e130 : (130 : Int) * (r2 : Int) = ((130 * r2 : Nat) : Int) := by push_cast; rfl
  (repeat simp only [↓Ka, ↓Kc, ↓Kg, ↓Kx, ↓Mh, ↓Mi, ↓Yh, ↓Yq, ↓Yr, ↓Zb, ↓Ze, ↓Zg, Fs.put, Fs.puts, Fs.setσ, ↓vA, ↓vB, ↓vC, ↓vD, ↓vI, ↓vJ, true_and, e130, natadd, fmod_nat])
  repeat ((with_reducible apply And.intro); · ((repeat' (with_reducible apply And.intro)) <;> first | (first | decide | exact Int.ne_of_gt (Int.ofNat_lt.mpr hN0) | (refine Nat.lt_of_not_le fun h => ?_; lia) | lia | omega) | (unfold small; (first | lia | omega)) | (have := hw.2; (first | lia | omega)) | decide | trivial | (simp; (first | lia | omega)))); (first | refine use_of h34 ?_ | skip)
  have ex := Nat.mod_lt (r1 + 130 * r2) hN0
  generalize (r1 + 130 * r2) % (m1 * m2 * m3) = x at ex ⊢
  refine ⟨3, k + 1 + 1, ns, by decide, by (refine Nat.lt_of_not_le fun h => ?_; lia), hns, rfl, rfl, fun r3 hr3 => ?_⟩
  have e1 : (1 : Int) + (r3 : Int) = ((1 + r3 : Nat) : Int) := by push_cast; rfl
  (repeat (first | simp only [↓Ye, ↓Mp, ↓Ka, ↓Ko, ↓Kx, ↓Mh, ↓Mi, ↓Yn, ↓Yq, ↓Yr, ↓Zb, Fs.put, Fs.setσ, ↓vA, ↓vB, ↓vC, ↓vD, ↓vI, ↓vJ, e1] | (with_reducible show wSs _ c_law_7 _ _ _; unfold c_law_7)))
  repeat ((with_reducible apply And.intro); · ((repeat' (with_reducible apply And.intro)) <;> first | decide | (unfold small; (first | lia | omega)) | (have := hw.2; (first | lia | omega)) | decide | trivial | (simp; (first | lia | omega)))); (first | refine use_of h34 ?_ | skip)
  refine ⟨3, k + 1 + 1 + 1, ns, by decide, by (refine Nat.lt_of_not_le fun h => ?_; lia), hns, rfl, rfl, fun f hf => ?_⟩
  (first | ((repeat (first | simp only [↓Ye, ↓Mp, ↓Mq, ↓Ka, ↓Kc, ↓Kf, ↓Kg, ↓Kv, ↓Kz, ↓Mh, ↓Mi, ↓Yj, ↓Yk, ↓Yo, ↓Yp, ↓Yq, ↓Yr, ↓Zc, Fs.put, Fs.puts, ↓vA, ↓vB, ↓vC, ↓vD, ↓vI, ↓vJ] | (with_reducible show wSs _ c_law_6 _ _ _; unfold c_law_6)))))
  repeat ((with_reducible apply And.intro); · ((repeat' (with_reducible apply And.intro)) <;> first | decide | (unfold small; (first | lia | omega)) | (have := hw.2; (first | lia | omega)) | decide | trivial | (simp; (first | lia | omega))))
  rw [pick_rot (by simp; (exact Nat.le_of_lt hf))]
  refine ⟨by rw [pick_from (by simp; (exact Nat.le_of_lt hf)), pick_to (by simp; (exact Nat.le_of_lt hf))]; simp; lia, ?_⟩
  refine And.intro trivial (use_of h40 ?_)
  refine ⟨rfl, w, 0, 1, hw, by decide, by decide, by decide, rfl, ?_⟩
  rw [PR_one w 0 x]
  have sg : ∀ {a b : Nat}, Nat.gcd a b = 1 → Nat.gcd b a = 1 := fun h => (Nat.gcd_comm _ _).trans h
  have hf2 : f = 0 ∨ f = 1 ∨ f = 2 := by lia
  rcases hf2 with rfl | rfl | rfl
  · (repeat (first | simp only [↓Ye, ↓My, ↓Ka, ↓Mj, ↓Yg, ↓vA, ↓vB] | (with_reducible show wSs _ c_law_5 _ _ _; unfold c_law_5)))
    show wFor _ [.int ((m1 : Nat) : Int), .int ((m2 : Nat) : Int), .int ((m3 : Nat) : Int)] _ _
    (repeat simp only [↓vC, ↓vD, ↓Zp, ↓Zq, ↓Zm])
    refine law_turn h36 h39 h40 (s := 1) hw (by (exact Nat.lt_trans (Nat.lt_trans ex hN) (by decide))) (by (clear e1; refine Nat.lt_of_not_le fun h => ?_; lia)) (by decide) (by decide) hm10 hm1 (Nat.gcd_one_left _) fun _ _ _ => ?_
    (repeat simp only [↓vC, ↓vD, Nat.one_mul])
    refine law_turn h36 h39 h40 hw (by (exact Nat.lt_trans (Nat.lt_trans ex hN) (by decide))) (by (clear e1; refine Nat.lt_of_not_le fun h => ?_; lia)) hm10 (by (exact Nat.lt_trans hm1 (by decide))) hm20 hm2 hg fun _ _ _ => ?_
    (repeat simp only [↓vC, ↓vD])
    refine law_turn h36 h39 h40 hw (by (exact Nat.lt_trans (Nat.lt_trans ex hN) (by decide))) (by (clear e1; refine Nat.lt_of_not_le fun h => ?_; lia)) h12p h12 hm30 hm3 (Nat.Coprime.mul_left hg13 hg23) fun _ _ _ => ?_
    exact law_tail3 h14 h39 h40 hw (by (exact Nat.lt_trans (Nat.lt_trans ex hN) (by decide))) hm10 hm1 hm20 hm2 hm30 hm3 hg hg13 hg23 hq
  · (repeat (first | simp only [↓Ye, ↓My, ↓Ka, ↓Mj, ↓Yg, ↓vA, ↓vB] | (with_reducible show wSs _ c_law_5 _ _ _; unfold c_law_5)))
    show wFor _ [.int ((m2 : Nat) : Int), .int ((m3 : Nat) : Int), .int ((m1 : Nat) : Int)] _ _
    (repeat simp only [↓vC, ↓vD, ↓Zp, ↓Zq, ↓Zm])
    refine law_turn h36 h39 h40 (s := 1) hw (by (exact Nat.lt_trans (Nat.lt_trans ex hN) (by decide))) (by (clear e1; refine Nat.lt_of_not_le fun h => ?_; lia)) (by decide) (by decide) hm20 hm2 (Nat.gcd_one_left _) fun _ _ _ => ?_
    (repeat simp only [↓vC, ↓vD, Nat.one_mul])
    refine law_turn h36 h39 h40 hw (by (exact Nat.lt_trans (Nat.lt_trans ex hN) (by decide))) (by (clear e1; refine Nat.lt_of_not_le fun h => ?_; lia)) hm20 (by (exact Nat.lt_trans hm2 (by decide))) hm30 hm3 hg23 fun _ _ _ => ?_
    (repeat simp only [↓vC, ↓vD])
    refine law_turn h36 h39 h40 hw (by (exact Nat.lt_trans (Nat.lt_trans ex hN) (by decide))) (by (clear e1; refine Nat.lt_of_not_le fun h => ?_; lia)) h23p h23 hm10 hm1 (Nat.Coprime.mul_left (sg hg) (sg hg13)) fun _ _ _ => ?_
    (repeat simp only [])
    rw [show m2 * m3 * m1 = m1 * m2 * m3 by rw [Nat.mul_comm, Nat.mul_assoc]]
    exact law_tail3 h14 h39 h40 hw (by (exact Nat.lt_trans (Nat.lt_trans ex hN) (by decide))) hm10 hm1 hm20 hm2 hm30 hm3 hg hg13 hg23 hq
  · (repeat (first | simp only [↓Ye, ↓My, ↓Ka, ↓Mj, ↓Yg, ↓vA, ↓vB] | (with_reducible show wSs _ c_law_5 _ _ _; unfold c_law_5)))
    show wFor _ [.int ((m3 : Nat) : Int), .int ((m1 : Nat) : Int), .int ((m2 : Nat) : Int)] _ _
    (repeat simp only [↓vC, ↓vD, ↓Zp, ↓Zq, ↓Zm])
    refine law_turn h36 h39 h40 (s := 1) hw (by (exact Nat.lt_trans (Nat.lt_trans ex hN) (by decide))) (by (clear e1; refine Nat.lt_of_not_le fun h => ?_; lia)) (by decide) (by decide) hm30 hm3 (Nat.gcd_one_left _) fun _ _ _ => ?_
    (repeat simp only [↓vC, ↓vD, Nat.one_mul])
    refine law_turn h36 h39 h40 hw (by (exact Nat.lt_trans (Nat.lt_trans ex hN) (by decide))) (by (clear e1; refine Nat.lt_of_not_le fun h => ?_; lia)) hm30 (by (exact Nat.lt_trans hm3 (by decide))) hm10 hm1 (sg hg13) fun _ _ _ => ?_
    (repeat simp only [↓vC, ↓vD])
    refine law_turn h36 h39 h40 hw (by (exact Nat.lt_trans (Nat.lt_trans ex hN) (by decide))) (by (clear e1; refine Nat.lt_of_not_le fun h => ?_; lia)) h31p h31 hm20 hm2 (Nat.Coprime.mul_left (sg hg23) hg) fun _ _ _ => ?_
    (repeat simp only [])
    rw [show m3 * m1 * m2 = m1 * m2 * m3 by rw [Nat.mul_assoc, Nat.mul_comm]]
    exact law_tail3 h14 h39 h40 hw (by (exact Nat.lt_trans (Nat.lt_trans ex hN) (by decide))) hm10 hm1 hm20 hm2 hm30 hm3 hg hg13 hg23 hq
end LM

namespace LM

/-- one turn of law's loop that draws the moduli. -/
theorem law_draw {T : Nat → Option LM.Spec} (h34 : T 34 = some spSpooled) (h37 : T 37 = some spCommon) {t k : Nat} {ns : List Int} {ms : List D} (ht0 : 0 < t) (ht : t < 2 ^ 12) (hk : k < 2 ^ 30) (hns : ns.length ≤ 1000) (hms : ms.length ≤ 10)
    {q0 q2 q5 q6 q7 q8 q9 q10 q11 q12 q13 q14 q15 q16 : Option Rv} {Q : Out → Fs → Prop} {X : Prop}
    (hq : ∀ m : Nat, 0 < m → m < 2 ^ 6 → Nat.gcd t m = 1 → Q .next ⟨[q0, some (.c 0), q2, some (.c 1), some (.d (.int ((t * m : Nat) : Int))), q5, some (.d (.int ((m : Nat) : Int))), q7, q8, q9, q10, q11, q12, q13, q14, q15, q16], [some (reel (k + 1) ns), some (ms ++ [.int ((m : Nat) : Int)])]⟩) :
    wSs T b_law_0 ⟨[q0, some (.c 0), q2, some (.c 1), some (.d (.int ((t : Nat) : Int))), q5, q6, q7, q8, q9, q10, q11, q12, q13, q14, q15, q16], [some (reel k ns), some ms]⟩ Q X := by
  (refine use_of h34 ?_)
  refine ⟨24, k, ns, by decide, by (exact Nat.lt_trans hk (by decide)), hns, rfl, rfl, fun r hr => ?_⟩
  have e2 : (2 : Int) + (r : Int) = ((2 + r : Nat) : Int) := by push_cast; rfl
  refine ⟨fun n Γ => 0 < n ∧ n < 2 ^ 6 ∧ Γ = ⟨[q0, some (.c 0), q2, some (.c 1), some (.d (.int ((t : Nat) : Int))), q5, some (.d (.int ((n : Nat) : Int))), q7, q8, q9, q10, q11, q12, q13, q14, q15, q16], [some (reel (k + 1) ns), some ms]⟩, ⟨2 + r, by (clear e2; lia), by (clear e2; refine Nat.lt_of_not_le fun h => ?_; lia), rfl⟩, ?_⟩
  rintro n Γ ⟨hn0, hn, rfl⟩
  (refine use_of h37 ?_)
  refine ⟨rfl, n, t, rfl, ?_⟩
  refine vP ?_
  by_cases hgt : 1 < Nat.gcd n t
  · rw [if_pos (by (exact Int.ofNat_lt.mpr hgt))]
    (refine use_of h37 ?_)
    refine ⟨rfl, n, t, rfl, ?_⟩
    have hle : Nat.gcd n t ≤ n := Nat.gcd_le_left _ hn0
    (repeat simp only [↓Yd, ↓Yh, ↓Zf, Fs.put, ↓vC, ↓vD, fdiv_nat])
    repeat ((with_reducible apply And.intro); · ((repeat' (with_reducible apply And.intro)) <;> first | (first | exact Int.ne_of_gt (Int.ofNat_lt.mpr (Nat.lt_trans (by decide) hgt)) | (clear hgt; refine Nat.lt_of_not_le fun h => ?_; lia) | lia | omega) | (unfold small; (first | lia | omega)) | (have := hw.2; (first | lia | omega)) | decide | trivial | (simp; (first | lia | omega))))
    refine ⟨n / Nat.gcd n t, Nat.div_lt_self hn0 hgt, Nat.div_pos hle (by (exact Nat.lt_trans (by decide) hgt)), Nat.lt_of_le_of_lt (Nat.div_le_self _ _) hn, rfl⟩
  · rw [if_neg (by (exact Int.not_lt.mpr (Int.ofNat_le.mpr (Nat.le_of_not_lt hgt))))]
    unfold r_law_1
    (repeat simp only [↓Yd, ↓Ye, ↓Mp, ↓Mu, ↓Ka, ↓Kg, ↓Yg, ↓Yh, ↓Ze, Fs.put, Fs.setσ, ↓vA, ↓vB, ↓vC, ↓vD, ↓vR, vS, true_and, natmul])
    repeat ((with_reducible apply And.intro); · ((repeat' (with_reducible apply And.intro)) <;> first | (first | exact Nat.lt_of_le_of_lt hms (by decide) | (clear ht0; refine Nat.lt_of_not_le fun h => ?_; lia) | (clear hn0; refine Nat.lt_of_not_le fun h => ?_; lia) | lia | omega) | (unfold small; (first | lia | omega)) | (have := hw.2; (first | lia | omega)) | decide | trivial | (simp; (first | lia | omega))))
    have hg0 : 0 < Nat.gcd n t := Nat.gcd_pos_of_pos_left _ hn0
    exact hq n hn0 hn (by rw [Nat.gcd_comm]; lia)

theorem pick_12 {ns : List Int} : pick (ns.map D.int) none (some 12) none = (ns.take 12).map D.int := by
  by_cases h : 12 ≤ ns.length
  · have := pick_to (l := ns.map D.int) (b := 12) (by simpa using h)
    rw [List.map_take]
    exact this
  · have e : sliceBounds none (some 12) none (ns.map D.int).length = (((0 : Nat) : Int), ((ns.length : Nat) : Int), 1) := by
      unfold sliceBounds
      simp only [Option.getD_none, show (1 : Int) > 0 by decide, if_true, List.length_map]
      rw [if_neg (by decide)]
      congr 2; lia
    unfold pick
    rw [e]
    show (sliceRange ((0 : Nat) : Int) ((ns.length : Nat) : Int) 1).filterMap _ = _
    rw [sliceRange_one (Nat.zero_le _), range_pick _ _ _ (by simp)]
    rw [List.take_of_length_le (show ns.length ≤ 12 by (exact Nat.le_of_lt (Nat.lt_of_not_le h))), List.drop_zero, List.take_of_length_le (by simp)]

/-- law, of a list of ints. -/
inductive spLaw (ds : List D) (c : Option (List D)) (post : Option D → Option (List D) → Prop) : Prop
  | mk : (c = none) → ∀ ns : List Int, (ns.length ≤ 1000) → (ds = [.list (ns.map .int)]) → (post (some (.bool true)) none) → spLaw ds c post
theorem hsp_law {T : Nat → Option LM.Spec} (h14 : T 14 = some spChinese) (h34 : T 34 = some spSpooled) (h36 : T 36 = some spNumber) (h37 : T 37 = some spCommon) (h39 : T 39 = some spLawTwo) (h40 : T 40 = some spPair) :
    ∀ ds c post, spLaw ds c post → ds.length + (match c with | none => 0 | some _ => 1) = a_law ∧ wSs T p_law (entryΓ v_law.length ds c) (bodyQ c post) (c = none ∧ ∃ c', post none c') := by
  rintro ds c post ⟨rfl, ns0, hns0, rfl, hp⟩
  refine ⟨rfl, ?_⟩
  show wSs T p_law ⟨[some (.d (.list (ns0.map .int))), none, none, none, none, none, none, none, none, none, none, none, none, none, none, none, none], []⟩ _ _
  unfold p_law
  (repeat simp only [↓Ye, ↓Mp, ↓Mq, ↓Ka, ↓Kc, ↓Kf, ↓Kg, ↓Kq, ↓Kr, ↓Kx, ↓Kz, ↓Mc, ↓Mg, ↓Mh, ↓Mi, ↓Mj, ↓Yg, ↓Yh, ↓Yj, ↓Yo, ↓Yp, ↓Yq, ↓Yr, Fs.put, Fs.puts, Fs.setσ, Fs.own, ↓vA, ↓vB, ↓vC, ↓vD, ↓vG, ↓vH, ↓vI, ↓vJ])
  repeat ((with_reducible apply And.intro); · ((repeat' (with_reducible apply And.intro)) <;> first | decide | (unfold small; (first | lia | omega)) | (have := hw.2; (first | lia | omega)) | decide | trivial | (simp; (exact Nat.le_of_lt (Nat.lt_of_le_of_lt hns0 (by decide))))))
  rw [pick_12]
  refine ⟨by simp; lia, ?_⟩
  refine wComp_gen (fun i => .int (if (ns0.take 12).getD i 0 < 0 then -(ns0.take 12).getD i 0 else (ns0.take 12).getD i 0)) (fun i d hd kk hkk => ?_) ?_
  · have hi := (List.getElem?_eq_some_iff.mp hd).1
    simp only [List.length_map] at hi
    rw [List.getElem?_map, List.getElem?_eq_getElem hi] at hd
    cases hd
    rw [List.getD_eq_getElem?_getD, List.getElem?_eq_getElem hi] at hkk
    exact hkk
  obtain ⟨ns, hns, hl⟩ : ∃ ns : List Int, (List.range ((ns0.take 12).map D.int).length).map (fun i => D.int (if (ns0.take 12).getD i 0 < 0 then -(ns0.take 12).getD i 0 else (ns0.take 12).getD i 0)) = ns.map .int ∧ ns.length ≤ 1000 :=
    ⟨(List.range ((ns0.take 12).map D.int).length).map (fun i => if (ns0.take 12).getD i 0 < 0 then -(ns0.take 12).getD i 0 else (ns0.take 12).getD i 0), by rw [List.map_map]; rfl, by simp; lia⟩
  rw [hns]
  (first | (skip))
  repeat ((with_reducible apply And.intro); · ((repeat' (with_reducible apply And.intro)) <;> first | decide | (unfold small; (first | lia | omega)) | (have := hw.2; (first | lia | omega)) | decide | trivial | (simp; (first | lia | omega)))); (first | refine use_of h34 ?_ | skip)
  refine ⟨4, 0, ns, by decide, by decide, hl, rfl, rfl, fun r hr => ?_⟩
  have e5 : (5 : Int) + (r : Int) = ((5 + r : Nat) : Int) := by push_cast; rfl
  (repeat (first | simp only [↓Ye, ↓My, ↓Kc, ↓Kg, ↓Kx, ↓Mh, ↓Mi, ↓Mm, ↓Yq, ↓Yr, ↓Zb, Fs.setσ, bodyQ, bodyR, ↓vA, ↓vB, ↓vC, true_and, Nat.zero_le, e5] | (with_reducible show wSs _ c_law_8 _ _ _; unfold c_law_8))); (first | refine use_of h34 ?_ | skip)
  repeat ((with_reducible apply And.intro); · ((repeat' (with_reducible apply And.intro)) <;> first | (first | lia | omega) | (unfold small; (first | lia | omega)) | (have := hw.2; (first | lia | omega)) | decide | trivial | (simp; (first | lia | omega))))
  have hw : W (5 + r) := ⟨by (exact Nat.le_add_right _ _), by (clear e5; refine Nat.le_of_not_lt fun h => ?_; lia)⟩
  have hQ : ∀ Γ, bodyQ none post (.ret (.bool true)) Γ := fun Γ => hp
  refine ⟨2, 0 + 1, ns, by decide, by decide, hl, rfl, rfl, fun r2 hr2 => ?_⟩
  have hr3 : r2 = 0 ∨ r2 = 1 := by lia
  have one1 : (.int 1 : D) = .int ((1 : Nat) : Int) := rfl
  rcases hr3 with rfl | rfl
  · have er : rangeD 0 1 ((2 : Int) + ((0 : Nat) : Int)).toNat = [.int 0, .int 1] := rfl
    (repeat simp only [↓Yh, ↓Zb, ↓vC, ↓vD, er, ↓Zp, ↓Zq, ↓Zm])
    refine ⟨by unfold small; decide, ?_⟩
    rw [one1]
    refine law_draw h34 h37 (t := 1) (by decide) (by decide) (by decide) hl (by simp) fun m1 hm10 hm1 _ => ?_
    (repeat simp only [↓vC, ↓vD, ↓vH, Nat.one_mul])
    refine law_draw h34 h37 hm10 (by (exact Nat.lt_trans hm1 (by decide))) (by decide) hl (by simp) fun m2 hm20 hm2 hg => ?_
    exact law_rest2 h14 h34 h36 h39 h40 hw (by decide) hl hm10 hm1 hm20 hm2 hg hQ
  · have er : rangeD 0 1 ((2 : Int) + ((1 : Nat) : Int)).toNat = [.int 0, .int 1, .int 2] := rfl
    (repeat simp only [↓Yh, ↓Zb, ↓vC, ↓vD, er, ↓Zp, ↓Zq, ↓Zm])
    refine ⟨by unfold small; decide, ?_⟩
    rw [one1]
    refine law_draw h34 h37 (t := 1) (by decide) (by decide) (by decide) hl (by simp) fun m1 hm10 hm1 _ => ?_
    (repeat simp only [↓vC, ↓vD, ↓vH, Nat.one_mul])
    refine law_draw h34 h37 hm10 (by (exact Nat.lt_trans hm1 (by decide))) (by decide) hl (by simp) fun m2 hm20 hm2 hg => ?_
    have h12 : m1 * m2 < 2 ^ 12 := mulb (p := 6) (q := 6) hm1 hm2
    refine law_draw h34 h37 (Nat.mul_pos hm10 hm20) h12 (by decide) hl (by simp) fun m3 hm30 hm3 hg3 => ?_
    have hg13 : Nat.gcd m1 m3 = 1 := Nat.Coprime.coprime_dvd_left (Nat.dvd_mul_right m1 m2) hg3
    have hg23 : Nat.gcd m2 m3 = 1 := Nat.Coprime.coprime_dvd_left (Nat.dvd_mul_left m2 m1) hg3
    exact law_rest3 h14 h34 h36 h39 h40 hw (by decide) hl hm10 hm1 hm20 hm2 hm30 hm3 hg hg13 hg23 hQ
end LM

namespace LM

/-- a table of specs. -/
noncomputable def tabOf (l : List (Nat × LM.Spec)) : Nat → Option LM.Spec := fun f => (l.find? (fun x => x.1 == f)).map (·.2)

theorem tab_nil {G : Gl} {n : Nat} : ∀ x ∈ ([] : List (Nat × LM.Spec)), ∃ m, m ≤ n ∧ Contract G m x.1 x.2 := fun _ h => nomatch h
theorem tab_cons {G : Gl} {n m g : Nat} {sp : LM.Spec} {l : List (Nat × LM.Spec)} (c : Contract G m g sp) (hm : m ≤ n) (r : ∀ x ∈ l, ∃ m, m ≤ n ∧ Contract G m x.1 x.2) :
    ∀ x ∈ (g, sp) :: l, ∃ m, m ≤ n ∧ Contract G m x.1 x.2 := by
  intro x hx
  rcases List.mem_cons.mp hx with rfl | hx
  · exact ⟨m, hm, c⟩
  · exact r x hx
theorem tab_ok {G : Gl} {n : Nat} {l : List (Nat × LM.Spec)} (h : ∀ x ∈ l, ∃ m, m ≤ n ∧ Contract G m x.1 x.2) : ∀ g sp', tabOf l g = some sp' → ∃ m, m ≤ n ∧ Contract G m g sp' := by
  intro g sp' e
  obtain ⟨x, hx, rfl⟩ := Option.map_eq_some_iff.mp e
  have hg : x.1 = g := beq_iff_eq.mp (List.find?_some (p := fun x : Nat × LM.Spec => x.1 == g) hx)
  subst hg
  exact h x (List.mem_of_find?_eq_some hx)

theorem con1 {G : Gl} (gk : GlOk G) (hlim : G.hT.NoLimit) (hfns : G.fns = names) {ds : List DefRec} (hd : ∀ d ∈ ds, DefIn G.mg G.hT d) {n f : Nat} {x : Str} {v : List Str} {p : PSs} {k : Nat} {sp : LM.Spec} {l : List (Nat × LM.Spec)}
    (hok : (ds[f]?).any (fun d => okFn d x v p k) = true) (hx : names[f]? = some x) (hl : ∀ x ∈ l, ∃ m, m ≤ n ∧ Contract G m x.1 x.2)
    (hsp : ∀ ds c post, sp ds c post → ds.length + (match c with | none => 0 | some _ => 1) = k ∧ wSs (tabOf l) p (entryΓ v.length ds c) (bodyQ c post) (c = none ∧ ∃ c', post none c')) : Contract G (n + 1) f sp := by
  cases hd' : ds[f]? with
  | none => rw [hd'] at hok; cases hok
  | some d =>
    rw [hd'] at hok
    exact contract_fn gk hlim hfns hx (hd d (List.mem_of_getElem? hd')) hok (tab_ok hl) hsp

/-- the checks of all defs. -/
structure AllOk (ds : List DefRec) : Prop where
  k0 : (ds[0]?).any (fun d => okFn d "normal" v_normal p_normal a_normal) = true
  k1 : (ds[1]?).any (fun d => okFn d "compare" v_compare p_compare a_compare) = true
  k2 : (ds[2]?).any (fun d => okFn d "add" v_add p_add a_add) = true
  k3 : (ds[3]?).any (fun d => okFn d "sub" v_sub p_sub a_sub) = true
  k4 : (ds[4]?).any (fun d => okFn d "add_limb" v_add_limb p_add_limb a_add_limb) = true
  k5 : (ds[5]?).any (fun d => okFn d "divrem_limb" v_divrem_limb p_divrem_limb a_divrem_limb) = true
  k6 : (ds[6]?).any (fun d => okFn d "shift_left" v_shift_left p_shift_left a_shift_left) = true
  k7 : (ds[7]?).any (fun d => okFn d "shift_right" v_shift_right p_shift_right a_shift_right) = true
  k8 : (ds[8]?).any (fun d => okFn d "bits" v_bits p_bits a_bits) = true
  k9 : (ds[9]?).any (fun d => okFn d "level_above" v_level_above p_level_above a_level_above) = true
  k10 : (ds[10]?).any (fun d => okFn d "product_tree" v_product_tree p_product_tree a_product_tree) = true
  k11 : (ds[11]?).any (fun d => okFn d "remainder_tree" v_remainder_tree p_remainder_tree a_remainder_tree) = true
  k12 : (ds[12]?).any (fun d => okFn d "crossed_above" v_crossed_above p_crossed_above a_crossed_above) = true
  k13 : (ds[13]?).any (fun d => okFn d "crossed" v_crossed p_crossed a_crossed) = true
  k14 : (ds[14]?).any (fun d => okFn d "chinese" v_chinese p_chinese a_chinese) = true
  k15 : (ds[15]?).any (fun d => okFn d "chinese_two" v_chinese_two p_chinese_two a_chinese_two) = true
  k16 : (ds[16]?).any (fun d => okFn d "signed" v_signed p_signed a_signed) = true
  k17 : (ds[17]?).any (fun d => okFn d "s_neg" v_s_neg p_s_neg a_s_neg) = true
  k18 : (ds[18]?).any (fun d => okFn d "s_abs" v_s_abs p_s_abs a_s_abs) = true
  k19 : (ds[19]?).any (fun d => okFn d "s_add" v_s_add p_s_add a_s_add) = true
  k20 : (ds[20]?).any (fun d => okFn d "s_sub" v_s_sub p_s_sub a_s_sub) = true
  k21 : (ds[21]?).any (fun d => okFn d "s_mul" v_s_mul p_s_mul a_s_mul) = true
  k22 : (ds[22]?).any (fun d => okFn d "tdiv" v_tdiv p_tdiv a_tdiv) = true
  k23 : (ds[23]?).any (fun d => okFn d "fdiv" v_fdiv p_fdiv a_fdiv) = true
  k24 : (ds[24]?).any (fun d => okFn d "s_mod" v_s_mod p_s_mod a_s_mod) = true
  k25 : (ds[25]?).any (fun d => okFn d "gcd_ext" v_gcd_ext p_gcd_ext a_gcd_ext) = true
  k26 : (ds[26]?).any (fun d => okFn d "inverse_mod" v_inverse_mod p_inverse_mod a_inverse_mod) = true
  k27 : (ds[27]?).any (fun d => okFn d "mul_school" v_mul_school p_mul_school a_mul_school) = true
  k28 : (ds[28]?).any (fun d => okFn d "divrem_small" v_divrem_small p_divrem_small a_divrem_small) = true
  k29 : (ds[29]?).any (fun d => okFn d "guessed_limb" v_guessed_limb p_guessed_limb a_guessed_limb) = true
  k30 : (ds[30]?).any (fun d => okFn d "take_away" v_take_away p_take_away a_take_away) = true
  k31 : (ds[31]?).any (fun d => okFn d "put_back" v_put_back p_put_back a_put_back) = true
  k32 : (ds[32]?).any (fun d => okFn d "divide_rows" v_divide_rows p_divide_rows a_divide_rows) = true
  k33 : (ds[33]?).any (fun d => okFn d "divrem_school" v_divrem_school p_divrem_school a_divrem_school) = true
  k34 : (ds[34]?).any (fun d => okFn d "_law_spooled" v_law_spooled p_law_spooled a_law_spooled) = true
  k35 : (ds[35]?).any (fun d => okFn d "_law_limbs" v_law_limbs p_law_limbs a_law_limbs) = true
  k36 : (ds[36]?).any (fun d => okFn d "_law_number" v_law_number p_law_number a_law_number) = true
  k37 : (ds[37]?).any (fun d => okFn d "_law_common" v_law_common p_law_common a_law_common) = true
  k38 : (ds[38]?).any (fun d => okFn d "_law_undone" v_law_undone p_law_undone a_law_undone) = true
  k39 : (ds[39]?).any (fun d => okFn d "_law_two" v_law_two p_law_two a_law_two) = true
  k40 : (ds[40]?).any (fun d => okFn d "_law_pair" v_law_pair p_law_pair a_law_pair) = true
  k41 : (ds[41]?).any (fun d => okFn d "law" v_law p_law a_law) = true

theorem law_contract {G : Gl} (gk : GlOk G) (hlim : G.hT.NoLimit) (hfns : G.fns = names) {ds : List DefRec} (hd : ∀ d ∈ ds, DefIn G.mg G.hT d) (K : AllOk ds) : Contract G 13 41 spLaw := by
  have c0 : Contract G 1 0 spNormal := con1 gk hlim hfns hd (n := 0) (l := []) K.k0 rfl (tab_nil) (hsp_normal)
  have c1 : Contract G 1 1 spCompare := con1 gk hlim hfns hd (n := 0) (l := []) K.k1 rfl (tab_nil) (hsp_compare)
  have c2 : Contract G 1 2 spAdd := con1 gk hlim hfns hd (n := 0) (l := []) K.k2 rfl (tab_nil) (hsp_add)
  have c4 : Contract G 1 4 spAddLimb := con1 gk hlim hfns hd (n := 0) (l := []) K.k4 rfl (tab_nil) (hsp_add_limb)
  have c6 : Contract G 1 6 spShl := con1 gk hlim hfns hd (n := 0) (l := []) K.k6 rfl (tab_nil) (hsp_shift_left)
  have c8 : Contract G 1 8 spBits := con1 gk hlim hfns hd (n := 0) (l := []) K.k8 rfl (tab_nil) (hsp_bits)
  have c16 : Contract G 1 16 spSigned := con1 gk hlim hfns hd (n := 0) (l := []) K.k16 rfl (tab_nil) (hsp_signed)
  have c18 : Contract G 1 18 spAbs := con1 gk hlim hfns hd (n := 0) (l := []) K.k18 rfl (tab_nil) (hsp_s_abs)
  have c29 : Contract G 1 29 spGuess := con1 gk hlim hfns hd (n := 0) (l := []) K.k29 rfl (tab_nil) (hsp_guessed_limb)
  have c30 : Contract G 1 30 spTake := con1 gk hlim hfns hd (n := 0) (l := []) K.k30 rfl (tab_nil) (hsp_take_away)
  have c31 : Contract G 1 31 spPut := con1 gk hlim hfns hd (n := 0) (l := []) K.k31 rfl (tab_nil) (hsp_put_back)
  have c34 : Contract G 1 34 spSpooled := con1 gk hlim hfns hd (n := 0) (l := []) K.k34 rfl (tab_nil) (hsp_law_spooled)
  have c35 : Contract G 1 35 spLimbs := con1 gk hlim hfns hd (n := 0) (l := []) K.k35 rfl (tab_nil) (hsp_law_limbs)
  have c36 : Contract G 1 36 spNumber := con1 gk hlim hfns hd (n := 0) (l := []) K.k36 rfl (tab_nil) (hsp_law_number)
  have c37 : Contract G 1 37 spCommon := con1 gk hlim hfns hd (n := 0) (l := []) K.k37 rfl (tab_nil) (hsp_law_common)
  have c3 : Contract G 2 3 spSub := con1 gk hlim hfns hd (n := 1) (l := [(0, spNormal), (1, spCompare)]) K.k3 rfl (tab_cons c0 (by decide) (tab_cons c1 (by decide) tab_nil)) (hsp_sub rfl rfl)
  have c5 : Contract G 2 5 spDivLimb := con1 gk hlim hfns hd (n := 1) (l := [(0, spNormal)]) K.k5 rfl (tab_cons c0 (by decide) tab_nil) (hsp_divrem_limb rfl)
  have c7 : Contract G 2 7 spShr := con1 gk hlim hfns hd (n := 1) (l := [(0, spNormal)]) K.k7 rfl (tab_cons c0 (by decide) tab_nil) (hsp_shift_right rfl)
  have c17 : Contract G 2 17 spNeg := con1 gk hlim hfns hd (n := 1) (l := [(16, spSigned)]) K.k17 rfl (tab_cons c16 (by decide) tab_nil) (hsp_s_neg rfl)
  have c27 : Contract G 2 27 spMul := con1 gk hlim hfns hd (n := 1) (l := [(0, spNormal)]) K.k27 rfl (tab_cons c0 (by decide) tab_nil) (hsp_mul_school rfl)
  have c32 : Contract G 2 32 spRows := con1 gk hlim hfns hd (n := 1) (l := [(29, spGuess), (30, spTake), (31, spPut)]) K.k32 rfl (tab_cons c29 (by decide) (tab_cons c30 (by decide) (tab_cons c31 (by decide) tab_nil))) (hsp_divide_rows rfl rfl rfl)
  have c40 : Contract G 2 40 spPair := con1 gk hlim hfns hd (n := 1) (l := [(35, spLimbs)]) K.k40 rfl (tab_cons c35 (by decide) tab_nil) (hsp_law_pair rfl)
  have c9 : Contract G 3 9 spLevel := con1 gk hlim hfns hd (n := 2) (l := [(27, spMul)]) K.k9 rfl (tab_cons c27 (by decide) tab_nil) (hsp_level_above rfl)
  have c12 : Contract G 3 12 spCrossA := con1 gk hlim hfns hd (n := 2) (l := [(2, spAdd), (27, spMul)]) K.k12 rfl (tab_cons c2 (by decide) (tab_cons c27 (by decide) tab_nil)) (hsp_crossed_above rfl rfl)
  have c19 : Contract G 3 19 spSAdd := con1 gk hlim hfns hd (n := 2) (l := [(1, spCompare), (2, spAdd), (3, spSub), (16, spSigned)]) K.k19 rfl (tab_cons c1 (by decide) (tab_cons c2 (by decide) (tab_cons c3 (by decide) (tab_cons c16 (by decide) tab_nil)))) (hsp_s_add rfl rfl rfl rfl)
  have c21 : Contract G 3 21 spSMul := con1 gk hlim hfns hd (n := 2) (l := [(16, spSigned), (27, spMul)]) K.k21 rfl (tab_cons c16 (by decide) (tab_cons c27 (by decide) tab_nil)) (hsp_s_mul rfl rfl)
  have c28 : Contract G 3 28 spDivSmall := con1 gk hlim hfns hd (n := 2) (l := [(5, spDivLimb)]) K.k28 rfl (tab_cons c5 (by decide) tab_nil) (hsp_divrem_small rfl)
  have c10 : Contract G 4 10 spTree := con1 gk hlim hfns hd (n := 3) (l := [(9, spLevel)]) K.k10 rfl (tab_cons c9 (by decide) tab_nil) (hsp_product_tree rfl)
  have c13 : Contract G 4 13 spCross := con1 gk hlim hfns hd (n := 3) (l := [(12, spCrossA)]) K.k13 rfl (tab_cons c12 (by decide) tab_nil) (hsp_crossed rfl)
  have c20 : Contract G 4 20 spSSub := con1 gk hlim hfns hd (n := 3) (l := [(17, spNeg), (19, spSAdd)]) K.k20 rfl (tab_cons c17 (by decide) (tab_cons c19 (by decide) tab_nil)) (hsp_s_sub rfl rfl)
  have c33 : Contract G 4 33 spDiv := con1 gk hlim hfns hd (n := 3) (l := [(0, spNormal), (1, spCompare), (6, spShl), (7, spShr), (8, spBits), (28, spDivSmall), (32, spRows)]) K.k33 rfl (tab_cons c0 (by decide) (tab_cons c1 (by decide) (tab_cons c6 (by decide) (tab_cons c7 (by decide) (tab_cons c8 (by decide) (tab_cons c28 (by decide) (tab_cons c32 (by decide) tab_nil))))))) (hsp_divrem_school rfl rfl rfl rfl rfl rfl rfl)
  have c11 : Contract G 5 11 spRem := con1 gk hlim hfns hd (n := 4) (l := [(33, spDiv)]) K.k11 rfl (tab_cons c33 (by decide) tab_nil) (hsp_remainder_tree rfl)
  have c22 : Contract G 5 22 spTdiv := con1 gk hlim hfns hd (n := 4) (l := [(16, spSigned), (33, spDiv)]) K.k22 rfl (tab_cons c16 (by decide) (tab_cons c33 (by decide) tab_nil)) (hsp_tdiv rfl rfl)
  have c25 : Contract G 5 25 spGcd := con1 gk hlim hfns hd (n := 4) (l := [(16, spSigned), (20, spSSub), (21, spSMul), (33, spDiv)]) K.k25 rfl (tab_cons c16 (by decide) (tab_cons c20 (by decide) (tab_cons c21 (by decide) (tab_cons c33 (by decide) tab_nil)))) (hsp_gcd_ext rfl rfl rfl rfl)
  have c23 : Contract G 6 23 spFdiv := con1 gk hlim hfns hd (n := 5) (l := [(4, spAddLimb), (19, spSAdd), (22, spTdiv)]) K.k23 rfl (tab_cons c4 (by decide) (tab_cons c19 (by decide) (tab_cons c22 (by decide) tab_nil))) (hsp_fdiv rfl rfl rfl)
  have c24 : Contract G 7 24 spSMod := con1 gk hlim hfns hd (n := 6) (l := [(18, spAbs), (23, spFdiv)]) K.k24 rfl (tab_cons c18 (by decide) (tab_cons c23 (by decide) tab_nil)) (hsp_s_mod rfl rfl)
  have c26 : Contract G 8 26 spInv := con1 gk hlim hfns hd (n := 7) (l := [(1, spCompare), (16, spSigned), (24, spSMod), (25, spGcd), (33, spDiv)]) K.k26 rfl (tab_cons c1 (by decide) (tab_cons c16 (by decide) (tab_cons c24 (by decide) (tab_cons c25 (by decide) (tab_cons c33 (by decide) tab_nil))))) (hsp_inverse_mod rfl rfl rfl rfl rfl)
  have c38 : Contract G 9 38 spUndone := con1 gk hlim hfns hd (n := 8) (l := [(26, spInv)]) K.k38 rfl (tab_cons c26 (by decide) tab_nil) (hsp_law_undone rfl)
  have c14 : Contract G 10 14 spChinese := con1 gk hlim hfns hd (n := 9) (l := [(1, spCompare), (10, spTree), (11, spRem), (13, spCross), (27, spMul), (33, spDiv), (38, spUndone)]) K.k14 rfl (tab_cons c1 (by decide) (tab_cons c10 (by decide) (tab_cons c11 (by decide) (tab_cons c13 (by decide) (tab_cons c27 (by decide) (tab_cons c33 (by decide) (tab_cons c38 (by decide) tab_nil))))))) (hsp_chinese rfl rfl rfl rfl rfl rfl rfl)
  have c15 : Contract G 11 15 spTwo := con1 gk hlim hfns hd (n := 10) (l := [(14, spChinese)]) K.k15 rfl (tab_cons c14 (by decide) tab_nil) (hsp_chinese_two rfl)
  have c39 : Contract G 12 39 spLawTwo := con1 gk hlim hfns hd (n := 11) (l := [(15, spTwo)]) K.k39 rfl (tab_cons c15 (by decide) tab_nil) (hsp_law_two rfl)
  have c41 : Contract G 13 41 spLaw := con1 gk hlim hfns hd (n := 12) (l := [(14, spChinese), (34, spSpooled), (36, spNumber), (37, spCommon), (39, spLawTwo), (40, spPair)]) K.k41 rfl (tab_cons c14 (by decide) (tab_cons c34 (by decide) (tab_cons c36 (by decide) (tab_cons c37 (by decide) (tab_cons c39 (by decide) (tab_cons c40 (by decide) tab_nil)))))) (hsp_law rfl rfl rfl rfl rfl rfl)
  exact c41
end LM

namespace LM

noncomputable def wanted : List String := ["len", "min", "abs", "sum", "any", "int", "enumerate", "zip", "range"]
/-- no global of the text hides a builtin that is used; all functions stand. -/
noncomputable def freeOk (q : Program) (loose : List Str) : Bool :=
  (wanted.all fun y => !(startupNames.contains (Str.ofString y)) && !(loose.contains (Str.ofString y)) && !(((recsOf q).map (·.name)).contains (Str.ofString y)) && !(((litsOf q).map (·.1)).contains (Str.ofString y)) && !(((clssOf q loose).map (·.name)).contains (Str.ofString y))) &&
  (names.all fun x => (recsOf q).any fun d => d.name == x)

noncomputable def glOf (prog : Program) (w : World) (mg mb : Str → Option Value) (h : Heap) (C : Addr) : Gl where
  prog := prog
  w := w
  fns := names
  fv := fun f => (mg (names.getD f "law")).getD .none
  mg := mg
  mb := mb
  hT := h
  exc := .ref C

theorem boot_fn : ∀ y : String, y ∈ ["len", "min", "abs", "sum", "any"] → bootBuiltins (Str.ofString y) = some (.builtin y) := by
  intro y hy
  simp only [List.mem_cons, List.not_mem_nil, or_false] at hy
  rcases hy with rfl | rfl | rfl | rfl | rfl <;> rfl
theorem boot_tp : ∀ y : String, y ∈ ["int", "enumerate", "zip", "range"] → bootBuiltins (Str.ofString y) = some (.type y) := by
  intro y hy
  simp only [List.mem_cons, List.not_mem_nil, or_false] at hy
  rcases hy with rfl | rfl | rfl | rfl <;> rfl
theorem not_name : ∀ y : String, y ∈ wanted → Str.ofString y ≠ "__name__" := by
  intro y hy
  unfold wanted at hy
  simp only [List.mem_cons, List.not_mem_nil, or_false] at hy
  rcases hy with rfl | rfl | rfl | rfl | rfl | rfl | rfl | rfl | rfl <;> decide

section
variable {q prog : Program} {loose : List Str} {mean : ExcName → Option Value} {w : World} {mg mb : Str → Option Value} {h : Heap}

theorem top_free (T : Top q loose mean mg mb h) (hf : freeOk q loose = true) {y : String} (hy : y ∈ wanted) : mg (Str.ofString y) = none := by
  unfold freeOk at hf
  have := List.all_eq_true.mp (Bool.and_eq_true_iff.mp hf).1 y hy
  simp only [Bool.and_eq_true, Bool.not_eq_true', List.contains_eq_mem, decide_eq_false_iff_not] at this
  obtain ⟨⟨⟨⟨h1, h2⟩, h3⟩, h4⟩, h5⟩ := this
  exact T.free _ h1 h2 h3 h4 h5

theorem top_def (T : Top q loose mean mg mb h) : ∀ d ∈ recsOf q, DefIn mg h d := fun d hd => T.fn d hd

theorem top_name (T : Top q loose mean mg mb h) (hf : freeOk q loose = true) {x : Str} (hx : x ∈ names) : ∃ a o fd, mg x = some (.ref a) ∧ h.get? a = some o ∧ o.data = .func fd := by
  unfold freeOk at hf
  obtain ⟨d, hd, e⟩ := List.any_eq_true.mp (List.all_eq_true.mp (Bool.and_eq_true_iff.mp hf).2 x hx)
  obtain ⟨a, o, pm, code, doc, h1, h2, h3, _⟩ := T.fn d hd
  rw [beq_iff_eq.mp e] at h1
  exact ⟨a, o, _, h1, h2, h3⟩

theorem glOf_ok (T : Top q loose mean mg mb h) (hf : freeOk q loose = true) (hs : specOf q (Str.ofString "NoInverse") = some ("Exception.__new__", [.type "Exception", .type "BaseException", .type "object"])) : ∃ C, GlOk (glOf prog w mg mb h C) := by
  obtain ⟨C, O, _⟩ := T.ownAt hs
  refine ⟨C, T.g, T.b, T.nolimit, fun f x hx => ?_, fun f => ?_, fun y hy => ?_, fun y hy => ?_, ⟨C, _, _, _, _, rfl, O, F.excBase_Exception⟩⟩
  · have hx : names[f]? = some x := hx
    obtain ⟨a, o, fd, h1, _⟩ := top_name T hf (List.mem_of_getElem? hx)
    show mg x = some ((mg (names.getD f "law")).getD .none)
    rw [List.getD_eq_getElem?_getD, hx, Option.getD_some, h1]
    rfl
  · have hm : names.getD f "law" ∈ names := by
      rw [List.getD_eq_getElem?_getD]
      cases e : names[f]? with
      | none => exact List.mem_of_getElem? (i := 41) rfl
      | some x => exact List.mem_of_getElem? e
    obtain ⟨a, o, fd, h1, h2, h3⟩ := top_name T hf hm
    exact ⟨a, o, fd, by show (mg (names.getD f "law")).getD .none = _; rw [h1]; rfl, h2, h3⟩
  · have hw : y ∈ wanted := List.mem_append.mpr (.inl hy : y ∈ ["len", "min", "abs", "sum", "any"] ∨ y ∈ ["int", "enumerate", "zip", "range"])
    exact ⟨top_free T hf hw, (T.builtins _ (not_name y hw)).trans (boot_fn y hy)⟩
  · have hw : y ∈ wanted := List.mem_append.mpr (.inr hy : y ∈ ["len", "min", "abs", "sum", "any"] ∨ y ∈ ["int", "enumerate", "zip", "range"])
    exact ⟨top_free T hf hw, (T.builtins _ (not_name y hw)).trans (boot_tp y hy)⟩

theorem tells_intsAre {fv : Nat → Value} {P : Part} : ∀ {vs : List Value} {ns : List Int}, IntsAre vs ns → TellsAll fv P vs (ns.map .int)
  | _, _, .nil => .nil
  | _, _, .cons _ _ r => .cons (.int _ _) (tells_intsAre r)

theorem law_call {s₁ : Shared} {fa la : Addr} {vs : List Value} {ns : List Int} {Q E : Value → Shared → Prop} (T : Top q loose mean mg mb s₁.heap) (K : AllOk (recsOf q)) (hf : freeOk q loose = true)
    (hs : specOf q (Str.ofString "NoInverse") = some ("Exception.__new__", [.type "Exception", .type "BaseException", .type "object"])) (hmg : mg (Str.ofString "law") = some (.ref fa))
    (hL : s₁.heap.IsList la vs.toArray) (hI : IntsAre vs ns) (hlen : ns.length ≤ 1000) (hQ : ∀ s', s'.gens = s₁.gens → s'.os = s₁.os → (∀ b o, s₁.heap.get? b = some o → s'.heap.get? b = some o) → Q (.bool true) s') :
    wpAny (model prog w) callerA (call (.ref fa) [.ref la]) Q E s₁ := by
  obtain ⟨C, gk⟩ := glOf_ok (prog := prog) (w := w) T hf hs
  have c := law_contract gk T.nolimit rfl (top_def T) K
  obtain ⟨o, ho, hc, n, hd⟩ := hL
  have hv : (glOf prog w mg mb s₁.heap C).fv 41 = .ref fa := by
    show (mg (Str.ofString "law")).getD .none = _
    rw [hmg]; rfl
  have P0 : ∀ b o', (Part.add (fun _ => none) la o) b = some o' → s₁.heap.get? b = some o' := fun b o' e => by
    unfold Part.add at e
    by_cases q : b = la
    · rw [if_pos q] at e; cases e; rw [q]; exact ho
    · rw [if_neg q] at e; cases e
  have h := c callerA [] s₁ (Part.add (fun _ => none) la o) [.list (ns.map .int)] [.ref la] [.ref la] none (fun r _ => r = some (.bool true)) Q E
    ⟨rfl, rfl, by decide, by decide, fun _ _ e => e, fun e he => nomatch he⟩ P0 (fun b hb => nomatch hb) (.one (.list Part.add_self hc hd (tells_intsAre hI))) rfl ⟨rfl, ns, hlen, rfl, rfl⟩
    (fun v d c' P' s' hp hr hk _ _ _ ht _ => by
      cases hp
      cases ht
      exact hQ s' hr.1 hr.2.2 fun b o e => (hk b o (by simp) e).1 (fun hb => nomatch hb))
    (fun e s' hp => by obtain ⟨_, hp⟩ := hp; cases hp)
  rw [hv] at h
  exact h
end

end LM

namespace LM
/-- the text's lines that bind a class or a def. -/
noncomputable def shown : Program := view PySem.Challenge.pw_sj0086_01 ((List.range 52).filter fun i => !([0, 14, 22, 32, 35, 43] : List Nat).contains i)
theorem left : LeftO PySem.Challenge.pw_sj0086_01 LM.shown [] (fun s => xlAt LM.shown [] s && recOk (RowW.records PySem.Challenge.rw_sj0086_01.row.toRowW) s) Hook.none.obs Hook.none.val 4642 := fun w => by
  first
    | (unfold openEnds fencedOpening topFrom
       rw [PySem.W.Fast.te14082659384304107361, PySem.W.Fast.te10274390034422433532, PySem.W.Fast.te4187177175401517315, PySem.W.Fast.te14364793385576792824]
       kernel_rfl)
    | kernel_rfl
theorem said : PySem.Challenge.rw_sj0086_01.wellSaid = true := by
  unfold OpenLaw.wellSaid
  (repeat' (with_reducible refine look_both ?_ ?_))
  all_goals try (unfold OpenRow.wellSaid)
  all_goals try (repeat' (with_reducible refine look_both ?_ ?_))
  all_goals try (unfold OpenRow.partSaid)
  all_goals try (unfold looksOpen)
  all_goals try (repeat' (with_reducible refine look_both ?_ ?_))
  all_goals try (unfold looksOpen)
  all_goals try (repeat' (with_reducible refine look_both ?_ ?_))
  all_goals decide +kernel
set_option maxHeartbeats 8000000 in
theorem checks : AllOk (recsOf shown) := by constructor <;> decide +kernel
end LM
set_option maxHeartbeats 8000000 in
theorem PySem.Challenge.cw_sj0086_01_holds : PySem.Challenge.rw_sj0086_01.Holds := by
  refine holds_law LM.said fun said => ?_
  refine holds_open (q := LM.shown) (loose := []) (XP := XL LM.shown []) (YP := Hook.none.says) LM.left (Hook.of Hook.none) (Hook.keeps Hook.none) (fun s e => xl_of s (Bool.and_eq_true_iff.mp e).1) XL.keeps (by rfl) (by rfl) (by rfl) (fun s e => recFacts_of (Bool.and_eq_true_iff.mp e).2) (by rfl) said (by decide +kernel) ⟨rfl, rfl, rfl, rfl, rfl, by decide +kernel⟩ ?hw ?hc
  case hw => w_witness2
  intro w s₀ s₁ mg mb G Y fa o pm cd doc dV kV ho hd hcd hD hmg hg args vals as hpre hlay hrd hwl hlo
  refine Ground.open G ?_
  intro T B D TE TW
  clear hd hD hcd B D TE TW Y
  wrow_args hpre hlay hrd hwl hlo
  rename_i hL ra w1 r0 hI hr hl hc
  refine LM.law_call T ?zk ?zf ?zs hmg hL hI ?zn fun s' hg' ho' hk => ?zq
  case zk => exact LM.checks
  case zf => decide +kernel
  case zs => rfl
  case zn => omega
  case zq =>
    refine ⟨.inl ⟨_, _, _, rfl, ?zr, .bool true, ?zp, ?zu⟩, .of_keep hk, ho', .of_eq (hg'.trans hg)⟩
    case zr => exact raisesW_false (by wrow_none_raised)
    case zp => exact postW_of (by wrow_shape) (by wtm_val) (by w_fin)
    case zu => exact fun _ => ⟨.nil, fun a h => nomatch h⟩
