import PyProof.Rows.All
import Wide.All
import Open.Line
import Open.FastU1
import Open.FastU2
import Open.FastU3
import Open.FastU4
import Open.FastU5
import Open.FastU6
import Open.FastU7
import Open.FastU8
import Open.FastU9
import Open.FastU10
import Open.FastU11
import Open.FastU12
import Wide.FinOn
import Lean
import PySem.Challenge.RW_nn0255_01

set_option Elab.async false
set_option linter.unusedVariables false
set_option maxRecDepth 100000

noncomputable section

namespace Mine
open PySem PySem.W PyProof.Rows PySem.Calls

theorem mHead {α : Type} {a : α} {l : List α} : a ∈ a :: l := List.Mem.head _
theorem mTail {α : Type} {a b : α} {l : List α} (h : a ∈ l) : a ∈ b :: l := List.Mem.tail _ h
/-- the frozen ghost heap -/
abbrev Gh := Addr → Option Obj
def Gh.le (G G' : Gh) : Prop := ∀ a o, G a = some o → G' a = some o
theorem Gh.le_refl (G : Gh) : G.le G := fun _ _ h => h
theorem Gh.le_trans {G G' G'' : Gh} (h : G.le G') (k : G'.le G'') : G.le G'' := fun a o e => k a o (h a o e)
def Gh.ins (G : Gh) (a : Addr) (o : Obj) : Gh := fun b => if b = a then some o else G b
theorem Gh.le_ins {G : Gh} {a : Addr} {o : Obj} (h : G a = none) : G.le (G.ins a o) := by
  intro b x e
  unfold Gh.ins
  by_cases hb : b = a
  · subst hb; rw [h] at e; cases e
  · rw [if_neg hb]; exact e
theorem Gh.ins_self {G : Gh} {a : Addr} {o : Obj} : G.ins a o a = some o := if_pos rfl

structure Fact where
  p : Gh → Prop
  mono : ∀ G G', G.le G' → p G → p G'
structure Chunk where
  c : Gh → Obj → Prop
  mono : ∀ G G' o, G.le G' → c G o → c G' o
abbrev Own := List (Addr × Chunk)

structure StG (B : Shared) (P : List Fact) (own : Own) (s : Shared) (G : Gh) : Prop where
  fr : ∀ a o, G a = some o → s.heap.get? a = some o
  ba : ∀ a o, B.heap.get? a = some o → G a = some o
  fa : ∀ f ∈ P, f.p G
  ow : ∀ x ∈ own, ∃ o, s.heap.get? x.1 = some o ∧ x.2.c G o
  nd : (own.map (·.1)).Nodup
  di : ∀ x ∈ own, G x.1 = none
  ge : s.gens = B.gens
  dr : s.drawn = B.drawn
  os : s.os = B.os
def St (B : Shared) (P : List Fact) (own : Own) (s : Shared) : Prop := ∃ G, StG B P own s G

inductive Pick {α : Type} : List α → α → List α → Prop
  | head {x r} : Pick (x :: r) x r
  | tail {x y r r'} : Pick r x r' → Pick (y :: r) x (y :: r')
theorem Pick.perm {α : Type} {l : List α} {x : α} {r : List α} (h : Pick l x r) : l.Perm (x :: r) := by
  induction h with
  | head => exact .refl _
  | tail _ ih => exact (ih.cons _).trans (.swap _ _ _)
theorem Pick.mem {α : Type} {l : List α} {x : α} {r : List α} (h : Pick l x r) : x ∈ l := h.perm.mem_iff.mpr (.head _)
theorem Pick.sub {α : Type} {l : List α} {x : α} {r : List α} (h : Pick l x r) : ∀ y ∈ r, y ∈ l := fun _ hy => h.perm.mem_iff.mpr (.tail _ hy)

variable {B : Shared} {P : List Fact} {own own₀ : Own} {s : Shared} {G : Gh}

theorem StG.perm {own' : Own} (h : StG B P own s G) (p : own.Perm own') : StG B P own' s G where
  fr := h.fr
  ba := h.ba
  fa := h.fa
  ow := fun x hx => h.ow x (p.mem_iff.mpr hx)
  nd := (p.map _).nodup_iff.mp h.nd
  di := fun x hx => h.di x (p.mem_iff.mpr hx)
  ge := h.ge
  dr := h.dr
  os := h.os

theorem StG.heap {h' : Heap} {tk : Nat} (h : StG B P own s G) (keep : ∀ a o, G a = some o → h'.get? a = some o) (ownk : ∀ x ∈ own, ∃ o, h'.get? x.1 = some o ∧ x.2.c G o) :
    StG B P own { s with heap := h', toks := tk } G where
  fr := keep
  ba := h.ba
  fa := h.fa
  ow := ownk
  nd := h.nd
  di := h.di
  ge := h.ge
  dr := h.dr
  os := h.os

theorem StG.ext {h' : Heap} {tk : Nat} (h : StG B P own s G) (k : ∀ a o, s.heap.get? a = some o → h'.get? a = some o) : StG B P own { s with heap := h', toks := tk } G :=
  h.heap (fun a o e => k a o (h.fr a o e)) fun x hx => let ⟨o, ho, hc⟩ := h.ow x hx; ⟨o, k _ _ ho, hc⟩

theorem StG.tok {tk : Nat} (h : StG B P own s G) : StG B P own { s with toks := tk } G := h.ext (h' := s.heap) fun _ _ e => e

theorem StG.upd {a : Addr} {c c' : Chunk} {h' : Heap} {tk : Nat} (h : StG B P own s G) (p : Pick own (a, c) own₀) (k : ∀ b o, b ≠ a → s.heap.get? b = some o → h'.get? b = some o)
    (hn : ∃ o, h'.get? a = some o ∧ c'.c G o) : StG B P ((a, c') :: own₀) { s with heap := h', toks := tk } G := by
  have h1 := h.perm p.perm
  have hnd := h1.nd
  rw [List.map_cons, List.nodup_cons] at hnd
  exact {
    fr := fun b o e => k b o (fun hb => by subst hb; have := h1.di _ (.head _); rw [this] at e; cases e) (h1.fr b o e)
    ba := h1.ba
    fa := h1.fa
    ow := fun x hx => by
      rcases List.mem_cons.mp hx with rfl | hx
      · exact hn
      · obtain ⟨o, ho, hc⟩ := h1.ow x (.tail _ hx)
        exact ⟨o, k _ _ (fun e => hnd.1 (e ▸ List.mem_map.mpr ⟨x, hx, rfl⟩)) ho, hc⟩
    nd := by rw [List.map_cons, List.nodup_cons]; exact hnd
    di := fun x hx => by
      rcases List.mem_cons.mp hx with rfl | hx
      · exact h1.di (a, c) (.head _)
      · exact h1.di x (.tail _ hx)
    ge := h1.ge
    dr := h1.dr
    os := h1.os }

theorem StG.newOwn {a : Addr} {c : Chunk} {o : Obj} {h' : Heap} {tk : Nat} (h : StG B P own s G) (hf : s.heap.get? a = none) (k : ∀ b o, s.heap.get? b = some o → h'.get? b = some o)
    (hn : h'.get? a = some o) (hc : c.c G o) : StG B P ((a, c) :: own) { s with heap := h', toks := tk } G where
  fr := fun b o e => k _ _ (h.fr b o e)
  ba := h.ba
  fa := h.fa
  ow := fun x hx => by
    rcases List.mem_cons.mp hx with rfl | hx
    · exact ⟨o, hn, hc⟩
    · obtain ⟨o, ho, hc⟩ := h.ow x hx
      exact ⟨o, k _ _ ho, hc⟩
  nd := by
    rw [List.map_cons, List.nodup_cons]
    refine ⟨fun hm => ?_, h.nd⟩
    obtain ⟨x, hx, e⟩ := List.mem_map.mp hm
    obtain ⟨o', ho', _⟩ := h.ow x hx
    dsimp only at e
    rw [e, hf] at ho'; cases ho'
  di := fun x hx => by
    rcases List.mem_cons.mp hx with rfl | hx
    · cases e : G a with
      | none => rfl
      | some o' => have := h.fr _ _ e; rw [hf] at this; cases this
    · exact h.di x hx
  ge := h.ge
  dr := h.dr
  os := h.os

theorem StG.freeze {a : Addr} {c : Chunk} {o : Obj} (h : StG B P own s G) (p : Pick own (a, c) own₀) (ho : s.heap.get? a = some o) :
    StG B P own₀ s (G.ins a o) ∧ G.le (G.ins a o) := by
  have h1 := h.perm p.perm
  have hnd := h1.nd
  rw [List.map_cons, List.nodup_cons] at hnd
  have hle : G.le (G.ins a o) := Gh.le_ins (h1.di (a, c) (.head _))
  refine ⟨?_, hle⟩
  exact {
    fr := fun b x e => by
      unfold Gh.ins at e
      by_cases hb : b = a
      · rw [if_pos hb] at e; cases e; rw [hb]; exact ho
      · rw [if_neg hb] at e; exact h1.fr b x e
    ba := fun b x e => hle _ _ (h1.ba b x e)
    fa := fun f hf => f.mono _ _ hle (h1.fa f hf)
    ow := fun x hx => let ⟨o', ho', hc⟩ := h1.ow x (.tail _ hx); ⟨o', ho', x.2.mono _ _ _ hle hc⟩
    nd := hnd.2
    di := fun x hx => by
      have hne : x.1 ≠ a := fun e => hnd.1 (e ▸ List.mem_map.mpr ⟨x, hx, rfl⟩)
      show (if x.1 = a then some o else G x.1) = none
      rw [if_neg hne]; exact h1.di x (.tail _ hx)
    ge := h1.ge
    dr := h1.dr
    os := h1.os }

theorem StG.drop {x : Addr × Chunk} (h : StG B P (x :: own) s G) : StG B P own s G where
  fr := h.fr
  ba := h.ba
  fa := h.fa
  ow := fun y hy => h.ow y (.tail _ hy)
  nd := by have := h.nd; rw [List.map_cons, List.nodup_cons] at this; exact this.2
  di := fun y hy => h.di y (.tail _ hy)
  ge := h.ge
  dr := h.dr
  os := h.os
theorem StG.addF {f : Fact} (h : StG B P own s G) (hf : f.p G) : StG B (f :: P) own s G where
  fr := h.fr
  ba := h.ba
  fa := fun g hg => by
    rcases List.mem_cons.mp hg with rfl | hg
    · exact hf
    · exact h.fa g hg
  ow := h.ow
  nd := h.nd
  di := h.di
  ge := h.ge
  dr := h.dr
  os := h.os
theorem StG.sub {P' : List Fact} (h : StG B P own s G) (hf : ∀ f ∈ P', f ∈ P) : StG B P' own s G where
  fr := h.fr
  ba := h.ba
  fa := fun g hg => h.fa g (hf g hg)
  ow := h.ow
  nd := h.nd
  di := h.di
  ge := h.ge
  dr := h.dr
  os := h.os

theorem StG.newFz {a : Addr} {o : Obj} {h' : Heap} {tk : Nat} (h : StG B P own s G) (hf : s.heap.get? a = none) (k : ∀ b o, s.heap.get? b = some o → h'.get? b = some o)
    (hn : h'.get? a = some o) : StG B P own { s with heap := h', toks := tk } (G.ins a o) ∧ G.le (G.ins a o) :=
  (h.newOwn (c := ⟨fun _ _ => True, fun _ _ _ _ x => x⟩) hf k hn trivial).freeze .head hn

theorem StG.at (h : StG B P own s G) {a : Addr} {c : Chunk} (hm : (a, c) ∈ own) : ∃ o, s.heap.get? a = some o ∧ c.c G o := h.ow (a, c) hm
theorem StG.lt (h : StG B P own s G) {a : Addr} {c : Chunk} (hm : (a, c) ∈ own) : a < s.heap.objs.size := let ⟨_, ho, _⟩ := h.at hm; Heap.lt_size ho

/-- types of what values stand for -/
structure Ty (α : Type) where
  R : Gh → Value → α → Prop
  mono : ∀ G G' v x, Gh.le G G' → R G v x → R G' v x
def Ty.is {α : Type} (τ : Ty α) (v : Value) (x : α) : Fact := ⟨fun G => τ.R G v x, fun G G' h k => τ.mono G G' v x h k⟩
def Ty.int : Ty Int := ⟨fun _ v x => ∃ t, v = .int x t, fun _ _ _ _ _ h => h⟩
inductive All2 {α : Type} (R : Value → α → Prop) : List Value → List α → Prop
  | nil : All2 R [] []
  | cons {v x vs xs} : R v x → All2 R vs xs → All2 R (v :: vs) (x :: xs)
theorem All2.imp {α : Type} {R R' : Value → α → Prop} (h : ∀ v x, R v x → R' v x) : ∀ {vs : List Value} {xs : List α}, All2 R vs xs → All2 R' vs xs
  | _, _, .nil => .nil
  | _, _, .cons a r => .cons (h _ _ a) (All2.imp h r)
theorem All2.length {α : Type} {R : Value → α → Prop} : ∀ {vs : List Value} {xs : List α}, All2 R vs xs → vs.length = xs.length
  | _, _, .nil => rfl
  | _, _, .cons _ r => by rw [List.length_cons, List.length_cons, r.length]
theorem All2.append {α : Type} {R : Value → α → Prop} : ∀ {vs ws : List Value} {xs ys : List α}, All2 R vs xs → All2 R ws ys → All2 R (vs ++ ws) (xs ++ ys)
  | _, _, _, _, .nil, h => h
  | _, _, _, _, .cons a r, h => .cons a (r.append h)
theorem All2.get {α : Type} {R : Value → α → Prop} : ∀ {vs : List Value} {xs : List α} (_ : All2 R vs xs) {i : Nat} {x : α}, xs[i]? = some x → ∃ v, vs[i]? = some v ∧ R v x
  | _, _, .nil, _, _, h => nomatch h
  | _, _, .cons a _, 0, _, h => by cases h; exact ⟨_, rfl, a⟩
  | _, _, .cons _ r, i + 1, x, h => r.get (i := i) (x := x) h
theorem All2.set {α : Type} {R : Value → α → Prop} {v : Value} {x : α} (hv : R v x) : ∀ {vs : List Value} {xs : List α} (_ : All2 R vs xs) (i : Nat), All2 R (vs.set i v) (xs.set i x)
  | _, _, .nil, _ => .nil
  | _, _, .cons _ r, 0 => .cons hv r
  | _, _, .cons a r, i + 1 => .cons a (All2.set hv r i)
theorem All2.drop {α : Type} {R : Value → α → Prop} : ∀ {vs : List Value} {xs : List α} (_ : All2 R vs xs) (i : Nat), All2 R (vs.drop i) (xs.drop i)
  | _, _, h, 0 => h
  | _, _, .nil, _ + 1 => .nil
  | _, _, .cons _ r, i + 1 => r.drop i
theorem All2.take {α : Type} {R : Value → α → Prop} : ∀ {vs : List Value} {xs : List α} (_ : All2 R vs xs) (i : Nat), All2 R (vs.take i) (xs.take i)
  | _, _, _, 0 => by simp only [List.take_zero]; exact .nil
  | _, _, .nil, _ + 1 => .nil
  | _, _, .cons a r, i + 1 => .cons a (r.take i)

def IsLs (o : Obj) (vs : List Value) : Prop := o.cls = .type "list" ∧ ∃ n, o.data = .seq vs.toArray n
def IsTp (o : Obj) (vs : List Value) : Prop := o.cls = .type "tuple" ∧ ∃ n, o.data = .seq vs.toArray n

def Ty.list {α : Type} (τ : Ty α) : Ty (List α) :=
  ⟨fun G v xs => ∃ a o vs, v = .ref a ∧ G a = some o ∧ IsLs o vs ∧ All2 (τ.R G) vs xs,
   fun G G' v xs h ⟨a, o, vs, e, ho, hl, hr⟩ => ⟨a, o, vs, e, h _ _ ho, hl, hr.imp fun u x k => τ.mono G G' u x h k⟩⟩
def Ty.pair {α β : Type} (τ : Ty α) (σ : Ty β) : Ty (α × β) :=
  ⟨fun G v x => ∃ a o u w, v = .ref a ∧ G a = some o ∧ IsTp o [u, w] ∧ τ.R G u x.1 ∧ σ.R G w x.2,
   fun G G' v x h ⟨a, o, u, w, e, ho, hl, h1, h2⟩ => ⟨a, o, u, w, e, h _ _ ho, hl, τ.mono G G' u _ h h1, σ.mono G G' w _ h h2⟩⟩
def Ty.rat : Ty Rat :=
  ⟨fun G v q => (Ty.pair Ty.int Ty.int).R G v (q.num, (q.den : Int)), fun G G' v q h k => (Ty.pair Ty.int Ty.int).mono G G' v _ h k⟩
def Ty.opt {α : Type} (τ : Ty α) : Ty (Option α) :=
  ⟨fun G v x => match x with | none => v = .none | some y => τ.R G v y ∧ ∃ a, v = .ref a,
   fun G G' v x h k => by cases x with
     | none => exact k
     | some y => exact ⟨τ.mono G G' v y h k.1, k.2⟩⟩

/-- chunks -/
def nsC (m : List (Str × Option Value)) : Chunk :=
  ⟨fun _ o => ∃ es ep, o.data = .dict es ep ∧ StrKeys es ∧ (m.map Prod.fst).Nodup ∧ ∀ x v, (x, some v) ∈ m → nsFind es x = some v, fun _ _ _ _ h => h⟩
def ceC (v : Option Value) : Chunk := ⟨fun _ o => o.data = .cell v, fun _ _ _ _ h => h⟩
def lsC {α : Type} (τ : Ty α) (xs : List α) : Chunk :=
  ⟨fun G o => ∃ vs, IsLs o vs ∧ All2 (τ.R G) vs xs, fun G G' o h ⟨vs, e, hr⟩ => ⟨vs, e, hr.imp fun u x k => τ.mono G G' u x h k⟩⟩
/-- a plain list: no dict of its own -/
def plC {α : Type} (τ : Ty α) (xs : List α) : Chunk :=
  ⟨fun G o => ∃ vs, (IsLs o vs ∧ o.dict = none ∧ o.slots = #[]) ∧ All2 (τ.R G) vs xs, fun G G' o h ⟨vs, e, hr⟩ => ⟨vs, e, hr.imp fun u x k => τ.mono G G' u x h k⟩⟩
/-- an object as it is -/
def obC (o : Obj) : Chunk := ⟨fun _ x => x = o, fun _ _ _ _ h => h⟩

inductive PutM : List (Str × Option Value) → Str → Value → List (Str × Option Value) → Prop
  | head {x o v r} : PutM ((x, o) :: r) x v ((x, some v) :: r)
  | tail {x v p r r'} : PutM r x v r' → PutM (p :: r) x v (p :: r')
theorem PutM.names {m m' : List (Str × Option Value)} {x : Str} {v : Value} (h : PutM m x v m') : m'.map Prod.fst = m.map Prod.fst := by
  induction h with
  | head => rfl
  | tail _ ih => rw [List.map_cons, List.map_cons, ih]
theorem PutM.has {m m' : List (Str × Option Value)} {x : Str} {v : Value} (h : PutM m x v m') : x ∈ m.map Prod.fst := by
  induction h with
  | head => exact .head _
  | tail _ ih => exact .tail _ ih
theorem PutM.get {m m' : List (Str × Option Value)} {x : Str} {v : Value} (h : PutM m x v m') (nd : (m.map Prod.fst).Nodup) : ∀ y w, (y, some w) ∈ m' → (y = x ∧ w = v) ∨ (y ≠ x ∧ (y, some w) ∈ m) := by
  induction h with
  | @head x o v r =>
    intro y w hm
    rw [List.map_cons, List.nodup_cons] at nd
    rcases List.mem_cons.mp hm with e | hm
    · cases e; exact .inl ⟨rfl, rfl⟩
    · exact .inr ⟨fun e => nd.1 (e ▸ List.mem_map.mpr ⟨_, hm, rfl⟩), .tail _ hm⟩
  | @tail x v p r r' h ih =>
    intro y w hm
    rw [List.map_cons, List.nodup_cons] at nd
    rcases List.mem_cons.mp hm with e | hm
    · refine .inr ⟨fun ex => ?_, by rw [← e]; exact .head _⟩
      subst ex
      have := h.has
      rw [← e] at nd
      exact nd.1 this
    · rcases ih nd.2 y w hm with q | q
      · exact .inl q
      · exact .inr ⟨q.1, .tail _ q.2⟩

theorem nsC_ns {m : List (Str × Option Value)} {h : Heap} {a : Addr} {o : Obj} (ho : h.get? a = some o) (hc : (nsC m).c G o) :
    ∃ f, h.Ns a f ∧ (m.map Prod.fst).Nodup ∧ ∀ x v, (x, some v) ∈ m → f x = some v := by
  obtain ⟨es, ep, hd, hk, hn, hm⟩ := hc
  exact ⟨nsFind es, ⟨o, es, ep, ho, hd, hk, fun _ => rfl⟩, hn, hm⟩
theorem nsC_of {m : List (Str × Option Value)} {h : Heap} {a : Addr} {f : Str → Option Value} (hn : h.Ns a f) (nd : (m.map Prod.fst).Nodup) (hm : ∀ x v, (x, some v) ∈ m → f x = some v) :
    ∃ o, h.get? a = some o ∧ (nsC m).c G o := by
  obtain ⟨o, es, ep, ho, hd, hk, hf⟩ := hn
  exact ⟨o, ho, es, ep, hd, hk, nd, fun x v hx => (hf x).trans (hm x v hx)⟩
end Mine

namespace Mine
open PySem PySem.W PyProof.Rows PySem.Calls

structure EnvIs (env : Env) (N : List (Str × NameKind)) (L : Addr) (C : List (Str × Addr)) : Prop where
  kind : env.scope.kind = .function
  names : env.scope.names = N
  nd : (N.map Prod.fst).Nodup
  loc : env.locals = L
  cells : env.cells = C
  cnd : (C.map Prod.fst).Nodup
  glob : env.globals = mainGlobals
  blt : env.builtins = builtinsNs
  nodb : ∀ p ∈ N, (p.1 == ("__debug__" : Str)) = false

theorem lookup_of_mem {α : Type} : ∀ {l : List (Str × α)} {x : Str} {v : α}, (l.map Prod.fst).Nodup → (x, v) ∈ l → l.lookup x = some v
  | (y, w) :: r, x, v, nd, h => by
    rw [List.map_cons, List.nodup_cons] at nd
    rw [List.lookup_cons]
    rcases List.mem_cons.mp h with e | h
    · cases e; rw [beq_self_eq_true]
    · have hne : x ≠ y := fun e => nd.1 (e ▸ List.mem_map.mpr ⟨_, h, rfl⟩)
      rw [show (x == y) = false from beq_eq_false_iff_ne.mpr hne]
      exact lookup_of_mem nd.2 h
theorem EnvIs.kindOf {env : Env} {N : List (Str × NameKind)} {L : Addr} {C : List (Str × Addr)} (h : EnvIs env N L C) {x : Str} {k : NameKind} (hm : (x, k) ∈ N) : env.kindOf x = some k := by
  unfold Env.kindOf
  rw [h.names]
  exact lookup_of_mem h.nd hm
theorem EnvIs.cell {env : Env} {N : List (Str × NameKind)} {L : Addr} {C : List (Str × Addr)} (h : EnvIs env N L C) {x : Str} {c : Addr} (hm : (x, c) ∈ C) : env.cells.lookup x = some c := by
  rw [h.cells]
  exact lookup_of_mem h.cnd hm

structure Bas (B : Shared) (GT BT : List (Str × Value)) : Prop where
  ex : ∃ mg mb, B.heap.Ns mainGlobals mg ∧ B.heap.Ns builtinsNs mb ∧ (∀ p ∈ GT, mg p.1 = some p.2) ∧ ∀ p ∈ BT, mg p.1 = none ∧ mb p.1 = some p.2
  lim : B.heap.NoLimit

def Room (A : Around) (n : Nat) : Prop := A.handled = none ∧ A.depth + n < recursionLimit ∧ A.units + 16 * n + 200 < cLine
theorem Room.hh {A : Around} {n : Nat} (h : Room A n) : A.handled = none := h.1
theorem Room.dep {A : Around} {n : Nat} (h : Room A n) : A.depth < recursionLimit := by have := h.2.1; lia
theorem Room.uni {A : Around} {n : Nat} (h : Room A n) : A.units + 200 < cLine := by have := h.2.2; lia
theorem Room.mono {A : Around} {n m : Nat} (h : Room A n) (hm : m ≤ n) : Room A m := ⟨h.1, by have := h.2.1; lia, by have := h.2.2; lia⟩
theorem Room.deeper {A : Around} {n : Nat} {env : Env} (h : Room A (n + 1)) : Room (A.deeper env) n := by
  refine ⟨h.1, ?_, ?_⟩
  · show A.depth + 1 + n < recursionLimit
    have := h.2.1; lia
  · show A.units + 3 + 16 * n + 200 < cLine
    have := h.2.2; lia
theorem Room.in1 {A : Around} {n : Nat} (h : Room A (n + 1)) : Room A.in1 n := by
  refine ⟨h.1, ?_, ?_⟩
  · show A.depth + n < recursionLimit
    have := h.2.1; lia
  · show A.units + 1 + 16 * n + 200 < cLine
    have := h.2.2; lia

section
variable {B : Shared} {GT BT : List (Str × Value)} {P : List Fact} {own own₀ : Own} {prog : Program} {w : World} {A : Around} {E : Value → Shared → Prop} {s : Shared} {env : Env}
  {N : List (Str × NameKind)} {L : Addr} {C : List (Str × Addr)} {m m' : List (Str × Option Value)} {x : Str} {v : Value} {pos : Pos}

theorem St.toks {tk : Nat} (S : St B P own s) : St B P own { s with toks := tk } := let ⟨G, h⟩ := S; ⟨G, h.tok⟩
theorem St.ext {h' : Heap} {tk : Nat} (S : St B P own s) (k : ∀ a o, s.heap.get? a = some o → h'.get? a = some o) : St B P own { s with heap := h', toks := tk } := let ⟨G, h⟩ := S; ⟨G, h.ext k⟩
theorem St.sub {P' : List Fact} (S : St B P own s) (hf : ∀ f ∈ P', f ∈ P) : St B P' own s := let ⟨G, h⟩ := S; ⟨G, h.sub hf⟩
theorem St.perm {own' : Own} (S : St B P own s) (p : own.Perm own') : St B P own' s := let ⟨G, h⟩ := S; ⟨G, h.perm p⟩
theorem St.drop {y : Addr × Chunk} (S : St B P own s) (p : Pick own y own₀) : St B P own₀ s := let ⟨G, h⟩ := S; ⟨G, (h.perm p.perm).drop⟩
theorem St.base (S : St B P own s) : ∀ a o, B.heap.get? a = some o → s.heap.get? a = some o := let ⟨G, h⟩ := S; fun a o e => h.fr _ _ (h.ba _ _ e)

/-- names read -/
theorem ldL {Q : Value → Shared → Prop} (S : St B P own s) (hE : EnvIs env N L C) (hk : (x, NameKind.local) ∈ N) (hp : (L, nsC m) ∈ own) (hm : (x, some v) ∈ m) (k : Q v s) :
    wpAny (model prog w) A (eval (.Name x pos) env) Q E s := by
  obtain ⟨G, h⟩ := S
  obtain ⟨o, ho, hc⟩ := h.at hp
  obtain ⟨f, hns, _, hf⟩ := nsC_ns (G := G) ho hc
  exact wpAny_Name (wpAny_loadName_local hE.kind (hE.kindOf hk) (by rw [hE.loc]; exact hns) (hf _ _ hm) k) (hE.nodb _ hk)
theorem ldC {c : Addr} {Q : Value → Shared → Prop} (S : St B P own s) (hE : EnvIs env N L C) (hk : (x, NameKind.cell) ∈ N) (hc : (x, c) ∈ C) (hp : (c, ceC (some v)) ∈ own) (k : Q v s) :
    wpAny (model prog w) A (eval (.Name x pos) env) Q E s := by
  obtain ⟨G, h⟩ := S
  obtain ⟨o, ho, hd⟩ := h.at hp
  exact wpAny_Name (wpAny_loadName_cell hE.kind (hE.kindOf hk) (hE.cell hc) ⟨o, ho, hd⟩ k) (hE.nodb _ hk)
theorem ldG {Q : Value → Shared → Prop} (S : St B P own s) (hB : Bas B GT BT) (hE : EnvIs env N L C) (hk : (x, NameKind.globalImplicit) ∈ N) (hg : (x, v) ∈ GT) (k : Q v s) :
    wpAny (model prog w) A (eval (.Name x pos) env) Q E s := by
  obtain ⟨mg, mb, h1, h2, h3, h4⟩ := hB.ex
  exact Name_function_global hE.kind (hE.kindOf hk) (loadGlobal_global (by rw [hE.glob]; exact h1.keeps S.base) (h3 _ hg) k) (hE.nodb _ hk)
theorem ldB {Q : Value → Shared → Prop} (S : St B P own s) (hB : Bas B GT BT) (hE : EnvIs env N L C) (hk : (x, NameKind.globalImplicit) ∈ N) (hg : (x, v) ∈ BT) (k : Q v s) :
    wpAny (model prog w) A (eval (.Name x pos) env) Q E s := by
  obtain ⟨mg, mb, h1, h2, h3, h4⟩ := hB.ex
  exact Name_function_global hE.kind (hE.kindOf hk) (loadGlobal_builtin (by rw [hE.glob]; exact h1.keeps S.base) (h4 _ hg).1 (by rw [hE.blt]; exact h2.keeps S.base) (h4 _ hg).2 k) (hE.nodb _ hk)

/-- names written -/
theorem stL {Q : Unit → Shared → Prop} (S : St B P own s) (hE : EnvIs env N L C) (hk : (x, NameKind.local) ∈ N) (hp : Pick own (L, nsC m) own₀) (hm : PutM m x v m')
    (k : ∀ s', St B P ((L, nsC m') :: own₀) s' → Q () s') : wpAny (model prog w) A (storeName env x v) Q E s := by
  obtain ⟨G, h⟩ := S
  obtain ⟨o, ho, hc⟩ := h.at hp.mem
  obtain ⟨f, hns, nd, hf⟩ := nsC_ns (G := G) ho hc
  refine wpAny_storeName_local (hE.kindOf hk) (by rw [hE.loc]; exact hns) (fun h' hn hs => ?_) (by rw [hE.kind]; rfl)
  rw [hE.loc] at hn hs
  refine k _ ⟨G, h.upd hp (fun b o hb e => hs.extBut b o hb e) (nsC_of hn (hm.names ▸ nd) fun y u hy => ?_)⟩
  rcases hm.get nd y u hy with ⟨rfl, rfl⟩ | ⟨h1, h2⟩
  · exact if_pos rfl
  · show (if y = x then some v else f y) = some u
    rw [if_neg h1]; exact hf _ _ h2
theorem stC {c : Addr} {u : Option Value} {Q : Unit → Shared → Prop} (S : St B P own s) (hE : EnvIs env N L C) (hk : (x, NameKind.cell) ∈ N) (hc : (x, c) ∈ C) (hp : Pick own (c, ceC u) own₀)
    (k : ∀ s', St B P ((c, ceC (some v)) :: own₀) s' → Q () s') : wpAny (model prog w) A (storeName env x v) Q E s := by
  obtain ⟨G, h⟩ := S
  obtain ⟨o, ho, hd⟩ := h.at hp.mem
  refine wpAny_storeName_cell hE.kind (hE.kindOf hk) (hE.cell hc) ⟨o, ho, hd⟩ fun h' hn hs => ?_
  obtain ⟨o', ho', hd'⟩ := hn
  exact k _ ⟨G, h.upd hp (fun b o hb e => hs.extBut b o hb e) ⟨o', ho', hd'⟩⟩

/-- constants, ints -/
theorem kInt {i : Int} {j : Nat} {Q : Value → Shared → Prop} (S : St B P own s) (k : ∀ t s', St B P own s' → Q (.int i t) s') : wpAny (model prog w) A (eval (.Constant (.int i) j pos) env) Q E s :=
  wpAny_Constant_int (k _ _ S.toks)
theorem kNone {j : Nat} {Q : Value → Shared → Prop} (k : Q .none s) : wpAny (model prog w) A (eval (.Constant .none j pos) env) Q E s := fun _ _ _ => k
theorem kBool {b : Bool} {j : Nat} {Q : Value → Shared → Prop} (k : Q (.bool b) s) : wpAny (model prog w) A (eval (.Constant (.bool b) j pos) env) Q E s := fun _ _ _ => k
theorem kStr {y : Str} {j : Nat} {Q : Value → Shared → Prop} (S : St B P own s) (k : ∀ t s', St B P own s' → Q (.str y t) s') : wpAny (model prog w) A (eval (.Constant (.str y) j pos) env) Q E s :=
  Constant_str (k _ _ S.toks)

section
variable {a b : Int} {t u : Tok} {Q : Value → Shared → Prop}
theorem addI (S : St B P own s) (k : ∀ t' s', St B P own s' → Q (.int (a + b) t') s') : wpAny (model prog w) A (binaryOp .Add (.int a t) (.int b u)) Q E s := add_int (k _ _ S.toks)
theorem subI (S : St B P own s) (k : ∀ t' s', St B P own s' → Q (.int (a - b) t') s') : wpAny (model prog w) A (binaryOp .Sub (.int a t) (.int b u)) Q E s := AutoIntOps.sub_0 (k _ _ S.toks)
theorem mulI (S : St B P own s) (ha : a.natAbs < 2 ^ 8000) (hb : b.natAbs < 2 ^ 8000) (k : ∀ t' s', St B P own s' → Q (.int (a * b) t') s') : wpAny (model prog w) A (binaryOp .Mult (.int a t) (.int b u)) Q E s := by
  have bits : ∀ i : Int, i.natAbs < 2 ^ 8000 → Builtin.Int.intBits i ≤ 2 ^ 20 := by
    intro i hi
    unfold Builtin.Int.intBits
    split
    · exact Nat.zero_le _
    · rename_i h0
      have hne : i.natAbs ≠ 0 := by simpa using h0
      have := (Nat.log2_lt hne).mpr hi
      have e : (2 : Nat) ^ 20 = 1048576 := by decide
      lia
  exact mul_int (k _ _ S.toks) (IntMulOk.of_bits (bits a ha) (bits b hb))
theorem divI (S : St B P own s) (h0 : b ≠ 0) (hb : b.natAbs < 2 ^ 8000) (k : ∀ t' s', St B P own s' → Q (.int (a.fdiv b) t') s') : wpAny (model prog w) A (binaryOp .FloorDiv (.int a t) (.int b u)) Q E s := by
  refine floordiv_int h0 (k _ _ S.toks) (.inl (PyProof.noPylong_of_log2 ?_))
  have hne : b.natAbs ≠ 0 := by lia
  have := (Nat.log2_lt hne).mpr hb
  lia
theorem modI (S : St B P own s) (h0 : b ≠ 0) (k : ∀ t' s', St B P own s' → Q (.int (a.fmod b) t') s') : wpAny (model prog w) A (binaryOp .Mod (.int a t) (.int b u)) Q E s := mod_int' h0 (k _ _ S.toks)
theorem absI (S : St B P own s) (k : ∀ t' s', St B P own s' → Q (.int (if a < 0 then -a else a) t') s') : wpAny (model prog w) A (call (.builtin "abs") [.int a t]) Q E s :=
  call_abs_int fun _ _ => k _ _ S.toks
end
end
end Mine

namespace Mine
open PySem PySem.W PyProof.Rows PySem.Calls

def Ev {α : Type} (P : List Fact) (τ : Ty α) (v : Value) (x : α) : Prop := ∀ G : Gh, (∀ f ∈ P, f.p G) → τ.R G v x
def EvAll {α : Type} (P : List Fact) (τ : Ty α) (vs : List Value) (xs : List α) : Prop := ∀ G : Gh, (∀ f ∈ P, f.p G) → All2 (τ.R G) vs xs
theorem Ev.mem {α : Type} {P : List Fact} {τ : Ty α} {v : Value} {x : α} (h : τ.is v x ∈ P) : Ev P τ v x := fun G hG => hG _ h
theorem Ev.int {P : List Fact} {i : Int} {t : Tok} : Ev P Ty.int (.int i t) i := fun _ _ => ⟨t, rfl⟩
theorem Ev.sub {α : Type} {P P' : List Fact} {τ : Ty α} {v : Value} {x : α} (h : Ev P τ v x) (hs : ∀ f ∈ P, f ∈ P') : Ev P' τ v x := fun G hG => h G fun f hf => hG f (hs f hf)
theorem Ev.onone {α : Type} {P : List Fact} {τ : Ty α} : Ev P (Ty.opt τ) .none none := fun _ _ => rfl
theorem Ev.osome {α : Type} {P : List Fact} {τ : Ty α} {a : Addr} {x : α} (h : Ev P τ (.ref a) x) : Ev P (Ty.opt τ) (.ref a) (some x) := fun G hG => ⟨h G hG, a, rfl⟩
theorem Ev.rat {P : List Fact} {v : Value} {q : Rat} (h : Ev P (Ty.pair Ty.int Ty.int) v (q.num, (q.den : Int))) : Ev P Ty.rat v q := h
theorem EvAll.nil {α : Type} {P : List Fact} {τ : Ty α} : EvAll P τ [] [] := fun _ _ => .nil
theorem EvAll.cons {α : Type} {P : List Fact} {τ : Ty α} {v : Value} {x : α} {vs : List Value} {xs : List α} (h : Ev P τ v x) (k : EvAll P τ vs xs) : EvAll P τ (v :: vs) (x :: xs) :=
  fun G hG => .cons (h G hG) (k G hG)

def rlC (vs : List Value) : Chunk := ⟨fun _ o => IsLs o vs, fun _ _ _ _ h => h⟩

section
variable {B : Shared} {GT BT : List (Str × Value)} {P : List Fact} {own own₀ : Own} {prog : Program} {w : World} {A : Around} {E : Value → Shared → Prop} {s : Shared} {env : Env}
  {v u : Value} {a : Addr} {α β : Type} {τ : Ty α} {σ : Ty β} {x : α} {y : β} {xs : List α} {i : Int} {t : Tok}

theorem St.addF {f : Fact} (S : St B P own s) (h : ∀ G : Gh, (∀ f ∈ P, f.p G) → f.p G) : St B (f :: P) own s := let ⟨G, hG⟩ := S; ⟨G, hG.addF (h G hG.fa)⟩
theorem St.add (S : St B P own s) (h : Ev P τ v x) : St B (τ.is v x :: P) own s := S.addF h
theorem St.intV {k : Int} (S : St B P own s) (h : Ev P Ty.int v k) : ∃ t, v = .int k t := let ⟨G, hG⟩ := S; h G hG.fa
theorem St.refL (S : St B P own s) (h : Ev P (Ty.list τ) v xs) : ∃ a, v = .ref a := by
  obtain ⟨G, hG⟩ := S
  obtain ⟨a, _, _, e, _⟩ := h G hG.fa
  exact ⟨a, e⟩
theorem St.refP {p : α × β} (S : St B P own s) (h : Ev P (Ty.pair τ σ) v p) : ∃ a, v = .ref a := by
  obtain ⟨G, hG⟩ := S
  obtain ⟨a, _, _, _, e, _⟩ := h G hG.fa
  exact ⟨a, e⟩

theorem none_at (h : Heap) : h.get? h.objs.size = none := by
  cases e : h.get? h.objs.size with
  | none => rfl
  | some o => exact absurd (Heap.lt_size e) (Nat.lt_irrefl _)

/-- a fresh object, frozen -/
theorem St.fz {D : Addr} {o : Obj} {h' : Heap} {tk : Nat} {f : Fact} (S : St B P own s) (hD : D = s.heap.objs.size) (k : ∀ b o, s.heap.get? b = some o → h'.get? b = some o) (hn : h'.get? D = some o)
    (hf : ∀ G : Gh, (∀ f ∈ P, f.p G) → G D = some o → f.p G) : St B (f :: P) own { s with heap := h', toks := tk } := by
  subst hD
  obtain ⟨G, hG⟩ := S
  obtain ⟨h1, h2⟩ := hG.newFz (tk := tk) (none_at _) k hn
  exact ⟨_, h1.addF (hf _ h1.fa Gh.ins_self)⟩
theorem St.ow {D : Addr} {o : Obj} {h' : Heap} {tk : Nat} {c : Chunk} (S : St B P own s) (hD : D = s.heap.objs.size) (k : ∀ b o, s.heap.get? b = some o → h'.get? b = some o) (hn : h'.get? D = some o)
    (hc : ∀ G : Gh, (∀ f ∈ P, f.p G) → c.c G o) : St B P ((D, c) :: own) { s with heap := h', toks := tk } := by
  subst hD
  obtain ⟨G, hG⟩ := S
  exact ⟨G, hG.newOwn (none_at _) k hn (hc G hG.fa)⟩
theorem St.fzLs (S : St B P own s) (p : Pick own (a, lsC τ xs) own₀) : St B ((Ty.list τ).is (.ref a) xs :: P) own₀ s := by
  obtain ⟨G, hG⟩ := S
  obtain ⟨o, ho, vs, h1, h2⟩ := hG.at p.mem
  obtain ⟨k1, k2⟩ := hG.freeze p ho
  exact ⟨_, k1.addF ⟨a, o, vs, rfl, Gh.ins_self, h1, h2.imp fun u z r => τ.mono _ _ u z k2 r⟩⟩
theorem St.fzPl (S : St B P own s) (p : Pick own (a, plC τ xs) own₀) : St B ((Ty.list τ).is (.ref a) xs :: P) own₀ s := by
  obtain ⟨G, hG⟩ := S
  obtain ⟨o, ho, vs, h1, h2⟩ := hG.at p.mem
  obtain ⟨k1, k2⟩ := hG.freeze p ho
  exact ⟨_, k1.addF ⟨a, o, vs, rfl, Gh.ins_self, h1.1, h2.imp fun u z r => τ.mono _ _ u z k2 r⟩⟩
theorem St.plLs (S : St B P own s) (p : Pick own (a, plC τ xs) own₀) : St B P ((a, lsC τ xs) :: own₀) s := by
  obtain ⟨G, hG⟩ := S
  obtain ⟨o, ho, vs, h1, h2⟩ := hG.at p.mem
  exact ⟨_, hG.upd (h' := s.heap) (tk := s.toks) p (fun _ _ _ e => e) ⟨o, ho, vs, h1.1, h2⟩⟩

/-- displays -/
theorem newTp2 {Q : Value → Shared → Prop} (S : St B P own s) (h1 : Ev P τ v x) (h2 : Ev P σ u y) (k : ∀ a s', St B ((Ty.pair τ σ).is (.ref a) (x, y) :: P) own s' → Q (.ref a) s') :
    wpAny (model prog w) A (newTuple [v, u]) Q E s := by
  refine wpAny_newObj_type (k _ _ ?_) (by show 2 ≤ sizeLine; decide)
  refine S.fz (tk := s.toks) rfl (fun b o e => Heap.get?_push_of_some _ e) (Heap.get?_push_size _ rfl) fun G hG hD => ?_
  exact ⟨_, _, v, u, rfl, hD, ⟨rfl, 0, rfl⟩, h1 G hG, h2 G hG⟩
theorem newLsPl {vs : List Value} {Q : Value → Shared → Prop} (S : St B P own s) (h : EvAll P τ vs xs) (hsz : vs.length ≤ 1000) (k : ∀ a s', St B P ((a, plC τ xs) :: own) s' → Q (.ref a) s') :
    wpAny (model prog w) A (newList vs) Q E s := by
  refine wpAny_newObj_type (k _ _ ?_) (by show vs.toArray.size ≤ sizeLine; rw [List.size_toArray]; exact Nat.le_trans hsz (by decide))
  refine S.ow (tk := s.toks) rfl (fun b o e => Heap.get?_push_of_some _ e) (Heap.get?_push_size _ rfl) fun G hG => ?_
  exact ⟨vs, ⟨⟨rfl, 0, rfl⟩, rfl, rfl⟩, h G hG⟩
theorem newLsFz {vs : List Value} {Q : Value → Shared → Prop} (S : St B P own s) (h : EvAll P τ vs xs) (hsz : vs.length ≤ 1000) (k : ∀ a s', St B ((Ty.list τ).is (.ref a) xs :: P) own s' → Q (.ref a) s') :
    wpAny (model prog w) A (newList vs) Q E s := newLsPl S h hsz fun a s' S' => k a s' (S'.fzPl .head)
theorem newLsRl {vs : List Value} {Q : Value → Shared → Prop} (S : St B P own s) (hsz : vs.length ≤ 1000) (k : ∀ a s', St B P ((a, rlC vs) :: own) s' → Q (.ref a) s') :
    wpAny (model prog w) A (newList vs) Q E s := by
  refine wpAny_newObj_type (k _ _ ?_) (by show vs.toArray.size ≤ sizeLine; rw [List.size_toArray]; exact Nat.le_trans hsz (by decide))
  refine S.ow (tk := s.toks) rfl (fun b o e => Heap.get?_push_of_some _ e) (Heap.get?_push_size _ rfl) fun G hG => ?_
  exact ⟨rfl, 0, rfl⟩

/-- items -/
theorem getL {vs : List Value} {Q : Value → Shared → Prop} {value slice : Expr} {o : Obj} (ho : s.heap.get? a = some o) (hl : IsLs o vs) (h0 : 0 ≤ i) (hf : i < 2 ^ 63) (hi : vs[i.toNat]? = some v) (k : Q v s)
    (hs : subscripted slice false (.ref a) (.int i t) = operate [.ref a, .int i t] (getItem (.ref a) (.int i t)) := by with_unfolding_all rfl) :
    wpAny (model prog w) A (subscriptTail value slice (.ref a) (.int i t)) Q E s := by
  have hL : s.heap.IsList a vs.toArray := ⟨o, ho, hl.1, hl.2⟩
  exact tail_any hL.typeIs slot_list_getitem.lookup (getItem_listL hL h0 hf hi k) hs
theorem itLs {Q : Value → Shared → Prop} {value slice : Expr} (S : St B P own s) (h : Ev P (Ty.list τ) v xs) (h0 : 0 ≤ i) (hf : i < 2 ^ 63) (hi : xs[i.toNat]? = some x) (k : ∀ u, St B (τ.is u x :: P) own s → Q u s)
    (hs : ∀ a, subscripted slice false (.ref a) (.int i t) = operate [.ref a, .int i t] (getItem (.ref a) (.int i t)) := by intro _; with_unfolding_all rfl) :
    wpAny (model prog w) A (subscriptTail value slice v (.int i t)) Q E s := by
  obtain ⟨G, hG⟩ := S
  obtain ⟨a, o, vs, rfl, ho, hl, hr⟩ := h G hG.fa
  obtain ⟨u, hu, hR⟩ := hr.get hi
  exact getL (hG.fr _ _ ho) hl h0 hf hu (k u ⟨G, hG.addF hR⟩) (hs a)
theorem itOw {Q : Value → Shared → Prop} {value slice : Expr} (S : St B P own s) (p : (a, lsC τ xs) ∈ own) (h0 : 0 ≤ i) (hf : i < 2 ^ 63) (hi : xs[i.toNat]? = some x) (k : ∀ u, St B (τ.is u x :: P) own s → Q u s)
    (hs : subscripted slice false (.ref a) (.int i t) = operate [.ref a, .int i t] (getItem (.ref a) (.int i t)) := by with_unfolding_all rfl) :
    wpAny (model prog w) A (subscriptTail value slice (.ref a) (.int i t)) Q E s := by
  obtain ⟨G, hG⟩ := S
  obtain ⟨o, ho, vs, hl, hr⟩ := hG.at p
  obtain ⟨u, hu, hR⟩ := hr.get hi
  exact getL ho hl h0 hf hu (k u ⟨G, hG.addF hR⟩) hs
theorem itRl {vs : List Value} {Q : Value → Shared → Prop} {value slice : Expr} (S : St B P own s) (p : (a, rlC vs) ∈ own) (h0 : 0 ≤ i) (hf : i < 2 ^ 63) (hi : vs[i.toNat]? = some u) (k : Q u s)
    (hs : subscripted slice false (.ref a) (.int i t) = operate [.ref a, .int i t] (getItem (.ref a) (.int i t)) := by with_unfolding_all rfl) :
    wpAny (model prog w) A (subscriptTail value slice (.ref a) (.int i t)) Q E s := by
  obtain ⟨G, hG⟩ := S
  obtain ⟨o, ho, hl⟩ := hG.at p
  exact getL ho hl h0 hf hi k hs
theorem itFst {p : α × β} {Q : Value → Shared → Prop} {value slice : Expr} (S : St B P own s) (h : Ev P (Ty.pair τ σ) v p) (k : ∀ u, St B (τ.is u p.1 :: P) own s → Q u s)
    (hs : ∀ a, subscripted slice false (.ref a) (.int 0 t) = operate [.ref a, .int 0 t] (getItem (.ref a) (.int 0 t)) := by intro _; with_unfolding_all rfl) :
    wpAny (model prog w) A (subscriptTail value slice v (.int 0 t)) Q E s := by
  obtain ⟨G, hG⟩ := S
  obtain ⟨a, o, u, w', rfl, ho, hl, h1, h2⟩ := h G hG.fa
  exact item_tupleT (l := [u, w']) (j := 0) ⟨o, hG.fr _ _ ho, hl.1, hl.2⟩ (by decide) (by decide) (by rfl) rfl (k u ⟨G, hG.addF h1⟩) (hs a)
theorem itSnd {p : α × β} {Q : Value → Shared → Prop} {value slice : Expr} (S : St B P own s) (h : Ev P (Ty.pair τ σ) v p) (k : ∀ u, St B (σ.is u p.2 :: P) own s → Q u s)
    (hs : ∀ a, subscripted slice false (.ref a) (.int 1 t) = operate [.ref a, .int 1 t] (getItem (.ref a) (.int 1 t)) := by intro _; with_unfolding_all rfl) :
    wpAny (model prog w) A (subscriptTail value slice v (.int 1 t)) Q E s := by
  obtain ⟨G, hG⟩ := S
  obtain ⟨a, o, u, w', rfl, ho, hl, h1, h2⟩ := h G hG.fa
  exact item_tupleT (l := [u, w']) (j := 1) ⟨o, hG.fr _ _ ho, hl.1, hl.2⟩ (by decide) (by decide) (by rfl) rfl (k w' ⟨G, hG.addF h2⟩) (hs a)
theorem itNum {q : Rat} {Q : Value → Shared → Prop} {value slice : Expr} (S : St B P own s) (h : Ev P Ty.rat v q) (k : ∀ t', Q (.int q.num t') s)
    (hs : ∀ a, subscripted slice false (.ref a) (.int 0 t) = operate [.ref a, .int 0 t] (getItem (.ref a) (.int 0 t)) := by intro _; with_unfolding_all rfl) :
    wpAny (model prog w) A (subscriptTail value slice v (.int 0 t)) Q E s :=
  itFst (p := (q.num, (q.den : Int))) (τ := Ty.int) (σ := Ty.int) S h (fun u S' => by obtain ⟨t', rfl⟩ := S'.intV (.mem (.head _)); exact k t') hs
theorem itDen {q : Rat} {Q : Value → Shared → Prop} {value slice : Expr} (S : St B P own s) (h : Ev P Ty.rat v q) (k : ∀ t', Q (.int q.den t') s)
    (hs : ∀ a, subscripted slice false (.ref a) (.int 1 t) = operate [.ref a, .int 1 t] (getItem (.ref a) (.int 1 t)) := by intro _; with_unfolding_all rfl) :
    wpAny (model prog w) A (subscriptTail value slice v (.int 1 t)) Q E s :=
  itSnd (p := (q.num, (q.den : Int))) (τ := Ty.int) (σ := Ty.int) S h (fun u S' => by obtain ⟨t', rfl⟩ := S'.intV (.mem (.head _)); exact k t') hs

/-- an item put -/
theorem toArray_set (vs : List Value) (n : Nat) (v : Value) : (vs.toArray.setIfInBounds n v) = (vs.set n v).toArray := by simp
theorem putOw {Q : Unit → Shared → Prop} (S : St B P own s) (p : Pick own (a, lsC τ xs) own₀) (h : Ev P τ v x) (h0 : 0 ≤ i) (hf : i < 2 ^ 63) (hi : i.toNat < xs.length)
    (k : ∀ s', St B P ((a, lsC τ (xs.set i.toNat x)) :: own₀) s' → Q () s') : wpAny (model prog w) A (setItem (.ref a) (.int i t) v) Q E s := by
  obtain ⟨G, hG⟩ := S
  obtain ⟨o, ho, vs, hl, hr⟩ := hG.at p.mem
  refine wpAny_setItem_list (items := vs.toArray) ⟨o, ho, hl.1, hl.2⟩ h0 hf (by rw [List.size_toArray, hr.length]; lia) fun h' hL hs => ?_
  obtain ⟨o', ho', c', d'⟩ := hL
  rw [toArray_set] at d'
  exact k _ ⟨G, hG.upd (tk := s.toks) p (fun b o hb e => hs.extBut b o hb e) ⟨o', ho', vs.set i.toNat v, ⟨c', d'⟩, hr.set (h G hG.fa) _⟩⟩
theorem putRl {vs : List Value} {Q : Unit → Shared → Prop} (S : St B P own s) (p : Pick own (a, rlC vs) own₀) (h0 : 0 ≤ i) (hf : i < 2 ^ 63) (hi : i.toNat < vs.length)
    (k : ∀ s', St B P ((a, rlC (vs.set i.toNat v)) :: own₀) s' → Q () s') : wpAny (model prog w) A (setItem (.ref a) (.int i t) v) Q E s := by
  obtain ⟨G, hG⟩ := S
  obtain ⟨o, ho, hl⟩ := hG.at p.mem
  refine wpAny_setItem_list (items := vs.toArray) ⟨o, ho, hl.1, hl.2⟩ h0 hf (by rw [List.size_toArray]; lia) fun h' hL hs => ?_
  obtain ⟨o', ho', c', d'⟩ := hL
  rw [toArray_set] at d'
  exact k _ ⟨G, hG.upd (tk := s.toks) p (fun b o hb e => hs.extBut b o hb e) ⟨o', ho', c', d'⟩⟩

/-- len -/
theorem lenLs {Q : Value → Shared → Prop} (S : St B P own s) (h : Ev P (Ty.list τ) v xs) (hf : xs.length < 2 ^ 62) (k : ∀ t s', St B P own s' → Q (.int xs.length t) s') :
    wpAny (model prog w) A (call (.builtin "len") [v]) Q E s := by
  obtain ⟨G, hG⟩ := id S
  obtain ⟨a, o, vs, rfl, ho, hl, hr⟩ := h G hG.fa
  refine call_len_list (items := vs.toArray) ⟨o, hG.fr _ _ ho, hl.1, hl.2⟩ (by rw [List.size_toArray, hr.length]; lia) ?_
  rw [List.size_toArray, hr.length]
  exact k _ _ S.toks
theorem lenOw {Q : Value → Shared → Prop} (S : St B P own s) (p : (a, lsC τ xs) ∈ own) (hf : xs.length < 2 ^ 62) (k : ∀ t s', St B P own s' → Q (.int xs.length t) s') :
    wpAny (model prog w) A (call (.builtin "len") [.ref a]) Q E s := by
  obtain ⟨G, hG⟩ := id S
  obtain ⟨o, ho, vs, hl, hr⟩ := hG.at p
  refine call_len_list (items := vs.toArray) ⟨o, ho, hl.1, hl.2⟩ (by rw [List.size_toArray, hr.length]; lia) ?_
  rw [List.size_toArray, hr.length]
  exact k _ _ S.toks
theorem lenPl {Q : Value → Shared → Prop} (S : St B P own s) (p : (a, plC τ xs) ∈ own) (hf : xs.length < 2 ^ 62) (k : ∀ t s', St B P own s' → Q (.int xs.length t) s') :
    wpAny (model prog w) A (call (.builtin "len") [.ref a]) Q E s := by
  obtain ⟨G, hG⟩ := id S
  obtain ⟨o, ho, vs, hl, hr⟩ := hG.at p
  refine call_len_list (items := vs.toArray) ⟨o, ho, hl.1.1, hl.1.2⟩ (by rw [List.size_toArray, hr.length]; lia) ?_
  rw [List.size_toArray, hr.length]
  exact k _ _ S.toks
end
end Mine

namespace Mine
open PySem PySem.W PyProof.Rows PySem.Calls

section
variable {B : Shared} {GT BT : List (Str × Value)} {P : List Fact} {own own₀ : Own} {prog : Program} {w : World} {A : Around} {E : Value → Shared → Prop} {s : Shared} {env : Env}
  {v u : Value} {a : Addr} {α β : Type} {τ : Ty α} {σ : Ty β} {x : α} {y : β} {xs ys : List α} {i : Int} {t : Tok} {G : Gh}

theorem StG.fzF {D : Addr} {o : Obj} {h' : Heap} {tk : Nat} (hG : StG B P own s G) (hD : D = s.heap.objs.size) (k : ∀ b o, s.heap.get? b = some o → h'.get? b = some o) (hn : h'.get? D = some o) :
    ∃ G', G.le G' ∧ G' D = some o ∧ StG B P own { s with heap := h', toks := tk } G' := by
  subst hD
  obtain ⟨h1, h2⟩ := hG.newFz (tk := tk) (none_at _) k hn
  exact ⟨_, h2, Gh.ins_self, h1⟩
/-- a fresh list of what is known already -/
theorem StG.newList {D : Addr} {o : Obj} {vs : List Value} {h' : Heap} {tk : Nat} (hG : StG B P own s G) (hD : D = s.heap.objs.size) (k : ∀ b o, s.heap.get? b = some o → h'.get? b = some o) (hn : h'.get? D = some o)
    (hl : IsLs o vs) (hr : All2 (τ.R G) vs xs) : St B ((Ty.list τ).is (.ref D) xs :: P) own { s with heap := h', toks := tk } := by
  obtain ⟨G', h1, h2, h3⟩ := hG.fzF (tk := tk) hD k hn
  exact ⟨G', h3.addF ⟨D, o, vs, rfl, h2, hl, hr.imp fun u z r => τ.mono _ _ u z h1 r⟩⟩
theorem StG.newOwnL {D : Addr} {o : Obj} {vs : List Value} {h' : Heap} {tk : Nat} (hG : StG B P own s G) (hD : D = s.heap.objs.size) (k : ∀ b o, s.heap.get? b = some o → h'.get? b = some o) (hn : h'.get? D = some o)
    (hl : IsLs o vs) (hr : All2 (τ.R G) vs xs) : St B P ((D, lsC τ xs) :: own) { s with heap := h', toks := tk } := by
  subst hD
  exact ⟨G, hG.newOwn (none_at _) k hn ⟨vs, hl, hr⟩⟩

/-- slices of a frozen list -/
theorem sliceLs {Q : Value → Shared → Prop} {value : Expr} {lower upper : Option Expr} {p pos : Pos}
    (h : wpAny (model prog w) A (eval value env) (fun o s₁ => wpAny (model prog w) A (evalPart lower env) (fun vl s₂ => wpAny (model prog w) A (evalPart upper env) (fun vu s₃ =>
      ∃ (B : Shared) (P : List Fact) (own : Own) (α : Type) (τ : Ty α) (xs zs : List α) (lo hi : Option Int), St B P own s₃ ∧ Ev P (Ty.list τ) o xs ∧ xs.length ≤ 1000 ∧ IsPart vl lo ∧ IsPart vu hi ∧
        (∀ (R : Value → α → Prop) (vs : List Value), All2 R vs xs → All2 R (slicePick vs.toArray lo hi none).toList zs) ∧
        ∀ a s', St B ((Ty.list τ).is (.ref a) zs :: P) own s' → Q (.ref a) s') E s₂) E s₁) E s)
    (ht : ∀ o r, letTemporaryGo value o r = pure () := by intro _ _; rfl) :
    wpAny (model prog w) A (eval (.Subscript value (.Slice lower upper none p) pos) env) Q E s := by
  refine wpAny_Subscript_list_slice (wpAny_mono h (fun o s₁ h₁ => wpAny_mono h₁ (fun vl s₂ h₂ => wpAny_mono h₂ (fun vu s₃ h₃ => ?_) fun _ _ e => e) fun _ _ e => e) fun _ _ e => e) ht
  obtain ⟨B, P, own, α, τ, xs, zs, lo, hi, ⟨G, hG⟩, hv, hlen, pl, pu, hz, k⟩ := h₃
  obtain ⟨a, ob, vs, rfl, ho, hl, hr⟩ := hv G hG.fa
  refine ⟨a, vs.toArray, lo, hi, rfl, ⟨ob, hG.fr _ _ ho, hl.1, hl.2⟩, ?_, pl, pu, ?_⟩
  · rw [List.size_toArray, hr.length]; exact Nat.le_trans hlen (by decide)
  · have S1 : StG B P own { s₃ with heap := s₃.heap.push { cls := .type "slice", data := .fields #[vl, vu, .none] } } G := hG.ext (tk := s₃.toks) fun b o e => Heap.get?_push_of_some _ e
    refine k _ _ (S1.newList (tk := s₃.toks) (vs := (slicePick vs.toArray lo hi none).toList) (by rw [Heap.size_push]) (fun b o e => Heap.get?_push_of_some _ e) (by
      have := Heap.get?_push_size (s₃.heap.push { cls := .type "slice", data := .fields #[vl, vu, .none] }) (o := { cls := .type "list", data := .seq (slicePick vs.toArray lo hi none) }) rfl
      rw [Heap.size_push] at this; exact this) ⟨rfl, 0, by simp⟩ (hz _ _ hr))
/-- the same where the value is at hand: xs[i:], xs[:i] -/
theorem pickFrom {R : Value → α → Prop} {vs : List Value} (h : All2 R vs xs) {n : Nat} (hn : n ≤ xs.length) : All2 R (slicePick vs.toArray (some (n : Int)) none none).toList (xs.drop n) := by
  rw [slicePick_from _ _ (by rw [List.size_toArray, h.length]; exact hn)]
  exact h.drop n
theorem pickUpto {R : Value → α → Prop} {vs : List Value} (h : All2 R vs xs) {n : Nat} (hn : n ≤ xs.length) : All2 R (slicePick vs.toArray none (some (n : Int)) none).toList (xs.take n) := by
  rw [slicePick_upto _ _ (by rw [List.size_toArray, h.length]; exact hn)]
  exact h.take n
theorem pickUptoC {R : Value → α → Prop} {vs : List Value} (h : All2 R vs xs) {n : Nat} : All2 R (slicePick vs.toArray none (some (n : Int)) none).toList (xs.take n) := by
  by_cases hn : n ≤ xs.length
  · exact pickUpto h hn
  · have e : slicePick vs.toArray none (some (n : Int)) none = slicePick vs.toArray none (some ((vs.length : Nat) : Int)) none := by
      unfold slicePick
      have : sliceBounds none (some (n : Int)) none vs.toArray.size = sliceBounds none (some ((vs.length : Nat) : Int)) none vs.toArray.size := by
        have hl := h.length
        simp only [sliceBounds, Option.getD_none, List.size_toArray]
        have h1 : ¬ ((n : Int) < 0) := by lia
        have h2 : ¬ (((vs.length : Nat) : Int) < 0) := by lia
        simp only [h1, h2, if_false, show (1 : Int) > 0 by decide, if_true]
        congr 1; congr 1; lia
      rw [this]
    rw [e, List.take_of_length_le (by lia), slicePick_upto _ _ (by simp)]
    simp only [List.take_length]
    exact h

/-- two lists joined -/
theorem catLs {Q : Value → Shared → Prop} (S : St B P own s) (h1 : Ev P (Ty.list τ) v xs) (h2 : Ev P (Ty.list τ) u ys) (hl1 : xs.length ≤ 1000) (hl2 : ys.length ≤ 1000)
    (k : ∀ a s', St B ((Ty.list τ).is (.ref a) (xs ++ ys) :: P) own s' → Q (.ref a) s') : wpAny (model prog w) A (binaryOp .Add v u) Q E s := by
  obtain ⟨G, hG⟩ := S
  obtain ⟨l, ⟨cls, dd, data, sl⟩, vs, rfl, ho, ⟨hc, n, hd⟩, hr⟩ := h1 G hG.fa
  obtain ⟨b, ⟨cls2, dd2, data2, sl2⟩, ws, rfl, ho2, ⟨hc2, n2, hd2⟩, hr2⟩ := h2 G hG.fa
  replace hc : cls = .type "list" := hc
  replace hd : data = .seq vs.toArray n := hd
  replace hc2 : cls2 = .type "list" := hc2
  replace hd2 : data2 = .seq ws.toArray n2 := hd2
  subst hc hd hc2 hd2
  have e1 := hr.length
  have e2 := hr2.length
  refine concat_meets ⟨_, hG.fr _ _ ho, rfl⟩ ⟨_, hG.fr _ _ ho2, rfl⟩ noFill_list_add seq_list_add PySem.F.slot_list_add PySem.F.entry_list_add (PySem.F.args_list_add_2 _ _)
    (list_addW l b vs.toArray ws.toArray n n2 dd dd2 sl sl2 (by rw [List.size_toArray, List.size_toArray]; unfold sizeLine; lia)) ⟨hG.fr _ _ ho, hG.fr _ _ ho2, ?_⟩
  exact k _ _ (hG.newList (vs := vs ++ ws) rfl (fun _ _ e => Heap.get?_push_of_some _ e) (Heap.get?_push_size _ rfl) ⟨rfl, 0, by simp⟩ (hr.append hr2))

/-- list(xs): a fresh one, frozen or owned -/
theorem copyLs {Q : Value → Shared → Prop} (S : St B P own s) (h : Ev P (Ty.list τ) v xs) (hl : xs.length ≤ 1000)
    (k : ∀ a s', St B ((Ty.list τ).is (.ref a) xs :: P) own s' → Q (.ref a) s') : wpAny (model prog w) A (call (.type "list") [v]) Q E s := by
  obtain ⟨G, hG⟩ := S
  obtain ⟨l, o, vs, rfl, ho, hls, hr⟩ := h G hG.fa
  obtain ⟨hc, n, hd⟩ := hls
  refine call_list_seq (hsz := by rw [List.size_toArray, hr.length]; exact Nat.le_trans hl (by decide)) l (.inl rfl) (hG.fr _ _ ho) hc hd fun h' c' hk hD => ?_
  exact k _ _ (hG.newList (tk := s.toks) rfl hk hD ⟨rfl, c', rfl⟩ hr)
theorem copyPl {Q : Value → Shared → Prop} (S : St B P own s) (h : Ev P (Ty.list τ) v xs) (hl : xs.length ≤ 1000)
    (k : ∀ a s', St B P ((a, plC τ xs) :: own) s' → Q (.ref a) s') : wpAny (model prog w) A (call (.type "list") [v]) Q E s := by
  obtain ⟨G, hG⟩ := S
  obtain ⟨l, o, vs, rfl, ho, hls, hr⟩ := h G hG.fa
  obtain ⟨hc, n, hd⟩ := hls
  refine call_list_seq (hsz := by rw [List.size_toArray, hr.length]; exact Nat.le_trans hl (by decide)) l (.inl rfl) (hG.fr _ _ ho) hc hd fun h' c' hk hD => ?_
  exact k _ _ ⟨G, hG.newOwn (tk := s.toks) (none_at _) hk hD ⟨vs, ⟨⟨rfl, c', rfl⟩, rfl, rfl⟩, hr⟩⟩

/-- ranges -/
def rgF (r : Addr) (b c : Int) : Fact := ⟨fun G => ∃ t u v, G r = some { cls := .type "range", dict := none, data := .fields #[.int b t, .int c u, .int 1 v], slots := #[] }, fun G G' h ⟨t, u, v, e⟩ => ⟨t, u, v, h _ _ e⟩⟩
theorem range1 {Q : Value → Shared → Prop} {n : Int} (S : St B P own s) (k : ∀ r s', St B (rgF r 0 n :: P) own s' → Q (.ref r) s') : wpAny (model prog w) A (call (.type "range") [.int n t]) Q E s := by
  refine call_range_1 (k _ _ ?_)
  exact S.fz (tk := s.toks + 1 + 1) rfl (fun _ _ e => Heap.get?_push_of_some _ e) (Heap.get?_push_size _ rfl) fun G _ hD => ⟨_, _, _, hD⟩
theorem range2 {Q : Value → Shared → Prop} {b c : Int} {t' : Tok} (S : St B P own s) (k : ∀ r s', St B (rgF r b c :: P) own s' → Q (.ref r) s') : wpAny (model prog w) A (call (.type "range") [.int b t, .int c t']) Q E s := by
  refine call_range_2 (k _ _ ?_)
  exact S.fz (tk := s.toks + 1) rfl (fun _ _ e => Heap.get?_push_of_some _ e) (Heap.get?_push_size _ rfl) fun G _ hD => ⟨_, _, _, hD⟩
def rangeL (b : Int) (n : Nat) : List Int := (List.range n).map fun (i : Nat) => b + (i : Int)
theorem rangeL_length {b : Int} {n : Nat} : (rangeL b n).length = n := by simp [rangeL]
theorem rangeL_get {b : Int} {n i : Nat} (h : i < n) : (rangeL b n)[i]? = some (b + (i : Int)) := by simp [rangeL, h]
theorem All2.ofGet {R : Value → α → Prop} : ∀ (vs : List Value) (xs : List α), vs.length = xs.length → (∀ (j : Nat) (v : Value) (x : α), vs[j]? = some v → xs[j]? = some x → R v x) → All2 R vs xs
  | [], [], _, _ => .nil
  | [], _ :: _, h, _ => by simp at h
  | _ :: _, [], h, _ => by simp at h
  | v :: vs, x :: xs, h, k => .cons (k 0 v x rfl rfl) (All2.ofGet vs xs (by simpa using h) fun j v' x' h1 h2 => k (j + 1) v' x' h1 h2)
theorem listRange {Q : Value → Shared → Prop} {n : Int} {r : Addr} (S : St B P own s) (hR : Room A 2) (hr : rgF r 0 n ∈ P) (h0 : 0 ≤ n) (hn : n ≤ 1000)
    (k : ∀ a s', St B ((Ty.list Ty.int).is (.ref a) (rangeL 0 n.toNat) :: P) own s' → Q (.ref a) s') : wpAny (model prog w) A (call (.type "list") [.ref r]) Q E s := by
  obtain ⟨G, hG⟩ := S
  obtain ⟨t, u, v, ho⟩ := hG.fa _ hr
  have hsz : Builtin.Range.rangeSize 0 n 1 = (n.toNat : Int) := by rw [rangeSize_one]; split <;> lia
  refine call_list_range hR.hh (hG.fr _ _ ho) (small_one (by decide) (by decide) (by lia) (by lia)) hsz (by lia) fun h' tk acc' c' hk hD hI => ?_
  refine k _ _ (hG.newList (vs := acc'.toList) rfl hk hD ⟨rfl, c', by simp⟩ (All2.ofGet _ _ ?_ fun j v x hv hx => ?_))
  · rw [rangeL_length]; simpa using hI.1
  · have hv' : acc'[j]? = some v := by simpa using hv
    have hj : j < n.toNat := by
      have := (Array.getElem?_eq_some_iff.mp hv').1
      rw [hI.1] at this; exact this
    obtain ⟨tk', rfl⟩ := hI.2 j v hv'
    rw [rangeL_get hj] at hx
    cases hx
    exact ⟨tk', by simp⟩

/-- append, pop -/
theorem appendPl {Q : Value → Shared → Prop} (S : St B P own s) (p : Pick own (a, plC τ xs) own₀) (h : Ev P τ v x) (hl : xs.length ≤ 1000)
    (k : ∀ s', St B P ((a, plC τ (xs ++ [x])) :: own₀) s' → Q .none s') : wpAny (model prog w) A (call (.builtin "list.append") [.ref a, v]) Q E s := by
  obtain ⟨G, hG⟩ := S
  obtain ⟨o, ho, vs, ⟨⟨hc, n, hd⟩, hdn, hsl⟩, hr⟩ := hG.at p.mem
  have hlen := hr.length
  obtain ⟨c0, d0, dt0, sl0⟩ := o
  replace hc : c0 = .type "list" := hc
  replace hd : dt0 = .seq vs.toArray n := hd
  replace hdn : d0 = none := hdn
  replace hsl : sl0 = #[] := hsl
  subst hc hd hdn hsl
  refine call_meets PySem.F.slot_list_append ⟨_, ho, rfl⟩ PySem.F.entry_list_append (PySem.F.args_list_append_2 _ _) (AutoListH.list_append_list_val_0 a vs.toArray n v (by rw [List.size_toArray, hlen]; exact Nat.le_trans hl (by decide))) ⟨ho, ?_⟩
  refine k _ ⟨G, hG.upd (tk := s.toks) p (fun b o hb e => (Heap.get?_update_other _ _ (Ne.symm hb)).trans e) ⟨_, Heap.get?_update_self _ ho rfl, vs ++ [v], ⟨⟨rfl, n + 1, ?_⟩, rfl, rfl⟩, hr.append (.cons (h G hG.fa) .nil)⟩⟩
  · simp [Obj.mapSeq]
end
end Mine

namespace Mine
open PySem PySem.W PyProof.Rows PySem.Calls PySem.Spec

structure Cod {α : Type} (τ : Ty α) where
  enc : α → PyData
  reads : ∀ (G : Gh) (h : Heap) v x, (∀ a o, G a = some o → h.get? a = some o) → τ.R G v x → ∃ as, Reads h v (enc x) as
  lay : ∀ x, (enc x).canLay0 = true
  dep : Nat
  depth : ∀ x, (enc x).depth ≤ dep
  eqv : ∀ x y, (PyData.eqv (enc x) (enc y) = true ↔ x = y)

def Cod.int : Cod Ty.int where
  enc := .int
  reads := fun G h v x hs ⟨t, e⟩ => ⟨_, e ▸ Reads.int x t⟩
  lay := fun _ => by simp [PyData.canLay0]
  dep := 0
  depth := fun _ => by simp [PyData.depth]
  eqv := fun x y => by simp [PyData.eqv]
def Cod.rat : Cod Ty.rat where
  enc := fun q => .tuple [.int q.num, .int (q.den : Int)]
  reads := fun G h v q hs hr => by
    obtain ⟨a, o, u, w, rfl, ho, hl, ⟨t1, h1⟩, t2, h2⟩ := hr
    dsimp only at h1 h2
    subst h1 h2
    exact ⟨_, reads_tuple_at (hs _ _ ho) hl.1 hl.2.choose_spec (ReadsAll.cons (Reads.int _ _) (ReadsAll.cons (Reads.int _ _) ReadsAll.nil))⟩
  lay := fun _ => by simp [PyData.canLay0, PyData.canLayAll0]
  dep := 1
  depth := fun _ => by simp [PyData.depth, PyData.depthAll]
  eqv := fun x y => by
    simp only [PyData.eqv, PyData.eqvAll, Bool.and_true, Bool.and_eq_true, beq_iff_eq]
    constructor
    · rintro ⟨h1, h2⟩
      exact Rat.ext h1 (by exact_mod_cast h2)
    · rintro rfl
      exact ⟨rfl, rfl⟩
theorem cod_all {α : Type} {τ : Ty α} (c : Cod τ) {G : Gh} {h : Heap} (hs : ∀ a o, G a = some o → h.get? a = some o) : ∀ {vs : List Value} {xs : List α}, All2 (τ.R G) vs xs → ∃ as, ReadsAll h vs (xs.map c.enc) as
  | _, _, .nil => ⟨_, .nil⟩
  | _, _, .cons a r => by
    obtain ⟨as, h1⟩ := c.reads G h _ _ hs a
    obtain ⟨bs, h2⟩ := cod_all c hs r
    exact ⟨_, .cons h1 h2⟩
theorem cod_lay {α : Type} {τ : Ty α} (c : Cod τ) : ∀ xs : List α, PyData.canLayAll0 (xs.map c.enc) = true
  | [] => by simp [PyData.canLayAll0]
  | x :: xs => by simp [PyData.canLayAll0, c.lay x, cod_lay c xs]
theorem cod_depth {α : Type} {τ : Ty α} (c : Cod τ) : ∀ xs : List α, PyData.depthAll (xs.map c.enc) ≤ c.dep
  | [] => by simp [PyData.depthAll]
  | x :: xs => by
    have h1 := c.depth x
    have h2 := cod_depth c xs
    simp only [List.map_cons, PyData.depthAll]; lia
theorem cod_eqv {α : Type} {τ : Ty α} (c : Cod τ) : ∀ xs ys : List α, (PyData.eqvAll (xs.map c.enc) (ys.map c.enc) = true ↔ xs = ys)
  | [], [] => by simp [PyData.eqvAll]
  | [], _ :: _ => by simp [PyData.eqvAll]
  | _ :: _, [] => by simp [PyData.eqvAll]
  | x :: xs, y :: ys => by simp only [List.map_cons, PyData.eqvAll, Bool.and_eq_true, c.eqv x y, cod_eqv c xs ys, List.cons.injEq]
def Cod.list {α : Type} {τ : Ty α} (c : Cod τ) : Cod (Ty.list τ) where
  enc := fun xs => .list (xs.map c.enc)
  reads := fun G h v xs hs hr => by
    obtain ⟨a, o, vs, rfl, ho, hl, hr⟩ := hr
    obtain ⟨as, q⟩ := cod_all c hs hr
    exact ⟨_, reads_list_at (hs _ _ ho) hl.1 hl.2.choose_spec (by simpa using q)⟩
  lay := fun xs => by simp only [PyData.canLay0]; exact cod_lay c xs
  dep := c.dep + 1
  depth := fun xs => by simp only [PyData.depth]; have := cod_depth c xs; lia
  eqv := fun xs ys => by simp only [PyData.eqv]; exact cod_eqv c xs ys

section
variable {B : Shared} {GT BT : List (Str × Value)} {P : List Fact} {own own₀ : Own} {prog : Program} {w : World} {A : Around} {E : Value → Shared → Prop} {s : Shared} {env : Env}
  {v u : Value} {a : Addr} {α β : Type} {τ : Ty α} {σ : Ty β} {x : α} {xs ys : List α} {i : Int} {t : Tok} {G : Gh}

theorem cod_dec [DecidableEq α] (c : Cod τ) (x y : α) : PyData.eqv (c.enc x) (c.enc y) = decide (x = y) := by
  by_cases h : x = y
  · rw [decide_eq_true h]; exact (c.eqv x y).mpr h
  · rw [decide_eq_false h]; exact Bool.eq_false_iff.mpr fun z => h ((c.eqv x y).mp z)
theorem eqD {n : Nat} {y : α} [DecidableEq α] {Q : Value → Shared → Prop} (c : Cod τ) (S : St B P own s) (hR : Room A n) (h1 : Ev P τ v x) (h2 : Ev P τ u y) (hd : c.dep ≤ 100) (k : Q (.bool (decide (x = y))) s) :
    wpAny (model prog w) A (compareOp .Eq v u) Q E s := by
  obtain ⟨G, hG⟩ := S
  obtain ⟨as, r1⟩ := c.reads G s.heap v x hG.fr (h1 G hG.fa)
  obtain ⟨bs, r2⟩ := c.reads G s.heap u y hG.fr (h2 G hG.fa)
  refine SeqAt.compareEq_reads r1 r2 (c.lay x) (c.lay y) ?_ (by rw [cod_dec]; exact k)
  have := c.depth x; have := hR.uni; lia
theorem neD {n : Nat} {y : α} [DecidableEq α] {Q : Value → Shared → Prop} (c : Cod τ) (S : St B P own s) (hR : Room A n) (h1 : Ev P τ v x) (h2 : Ev P τ u y) (hd : c.dep ≤ 100) (k : Q (.bool (!decide (x = y))) s) :
    wpAny (model prog w) A (compareOp .NotEq v u) Q E s := by
  obtain ⟨G, hG⟩ := S
  obtain ⟨as, r1⟩ := c.reads G s.heap v x hG.fr (h1 G hG.fa)
  obtain ⟨bs, r2⟩ := c.reads G s.heap u y hG.fr (h2 G hG.fa)
  refine SeqAt.compareNe_reads r1 r2 (c.lay x) (c.lay y) ?_ (by rw [cod_dec]; exact k)
  have := c.depth x; have := hR.uni; lia
theorem inInt {n : Nat} {k : Int} {ks : List Int} {Q : Value → Shared → Prop} (S : St B P own s) (hR : Room A n) (h : Ev P (Ty.list Ty.int) u ks) (K : Q (.bool (decide (k ∈ ks))) s) :
    wpAny (model prog w) A (compareOp .In (.int k t) u) Q E s := by
  obtain ⟨G, hG⟩ := S
  obtain ⟨as, r1⟩ := (Cod.list Cod.int).reads G s.heap u ks hG.fr (h G hG.fa)
  refine SeqAt.in_list_reads r1 (Reads.int k t) (cod_lay Cod.int ks) (by simp [PyData.canLay0]) ?_ ?_
  · have := cod_depth Cod.int ks; have h0 : Cod.int.dep = 0 := rfl; have := hR.uni; lia
  · have e : ((ks.map Cod.int.enc).any fun y => PyData.eqv y (.int k)) = decide (k ∈ ks) := by
      rw [Bool.eq_iff_iff]
      simp [Cod.int, PyData.eqv]
    rw [e]; exact K

/-- is None, of what is an option -/
theorem isNone_none {Q : Value → Shared → Prop} (k : Q (.bool true) s) : wpAny (model prog w) A (compareOp .Is .none .none) Q E s := fun _ _ _ => k
theorem isNone_ref {Q : Value → Shared → Prop} (k : Q (.bool false) s) : wpAny (model prog w) A (compareOp .Is (.ref a) .none) Q E s := fun _ _ _ => k
theorem isNot_none {Q : Value → Shared → Prop} (k : Q (.bool false) s) : wpAny (model prog w) A (compareOp .IsNot .none .none) Q E s := fun _ _ _ => k
theorem isNot_ref {Q : Value → Shared → Prop} (k : Q (.bool true) s) : wpAny (model prog w) A (compareOp .IsNot (.ref a) .none) Q E s := fun _ _ _ => k
theorem eqBB {b c : Bool} {Q : Value → Shared → Prop} (k : Q (.bool (b == c)) s) : wpAny (model prog w) A (compareOp .Eq (.bool b) (.bool c)) Q E s := SeqAt.RcAt.bool_bool b c prog w E Q k
theorem neBB {n : Nat} {b c : Bool} {Q : Value → Shared → Prop} (hR : Room A n) (k : Q (.bool (!(b == c))) s) : wpAny (model prog w) A (compareOp .NotEq (.bool b) (.bool c)) Q E s := by
  refine SeqAt.compareNe_reads (da := .bool b) (db := .bool c) (Reads.bool b) (Reads.bool c) (by simp [PyData.canLay0]) (by simp [PyData.canLay0]) ?_ (by simpa [PyData.eqv] using k)
  have := hR.uni
  simp [PyData.depth]; lia

/-- pop(0) -/
theorem popPl {Q : Value → Shared → Prop} (S : St B P own s) (p : Pick own (a, plC τ (x :: xs)) own₀) (hl : xs.length ≤ 1000)
    (k : ∀ u s', St B (τ.is u x :: P) ((a, plC τ xs) :: own₀) s' → Q u s') : wpAny (model prog w) A (call (.builtin "list.pop") [.ref a, .int 0 t]) Q E s := by
  obtain ⟨G, hG⟩ := S
  obtain ⟨⟨c0, d0, dt0, sl0⟩, ho, vs, ⟨⟨hc, n, hd⟩, hdn, hsl⟩, hr⟩ := hG.at p.mem
  replace hc : c0 = .type "list" := hc
  replace hd : dt0 = .seq vs.toArray n := hd
  replace hdn : d0 = none := hdn
  replace hsl : sl0 = #[] := hsl
  subst hc hd hdn hsl
  cases hr with
  | @cons u _ vs _ h1 hr =>
    have hlen := hr.length
    have hz : (u :: vs).toArray.size ≤ sizeLine := by rw [List.size_toArray, List.length_cons, hlen]; unfold sizeLine; lia
    refine call_meets PySem.F.slot_list_pop ⟨_, ho, rfl⟩ PySem.F.entry_list_pop (PySem.F.args_list_pop_2 _ _) (PySem.MeetsSeq.list_pop_at a _ n 0 t 0 u (by decide) (by simp [seqIndex?]) (by simp) hz) ⟨ho, ?_⟩
    refine k u _ ⟨G, (hG.upd (c' := plC τ xs) (tk := s.toks) p (fun b o hb e => (Heap.get?_update_other _ _ (Ne.symm hb)).trans e) ⟨_, Heap.get?_update_self _ ho rfl, vs, ⟨⟨rfl, n + 1, ?_⟩, rfl, rfl⟩, hr⟩).addF h1⟩
    have e : ((u :: vs).toArray).eraseIdxIfInBounds 0 = vs.toArray := by
      unfold Array.eraseIdxIfInBounds
      rw [dif_pos (by simp)]
      simp
    show Data.seq (((u :: vs).toArray).eraseIdxIfInBounds 0) _ = _
    rw [e]
    simp

/-- [x] * n -/
theorem mulLs {Q : Value → Shared → Prop} {n : Int} (S : St B P own s) (p : Pick own (a, plC τ [x]) own₀) (h0 : 0 ≤ n) (hn : n ≤ 1000)
    (k : ∀ b s', St B P ((b, lsC τ (List.replicate n.toNat x)) :: own₀) s' → Q (.ref b) s') : wpAny (model prog w) A (binaryOp .Mult (.ref a) (.int n t)) Q E s := by
  obtain ⟨G, hG⟩ := S
  obtain ⟨⟨c0, d0, dt0, sl0⟩, ho, vs, ⟨⟨hc, m, hd⟩, hdn, hsl⟩, hr⟩ := hG.at p.mem
  replace hc : c0 = .type "list" := hc
  replace hd : dt0 = .seq vs.toArray m := hd
  replace hdn : d0 = none := hdn
  replace hsl : sl0 = #[] := hsl
  subst hc hd hdn hsl
  cases hr with
  | @cons u _ vs _ h1 hr =>
    cases hr
    have hz : (([u] : List Value).toArray.size) * n.toNat ≤ 1000 := by
      rw [show (([u] : List Value).toArray.size) = 1 from rfl]; lia
    refine wpAny_binaryOp_repeat_ref (T := "list") (U := "int") (by decide) ⟨_, ho, rfl⟩ (fun s' => typeIs_int s' n t) noFill_list_mul F.fills_int_mul F.slot_int_rmul repeat_list F.slot_int_index.lookup
      (call_meets F.slot_int_rmul (typeIs_int s n t) F.entry_int_rmul (F.args_int_rmul_2 _ _) (int___rmul___int_list n t a _ m)
        ⟨ho, rfl, ⟨_, ho, rfl⟩, call_meets F.slot_list_mul ⟨_, ho, rfl⟩ F.entry_list_mul (F.args_list_mul_2 _ _)
          (AutoListH.list___mul___list_int_3 a (([u] : List Value).toArray) m n t (by simp [Builtin.List.listFitsIndex]; lia) (by lia) (by unfold Builtin.List.listTooLong sizeLine; rw [decide_eq_true_eq]; exact Nat.not_lt.mpr (Nat.le_trans hz (by decide))))
          ⟨ho, ?_⟩⟩)
    have hG' := (hG.perm p.perm).drop
    refine k _ _ (hG'.newOwnL (tk := s.toks) (vs := List.replicate n.toNat u) rfl (fun _ _ e => Heap.get?_push_of_some _ e) (Heap.get?_push_size _ rfl) ⟨rfl, 0, ?_⟩ ?_)
    · have key : ∀ (m : Nat) (acc : Array Value), List.foldl (fun x1 x2 : Array Value => x1 ++ x2) acc (List.replicate m #[u]) = acc ++ (List.replicate m u).toArray := by
        intro m
        induction m with
        | zero => intro acc; simp
        | succ m ih => intro acc; rw [List.replicate_succ, List.foldl_cons, ih, List.replicate_succ]; apply Array.toList_inj.mp; simp
      have := key n.toNat #[]
      simpa using this
    · have : ∀ m : Nat, All2 (τ.R G) (List.replicate m u) (List.replicate m x) := by
        intro m
        induction m with
        | zero => exact .nil
        | succ m ih => rw [List.replicate_succ, List.replicate_succ]; exact .cons h1 ih
      exact this _
end
end Mine

namespace Mine
open PySem PySem.W PyProof.Rows PySem.Calls PySem.Spec

def retV : Flow → Value
  | .ret v => v
  | _ => .none

theorem cellsFrom_names : ∀ (names : List (Str × NameKind)) (n m : Nat) (acc acc' : List (Str × Addr)), acc.map Prod.fst = acc'.map Prod.fst → (cellsFrom n names acc).map Prod.fst = (cellsFrom m names acc').map Prod.fst
  | [], _, _, _, _, h => h
  | (x, k) :: r, n, m, acc, acc', h => by
    unfold cellsFrom
    split
    · exact cellsFrom_names r _ _ _ _ (by rw [List.map_cons, List.map_cons, h])
    · exact cellsFrom_names r _ _ _ _ h

def KnownIn (f : Str → Option Value) : List (Str × Option Value) → Prop
  | [] => True
  | (x, none) :: r => KnownIn f r
  | (x, some v) :: r => f x = some v ∧ KnownIn f r
theorem KnownIn.get {f : Str → Option Value} : ∀ {ms : List (Str × Option Value)}, KnownIn f ms → ∀ x v, (x, some v) ∈ ms → f x = some v
  | (y, none) :: r, h, x, v, hm => by
    rcases List.mem_cons.mp hm with e | hm
    · cases e
    · exact KnownIn.get (ms := r) h x v hm
  | (y, some u) :: r, h, x, v, hm => by
    rcases List.mem_cons.mp hm with e | hm
    · cases e; exact h.1
    · exact KnownIn.get (ms := r) h.2 x v hm
/-- what the cells hold, in the cells' order -/
def CellsIn (f : Str → Option Value) : List (Str × Option Value) → Prop
  | [] => True
  | (x, v) :: r => f x = v ∧ CellsIn f r
def ownCells : List Addr → List (Str × Option Value) → Own
  | c :: cs, (_, v) :: vs => (c, ceC v) :: ownCells cs vs
  | _, _ => []
theorem ownCells_mem {f : Str → Option Value} : ∀ {cs : List Addr} {vs : List (Str × Option Value)}, CellsIn f vs → ∀ x ∈ ownCells cs vs, ∃ n, (n, x.1) ∈ (vs.map Prod.fst).zip cs ∧ x.2 = ceC (f n)
  | c :: cs, (n, v) :: vs, h, x, hx => by
    rcases List.mem_cons.mp hx with rfl | hx
    · exact ⟨n, .head _, by rw [h.1]⟩
    · obtain ⟨n', h1, h2⟩ := ownCells_mem h.2 x hx
      exact ⟨n', .tail _ h1, h2⟩
theorem ownCells_addr : ∀ {cs : List Addr} {vs : List (Str × Option Value)}, cs.length = vs.length → (ownCells cs vs).map (·.1) = cs
  | [], [], _ => rfl
  | c :: cs, (_, _) :: vs, h => by
    show c :: (ownCells cs vs).map (·.1) = c :: cs
    rw [ownCells_addr (by simpa using h)]
theorem zip_unzip {α β : Type} : ∀ l : List (α × β), (l.map Prod.fst).zip (l.map Prod.snd) = l
  | [] => rfl
  | (a, b) :: r => congrArg ((a, b) :: ·) (zip_unzip r)

variable {B : Shared} {GT BT : List (Str × Value)} {P : List Fact} {own own₀ : Own} {prog : Program} {w : World} {A : Around} {E : Value → Shared → Prop} {s : Shared} {env : Env}

theorem StG.newOwns {G : Gh} {h' : Heap} {tk : Nat} (hG : StG B P own s G) (k : ∀ b o, s.heap.get? b = some o → h'.get? b = some o) (cs : Own) (nd : (cs.map (·.1)).Nodup)
    (hf : ∀ x ∈ cs, s.heap.get? x.1 = none) (hc : ∀ x ∈ cs, ∃ o, h'.get? x.1 = some o ∧ x.2.c G o) : StG B P (cs ++ own) { s with heap := h', toks := tk } G where
  fr := fun b o e => k _ _ (hG.fr b o e)
  ba := hG.ba
  fa := hG.fa
  ow := fun x hx => by
    rcases List.mem_append.mp hx with hx | hx
    · exact hc x hx
    · obtain ⟨o, ho, hc⟩ := hG.ow x hx
      exact ⟨o, k _ _ ho, hc⟩
  nd := by
    rw [List.map_append, List.nodup_append]
    refine ⟨nd, hG.nd, fun a ha b hb e => ?_⟩
    obtain ⟨x, hx, rfl⟩ := List.mem_map.mp ha
    obtain ⟨y, hy, rfl⟩ := List.mem_map.mp hb
    obtain ⟨o, ho, _⟩ := hG.ow y hy
    rw [← e, hf x hx] at ho; cases ho
  di := fun x hx => by
    rcases List.mem_append.mp hx with hx | hx
    · cases e : G x.1 with
      | none => rfl
      | some o' => have := hG.fr _ _ e; rw [hf x hx] at this; cases this
    · exact hG.di x hx
  ge := hG.ge
  dr := hG.dr
  os := hG.os

structure FnAt (B : Shared) (f : Addr) (fd : FuncData) : Prop where
  obj : ∃ o, B.heap.get? f = some o ∧ o.data = .func fd
  code : B.heap.CodeRec fd.code fd.qualname

theorem callFn {f : Addr} {fd : FuncData} {body : List Stmt} {vals : List Value} {binds : List (Str × Value)} {N : List (Str × NameKind)} {n : Nat} {cn : List Str} {Q : Value → Shared → Prop}
    (F : FnAt B f fd) (hB : Bas B GT BT) (S : St B P own s) (hR : Room A (n + 1)) (hbody : fd.body = .stmts body) (hN : fd.scope.names = N)
    (hb : bindArgs fd ⟨vals, []⟩ = pure binds)
    (hk : ((binds.map Prod.fst).all fun x => N.lookup x == some .local || (N.lookup x == some .cell && cn.contains x)) = true)
    (hnd : decide (N.map Prod.fst).Nodup = true) (hdb : (N.all fun p => !(p.1 == ("__debug__" : Str))) = true)
    (cvs ms : List (Str × Option Value))
    (hcn : (cellsFrom 0 N []).map Prod.fst = cn) (hcv : cvs.map Prod.fst = cn) (hcd : decide cn.Nodup = true) (hms : decide (ms.map Prod.fst).Nodup = true)
    (h1 : KnownIn (bindL (fun x => N.lookup x) binds fun _ => none) ms) (h2 : CellsIn (bindC (fun x => N.lookup x) binds fun _ => none) cvs)
    (h : ∀ L cs env s', cs.length = cn.length → EnvIs env N L (cn.zip cs) → Room (A.deeper env) n → St B P ((L, nsC ms) :: (ownCells cs cvs ++ own)) s' →
      ∀ E', wpAny (model prog w) (A.deeper env) (execs body env) (fun fl s'' => Q (retV fl) s'') E' s')
    (hclo : fd.closure = [] := by rfl) (hgl : fd.globals = mainGlobals := by rfl) (hbl : fd.builtins = builtinsNs := by rfl)
    (hco : fd.scope.isCoroutine = false := by rfl) (hgen : fd.scope.isGenerator = false := by rfl) (hkf : fd.scope.kind = .function := by rfl) :
    wpAny (model prog w) A (call (.ref f) vals) Q E s := by
  obtain ⟨G, hG⟩ := S
  obtain ⟨o, ho, hd⟩ := F.obj
  have keep : ∀ b o, B.heap.get? b = some o → s.heap.get? b = some o := fun b o e => hG.fr _ _ (hG.ba _ _ e)
  refine wpAny_call (codeAny_call_cells hR.dep (keep _ _ ho) hd (hB.lim.keeps keep) (F.code.keeps keep) hbody hb hclo (fun x hx => ?_) (fun s₁ X => ?_) hco hgen hkf)
  · have hx' := List.all_eq_true.mp hk x.1 (List.mem_map.mpr ⟨x, hx, rfl⟩)
    rw [hN]
    simp only [Bool.or_eq_true, Bool.and_eq_true, beq_iff_eq, List.contains_iff_mem] at hx'
    rcases hx' with h | ⟨h, hc⟩
    · exact .inl h
    · refine .inr ⟨h, ?_⟩
      rw [← hcn, cellsFrom_names N 0 (s.heap.objs.size + 1) [] [] rfl] at hc
      obtain ⟨⟨n', c'⟩, hm, rfl⟩ := List.mem_map.mp hc
      have : ∀ (l : List (Str × Addr)) (x : Str) (c : Addr), (x, c) ∈ l → (l.lookup x).isSome = true := by
        intro l
        induction l with
        | nil => intro x c h; cases h
        | cons p r ih =>
          intro x c h
          obtain ⟨y, d⟩ := p
          rw [List.lookup_cons]
          by_cases hxy : (x == y) = true
          · rw [hxy]; rfl
          · rw [Bool.not_eq_true] at hxy
            rw [hxy]
            rcases List.mem_cons.mp h with e | h
            · cases e; rw [beq_self_eq_true] at hxy; cases hxy
            · exact ih x c h
      exact this _ _ _ hm
  · generalize hcells : cellsFrom (s.heap.objs.size + 1) fd.scope.names [] = C at *
    have henv : callEnvC fd s.heap.objs.size f = newEnv fd.scope s.heap.objs.size fd.globals C (fd.qualname ++ ".<locals>.") (some f) fd.code none fd.builtins := by
      rw [← hcells]; rfl
    rw [henv] at X ⊢
    have hCn : C.map Prod.fst = cn := by
      rw [← hcells, hN, ← hcn]; exact cellsFrom_names N _ _ [] [] rfl
    have hE : EnvIs (newEnv fd.scope s.heap.objs.size fd.globals C (fd.qualname ++ ".<locals>.") (some f) fd.code none fd.builtins) N s.heap.objs.size (cn.zip (C.map Prod.snd)) := {
      kind := hkf
      names := hN
      nd := of_decide_eq_true hnd
      loc := rfl
      cells := by rw [← hCn, zip_unzip]; rfl
      cnd := by rw [← hCn, zip_unzip, hCn]; exact of_decide_eq_true hcd
      glob := hgl
      blt := hbl
      nodb := fun p hp => by have := List.all_eq_true.mp hdb p hp; simpa using this }
    have hkind : ∀ x, (newEnv fd.scope s.heap.objs.size fd.globals C (fd.qualname ++ ".<locals>.") (some f) fd.code none fd.builtins).kindOf x = N.lookup x := fun x => by
      unfold Env.kindOf; rw [hE.names]
    have hfun : (newEnv fd.scope s.heap.objs.size fd.globals C (fd.qualname ++ ".<locals>.") (some f) fd.code none fd.builtins).kindOf = fun x => N.lookup x := funext hkind
    rw [hfun] at X
    obtain ⟨h', tk, rfl⟩ := X.toInCall.same
    have hlen : (C.map Prod.snd).length = cvs.length := by
      have e1 : cvs.length = cn.length := by rw [← hcv, List.length_map]
      have e2 : C.length = cn.length := by rw [← hCn, List.length_map]
      rw [List.length_map, e1, e2]
    have hLs : s.heap.get? s.heap.objs.size = none := none_at _
    have hcellmem : ∀ x ∈ ownCells (C.map Prod.snd) cvs, ∃ n', (n', x.1) ∈ C ∧ x.2 = ceC (bindC (fun x => N.lookup x) binds (fun _ => none) n') := fun x hx => by
      obtain ⟨n', hm, e⟩ := ownCells_mem h2 x hx
      rw [hcv, ← hCn, zip_unzip] at hm
      exact ⟨n', hm, e⟩
    have S' := hG.newOwns (tk := tk) (h' := h') X.toInCall.keep ((s.heap.objs.size, nsC ms) :: ownCells (C.map Prod.snd) cvs) ?_ ?_ ?_
    · refine h s.heap.objs.size (C.map Prod.snd) _ _ ?_ hE (hR.deeper) ⟨G, S'⟩ _
      rw [← hCn, List.length_map, List.length_map]
    · rw [List.map_cons, ownCells_addr hlen, List.nodup_cons]
      refine ⟨fun hm => ?_, ?_⟩
      · obtain ⟨⟨n', c'⟩, hm', e⟩ := List.mem_map.mp hm
        have := X.above n' c' hm'
        dsimp only at e
        rw [e] at this
        exact Nat.lt_irrefl _ this
      · have := X.apart
        exact List.pairwise_map.mpr this
    · intro x hx
      rcases List.mem_cons.mp hx with rfl | hx
      · exact hLs
      · obtain ⟨n', hm, _⟩ := hcellmem x hx
        have := X.above n' x.1 hm
        cases e : s.heap.get? x.1 with
        | none => rfl
        | some o => exact absurd (Heap.lt_size e) (Nat.not_lt.mpr (Nat.le_of_lt this))
    · intro x hx
      rcases List.mem_cons.mp hx with rfl | hx
      · exact nsC_of X.toInCall.ns (of_decide_eq_true hms) (fun y v hy => h1.get y v hy)
      · obtain ⟨n', hm, e⟩ := hcellmem x hx
        have hlk : C.lookup n' = some x.1 := lookup_of_mem (by rw [hCn]; exact of_decide_eq_true hcd) hm
        obtain ⟨o, ho, hd⟩ := X.cell n' x.1 hlk
        refine ⟨o, ho, ?_⟩
        rw [e]; exact hd

def stIx : List Nat := [3, 7, 8, 9, 10, 11, 12, 14, 15, 16, 17, 18, 19, 20, 21, 22, 23, 24, 25, 27, 28, 30, 31, 32, 33, 34, 35, 36, 37, 38, 39, 40]
/-- the defs of the program, by their place -/
def dr (i : Nat) : Option DefRec := match stIx[i]? with
  | some j => match PySem.Challenge.pw_nn0255_01.main.body[j]? with
    | some (.FunctionDef name params body _ _ _ scope _ _ pos) => some ⟨name, params, body, scope, pos⟩
    | _ => none
  | none => none
abbrev scN (N : List (Str × NameKind)) (mo : List (Str × Const)) : Scope := { kind := .function, names := N, isGenerator := false, isCoroutine := false, more := mo }
/-- they stand at the addresses ad; 100 and 101 are R0 and R1 -/
structure Fns (B : Shared) (ad : Nat → Addr) : Prop where
  fn : ∀ i d, dr i = some d → ∃ o pm cd doc, B.heap.get? (ad i) = some o ∧ o.data = .func (docDef d.name d.params d.body d.scope pm cd doc) ∧ B.heap.CodeRec cd d.name
  r0 : ∃ o t u, B.heap.get? (ad 100) = some o ∧ IsTp o [.int 0 t, .int 1 u]
  r1 : ∃ o t u, B.heap.get? (ad 101) = some o ∧ IsTp o [.int 1 t, .int 1 u]

def locN (N : List (Str × NameKind)) : List Str := (N.filter fun p => p.2 == .local).map Prod.fst
theorem locN_nodup {N : List (Str × NameKind)} (h : (N.map Prod.fst).Nodup) : (locN N).Nodup := List.Sublist.nodup (List.Sublist.map _ (List.filter_sublist ..)) h

theorem bind_any (nm : Str) (params : Arguments) (body : List Stmt) (sc : Scope) (pm cd doc : Value) {vals : List Value} : bindArgs (docDef nm params body sc pm cd doc) ⟨vals, []⟩ = bindArgs (docDef nm params body sc .none .none .none) ⟨vals, []⟩ := by rfl
theorem callFnG {ad : Nat → Addr} {f : Nat} {nm : Str} {params : Arguments} {body : List Stmt} {N : List (Str × NameKind)} {mo : List (Str × Const)} {pos : Pos}
    {vals : List Value} {binds : List (Str × Value)} {n : Nat} {Q : Value → Shared → Prop} (cvs ms : List (Str × Option Value))
    (X : Fns B ad) (hK : dr f = some ⟨nm, params, body, scN N mo, pos⟩)
    (hB : Bas B GT BT) (S : St B P own s) (hR : Room A (n + 1)) (hb : bindArgs (docDef nm params body (scN N mo) .none .none .none) ⟨vals, []⟩ = pure binds)
    (hk : ((binds.map Prod.fst).all fun x => N.lookup x == some .local || (N.lookup x == some .cell && ((cellsFrom 0 N []).map Prod.fst).contains x)) = true)
    (hnd : decide ((N.map Prod.fst).Nodup ∧ ((cellsFrom 0 N []).map Prod.fst).Nodup) = true) (hdb : (N.all fun p => !(p.1 == ("__debug__" : Str))) = true)
    (hcv : (cellsFrom 0 N []).map Prod.fst = cvs.map Prod.fst) (hms : ms.map Prod.fst = locN N)
    (h1 : KnownIn (bindL (fun x => N.lookup x) binds fun _ => none) ms) (h2 : CellsIn (bindC (fun x => N.lookup x) binds fun _ => none) cvs)
    (h : ∀ L cs env s', cs.length = cvs.length → EnvIs env N L ((cvs.map Prod.fst).zip cs) → Room (A.deeper env) n → St B P ((L, nsC ms) :: (ownCells cs cvs ++ own)) s' →
      ∀ E', wpAny (model prog w) (A.deeper env) (execs body env) (fun fl s'' => Q (retV fl) s'') E' s') :
    wpAny (model prog w) A (call (.ref (ad f)) vals) Q E s := by
  have hnd' := of_decide_eq_true hnd
  obtain ⟨o, pm, cd, doc, e1, e2, e3⟩ := X.fn f _ hK
  refine callFn (cn := cvs.map Prod.fst) (fd := docDef nm params body (scN N mo) pm cd doc) ⟨⟨o, e1, e2⟩, e3⟩ hB S hR rfl rfl ((bind_any _ _ _ _ pm cd doc).trans hb) (by rw [← hcv]; exact hk) (decide_eq_true hnd'.1) hdb cvs ms hcv rfl
    (by rw [← hcv]; exact decide_eq_true hnd'.2) (by rw [hms]; exact decide_eq_true (locN_nodup hnd'.1)) h1 h2 (fun L cs env s' hl => h L cs env s' (by simpa using hl))

section
variable {ad : Nat → Addr} {f : Nat} {nm : Str} {params : Arguments} {body : List Stmt} {N : List (Str × NameKind)} {mo : List (Str × Const)} {pos : Pos}
    {vals : List Value} {binds : List (Str × Value)} {n : Nat} {Q : Value → Shared → Prop}
theorem callFn0 (ms : List (Str × Option Value))
    (X : Fns B ad) (hK : dr f = some ⟨nm, params, body, scN N mo, pos⟩)
    (hB : Bas B GT BT) (S : St B P own s) (hR : Room A (n + 1)) (hb : bindArgs (docDef nm params body (scN N mo) .none .none .none) ⟨vals, []⟩ = pure binds)
    (hk : ((binds.map Prod.fst).all fun x => N.lookup x == some .local || (N.lookup x == some .cell && ((cellsFrom 0 N []).map Prod.fst).contains x)) = true)
    (hnd : decide ((N.map Prod.fst).Nodup ∧ ((cellsFrom 0 N []).map Prod.fst).Nodup) = true) (hdb : (N.all fun p => !(p.1 == ("__debug__" : Str))) = true)
    (hcv : (cellsFrom 0 N []).map Prod.fst = []) (hms : ms.map Prod.fst = locN N)
    (h1 : KnownIn (bindL (fun x => N.lookup x) binds fun _ => none) ms)
    (h : ∀ L env s', EnvIs env N L [] → Room (A.deeper env) n → St B P ((L, nsC ms) :: own) s' →
      ∀ E', wpAny (model prog w) (A.deeper env) (execs body env) (fun fl s'' => Q (retV fl) s'') E' s') :
    wpAny (model prog w) A (call (.ref (ad f)) vals) Q E s :=
  callFnG [] ms X hK hB S hR hb hk hnd hdb hcv hms h1 trivial fun L cs env s' hl hE hR S => by
    cases cs with
    | nil => exact h L env s' hE hR S
    | cons => simp at hl
theorem callFn1 (n1 : Str) (v1 : Option Value) (ms : List (Str × Option Value))
    (X : Fns B ad) (hK : dr f = some ⟨nm, params, body, scN N mo, pos⟩)
    (hB : Bas B GT BT) (S : St B P own s) (hR : Room A (n + 1)) (hb : bindArgs (docDef nm params body (scN N mo) .none .none .none) ⟨vals, []⟩ = pure binds)
    (hk : ((binds.map Prod.fst).all fun x => N.lookup x == some .local || (N.lookup x == some .cell && ((cellsFrom 0 N []).map Prod.fst).contains x)) = true)
    (hnd : decide ((N.map Prod.fst).Nodup ∧ ((cellsFrom 0 N []).map Prod.fst).Nodup) = true) (hdb : (N.all fun p => !(p.1 == ("__debug__" : Str))) = true)
    (hcv : (cellsFrom 0 N []).map Prod.fst = [n1]) (hms : ms.map Prod.fst = locN N)
    (h1 : KnownIn (bindL (fun x => N.lookup x) binds fun _ => none) ms) (h2 : CellsIn (bindC (fun x => N.lookup x) binds fun _ => none) [(n1, v1)])
    (h : ∀ L c1 env s', EnvIs env N L [(n1, c1)] → Room (A.deeper env) n → St B P ((L, nsC ms) :: (c1, ceC v1) :: own) s' →
      ∀ E', wpAny (model prog w) (A.deeper env) (execs body env) (fun fl s'' => Q (retV fl) s'') E' s') :
    wpAny (model prog w) A (call (.ref (ad f)) vals) Q E s :=
  callFnG [(n1, v1)] ms X hK hB S hR hb hk hnd hdb hcv hms h1 h2 fun L cs env s' hl hE hR S => by
    obtain ⟨c1, rfl⟩ := List.length_eq_one_iff.mp hl
    exact h L c1 env s' hE hR S
theorem callFn2 (n1 n2 : Str) (v1 v2 : Option Value) (ms : List (Str × Option Value))
    (X : Fns B ad) (hK : dr f = some ⟨nm, params, body, scN N mo, pos⟩)
    (hB : Bas B GT BT) (S : St B P own s) (hR : Room A (n + 1)) (hb : bindArgs (docDef nm params body (scN N mo) .none .none .none) ⟨vals, []⟩ = pure binds)
    (hk : ((binds.map Prod.fst).all fun x => N.lookup x == some .local || (N.lookup x == some .cell && ((cellsFrom 0 N []).map Prod.fst).contains x)) = true)
    (hnd : decide ((N.map Prod.fst).Nodup ∧ ((cellsFrom 0 N []).map Prod.fst).Nodup) = true) (hdb : (N.all fun p => !(p.1 == ("__debug__" : Str))) = true)
    (hcv : (cellsFrom 0 N []).map Prod.fst = [n1, n2]) (hms : ms.map Prod.fst = locN N)
    (h1 : KnownIn (bindL (fun x => N.lookup x) binds fun _ => none) ms) (h2 : CellsIn (bindC (fun x => N.lookup x) binds fun _ => none) [(n1, v1), (n2, v2)])
    (h : ∀ L c1 c2 env s', EnvIs env N L [(n1, c1), (n2, c2)] → Room (A.deeper env) n → St B P ((L, nsC ms) :: (c1, ceC v1) :: (c2, ceC v2) :: own) s' →
      ∀ E', wpAny (model prog w) (A.deeper env) (execs body env) (fun fl s'' => Q (retV fl) s'') E' s') :
    wpAny (model prog w) A (call (.ref (ad f)) vals) Q E s :=
  callFnG [(n1, v1), (n2, v2)] ms X hK hB S hR hb hk hnd hdb hcv hms h1 h2 fun L cs env s' hl hE hR S => by
    match cs, hl with
    | [c1, c2], _ => exact h L c1 c2 env s' hE hR S
theorem callFn3 (n1 n2 n3 : Str) (v1 v2 v3 : Option Value) (ms : List (Str × Option Value))
    (X : Fns B ad) (hK : dr f = some ⟨nm, params, body, scN N mo, pos⟩)
    (hB : Bas B GT BT) (S : St B P own s) (hR : Room A (n + 1)) (hb : bindArgs (docDef nm params body (scN N mo) .none .none .none) ⟨vals, []⟩ = pure binds)
    (hk : ((binds.map Prod.fst).all fun x => N.lookup x == some .local || (N.lookup x == some .cell && ((cellsFrom 0 N []).map Prod.fst).contains x)) = true)
    (hnd : decide ((N.map Prod.fst).Nodup ∧ ((cellsFrom 0 N []).map Prod.fst).Nodup) = true) (hdb : (N.all fun p => !(p.1 == ("__debug__" : Str))) = true)
    (hcv : (cellsFrom 0 N []).map Prod.fst = [n1, n2, n3]) (hms : ms.map Prod.fst = locN N)
    (h1 : KnownIn (bindL (fun x => N.lookup x) binds fun _ => none) ms) (h2 : CellsIn (bindC (fun x => N.lookup x) binds fun _ => none) [(n1, v1), (n2, v2), (n3, v3)])
    (h : ∀ L c1 c2 c3 env s', EnvIs env N L [(n1, c1), (n2, c2), (n3, c3)] → Room (A.deeper env) n → St B P ((L, nsC ms) :: (c1, ceC v1) :: (c2, ceC v2) :: (c3, ceC v3) :: own) s' →
      ∀ E', wpAny (model prog w) (A.deeper env) (execs body env) (fun fl s'' => Q (retV fl) s'') E' s') :
    wpAny (model prog w) A (call (.ref (ad f)) vals) Q E s :=
  callFnG [(n1, v1), (n2, v2), (n3, v3)] ms X hK hB S hR hb hk hnd hdb hcv hms h1 h2 fun L cs env s' hl hE hR S => by
    match cs, hl with
    | [c1, c2, c3], _ => exact h L c1 c2 c3 env s' hE hR S
end
end Mine

namespace Mine
theorem rat_parts (t b : Int) (hb : b ≠ 0) : t.fdiv (if 0 < b then (Int.gcd t b : Int) else 0 - (Int.gcd t b : Int)) = (Rat.divInt t b).num ∧ b.fdiv (if 0 < b then (Int.gcd t b : Int) else 0 - (Int.gcd t b : Int)) = ((Rat.divInt t b).den : Int) := by
  have hg0 : Int.gcd t b ≠ 0 := by
    intro h
    rw [Int.gcd_eq_zero_iff] at h
    exact hb h.2
  obtain ⟨t', ht⟩ := Int.gcd_dvd_left t b
  obtain ⟨b', hb'⟩ := Int.gcd_dvd_right t b
  rw [Rat.num_divInt, Rat.den_divInt, if_neg hb, Int.gcd_comm b t]
  generalize hgg : Int.gcd t b = g at *
  have hgz : (g : Int) ≠ 0 := by lia
  have hgp : (0 : Int) < g := by lia
  have hna : b.natAbs = g * b'.natAbs := by rw [hb', Int.natAbs_mul]; rfl
  have hd2 : b.natAbs / g = b'.natAbs := by rw [hna]; exact Nat.mul_div_cancel_left _ (by lia)
  rw [hd2]
  by_cases hpos : 0 < b
  · rw [if_pos hpos]
    have hs : b.sign = 1 := Int.sign_eq_one_of_pos hpos
    rw [hs, Int.one_mul]
    have hb'p : 0 < b' := by
      rw [hb'] at hpos
      rcases Int.lt_trichotomy b' 0 with h | h | h
      · have := Int.mul_neg_of_pos_of_neg hgp h; lia
      · rw [h] at hpos; simp at hpos
      · exact h
    constructor
    · rw [ht, Int.mul_fdiv_cancel_left _ hgz, Int.mul_ediv_cancel_left _ hgz]
    · rw [hb', Int.mul_fdiv_cancel_left _ hgz]; lia
  · rw [if_neg hpos]
    have hs : b.sign = -1 := Int.sign_eq_neg_one_of_neg (by lia)
    have hn : b' < 0 := by
      have hbn : b < 0 := by lia
      rw [hb'] at hbn
      rcases Int.lt_trichotomy b' 0 with h | h | h
      · exact h
      · rw [h] at hbn; simp at hbn
      · have := Int.mul_pos hgp h; lia
    have hz : (0 - (g : Int)) ≠ 0 := by lia
    have e1 : t = (0 - (g : Int)) * (-t') := by rw [ht, Int.zero_sub, Int.neg_mul_neg]
    have e2 : b = (0 - (g : Int)) * (-b') := by rw [hb', Int.zero_sub, Int.neg_mul_neg]
    rw [hs]
    constructor
    · have e3 : (-1 : Int) * t / (g : Int) = -t' := by
        rw [ht, ← Int.mul_assoc, Int.mul_comm (-1) (g : Int), Int.mul_assoc, Int.mul_ediv_cancel_left _ hgz]; lia
      rw [e3]
      conv => lhs; rw [e1]
      rw [Int.mul_fdiv_cancel_left _ hz]
    · conv => lhs; rw [e2]
      rw [Int.mul_fdiv_cancel_left _ hz]; lia

/-- sizes: both parts have fewer than k bits -/
def Sz (k : Nat) (q : Rat) : Prop := q.num.natAbs < 2 ^ k ∧ q.den < 2 ^ k
theorem Sz.mono {k l : Nat} {q : Rat} (h : Sz k q) (hl : k ≤ l) : Sz l q := ⟨Nat.lt_of_lt_of_le h.1 (Nat.pow_le_pow_right (by decide) hl), Nat.lt_of_lt_of_le h.2 (Nat.pow_le_pow_right (by decide) hl)⟩
theorem sz_divInt {t b : Int} {k : Nat} (hb : b ≠ 0) (ht : t.natAbs < 2 ^ k) (hk : b.natAbs < 2 ^ k) : Sz k (Rat.divInt t b) := by
  have h1 : (Rat.divInt t b).num.natAbs ≤ t.natAbs := by
    rw [Rat.num_divInt]
    have hdv : (Int.gcd b t : Int) ∣ b.sign * t := Int.dvd_trans (Int.gcd_dvd_right b t) (Int.dvd_mul_left _ _)
    rw [Int.natAbs_ediv_of_dvd hdv, Int.natAbs_mul]
    have hs : b.sign.natAbs ≤ 1 := by
      rcases Int.lt_trichotomy b 0 with h | h | h
      · rw [Int.sign_eq_neg_one_of_neg h]; decide
      · exact absurd h hb
      · rw [Int.sign_eq_one_of_pos h]; decide
    exact Nat.le_trans (Nat.div_le_self _ _) (Nat.le_trans (Nat.mul_le_mul_right _ hs) (by lia))
  have h2 : (Rat.divInt t b).den ≤ b.natAbs := by
    rw [Rat.den_divInt, if_neg hb]
    exact Nat.div_le_self _ _
  exact ⟨Nat.lt_of_le_of_lt h1 ht, Nat.lt_of_le_of_lt h2 hk⟩
theorem lt_pow_mul {a b k l : Nat} (ha : a < 2 ^ k) (hb : b < 2 ^ l) : a * b < 2 ^ (k + l) := by
  rw [Nat.pow_add]
  exact Nat.mul_lt_mul'' ha hb
theorem add_eq_divInt (a b : Rat) : Rat.divInt (a.num * (b.den : Int) + b.num * (a.den : Int)) ((a.den : Int) * (b.den : Int)) = a + b := by
  rw [← Rat.divInt_add_divInt _ _ (by have := a.den_nz; lia) (by have := b.den_nz; lia), Rat.num_divInt_den, Rat.num_divInt_den]
theorem sub_eq_divInt (a b : Rat) : Rat.divInt (a.num * (b.den : Int) - b.num * (a.den : Int)) ((a.den : Int) * (b.den : Int)) = a - b := by
  rw [← Rat.divInt_sub_divInt _ _ (by have := a.den_nz; lia) (by have := b.den_nz; lia), Rat.num_divInt_den, Rat.num_divInt_den]
theorem mul_eq_divInt (a b : Rat) : Rat.divInt (a.num * b.num) ((a.den : Int) * (b.den : Int)) = a * b := by
  rw [← Rat.divInt_mul_divInt, Rat.num_divInt_den, Rat.num_divInt_den]
theorem div_eq_divInt (a b : Rat) : Rat.divInt (a.num * (b.den : Int)) ((a.den : Int) * b.num) = a / b := by
  rw [Rat.div_def, Rat.inv_def, ← Rat.divInt_mul_divInt, Rat.num_divInt_den]
theorem sz_mul {a b : Rat} {k l : Nat} (ha : Sz k a) (hb : Sz l b) : Sz (k + l) (a * b) := by
  rw [← mul_eq_divInt]
  refine sz_divInt ?_ ?_ ?_
  · have := a.den_nz; have := b.den_nz
    intro h; rcases Int.mul_eq_zero.mp h with h | h <;> lia
  · rw [Int.natAbs_mul]; exact lt_pow_mul ha.1 hb.1
  · rw [Int.natAbs_mul]; exact lt_pow_mul ha.2 hb.2
theorem sz_add {a b : Rat} {k l : Nat} (ha : Sz k a) (hb : Sz l b) : Sz (k + l + 1) (a + b) := by
  rw [← add_eq_divInt]
  have h1 := lt_pow_mul ha.1 hb.2
  have h2 := lt_pow_mul hb.1 ha.2
  have h3 := lt_pow_mul ha.2 hb.2
  rw [Nat.add_comm l k] at h2
  have e : 2 ^ (k + l + 1) = 2 ^ (k + l) * 2 := Nat.pow_succ _ _
  refine sz_divInt ?_ ?_ ?_
  · have := a.den_nz; have := b.den_nz
    intro h; rcases Int.mul_eq_zero.mp h with h | h <;> lia
  · have q1 : (a.num * (b.den : Int)).natAbs = a.num.natAbs * b.den := by rw [Int.natAbs_mul]; rfl
    have q2 : (b.num * (a.den : Int)).natAbs = b.num.natAbs * a.den := by rw [Int.natAbs_mul]; rfl
    have := Int.natAbs_add_le (a.num * (b.den : Int)) (b.num * (a.den : Int))
    lia
  · have q3 : ((a.den : Int) * (b.den : Int)).natAbs = a.den * b.den := by rw [Int.natAbs_mul]; rfl
    lia
theorem sz_neg {a : Rat} {k : Nat} (ha : Sz k a) : Sz k (-a) := by
  refine ⟨?_, ?_⟩
  · rw [Rat.neg_num, Int.natAbs_neg]; exact ha.1
  · rw [Rat.neg_den]; exact ha.2
theorem sz_sub {a b : Rat} {k l : Nat} (ha : Sz k a) (hb : Sz l b) : Sz (k + l + 1) (a - b) := by
  rw [Rat.sub_eq_add_neg]; exact sz_add ha (sz_neg hb)
theorem sz_div {a b : Rat} {k l : Nat} (ha : Sz k a) (hb : Sz l b) (h0 : b ≠ 0) : Sz (k + l) (a / b) := by
  rw [← div_eq_divInt]
  refine sz_divInt ?_ ?_ ?_
  · have := a.den_nz
    intro h
    rcases Int.mul_eq_zero.mp h with h | h
    · lia
    · exact h0 (Rat.num_eq_zero.mp h)
  · rw [Int.natAbs_mul]; exact lt_pow_mul ha.1 hb.2
  · rw [Int.natAbs_mul]; exact lt_pow_mul ha.2 hb.1
end Mine

namespace Mine
open PySem PySem.W PyProof.Rows PySem.Calls PySem.Spec

abbrev GT (ad : Nat → Addr) : List (Str × Value) := ("gcd", Value.ref (ad 0)) :: ("R0", Value.ref (ad 100)) :: ("R1", Value.ref (ad 101)) :: ("rat", Value.ref (ad 1)) :: ("radd", Value.ref (ad 2)) :: ("rsub", Value.ref (ad 3)) :: ("rmul", Value.ref (ad 4)) :: ("rdiv", Value.ref (ad 5)) :: ("rneg", Value.ref (ad 6)) :: ("shape", Value.ref (ad 7)) :: ("need_shape", Value.ref (ad 8)) :: ("copied", Value.ref (ad 9)) :: ("from_whole", Value.ref (ad 10)) :: ("unit_matrix", Value.ref (ad 11)) :: ("transposed", Value.ref (ad 12)) :: ("dot", Value.ref (ad 13)) :: ("mat_mul", Value.ref (ad 14)) :: ("swap_rows", Value.ref (ad 15)) :: ("take_off", Value.ref (ad 16)) :: ("echelon", Value.ref (ad 17)) :: ("inverse", Value.ref (ad 18)) :: ("null_base", Value.ref (ad 19)) :: ("solve_system", Value.ref (ad 20)) :: ("_law_take", Value.ref (ad 21)) :: ("_law_box", Value.ref (ad 22)) :: ("_law_whole", Value.ref (ad 23)) :: ("_law_grid", Value.ref (ad 24)) :: ("_law_det", Value.ref (ad 25)) :: ("_law_times", Value.ref (ad 26)) :: ("_law_parts", Value.ref (ad 27)) :: ("_law_choices", Value.ref (ad 28)) :: ("_law_rank", Value.ref (ad 29)) :: ("_law_cleared", Value.ref (ad 30)) :: []
abbrev BT : List (Str × Value) := [("abs", .builtin "abs"), ("len", .builtin "len"), ("range", .type "range"), ("enumerate", .type "enumerate"), ("list", .type "list"), ("sum", .builtin "sum"), ("min", .builtin "min")]
abbrev FT : List Nat := [0, 1, 2, 3, 4, 5, 6, 7, 8, 9, 10, 11, 12, 13, 14, 15, 16, 17, 18, 19, 20, 21, 22, 23, 24, 25, 26, 27, 28, 29, 30, 31]

section
variable {B : Shared} {P : List Fact} {own own₀ : Own} {prog : Program} {w : World} {A : Around} {E : Value → Shared → Prop} {s : Shared} {env : Env}

theorem FT_ok : (FT.all fun i => (dr i).isSome) = true := by rfl
theorem isFn {ad : Nat → Addr} (X : Fns B ad) {f : Nat} (hf : f ∈ FT) : ∃ o fd, B.heap.get? (ad f) = some o ∧ o.data = .func fd := by
  have h := List.all_eq_true.mp FT_ok f hf
  obtain ⟨d, e⟩ := Option.isSome_iff_exists.mp h
  obtain ⟨o, pm, cd, doc, e1, e2, _⟩ := X.fn f d e
  exact ⟨o, _, e1, e2⟩
theorem callDef {ad : Nat → Addr} {f : Nat} {pos : Pos} {e : Expr} {rest : List Expr} {Q : Value → Shared → Prop} (X : Fns B ad) (hf : f ∈ FT)
    (h : wpAny (model prog w) A (spliced (backTo pos (starEach (e :: rest) env))) (fun vs s₁ => (∃ P own, St B P own s₁) ∧ wpAny (model prog w) A (call (.ref (ad f)) vs) Q E s₁) E s)
    (he : starEach (e :: rest) env = (false, eval e env) :: starEach rest env := by rfl) :
    wpAny (model prog w) A (callWith pos (.ref (ad f)) [] (backTo pos (starEach (e :: rest) env)) []) Q E s := by
  obtain ⟨o, fd, ho, hd⟩ := isFn X hf
  refine callWith_def (o := o) (fd := fd) hd (wpAny_mono h (fun vs s₁ h₁ => ?_) fun _ _ e => e) he
  obtain ⟨⟨P, own, S⟩, h2⟩ := h₁
  exact ⟨S.base _ _ ho, h2⟩
theorem callTyp {T : String} {pos : Pos} {e : Expr} {rest : List Expr} {Q : Value → Shared → Prop}
    (h : wpAny (model prog w) A (spliced (backTo pos (starEach (e :: rest) env))) (fun vs s₁ => wpAny (model prog w) A (call (.type T) vs) Q E s₁) E s)
    (he : starEach (e :: rest) env = (false, eval e env) :: starEach rest env := by rfl)
    (hplain : (backTo pos (starEach rest env)).any (·.1) = false := by rfl) :
    wpAny (model prog w) A (callWith pos (.type T) [] (backTo pos (starEach (e :: rest) env)) []) Q E s := by
  rw [he] at h ⊢
  exact PySem.callWith_type (by show (false || (backTo pos (starEach rest env)).any (·.1)) = false; rw [hplain]; rfl) (Calls.evalArgs_plain h)
theorem asgNil {Q : Unit → Shared → Prop} (h : Q () s) : wpAny (model prog w) A (assignInOrder [] []) Q E s := wpAny_pure h
theorem asgCons {t : Value → Sem Unit} {ts : List (Value → Sem Unit)} {x : Value} {xs : List Value} {Q : Unit → Shared → Prop} (h : wpAny (model prog w) A (t x) (fun _ s₁ => wpAny (model prog w) A (assignInOrder ts xs) Q E s₁) E s) :
    wpAny (model prog w) A (assignInOrder (t :: ts) (x :: xs)) Q E s := by
  rw [assignInOrder]
  exact wpAny_bind (wpAny_holding h)

/-- a pair that was just made is taken apart -/
def tpF (a : Addr) (vs : List Value) : Fact := ⟨fun G => ∃ o, G a = some o ∧ IsTp o vs, fun _ _ h ⟨o, e, k⟩ => ⟨o, h _ _ e, k⟩⟩
theorem newTpRaw {vs : List Value} {Q : Value → Shared → Prop} (S : St B P own s) (hl : vs.length ≤ 1000) (k : ∀ a s', St B (tpF a vs :: P) own s' → Q (.ref a) s') : wpAny (model prog w) A (newTuple vs) Q E s := by
  refine wpAny_newObj_type (k _ _ ?_) (by show vs.toArray.size ≤ sizeLine; rw [List.size_toArray]; exact Nat.le_trans hl (by decide))
  exact S.fz (tk := s.toks) rfl (fun b o e => Heap.get?_push_of_some _ e) (Heap.get?_push_size _ rfl) fun G hG hD => ⟨_, hD, rfl, 0, rfl⟩
theorem unpRaw {n m : Nat} {a : Addr} {vs : List Value} {Q : List Value → Shared → Prop} (S : St B P own s) (hR : Room A n) (h : tpF a vs ∈ P) (hm : m = vs.length) (k : ∀ s', St B P own s' → Q vs s') : wpAny (model prog w) A (unpackItems (.ref a) m none) Q E s := by
  subst hm
  obtain ⟨G, hG⟩ := S
  obtain ⟨o, ho, hc, n', hd⟩ := hG.fa _ h
  have := unpackItems_tuple (prog := prog) (w := w) (A := A) (E := E) (Q := Q) (s := s) (t := a) (items := vs.toArray) hR.hh ⟨o, hG.fr _ _ ho, hc, n', hd⟩ (fun h' he => by
    refine k _ ⟨G, hG.ext (tk := s.toks) fun b o e => he b o (Nat.ne_of_lt (Heap.lt_size e)) e⟩)
  rw [List.size_toArray] at this
  exact this

theorem swapped2 {N : List (Str × NameKind)} {L : Addr} {C : List (Str × Addr)} {x y : Str} {p1 p2 tp vp : Pos} {e1 e2 : Expr} {k k2 : Nat} (hE : EnvIs env N L C) (h1 : (x, NameKind.local) ∈ N) (h2 : (y, NameKind.local) ∈ N)
    (hxy : (x == y) = false) (hl : (p2.line == p1.line) = true) (hs : ([e1, e2].any fun | .Starred .. => true | _ => false) = false) (hc : [e1, e2].all (foldedForSure 8) = false) (hd : [e1, e2].all (constantsAlone 8) = false) :
    swappedStores [.Tuple [.Name x p1, .Name y p2] k tp] (.Tuple [e1, e2] k2 vp) env = pure (some [x, y]) := by
  have k1 := hE.kindOf h1
  have k2' := hE.kindOf h2
  have hb : env.blockKind = .function := by unfold Env.blockKind; rw [hE.kind]; rfl
  have hne : (y == x) = false := by rw [beq_eq_false_iff_ne] at hxy ⊢; exact fun e => hxy e.symm
  have hdup : ([x, y] : List Str).eraseDups.length = 2 := by
    simp [List.eraseDups_cons, hne]
  unfold swappedStores
  simp only [List.length_cons, List.length_nil, hb, hs, hc, hd, k1, k2', hl, List.filterMap_cons, List.filterMap_nil, List.head?_cons, Option.map_some, Option.getD_some, Expr.pos]
  simp [hdup]
  intro h
  exfalso
  simp only [List.any_cons, List.any_nil, Bool.or_false, Bool.or_eq_false_iff] at hs
  rcases h with h | h
  · exact Bool.noConfusion (hs.1.symm.trans h)
  · exact Bool.noConfusion (hs.2.symm.trans h)
theorem Assign2 {N : List (Str × NameKind)} {L : Addr} {C : List (Str × Addr)} {x y : Str} {p1 p2 tp vp pos : Pos} {e1 e2 : Expr} {k k2 : Nat} {Q : Flow → Shared → Prop} {n : Nat} (hE : EnvIs env N L C) (hR : Room A n) (h1 : (x, NameKind.local) ∈ N) (h2 : (y, NameKind.local) ∈ N)
    (h : wpAny (model prog w) A (eval e1 env) (fun v1 s₁ => wpAny (model prog w) A (eval e2 env) (fun v2 s₂ => (∃ B P own, St B P own s₂) ∧ ∀ s₃, (∀ B P own, St B P own s₂ → St B P own s₃) →
      wpAny (model prog w) A (storeName env y v2) (fun _ s₄ => wpAny (model prog w) A (storeName env x v1) (fun _ => Q .next) E s₄) E s₃) E s₁) E s)
    (hxy : (x == y) = false := by decide) (hl : (p2.line == p1.line) = true := by rfl) (hs : ([e1, e2].any fun | .Starred .. => true | _ => false) = false := by rfl) (hc : [e1, e2].all (foldedForSure 8) = false := by rfl) (hd : [e1, e2].all (constantsAlone 8) = false := by rfl)
    (he1 : starEach [e1, e2] env = [(false, eval e1 env), (false, eval e2 env)] := by rfl) :
    wpAny (model prog w) A (exec (.Assign [.Tuple [.Name x p1, .Name y p2] k tp] (.Tuple [e1, e2] k2 vp) pos) env) Q E s := by
  refine Assign_Tuple_swapped ?_ (by rfl) (swapped2 hE h1 h2 hxy hl hs hc hd)
  refine Tuple_ ?_
  rw [he1]
  show wpAny _ _ (spliced [(false, eval e1 env), (false, eval e2 env)]) _ _ _
  refine Calls.spliced_cons (wpAny_mono h (fun v1 s₁ hh => Calls.spliced_cons (wpAny_mono hh (fun v2 s₂ hh => Calls.spliced_nil ?_) fun _ _ e => e)) fun _ _ e => e)
  obtain ⟨⟨B, P, own, S⟩, hk⟩ := hh
  refine wpAny_newObj_type ?_ (by show 2 ≤ sizeLine; decide)
  have hTup : (s₂.heap.push { cls := .type "tuple", data := .seq #[v1, v2] }).get? s₂.heap.objs.size = some { cls := .type "tuple", data := .seq #[v1, v2] } := Heap.get?_push_size _ rfl
  have := unpackItems_tuple (prog := prog) (w := w) (A := A) (E := E) (s := { s₂ with heap := s₂.heap.push { cls := .type "tuple", data := .seq #[v1, v2] } }) (t := s₂.heap.objs.size) (items := #[v1, v2])
    (Q := fun items s₃ => wpAny (model prog w) A (assignInOrder ([x, y].reverse.map fun n => bindName env n) items.reverse) (fun _ => Q .next) E s₃) hR.hh ⟨_, hTup, rfl, 0, rfl⟩ (fun h' he => by
    show wpAny _ _ (assignInOrder [bindName env y, bindName env x] [v2, v1]) _ _ _
    refine asgCons (bindName_ (wpAny_mono (hk _ fun B P own S => ?_) (fun _ s₄ h4 => asgCons (bindName_ (wpAny_mono h4 (fun _ s₅ h5 => asgNil h5) fun _ _ e => e))) fun _ _ e => e))
    exact S.ext (tk := s₂.toks) fun b o e => he b o (Nat.ne_of_lt (Nat.lt_of_lt_of_le (Heap.lt_size e) (by show s₂.heap.objs.size ≤ (s₂.heap.push _).objs.size; rw [Heap.size_push]; exact Nat.le_succ _))) (Heap.get?_push_of_some _ e))
  exact this

theorem whileR {test : Expr} {body : List Stmt} {pos : Pos} {Q : Flow → Shared → Prop} (I : Nat → Shared → Prop) (n : Nat) (h : I n s)
    (turn : ∀ n s, I n s → ∀ E, wpAny (model prog w) A (isTrue test env (eval test env)) (fun b s₂ => if b then wpAny (model prog w) A (execs body env) (fun f s₃ => (f = .next ∨ f = .cont) ∧ ∃ m, m < n ∧ I m s₃) E s₂ else Q .next s₂) E s) :
    wpAny (model prog w) A (exec (.While test body [] pos) env) Q E s := by
  refine wpAny_While (codeAny_whileLoop I (fun n s hI => ?_) n h)
  refine wpAny_mono (turn n s hI _) (fun b s₂ h₂ => ?_) fun _ _ e => e
  cases b with
  | false => exact wpAny_execs_nil (by simpa using h₂)
  | true =>
    simp only [if_true] at h₂ ⊢
    refine wpAny_mono h₂ (fun f s₃ h₃ => ?_) fun _ _ e => e
    obtain ⟨hf, hm⟩ := h₃
    rcases hf with rfl | rfl <;> exact hm
end
end Mine

namespace Mine
open PySem PySem.W PyProof.Rows PySem.Calls PySem.Spec

/-- several picked out -/
inductive Picks {α : Type} : List α → List α → List α → Prop
  | nil {l} : Picks l [] l
  | cons {l x l' xs r} : Pick l x l' → Picks l' xs r → Picks l (x :: xs) r
theorem Picks.perm {α : Type} {l xs r : List α} (h : Picks l xs r) : l.Perm (xs ++ r) := by
  induction h with
  | nil => exact .refl _
  | cons p _ ih => exact p.perm.trans (ih.cons _)

section
variable {B : Shared} {P : List Fact} {own own' own₀ : Own} {s : Shared} {G : Gh}
theorem St.picks {pre fr : Own} (S : St B P own s) (p : Picks own pre fr) : St B P (pre ++ fr) s := S.perm p.perm
theorem StG.re {h' : Heap} {tk : Nat} (h : StG B P own s G) (hd : own'.map (·.1) = own.map (·.1)) (keep : ∀ b o, b ∉ own.map (·.1) → s.heap.get? b = some o → h'.get? b = some o)
    (hc : ∀ x ∈ own', ∃ o, h'.get? x.1 = some o ∧ x.2.c G o) : StG B P own' { s with heap := h', toks := tk } G where
  fr := fun b o e => keep b o (fun hm => by
    obtain ⟨x, hx, rfl⟩ := List.mem_map.mp hm
    rw [h.di x hx] at e; cases e) (h.fr b o e)
  ba := h.ba
  fa := h.fa
  ow := hc
  nd := by rw [hd]; exact h.nd
  di := fun x hx => by
    have : x.1 ∈ own.map (·.1) := by rw [← hd]; exact List.mem_map.mpr ⟨x, hx, rfl⟩
    obtain ⟨y, hy, e⟩ := List.mem_map.mp this
    rw [← e]; exact h.di y hy
  ge := h.ge
  dr := h.dr
  os := h.os
theorem StG.lose {a : Addr} {c : Chunk} {h' : Heap} {tk : Nat} (h : StG B P ((a, c) :: own) s G) (k : ∀ b o, b ≠ a → s.heap.get? b = some o → h'.get? b = some o) : StG B P own { s with heap := h', toks := tk } G :=
  h.drop.heap (fun b o e => k b o (fun e' => by rw [e', h.di (a, c) (.head _)] at e; cases e) (h.fr b o e)) fun x hx => by
    obtain ⟨o, ho, hc⟩ := h.ow x (.tail _ hx)
    have := h.nd
    rw [List.map_cons, List.nodup_cons] at this
    exact ⟨o, k _ _ (fun e => this.1 (e ▸ List.mem_map.mpr ⟨x, hx, rfl⟩)) ho, hc⟩
end

structure Cursor (prog : Program) (w : World) (A : Around) (B : Shared) (tgt : Expr) (it : Value) (n : Nat) (F : Nat → Value → Fact) (c : Nat → Own) : Prop where
  item : ∀ i P own s (Q : Value → Shared → Prop) E E', i < n → St B P (c i ++ own) s → (∀ v s', St B (F i v :: P) (c (i + 1) ++ own) s' → Q v s') →
    wpAny (model prog w) A (pyNext it) (fun r s₁ => match r with | none => False | some v => wpAny (model prog w) A (letOwnedTupleGo tgt it v) (fun _ s₂ => Q v s₂) E' s₁) E s
  done : ∀ P own s (Q : Shared → Prop) E, St B P (c n ++ own) s → (∀ s', St B P own s' → Q s') → wpAny (model prog w) A (pyNext it) (fun r s₁ => r = none ∧ Q s₁) E s
  self : ∀ i P own s (Q : Value → Shared → Prop) E, St B P (c i ++ own) s → Q it s → wpAny (model prog w) A (pyIter it) Q E s

def liC {α : Type} (τ : Ty α) (xs : List α) (l : Addr) (i : Nat) : Chunk := ⟨fun G o => (o.cls = .type "list_iterator" ∧ o.data = .fields #[.ref l, .int i 0]) ∧ (Ty.list τ).R G (.ref l) xs, fun G G' o h k => ⟨k.1, (Ty.list τ).mono G G' _ _ h k.2⟩⟩
def riC (x left : Int) : Chunk := ⟨fun _ o => o = { cls := .type "range_iterator", data := .fields #[rawInt x, rawInt left, rawInt 1] }, fun _ _ _ _ h => h⟩
def enC (it : Addr) (i : Nat) : Chunk := ⟨fun _ o => ∃ old, o = { cls := .type "enumerate", dict := none, data := .fields #[.none, .bool false, .ref it, rawInt i, .none, old], slots := #[] }, fun _ _ _ _ h => h⟩

section
variable {B : Shared} {GT BT : List (Str × Value)} {P : List Fact} {own own₀ : Own} {prog : Program} {w : World} {A : Around} {E : Value → Shared → Prop} {s : Shared} {env : Env}
  {v u : Value} {a : Addr} {α β : Type} {τ : Ty α} {σ : Ty β} {x : α} {xs ys : List α} {i : Int} {t : Tok} {G : Gh}

def atF (τ : Ty α) (xs : List α) (i : Nat) (v : Value) : Fact := ⟨fun G => ∃ x, xs[i]? = some x ∧ τ.R G v x, fun G G' h ⟨x, e, r⟩ => ⟨x, e, τ.mono G G' v x h r⟩⟩
def atE (τ : Ty α) (xs : List α) (i : Nat) (v : Value) : Fact := ⟨fun G => ∃ x, xs[i]? = some x ∧ (Ty.pair Ty.int τ).R G v ((i : Int), x), fun G G' h ⟨x, e, r⟩ => ⟨x, e, (Ty.pair Ty.int τ).mono G G' v _ h r⟩⟩
theorem St.atF {i : Nat} (S : St B (atF τ xs i v :: P) own s) : ∃ x, xs[i]? = some x ∧ St B (τ.is v x :: P) own s := by
  obtain ⟨G, hG⟩ := S
  obtain ⟨x, e, r⟩ := hG.fa _ (.head _)
  exact ⟨x, e, G, (hG.sub fun f hf => .tail _ hf).addF r⟩
theorem St.atE {i : Nat} (S : St B (atE τ xs i v :: P) own s) : ∃ x, xs[i]? = some x ∧ St B ((Ty.pair Ty.int τ).is v ((i : Int), x) :: P) own s := by
  obtain ⟨G, hG⟩ := S
  obtain ⟨x, e, r⟩ := hG.fa _ (.head _)
  exact ⟨x, e, G, (hG.sub fun f hf => .tail _ hf).addF r⟩
/-- a list object frozen at an address -/
def lsF (τ : Ty α) (l : Addr) (xs : List α) : Fact := (Ty.list τ).is (.ref l) xs
theorem IsLs.isList {h : Heap} {l : Addr} {o : Obj} {vs : List Value} (ho : h.get? l = some o) (hl : IsLs o vs) : h.IsList l vs.toArray := ⟨o, ho, hl.1, hl.2⟩

theorem wpAny_goTriv {tgt : Expr} {it : Value} {Q : Unit → Shared → Prop} (ht : ∀ v, letOwnedTupleGo tgt it v = pure ()) (k : Q () s) : wpAny (model prog w) A (letOwnedTupleGo tgt it v) Q E s :=
  wpAny_of_eq (ht v) k

theorem Cursor.list {tgt : Expr} {I l : Addr} (hR : A.handled = none) (hgo : ∀ s (v : Value) (Q : Unit → Shared → Prop) E, (∃ i P own, St B P ((I, liC τ xs l i) :: own) s) → Q () s → wpAny (model prog w) A (letOwnedTupleGo tgt (.ref I) v) Q E s) :
    Cursor prog w A B tgt (.ref I) xs.length (Mine.atF τ xs) (fun i => [(I, liC τ xs l i)]) where
  item := fun i P own s Q E E' hi S k => by
    obtain ⟨G, hG⟩ := S
    obtain ⟨oi, hoi, ⟨hc, hd⟩, hLR⟩ := hG.at (a := I) (c := liC τ xs l i) (.head _)
    obtain ⟨l', o, vs, e, ho, hl, hr⟩ := id hLR
    cases e
    obtain ⟨u, hu, hR'⟩ := hr.get (List.getElem?_eq_getElem hi)
    have hne : l ≠ I := by
      rintro rfl
      have := hG.di (l, liC τ xs l i) (.head _)
      rw [this] at ho; cases ho
    refine wpAny_pyNext_list_item (it := I) (l := l) (i := i) (items := vs.toArray) (x := u) ⟨oi, hoi, hc, hd⟩ (hl.isList (hG.fr _ _ ho)) (by simpa using hu) fun h' hit' hs' => ?_
    obtain ⟨o', ho', hc', hd'⟩ := hit'
    have S' : St B (Mine.atF τ xs i u :: P) ((I, liC τ xs l (i + 1)) :: own) { s with heap := h' } :=
      ⟨G, (hG.upd (c' := liC τ xs l (i + 1)) (tk := s.toks) .head (fun b o hb e => hs'.extBut b o hb e) ⟨o', ho', ⟨hc', hd'⟩, hLR⟩).addF ⟨_, List.getElem?_eq_getElem hi, hR'⟩⟩
    exact hgo _ _ _ _ ⟨_, _, _, S'⟩ (k u _ S')
  done := fun P own s Q E S k => by
    obtain ⟨G, hG⟩ := S
    obtain ⟨oi, hoi, ⟨hc, hd⟩, hLR⟩ := hG.at (a := I) (c := liC τ xs l xs.length) (.head _)
    obtain ⟨l', o, vs, e, ho, hl, hr⟩ := id hLR
    cases e
    refine wpAny_pyNext_list_end (it := I) (l := l) (i := xs.length) (items := vs.toArray) hR ⟨oi, hoi, hc, hd⟩ (hl.isList (hG.fr _ _ ho)) (by simp [hr.length]) fun h' hs' => ?_
    exact ⟨rfl, k _ ⟨G, hG.lose (tk := s.toks) fun b o hb e => hs' b o hb e⟩⟩
  self := fun i P own s Q E S k => by
    obtain ⟨G, hG⟩ := S
    obtain ⟨oi, hoi, ⟨hc, hd⟩, hLR⟩ := hG.at (a := I) (c := liC τ xs l i) (.head _)
    exact wpAny_pyIter_listiter (l := l) (i := i) ⟨oi, hoi, hc, hd⟩ k

def rgAt (b : Int) (i : Nat) (v : Value) : Fact := Ty.int.is v (b + (i : Int))
theorem Cursor.range {tgt : Expr} {I : Addr} {b : Int} {n : Nat} (hR : A.handled = none) (hgo : ∀ v, letOwnedTupleGo tgt (.ref I) v = pure ()) :
    Cursor prog w A B tgt (.ref I) n (rgAt b) (fun i => [(I, riC (b + (i : Int)) ((n : Int) - (i : Int)))]) where
  item := fun i P own s Q E E' hi S k => by
    obtain ⟨G, hG⟩ := S
    obtain ⟨oi, hoi, hc⟩ := hG.at (a := I) (c := riC (b + (i : Int)) ((n : Int) - (i : Int))) (.head _)
    subst hc
    refine wpAny_pyNext_range_item (it := I) hoi (by lia) fun h' hit' hs' => ?_
    refine wpAny_of_eq (hgo _) ?_
    refine k _ _ ⟨G, (hG.upd (c' := riC (b + ((i + 1 : Nat) : Int)) ((n : Int) - ((i + 1 : Nat) : Int))) (tk := s.toks + 1) .head (fun b o hb e => hs'.extBut b o hb e) ⟨_, hit', ?_⟩).addF ⟨_, rfl⟩⟩
    have e1 : b + (i : Int) + 1 = b + ((i + 1 : Nat) : Int) := by push_cast; lia
    have e2 : (n : Int) - (i : Int) - 1 = (n : Int) - ((i + 1 : Nat) : Int) := by push_cast; lia
    show _ = _
    rw [e1, e2]
  done := fun P own s Q E S k => by
    obtain ⟨G, hG⟩ := S
    obtain ⟨oi, hoi, hc⟩ := hG.at (a := I) (c := riC (b + (n : Int)) ((n : Int) - (n : Int))) (.head _)
    subst hc
    refine wpAny_pyNext_range_end (it := I) hR hoi (by lia) fun h' hs' => ?_
    exact ⟨rfl, k _ ⟨G, hG.lose (tk := s.toks) fun b o hb e => hs' b o hb e⟩⟩
  self := fun i P own s Q E S k => by
    obtain ⟨G, hG⟩ := S
    obtain ⟨oi, hoi, hc⟩ := hG.at (a := I) (c := riC (b + (i : Int)) ((n : Int) - (i : Int))) (.head _)
    subst hc
    exact wpAny_pyIter_rangeiter hoi k

theorem Cursor.enum {elts : List Expr} {j : Nat} {tp : Pos} {e it l : Addr} (hR : A.handled = none) :
    Cursor prog w A B (.Tuple elts j tp) (.ref e) xs.length (Mine.atE τ xs) (fun i => [(e, enC it i), (it, liC τ xs l i)]) where
  item := fun i P own s Q E E' hi S k => by
    obtain ⟨G, hG⟩ := S
    obtain ⟨oe, hoe, old, rfl⟩ := hG.at (a := e) (c := enC it i) (.head _)
    obtain ⟨oi, hoi, ⟨hc, hd⟩, hLR⟩ := hG.at (a := it) (c := liC τ xs l i) (.tail _ (.head _))
    obtain ⟨l', o, vs, e', ho, hl, hr⟩ := id hLR
    cases e'
    obtain ⟨u, hu, hR'⟩ := hr.get (List.getElem?_eq_getElem hi)
    have hnd := hG.nd
    have hei : e ≠ it := by
      simp only [List.cons_append, List.map_cons, List.nodup_cons] at hnd
      exact fun h => hnd.1 (h ▸ .head _)
    have hle : l ≠ e := by
      rintro rfl
      have := hG.di (l, enC it i) (.head _)
      rw [this] at ho; cases ho
    have hli : l ≠ it := by
      rintro rfl
      have := hG.di (l, liC τ xs l i) (.tail _ (.head _))
      rw [this] at ho; cases ho
    have het : e < s.heap.objs.size := Heap.lt_size hoe
    refine wpAny_pyNext_enum_item (e := e) (it := it) (l := l) (i := i) (items := vs.toArray) (x := u) (old := old) hoe ⟨oi, hoi, hc, hd⟩ (hl.isList (hG.fr _ _ ho)) (by simpa using hu) hei fun h' heo hit' hT hsz hk => ?_
    obtain ⟨o', ho', hc', hd'⟩ := hit'
    refine wpAny_letOwnedTupleGo_enum heo fun h'' he'' hs'' => ?_
    have hT'' : h''.get? s.heap.objs.size = some { cls := .type "tuple", data := .seq #[.int i s.toks, u] } := hs''.extBut _ _ (Nat.ne_of_gt het) hT
    have hother : ∀ y ∈ own, y.1 ≠ e ∧ y.1 ≠ it := fun y hy => by
      simp only [List.cons_append, List.nil_append, List.map_cons, List.nodup_cons] at hnd
      exact ⟨fun h => hnd.1 (.tail _ (h ▸ List.mem_map.mpr ⟨y, hy, rfl⟩)), fun h => hnd.2.1 (h ▸ List.mem_map.mpr ⟨y, hy, rfl⟩)⟩
    have keep : ∀ b o, b ≠ e → b ≠ it → s.heap.get? b = some o → h''.get? b = some o := fun b o h1 h2 q => hs''.extBut b o h1 (hk b o h1 h2 q)
    have h1 : StG B P ((e, enC it (i + 1)) :: (it, liC τ xs l (i + 1)) :: own) { s with heap := h'', toks := s.toks + 1 } G := by
      refine hG.re rfl (fun b o hb q => keep b o (fun h => hb (h ▸ .head _)) (fun h => hb (h ▸ .tail _ (.head _))) q) fun y hy => ?_
      rcases List.mem_cons.mp hy with rfl | hy
      · exact ⟨_, he'', u, by simp⟩
      · rcases List.mem_cons.mp hy with rfl | hy
        · exact ⟨o', hs''.extBut _ _ hei.symm ho', ⟨hc', hd'⟩, hLR⟩
        · obtain ⟨o2, ho2, hc2⟩ := hG.ow y (.tail _ (.tail _ hy))
          exact ⟨o2, keep _ _ (hother y hy).1 (hother y hy).2 ho2, hc2⟩
    have hGT : G s.heap.objs.size = none := by
      cases q : G s.heap.objs.size with
      | none => rfl
      | some o2 => exact absurd (Heap.lt_size (hG.fr _ _ q)) (Nat.lt_irrefl _)
    have hle' := Gh.le_ins (G := G) (a := s.heap.objs.size) (o := { cls := .type "tuple", data := .seq #[.int i s.toks, u] }) hGT
    refine k _ _ ⟨G.ins s.heap.objs.size { cls := .type "tuple", data := .seq #[.int i s.toks, u] }, ?_⟩
    have h2 : StG B P ((e, enC it (i + 1)) :: (it, liC τ xs l (i + 1)) :: own) { s with heap := h'', toks := s.toks + 1 } (G.ins s.heap.objs.size { cls := .type "tuple", data := .seq #[.int i s.toks, u] }) := {
      fr := fun b o q => by
        unfold Gh.ins at q
        by_cases hb : b = s.heap.objs.size
        · rw [if_pos hb] at q; cases q; rw [hb]; exact hT''
        · rw [if_neg hb] at q; exact h1.fr b o q
      ba := fun b o q => hle' _ _ (h1.ba b o q)
      fa := fun f hf => f.mono _ _ hle' (h1.fa f hf)
      ow := fun y hy => let ⟨o2, ho2, hc2⟩ := h1.ow y hy; ⟨o2, ho2, y.2.mono _ _ _ hle' hc2⟩
      nd := h1.nd
      di := fun y hy => by
        obtain ⟨o2, ho2⟩ : ∃ o2, s.heap.get? y.1 = some o2 := by
          rcases List.mem_cons.mp hy with rfl | hy
          · exact ⟨_, hoe⟩
          · rcases List.mem_cons.mp hy with rfl | hy
            · exact ⟨_, hoi⟩
            · obtain ⟨o2, ho2, _⟩ := hG.ow y (.tail _ (.tail _ hy)); exact ⟨o2, ho2⟩
        show (if y.1 = s.heap.objs.size then _ else G y.1) = none
        rw [if_neg (Nat.ne_of_lt (Heap.lt_size ho2))]; exact h1.di y hy
      ge := h1.ge
      dr := h1.dr
      os := h1.os }
    exact h2.addF ⟨_, List.getElem?_eq_getElem hi, _, _, _, u, rfl, Gh.ins_self, ⟨rfl, _, rfl⟩, ⟨_, rfl⟩, τ.mono _ _ _ _ hle' hR'⟩
  done := fun P own s Q E S k => by
    obtain ⟨G, hG⟩ := S
    obtain ⟨oe, hoe, old, rfl⟩ := hG.at (a := e) (c := enC it xs.length) (.head _)
    obtain ⟨oi, hoi, ⟨hc, hd⟩, hLR⟩ := hG.at (a := it) (c := liC τ xs l xs.length) (.tail _ (.head _))
    obtain ⟨l', o, vs, e', ho, hl, hr⟩ := id hLR
    cases e'
    refine wpAny_pyNext_enum_end (it := it) (l := l) (i := xs.length) (items := vs.toArray) hR hoe ⟨oi, hoi, hc, hd⟩ (hl.isList (hG.fr _ _ ho)) (by simp [hr.length]) fun h' hs' => ?_
    exact ⟨rfl, k _ ⟨G, hG.drop.lose (tk := s.toks) fun b o hb e => hs' b o hb e⟩⟩
  self := fun i P own s Q E S k => by
    obtain ⟨G, hG⟩ := S
    obtain ⟨oe, hoe, old, rfl⟩ := hG.at (a := e) (c := enC it i) (.head _)
    exact wpAny_pyIter_enum hoe k

theorem goName {y : Str} {p : Pos} {I : Value} (v : Value) : letOwnedTupleGo (.Name y p) I v = pure () := rfl
theorem goTupLs {elts : List Expr} {j : Nat} {tp : Pos} {I l : Addr} {i : Nat} {Q : Unit → Shared → Prop} (S : St B P ((I, liC τ xs l i) :: own) s) (k : Q () s) : wpAny (model prog w) A (letOwnedTupleGo (.Tuple elts j tp) (.ref I) v) Q E s := by
  obtain ⟨G, hG⟩ := S
  obtain ⟨oi, hoi, ⟨hc, hd⟩, hLR⟩ := hG.at (a := I) (c := liC τ xs l i) (.head _)
  cases v with
  | ref a =>
    unfold letOwnedTupleGo
    refine wpAny_bind (wpAny_load hoi ?_)
    obtain ⟨c0, d0, dt0, sl0⟩ := oi
    replace hc : c0 = .type "list_iterator" := hc
    replace hd : dt0 = .fields #[.ref l, .int i 0] := hd
    subst hc hd
    show wpAny _ A (if (["enumerate", "zip", "dict_itemiterator", "dict_reverseitemiterator", "odict_iterator", "itertools.zip_longest", "itertools.pairwise"].contains "list_iterator" && _) = true then _ else _) Q E s
    rw [if_neg (by simp)]
    exact wpAny_pure k
  | _ => exact wpAny_pure k

/-- entering -/
theorem enterLs {Q : Value → Shared → Prop} (S : St B P own s) (h : Ev P (Ty.list τ) v xs) (k : ∀ I l s', v = .ref l → St B P ((I, liC τ xs l 0) :: own) s' → Q (.ref I) s') : wpAny (model prog w) A (pyIter v) Q E s := by
  obtain ⟨G, hG⟩ := S
  have hv := h G hG.fa
  obtain ⟨l, o, vs, rfl, ho, hl, hr⟩ := id hv
  refine wpAny_pyIter_list (hl.isList (hG.fr _ _ ho)) (k _ l _ rfl ?_)
  exact St.ow (tk := s.toks) (S := ⟨G, hG⟩) rfl (fun b o e => Heap.get?_push_of_some _ e) (Heap.get?_push_size _ rfl) fun G hG => ⟨⟨rfl, rfl⟩, h G hG⟩
theorem enterRg {Q : Value → Shared → Prop} {r : Addr} {b c : Int} (S : St B P own s) (h : rgF r b c ∈ P) (hb : -2 ^ 62 ≤ b) (hb' : b < 2 ^ 62) (hc : -2 ^ 62 ≤ c) (hc' : c < 2 ^ 62)
    (k : ∀ I s', St B P ((I, riC (b + ((0 : Nat) : Int)) (((c - b).toNat : Int) - ((0 : Nat) : Int))) :: own) s' → Q (.ref I) s') : wpAny (model prog w) A (pyIter (.ref r)) Q E s := by
  obtain ⟨G, hG⟩ := S
  obtain ⟨t, u, v, ho⟩ := hG.fa _ h
  refine wpAny_pyIter_range (hG.fr _ _ ho) (small_one hb hb' hc hc') (k _ _ ?_)
  have e : Builtin.Range.rangeSize b c 1 = ((c - b).toNat : Int) := by rw [rangeSize_one]; split <;> lia
  rw [e]
  exact St.ow (tk := s.toks) (S := ⟨G, hG⟩) rfl (fun b o e => Heap.get?_push_of_some _ e) (Heap.get?_push_size _ rfl) fun G hG => by
    show _ = _
    simp
theorem mkEnum {Q : Value → Shared → Prop} (S : St B P own s) (h : Ev P (Ty.list τ) v xs) (k : ∀ e it l s', St B P ((e, enC it 0) :: (it, liC τ xs l 0) :: own) s' → Q (.ref e) s') :
    wpAny (model prog w) A (call (.type "enumerate") [v]) Q E s := by
  obtain ⟨G, hG⟩ := S
  have hv := h G hG.fa
  obtain ⟨l, o, vs, rfl, ho, hl, hr⟩ := id hv
  refine call_enumerate_list (hl.isList (hG.fr _ _ ho)) fun h' he hit hsz hk => k _ s.heap.objs.size l _ ?_
  obtain ⟨oi, hoi, hc, hd⟩ := hit
  refine ⟨G, hG.newOwns (tk := s.toks) (h' := h') hk [(s.heap.objs.size + 1, enC s.heap.objs.size 0), (s.heap.objs.size, liC τ xs l 0)] (by simp) ?_ ?_⟩
  · intro x hx
    rcases List.mem_cons.mp hx with rfl | hx
    · cases q : s.heap.get? (s.heap.objs.size + 1) with
      | none => rfl
      | some o => exact absurd (Heap.lt_size q) (Nat.not_lt.mpr (Nat.le_succ _))
    · rcases List.mem_cons.mp hx with rfl | hx
      · exact none_at _
      · cases hx
  · intro x hx
    rcases List.mem_cons.mp hx with rfl | hx
    · exact ⟨_, he, .none, rfl⟩
    · rcases List.mem_cons.mp hx with rfl | hx
      · exact ⟨oi, hoi, ⟨hc, hd⟩, hv⟩
      · cases hx
theorem enterEn {Q : Value → Shared → Prop} {e it : Addr} {i : Nat} (S : St B P own s) (h : (e, enC it i) ∈ own) (k : Q (.ref e) s) : wpAny (model prog w) A (pyIter (.ref e)) Q E s := by
  obtain ⟨G, hG⟩ := S
  obtain ⟨oe, hoe, old, rfl⟩ := hG.at h
  exact wpAny_pyIter_enum hoe k
end
end Mine

namespace Mine
open PySem PySem.W PyProof.Rows PySem.Calls PySem.Spec

section
variable {B : Shared} {GT BT : List (Str × Value)} {P : List Fact} {own own₀ : Own} {prog : Program} {w : World} {A : Around} {E : Value → Shared → Prop} {s : Shared} {env : Env}
  {v u : Value} {a : Addr} {α β : Type} {τ : Ty α} {σ : Ty β} {x : α} {xs ys : List α} {i : Int} {t : Tok} {G : Gh}

def TurnEnd (B : Shared) (J : Nat → List Fact → Own → Prop) (fr : Own) (i : Nat) (s : Shared) : Prop := ∃ P' o' pre', St B P' o' s ∧ Picks o' pre' fr ∧ J i P' pre'

/-- a for loop over a cursor -/
theorem forLoopC {target : Expr} {it : Value} {n : Nat} {F : Nat → Value → Fact} {c : Nat → Own} {body : List Stmt} {R : Result → Shared → Prop} (C : Cursor prog w A B target it n F c)
    (J : Nat → List Fact → Own → Prop) {pre fr : Own} (h0 : J 0 P pre) (S : St B P (c 0 ++ (pre ++ fr)) s)
    (turn : ∀ i v P pre fr s E, i < n → J i P pre → St B (F i v :: P) (pre ++ fr) s → wpAny (model prog w) A (assign target env v) (fun _ s₂ => wpAny (model prog w) A (execs body env) (fun f s₃ =>
      (f = .next ∨ f = .cont) ∧ TurnEnd B J fr (i + 1) s₃) E s₂) E s)
    (done : ∀ P pre s, J n P pre → St B P (pre ++ fr) s → R (.ok .next) s) :
    codeAny (model prog w) A (.forLoop target it body [] env) R s := by
  refine codeAny_forLoop_any (fun k s => ∃ i P pre, k = n - i ∧ i ≤ n ∧ J i P pre ∧ St B P (c i ++ (pre ++ fr)) s) (fun k s hk => ?_) n ⟨0, P, pre, rfl, Nat.zero_le _, h0, S⟩
  obtain ⟨i, P, pre, rfl, hi, hJ, S⟩ := hk
  by_cases hin : i < n
  · refine wpAny_mono (C.item i P (pre ++ fr) s (fun v s' => wpAny (model prog w) A (assign target env v) (fun _ s₂ => wpAny (model prog w) A (execs body env) (fun f s₃ => match f with
            | .next | .cont => ∃ m, m < n - i ∧ ∃ i P pre, m = n - i ∧ i ≤ n ∧ J i P pre ∧ St B P (c i ++ (pre ++ fr)) s₃
            | .brk => R (.ok .next) s₃
            | .ret v => R (.ok (.ret v)) s₃) (notedBy (model prog w) A env fun e s' => R (.error e) s') s₂) (notedBy (model prog w) A env fun e s' => R (.error e) s') s') _ (notedBy (model prog w) A env fun e s' => R (.error e) s') hin S fun v s' S' => ?_) (fun r s₁ h₁ => ?_) fun _ _ e => e
    · have S2 : St B (F i v :: P) (pre ++ (c (i + 1) ++ fr)) s' := S'.perm (by rw [← List.append_assoc, ← List.append_assoc]; exact (List.perm_append_comm).append_right _)
      refine wpAny_mono (turn i v P pre (c (i + 1) ++ fr) s' _ hin hJ S2) (fun _ s₂ h₂ => wpAny_mono h₂ (fun f s₃ h₃ => ?_) fun _ _ e => e) fun _ _ e => e
      obtain ⟨hf, P', o', pre', S3, hp, hJ'⟩ := h₃
      have S4 : St B P' (c (i + 1) ++ (pre' ++ fr)) s₃ := (S3.picks hp).perm (by rw [← List.append_assoc, ← List.append_assoc]; exact (List.perm_append_comm).append_right _)
      rcases hf with rfl | rfl <;> exact ⟨n - (i + 1), by lia, i + 1, P', pre', rfl, hin, hJ', S4⟩
    · cases r with
      | none => exact h₁.elim
      | some v => exact h₁
  · have hin' : i = n := by lia
    subst hin'
    refine wpAny_mono (C.done P (pre ++ fr) s (R (.ok .next)) _ S fun s' S' => done P pre s' hJ S') (fun r s₁ h₁ => ?_) fun _ _ e => e
    obtain ⟨rfl, h₁⟩ := h₁
    exact wpAny_execs_nil h₁

def GoOk (prog : Program) (w : World) (A : Around) (B : Shared) (τ : Ty α) (xs : List α) (target : Expr) : Prop :=
  ∀ (I l : Addr) s (v : Value) (Q : Unit → Shared → Prop) E, (∃ i P own, St B P ((I, liC τ xs l i) :: own) s) → Q () s → wpAny (model prog w) A (letOwnedTupleGo target (.ref I) v) Q E s
theorem GoOk.name {y : Str} {p : Pos} : GoOk prog w A B τ xs (.Name y p) := fun _ _ _ _ _ _ _ k => wpAny_pure k
theorem GoOk.tup {elts : List Expr} {j : Nat} {tp : Pos} : GoOk prog w A B τ xs (.Tuple elts j tp) := fun _ _ _ _ _ _ ⟨_, _, _, S⟩ k => goTupLs S k

/-- for over a frozen list, over a range, over enumerate -/
theorem forLs {target iter : Expr} {body : List Stmt} {pos : Pos} {Q : Flow → Shared → Prop} {n : Nat} (hR : Room A n) (τ : Ty α) (xs : List α) (J : Nat → List Fact → Own → Prop) (pre fr : Own)
    (h : wpAny (model prog w) A (eval iter env) (fun xv s₁ => ∃ P o, St B P o s₁ ∧ Ev P (Ty.list τ) xv xs ∧ Picks o pre fr ∧ J 0 P pre) E s)
    (turn : ∀ i x v P pre fr s E, xs[i]? = some x → J i P pre → St B (τ.is v x :: P) (pre ++ fr) s → wpAny (model prog w) A (assign target env v) (fun _ s₂ => wpAny (model prog w) A (execs body env) (fun f s₃ =>
      (f = .next ∨ f = .cont) ∧ TurnEnd B J fr (i + 1) s₃) E s₂) E s)
    (done : ∀ P pre s, J xs.length P pre → St B P (pre ++ fr) s → Q .next s)
    (hgo : GoOk prog w A B τ xs target := by first | exact GoOk.name | exact GoOk.tup)
    (hs : ∀ x, foldedSetIterable iter env x = pure x := by intro _; rfl) :
    wpAny (model prog w) A (exec (.For target iter body [] pos) env) Q E s := by
  refine wpAny_For (wpAny_mono h (fun xv s₁ h₁ => ?_) fun _ _ e => e) hs
  obtain ⟨P, o, S, hv, hp, h0⟩ := h₁
  refine enterLs (S.picks hp) hv fun I l s' hvl S' => ?_
  refine forLoopC (Cursor.list (xs := xs) (τ := τ) (I := I) (l := l) hR.hh (hgo I l)) J h0 S' ?_ done
  intro i v P pre fr s E hi hJ S2
  obtain ⟨x, hx, S3⟩ := S2.atF
  exact turn i x v P pre fr s E hx hJ S3
theorem forEn {iter : Expr} {elts : List Expr} {j : Nat} {tp : Pos} {body : List Stmt} {pos : Pos} {Q : Flow → Shared → Prop} {n : Nat} (hR : Room A n) (τ : Ty α) (xs : List α) (J : Nat → List Fact → Own → Prop) (pre fr : Own)
    (h : wpAny (model prog w) A (eval iter env) (fun xv s₁ => ∃ e it l P o, xv = .ref e ∧ St B P ((e, enC it 0) :: (it, liC τ xs l 0) :: o) s₁ ∧ Picks o pre fr ∧ J 0 P pre) E s)
    (turn : ∀ i x v P pre fr s E, xs[i]? = some x → J i P pre → St B ((Ty.pair Ty.int τ).is v ((i : Int), x) :: P) (pre ++ fr) s → wpAny (model prog w) A (assign (.Tuple elts j tp) env v) (fun _ s₂ => wpAny (model prog w) A (execs body env) (fun f s₃ =>
      (f = .next ∨ f = .cont) ∧ TurnEnd B J fr (i + 1) s₃) E s₂) E s)
    (done : ∀ P pre s, J xs.length P pre → St B P (pre ++ fr) s → Q .next s)
    (hs : ∀ x, foldedSetIterable iter env x = pure x := by intro _; rfl) :
    wpAny (model prog w) A (exec (.For (.Tuple elts j tp) iter body [] pos) env) Q E s := by
  refine wpAny_For (wpAny_mono h (fun xv s₁ h₁ => ?_) fun _ _ e => e) hs
  obtain ⟨e, it, l, P, o, rfl, S, hp, h0⟩ := h₁
  refine enterEn S (.head _) ?_
  have S' : St B P ([(e, enC it 0), (it, liC τ xs l 0)] ++ (pre ++ fr)) s₁ := S.perm ((hp.perm.cons _).cons _)
  refine forLoopC (Cursor.enum (xs := xs) (τ := τ) (e := e) (it := it) (l := l) hR.hh) J h0 S' ?_ done
  intro i v P pre fr s E hi hJ S2
  obtain ⟨x, hx, S3⟩ := S2.atE
  exact turn i x v P pre fr s E hx hJ S3
theorem forRg {target iter : Expr} {body : List Stmt} {pos : Pos} {Q : Flow → Shared → Prop} {n : Nat} (hR : Room A n) (b c : Int) (m : Nat) (hb : -1000 ≤ b ∧ b ≤ 1000 ∧ -1000 ≤ c ∧ c ≤ 1000 ∧ m = (c - b).toNat) (J : Nat → List Fact → Own → Prop) (pre fr : Own)
    (h : wpAny (model prog w) A (eval iter env) (fun xv s₁ => ∃ r P o, xv = .ref r ∧ St B P o s₁ ∧ rgF r b c ∈ P ∧ Picks o pre fr ∧ J 0 P pre) E s)
    (turn : ∀ i t P pre fr s E, i < m → J i P pre → St B P (pre ++ fr) s → wpAny (model prog w) A (assign target env (.int (b + (i : Int)) t)) (fun _ s₂ => wpAny (model prog w) A (execs body env) (fun f s₃ =>
      (f = .next ∨ f = .cont) ∧ TurnEnd B J fr (i + 1) s₃) E s₂) E s)
    (done : ∀ P pre s, J m P pre → St B P (pre ++ fr) s → Q .next s)
    (hgo : ∀ I v, letOwnedTupleGo target (.ref I) v = pure () := by intro _ _; rfl)
    (hs : ∀ x, foldedSetIterable iter env x = pure x := by intro _; rfl) :
    wpAny (model prog w) A (exec (.For target iter body [] pos) env) Q E s := by
  refine wpAny_For (wpAny_mono h (fun xv s₁ h₁ => ?_) fun _ _ e => e) hs
  obtain ⟨r, P, o, rfl, S, hr, hp, h0⟩ := h₁
  obtain ⟨hb1, hb2, hc1, hc2, rfl⟩ := hb
  refine enterRg (S.picks hp) hr (by lia) (by lia) (by lia) (by lia) fun I s' S' => ?_
  refine forLoopC (Cursor.range (b := b) (n := (c - b).toNat) hR.hh (hgo I)) J h0 S' ?_ done
  intro i v P pre fr s E hi hJ S2
  obtain ⟨t, rfl⟩ := S2.intV (Ev.mem (.head _))
  exact turn i t P pre fr s E hi hJ (S2.sub fun f hf => .tail _ hf)

/-- targets -/
theorem asgNm {y : Str} {p : Pos} {Q : Unit → Shared → Prop} (h : wpAny (model prog w) A (storeName env y v) Q E s) : wpAny (model prog w) A (assign (.Name y p) env v) Q E s := wpAny_assign_Name h
theorem asgTp2 {e1 e2 : Expr} {j n : Nat} {tp : Pos} {p : α × β} {Q : Unit → Shared → Prop} (hR : Room A n) (S : St B P own s) (h : Ev P (Ty.pair τ σ) v p)
    (k : ∀ u1 u2 s', St B (τ.is u1 p.1 :: σ.is u2 p.2 :: P) own s' → wpAny (model prog w) A (assign e1 env u1) (fun _ s₂ => wpAny (model prog w) A (assign e2 env u2) Q E s₂) E s')
    (he : assignEach [e1, e2] env = [(false, assign e1 env), (false, assign e2 env)] := by rfl) :
    wpAny (model prog w) A (assign (.Tuple [e1, e2] j tp) env v) Q E s := by
  obtain ⟨G, hG⟩ := S
  obtain ⟨a, o, u1, u2, rfl, ho, hl, h1, h2⟩ := h G hG.fa
  refine wpAny_assign_Tuple (items := #[u1, u2]) hR.hh ⟨o, hG.fr _ _ ho, hl.1, hl.2⟩ (by rw [he]; rfl) (by rw [he]; rfl) fun h' hx => ?_
  rw [he]
  have S' : St B (τ.is u1 p.1 :: σ.is u2 p.2 :: P) own { s with heap := h' } :=
    ⟨G, ((hG.addF (f := σ.is u2 p.2) h2).addF (f := τ.is u1 p.1) h1).ext (tk := s.toks) fun b o e => hx b o (Nat.ne_of_lt (Heap.lt_size e)) e⟩
  exact asgCons (wpAny_mono (k u1 u2 _ S') (fun _ s₂ h₂ => asgCons (wpAny_mono h₂ (fun _ s₃ h₃ => asgNil h₃) fun _ _ e => e)) fun _ _ e => e)
end
end Mine

namespace Mine
open PySem PySem.W PyProof.Rows PySem.Calls PySem.Spec

def ceU : Chunk := ⟨fun _ o => ∃ v, o.data = .cell v, fun _ _ _ _ h => h⟩
inductive CellsNow : List Addr → Own → Prop
  | nil : CellsNow [] []
  | cons {c cs u o} : CellsNow cs o → CellsNow (c :: cs) ((c, ceC u) :: o)
def uns (cs : List Addr) : Own := cs.map fun c => (c, ceU)

/-- what a comprehension's frame closes over -/
def cloL (C : List (Str × Addr)) : List (Str × NameKind) → List (Str × Addr) → List (Str × Addr)
  | [], acc => acc
  | (n, k) :: r, acc => cloL C r (if k == .free then (n, (C.lookup n).getD 0) :: acc else acc)
theorem forIn_clo {env : Env} : ∀ (names : List (Str × NameKind)) (acc : List (Str × Addr)), (names.all fun p => !(p.2 == .free) || (env.cells.lookup p.1).isSome) = true →
    (forIn names acc fun (x : Str × NameKind) (cs : List (Str × Addr)) => if (x.2 == NameKind.free) = true then (cellOf env x.1 >>= fun a => (pure (ForInStep.yield ((x.1, a) :: cs)) : Sem _)) else pure (ForInStep.yield cs)) = (pure (cloL env.cells names acc) : Sem _)
  | [], acc, _ => rfl
  | (n, k) :: r, acc, hf => by
    rw [List.all_cons, Bool.and_eq_true] at hf
    have h1 := hf.1
    rw [List.forIn_cons]
    cases hk : k == NameKind.free with
    | false =>
      have e : cloL env.cells ((n, k) :: r) acc = cloL env.cells r acc := by
        show cloL env.cells r (if (k == NameKind.free) = true then _ else acc) = _
        rw [hk]; rfl
      rw [e, ← forIn_clo r acc hf.2]
      simp only [hk, Bool.false_eq_true, if_false]
      rfl
    | true =>
      simp only [hk, Bool.not_true, Bool.false_or] at h1
      obtain ⟨a, ha⟩ := Option.isSome_iff_exists.mp h1
      have e : cloL env.cells ((n, k) :: r) acc = cloL env.cells r ((n, a) :: acc) := by
        show cloL env.cells r (if (k == NameKind.free) = true then (n, (env.cells.lookup n).getD 0) :: acc else acc) = _
        rw [hk, ha]; rfl
      have e2 : cellOf env n = pure a := by unfold cellOf; rw [ha]
      rw [e, ← forIn_clo r ((n, a) :: acc) hf.2]
      simp only [hk, if_true, e2]
      rfl
theorem closureFor_eq {env : Env} {scope : Scope} {C : List (Str × Addr)} (hC : env.cells = C) (hf : (scope.names.all fun p => !(p.2 == .free) || (C.lookup p.1).isSome) = true) : closureFor scope env = pure (cloL C scope.names []) := by
  subst hC
  have := forIn_clo scope.names [] hf
  show (forIn scope.names [] fun (x : Str × NameKind) (cs : List (Str × Addr)) => if (x.2 == NameKind.free) = true then (cellOf env x.1 >>= fun a => (pure (ForInStep.yield ((x.1, a) :: cs)) : Sem _)) else pure (ForInStep.yield cs)) >>= (fun cs => pure cs) = _
  rw [this]
  rfl

def relN (N : List (Str × NameKind)) (names : List (Str × NameKind)) : List (Str × NameKind) := names.map fun (n, k) => if (k == .free && N.lookup n == some .cell) then (n, .cell) else (n, k)
theorem relabel_names {env : Env} {N : List (Str × NameKind)} {L : Addr} {C : List (Str × Addr)} (hE : EnvIs env N L C) (scope : Scope) : (relabel scope env).names = relN N scope.names := by
  unfold relabel relN Env.kindOf
  rw [hE.names, hE.kind]
  simp
theorem cellsFrom_acc : ∀ (names : List (Str × NameKind)) (n : Nat) (acc acc' : List (Str × Addr)), cellsFrom n names (acc ++ acc') = cellsFrom n names acc ++ acc'
  | [], _, _, _ => rfl
  | (x, k) :: r, n, acc, acc' => by
    unfold cellsFrom
    split
    · exact cellsFrom_acc r _ ((x, n) :: acc) acc'
    · exact cellsFrom_acc r _ acc acc'

section
variable {B : Shared} {GT BT : List (Str × Value)} {P : List Fact} {own own₀ : Own} {prog : Program} {w : World} {A : Around} {E : Value → Shared → Prop} {s : Shared} {env : Env}
  {v u : Value} {a : Addr} {α β : Type} {τ : Ty α} {σ : Ty β} {x : α} {xs ys : List α} {i : Int} {t : Tok} {G : Gh}

theorem newFunctionEnv_comp {scope : Scope} {globals : Addr} {cl : List (Str × Addr)} {qual : Str} {Q : Env → Shared → Prop}
    (hQ : Q (newEnv scope s.heap.objs.size globals (cellsFrom (s.heap.objs.size + 1) scope.names [] ++ cl) qual none .none (some env) builtinsNs) { s with heap := pushCells (s.heap.push { cls := .type "dict", data := .dict #[] }) scope.names }) :
    wpAny (model prog w) A (newFunctionEnv scope globals cl [] qual none .none (some env)) Q E s := by
  simp only [newFunctionEnv, Option.isSome_some, if_true]
  refine wpAny_bind (wpAny_alloc ?_)
  refine wpAny_bind (wpAny_layCells _ (fun name kind cells => by cases hkc : kind == NameKind.cell <;> simp [hkc]) _ _ _ _ ?_)
  rw [show ({ s with heap := s.heap.push { cls := .type "dict", data := .dict #[] } } : Shared).heap.objs.size = s.heap.objs.size + 1 from Heap.size_push ..]
  rw [show cl = [] ++ cl from rfl, cellsFrom_acc]
  exact wpAny_bind (by rw [List.forIn_nil]; exact wpAny_pure (wpAny_pure hQ))

def allNone (N : List (Str × NameKind)) : List (Str × Option Value) := (locN N).map fun n => (n, none)
theorem allNone_names (N : List (Str × NameKind)) : (allNone N).map Prod.fst = locN N := by
  unfold allNone; rw [List.map_map]; exact List.map_id' _
/-- forgetting what is in a frame -/
theorem nsC_forget {m m' : List (Str × Option Value)} (hn : m'.map Prod.fst = m.map Prod.fst) (ha : ∀ p ∈ m, p.2 = none) {o : Obj} (h : (nsC m').c G o) : (nsC m).c G o := by
  obtain ⟨es, ep, hd, hk, nd, hm⟩ := h
  exact ⟨es, ep, hd, hk, hn ▸ nd, fun x v hx => by have := ha _ hx; cases this⟩
theorem StG.weak {c c' : Chunk} {own' : Own} (h : StG B P ((a, c) :: own') s G) (k : ∀ o, c.c G o → c'.c G o) : StG B P ((a, c') :: own') s G where
  fr := h.fr
  ba := h.ba
  fa := h.fa
  ow := fun x hx => by
    rcases List.mem_cons.mp hx with rfl | hx
    · obtain ⟨o, ho, hc⟩ := h.ow (a, c) (.head _)
      exact ⟨o, ho, k o hc⟩
    · exact h.ow x (.tail _ hx)
  nd := h.nd
  di := fun x hx => by
    rcases List.mem_cons.mp hx with rfl | hx
    · exact h.di (a, c) (.head _)
    · exact h.di x (.tail _ hx)
  ge := h.ge
  dr := h.dr
  os := h.os
theorem St.weak {c c' : Chunk} {own' : Own} (S : St B P ((a, c) :: own') s) (k : ∀ G o, c.c G o → c'.c G o) : St B P ((a, c') :: own') s := let ⟨G, h⟩ := S; ⟨G, h.weak (k G)⟩
theorem St.forget {m m' : List (Str × Option Value)} {own' : Own} (S : St B P ((a, nsC m') :: own') s) (hn : m'.map Prod.fst = m.map Prod.fst) (ha : ∀ p ∈ m, p.2 = none) : St B P ((a, nsC m) :: own') s :=
  S.weak fun _ _ h => nsC_forget hn ha h
theorem St.uncell {cs : List Addr} {o fr : Own} (h : CellsNow cs o) : ∀ {pre : Own}, St B P (pre ++ (o ++ fr)) s → St B P (pre ++ (uns cs ++ fr)) s := by
  induction h with
  | nil => exact fun S => S
  | @cons c cs u o h ih =>
    intro pre S
    have S1 : St B P ((c, ceC u) :: (pre ++ (o ++ fr))) s := S.perm List.perm_middle
    have S2 : St B P ((c, ceU) :: (pre ++ (o ++ fr))) s := S1.weak fun _ o h => ⟨u, h⟩
    have S3 : St B P ((pre ++ [(c, ceU)]) ++ (o ++ fr)) s := S2.perm (by rw [List.append_assoc]; exact List.perm_middle.symm)
    have S4 := ih S3
    rw [List.append_assoc] at S4
    exact S4
theorem stCU {N : List (Str × NameKind)} {L : Addr} {C : List (Str × Addr)} {x : Str} {c : Addr} {Q : Unit → Shared → Prop} (S : St B P own s) (hE : EnvIs env N L C) (hk : (x, NameKind.cell) ∈ N) (hc : (x, c) ∈ C) (hp : Pick own (c, ceU) own₀)
    (k : ∀ s', St B P ((c, ceC (some v)) :: own₀) s' → Q () s') : wpAny (model prog w) A (storeName env x v) Q E s := by
  obtain ⟨G, h⟩ := S
  obtain ⟨o, ho, u, hd⟩ := h.at hp.mem
  have h2 : StG B P ((c, ceC u) :: own₀) s G := {
    fr := h.fr
    ba := h.ba
    fa := h.fa
    ow := fun y hy => by
      rcases List.mem_cons.mp hy with rfl | hy
      · exact ⟨o, ho, hd⟩
      · exact h.ow y (hp.sub y hy)
    nd := by have := (h.perm hp.perm).nd; exact this
    di := fun y hy => by
      rcases List.mem_cons.mp hy with rfl | hy
      · exact h.di (c, ceU) hp.mem
      · exact h.di y (hp.sub y hy)
    ge := h.ge
    dr := h.dr
    os := h.os }
  exact stC ⟨G, h2⟩ hE hk hc .head k

/-- the comprehension's list and frame are laid -/
theorem layComp {N N' : List (Str × NameKind)} {L : Addr} {C CL : List (Str × Addr)} {cn : List Str} {scope : Scope} (hE : EnvIs env N L C) (S : St B P own s)
    (hkind : scope.kind = .function) (hN' : relN N scope.names = N') (hcn : (cellsFrom 0 scope.names []).map Prod.fst = cn) {K : Value → Env → Shared → Prop}
    (hnd : decide ((N'.map Prod.fst).Nodup ∧ (cn ++ CL.map Prod.fst).Nodup) = true) (hdb : (N'.all fun p => !(p.1 == ("__debug__" : Str))) = true) (hloc : locN N' = locN scope.names)
    (k : ∀ D Cn cs cenv s', cs.length = cn.length → EnvIs { cenv with scope := relabel scope env } N' Cn (cn.zip cs ++ CL) → cenv.locals = Cn →
      St B P ((Cn, nsC (allNone N')) :: (D, lsC τ []) :: (uns cs ++ own)) s' → K (.ref D) cenv s') :
    wpAny (model prog w) A (newList []) (fun acc s₃ => wpAny (model prog w) A (newFunctionEnv scope env.globals CL [] env.qual none .none (some env)) (fun cenv s₄ => K acc cenv s₄) E s₃) E s := by
  refine wpAny_newObj_type (hd := by show 0 ≤ sizeLine; decide) (newFunctionEnv_comp ?_)
  have hnd' := of_decide_eq_true hnd
  dsimp only
  generalize hH : s.heap.push { cls := .type "list", dict := none, data := .seq ([] : List Value).toArray } = H
  have hD : H.get? s.heap.objs.size = some { cls := .type "list", dict := none, data := .seq ([] : List Value).toArray } := hH ▸ Heap.get?_push_size _ rfl
  have hk1 : ∀ b o, s.heap.get? b = some o → H.get? b = some o := fun b o e => hH ▸ Heap.get?_push_of_some _ e
  have ok := cellsFrom_ok scope.names (H.push { cls := .type "dict", data := .dict #[] }) (H.objs.size + 1) [] ⟨fun _ _ hm => (nomatch hm), List.Pairwise.nil⟩ (by rw [Heap.size_push]; exact Nat.le_refl _)
  rw [Heap.size_push] at ok
  generalize hcf : cellsFrom (H.objs.size + 1) scope.names [] = C2 at *
  have hC2 : C2.map Prod.fst = cn := by rw [← hcf, ← hcn]; exact cellsFrom_names _ _ _ [] [] rfl
  have hzip : cn.zip (C2.map Prod.snd) = C2 := by rw [← hC2]; exact zip_unzip _
  have hsz : H.objs.size = s.heap.objs.size + 1 := by rw [← hH, Heap.size_push]
  have hkp : ∀ b o, H.get? b = some o → (pushCells (H.push { cls := .type "dict", data := .dict #[] }) scope.names).get? b = some o := fun b o e => pushCells_keeps _ _ b o (Heap.get?_push_of_some _ e)
  have hns : (pushCells (H.push { cls := .type "dict", data := .dict #[] }) scope.names).Ns H.objs.size fun _ => none := (Heap.Ns.new H (.type "dict")).keeps (pushCells_keeps _ _)
  obtain ⟨G, hG⟩ := S
  refine k s.heap.objs.size H.objs.size (C2.map Prod.snd) _ _ ?_ ?_ rfl ⟨G, ?_⟩
  · rw [← hC2, List.length_map, List.length_map]
  · exact {
      kind := hkind
      names := (relabel_names hE scope).trans hN'
      nd := hnd'.1
      loc := rfl
      cells := by rw [hzip]; rfl
      cnd := by rw [hzip, List.map_append, hC2]; exact hnd'.2
      glob := hE.glob
      blt := hE.blt
      nodb := fun p hp => by have := List.all_eq_true.mp hdb p hp; simpa using this }
  · have hcellm : ∀ y ∈ uns (C2.map Prod.snd), ∃ n, (n, y.1) ∈ C2 ∧ y.2 = ceU := fun y hy => by
      obtain ⟨c, hc, rfl⟩ := List.mem_map.mp hy
      obtain ⟨⟨n, c'⟩, hm, rfl⟩ := List.mem_map.mp hc
      exact ⟨n, hm, rfl⟩
    have hbig : ∀ n c, (n, c) ∈ C2 → H.objs.size + 1 ≤ c := fun n c hm => (ok.empty n c hm).2
    refine hG.newOwns (tk := s.toks) (fun b o e => hkp b o (hk1 b o e)) ((H.objs.size, nsC (allNone N')) :: (s.heap.objs.size, lsC τ []) :: uns (C2.map Prod.snd)) ?_ ?_ ?_
    · have hmap : (uns (C2.map Prod.snd)).map (·.1) = C2.map Prod.snd := by unfold uns; rw [List.map_map]; exact List.map_id' _
      rw [List.map_cons, List.map_cons, List.nodup_cons, List.nodup_cons, hmap]
      refine ⟨fun hm => ?_, fun hm => ?_, List.pairwise_map.mpr ok.apart⟩
      · rcases List.mem_cons.mp hm with e | hm
        · dsimp only at e; rw [hsz] at e; exact absurd e (Nat.succ_ne_self _)
        · obtain ⟨⟨n, c'⟩, hm, e⟩ := List.mem_map.mp hm
          have := hbig _ _ hm; dsimp only at e; rw [e] at this; exact Nat.lt_irrefl _ this
      · obtain ⟨⟨n, c'⟩, hm, e⟩ := List.mem_map.mp hm
        have := hbig _ _ hm; dsimp only at e; rw [e, hsz] at this; exact Nat.not_succ_le_self _ (Nat.le_of_succ_le this)
    · intro y hy
      have fresh : ∀ b, s.heap.objs.size ≤ b → s.heap.get? b = none := fun b hb => by
        cases e : s.heap.get? b with
        | none => rfl
        | some o => exact absurd (Heap.lt_size e) (Nat.not_lt.mpr hb)
      rcases List.mem_cons.mp hy with rfl | hy
      · exact fresh _ (by rw [hsz]; exact Nat.le_succ _)
      · rcases List.mem_cons.mp hy with rfl | hy
        · exact fresh _ (Nat.le_refl _)
        · obtain ⟨n, hm, _⟩ := hcellm y hy
          exact fresh _ (by have := hbig _ _ hm; rw [hsz] at this; exact Nat.le_of_succ_le (Nat.le_of_succ_le this))
    · intro y hy
      rcases List.mem_cons.mp hy with rfl | hy
      · exact nsC_of (G := G) hns (by rw [allNone_names]; exact locN_nodup hnd'.1) fun x v hx => by
          obtain ⟨n, _, e⟩ := List.mem_map.mp hx
          cases e
      · rcases List.mem_cons.mp hy with rfl | hy
        · exact ⟨_, hkp _ _ hD, [], ⟨rfl, 0, rfl⟩, .nil⟩
        · obtain ⟨n, hm, e⟩ := hcellm y hy
          obtain ⟨o, ho, hd⟩ := (ok.empty n y.1 hm).1
          exact ⟨o, ho, by rw [e]; exact ⟨none, hd⟩⟩
end
end Mine

namespace Mine
open PySem PySem.W PyProof.Rows PySem.Calls PySem.Spec

section
variable {B : Shared} {GT BT : List (Str × Value)} {P : List Fact} {own own₀ : Own} {prog : Program} {w : World} {A : Around} {E : Value → Shared → Prop} {s : Shared} {env : Env}
  {v u : Value} {a : Addr} {α β : Type} {τ : Ty α} {σ : Ty β} {x : α} {xs ys : List α} {i : Int} {t : Tok} {G : Gh}

abbrev testsM (ifs : List Expr) (env : Env) : Sem Bool := forIn ifs true fun c r => if r = true then do let ok ← isTrue c env (eval c env); pure (ForInStep.yield ok) else pure (ForInStep.yield r)

theorem compLoopB {elt : Expr} {gens : List Comprehension} {scope : Scope} {pos : Pos} {d : Nat} {target iter : Expr} {ifs : List Expr} {body : Sem PUnit} {cenv : Env} {it acc : Value} {n : Nat} {F : Nat → Value → Fact} {c : Nat → Own} {R : Result → Shared → Prop}
    (hT : compTurn (.ListComp elt gens scope pos) d it acc cenv = (do
      standAt iter.pos
      match ← pyNext it with
      | none => pure (.done .next)
      | some v =>
        letOwnedTupleGo target it v
        assign target cenv v
        let mut ok := true
        for c in ifs do
          if ok then ok ← isTrue c cenv (eval c cenv)
        if ok then body
        again (.compLoop (.ListComp elt gens scope pos) d it acc cenv))) (hq : (Code.compLoop (.ListComp elt gens scope pos) d it acc cenv).quiet = true)
    (C : Cursor prog w A B target it n F c) (J : Nat → List Fact → Own → Prop) {pre fr : Own} (h0 : J 0 P pre) (S : St B P (c 0 ++ (pre ++ fr)) s)
    (turn : ∀ i v P pre fr s E, i < n → J i P pre → St B (F i v :: P) (pre ++ fr) s → wpAny (model prog w) A (assign target cenv v) (fun _ s₂ => wpAny (model prog w) A (testsM ifs cenv) (fun ok s₃ =>
      if ok = true then wpAny (model prog w) A body (fun _ s₄ => TurnEnd B J fr (i + 1) s₄) E s₃ else TurnEnd B J fr (i + 1) s₃) E s₂) E s)
    (done : ∀ P pre s, J n P pre → St B P (pre ++ fr) s → R (.ok .next) s) :
    codeAny (model prog w) A (.compLoop (.ListComp elt gens scope pos) d it acc cenv) R s := by
  refine codeAny_loop hq (fun k s => ∃ i P pre, k = n - i ∧ i ≤ n ∧ J i P pre ∧ St B P (c i ++ (pre ++ fr)) s) (fun k s hk => ?_) n ⟨0, P, pre, rfl, Nat.zero_le _, h0, S⟩
  show wpAny _ A ((compTurn (.ListComp elt gens scope pos) d it acc cenv).onRaise (fun x => do noteFrame x cenv; theTreesLotGoes x)) _ _ s
  refine wpAny_noted ?_
  rw [hT]
  obtain ⟨i, P, pre, rfl, hi, hJ, S⟩ := hk
  by_cases hin : i < n
  · refine wpAny_bind (wpAny_standAt (wpAny_bind (wpAny_mono (C.item i P (pre ++ fr) s (fun v s' => wpAny (model prog w) A (assign target cenv v) (fun _ s₂ => wpAny (model prog w) A (testsM ifs cenv) (fun ok s₃ =>
        if ok = true then wpAny (model prog w) A body (fun _ s₄ => ∃ m, m < n - i ∧ ∃ i P pre, m = n - i ∧ i ≤ n ∧ J i P pre ∧ St B P (c i ++ (pre ++ fr)) s₄) (notedBy (model prog w) A cenv fun e s' => R (.error e) s') s₃
        else ∃ m, m < n - i ∧ ∃ i P pre, m = n - i ∧ i ≤ n ∧ J i P pre ∧ St B P (c i ++ (pre ++ fr)) s₃) (notedBy (model prog w) A cenv fun e s' => R (.error e) s') s₂) (notedBy (model prog w) A cenv fun e s' => R (.error e) s') s') _ (notedBy (model prog w) A cenv fun e s' => R (.error e) s') hin S fun v s' S' => ?_) (fun r s₁ h₁ => ?_) fun _ _ e => e)))
    · have S2 : St B (F i v :: P) (pre ++ (c (i + 1) ++ fr)) s' := S'.perm (by rw [← List.append_assoc, ← List.append_assoc]; exact (List.perm_append_comm).append_right _)
      have fin : ∀ s₃, TurnEnd B J (c (i + 1) ++ fr) (i + 1) s₃ → ∃ m, m < n - i ∧ ∃ i P pre, m = n - i ∧ i ≤ n ∧ J i P pre ∧ St B P (c i ++ (pre ++ fr)) s₃ := by
        rintro s₃ ⟨P', o', pre', S3, hp, hJ'⟩
        have S4 : St B P' (c (i + 1) ++ (pre' ++ fr)) s₃ := (S3.picks hp).perm (by rw [← List.append_assoc, ← List.append_assoc]; exact (List.perm_append_comm).append_right _)
        exact ⟨n - (i + 1), by lia, i + 1, P', pre', rfl, hin, hJ', S4⟩
      refine wpAny_mono (turn i v P pre (c (i + 1) ++ fr) s' _ hin hJ S2) (fun _ s₂ h₂ => wpAny_mono h₂ (fun ok s₃ h₃ => ?_) fun _ _ e => e) fun _ _ e => e
      cases ok with
      | false => exact fin _ h₃
      | true => exact wpAny_mono h₃ (fun _ s₄ h₄ => fin _ h₄) fun _ _ e => e
    · cases r with
      | none => exact h₁.elim
      | some v =>
        refine wpAny_bind (wpAny_mono h₁ (fun _ s₁' h₁' => ?_) fun _ _ h' => h')
        refine wpAny_bind (wpAny_mono h₁' (fun _ s₂ h₂ => wpAny_bind (wpAny_mono h₂ (fun ok s₃ h₃ => ?_) fun _ _ h' => h')) fun _ _ h' => h')
        cases ok with
        | false => exact wpAny_pure ⟨rfl, h₃⟩
        | true => exact wpAny_bind (wpAny_mono h₃ (fun _ s₄ h₄ => wpAny_pure ⟨rfl, h₄⟩) fun _ _ h' => h')
  · have hin' : i = n := by lia
    subst hin'
    refine wpAny_bind (wpAny_standAt (wpAny_bind (wpAny_mono (C.done P (pre ++ fr) s (R (.ok .next)) _ S fun s' S' => done P pre s' hJ S') (fun r s₁ h₁ => ?_) fun _ _ e => e)))
    obtain ⟨rfl, h₁⟩ := h₁
    exact wpAny_pure h₁

theorem appendLs {Q : Value → Shared → Prop} (S : St B P own s) (p : Pick own (a, lsC τ xs) own₀) (h : Ev P τ v x) (hl : xs.length ≤ 1000)
    (k : ∀ s', St B P ((a, lsC τ (xs ++ [x])) :: own₀) s' → Q .none s') : wpAny (model prog w) A (call (.builtin "list.append") [.ref a, v]) Q E s := by
  obtain ⟨G, hG⟩ := S
  obtain ⟨o, ho, vs, hls, hr⟩ := hG.at p.mem
  refine wpAny_list_append (items := vs.toArray) (hls.isList ho) (fun h' hL hs => ?_) (by rw [List.size_toArray, hr.length]; exact Nat.le_trans hl (by decide))
  obtain ⟨o', ho', hc', m, hd'⟩ := hL
  refine k _ ⟨G, hG.upd (tk := s.toks) p (fun b o hb e => hs.extBut b o hb e) ⟨o', ho', vs ++ [v], ⟨hc', m, ?_⟩, hr.append (.cons (h G hG.fa) .nil)⟩⟩
  rw [hd']; simp

/-- a source that is walked -/
def Enter (prog : Program) (w : World) (A : Around) (B : Shared) (target : Expr) (xv : Value) (s : Shared) (n : Nat) (F : Nat → Value → Fact) (pre fr : Own) (P : List Fact) : Prop :=
  ∀ (Q : Value → Shared → Prop) E, (∀ it c s₂, Cursor prog w A B target it n F c → St B P (c 0 ++ (pre ++ fr)) s₂ → Q it s₂) → wpAny (model prog w) A (pyIter xv) Q E s
theorem enList {target : Expr} {n : Nat} {pre fr o : Own} (hR : Room A n) (S : St B P o s) (h : Ev P (Ty.list τ) v xs) (hp : Picks o pre fr) (hgo : GoOk prog w A B τ xs target) : Enter prog w A B target v s xs.length (Mine.atF τ xs) pre fr P := by
  intro Q E k
  refine enterLs (S.picks hp) h fun I l s' _ S' => ?_
  exact k _ _ _ (Cursor.list (xs := xs) (τ := τ) (I := I) (l := l) hR.hh (hgo I l)) S'
theorem enRg {target : Expr} {n m : Nat} {r : Addr} {b c : Int} {pre fr o : Own} (hR : Room A n) (S : St B P o s) (h : rgF r b c ∈ P) (hb : -1000 ≤ b ∧ b ≤ 1000 ∧ -1000 ≤ c ∧ c ≤ 1000 ∧ m = (c - b).toNat) (hp : Picks o pre fr)
    (hgo : ∀ I v, letOwnedTupleGo target (.ref I) v = pure () := by intro _ _; rfl) : Enter prog w A B target (.ref r) s m (rgAt b) pre fr P := by
  intro Q E k
  obtain ⟨hb1, hb2, hc1, hc2, rfl⟩ := hb
  refine enterRg (S.picks hp) h (by lia) (by lia) (by lia) (by lia) fun I s' S' => ?_
  exact k _ _ _ (Cursor.range (b := b) (n := (c - b).toNat) hR.hh (hgo I)) S'
theorem enEn {elts : List Expr} {j n : Nat} {tp : Pos} {e it l : Addr} {pre fr o : Own} (hR : Room A n) (S : St B P ((e, enC it 0) :: (it, liC τ xs l 0) :: o) s) (hp : Picks o pre fr) : Enter prog w A B (.Tuple elts j tp) (.ref e) s xs.length (Mine.atE τ xs) pre fr P := by
  intro Q E k
  refine enterEn S (.head _) ?_
  exact k _ _ _ (Cursor.enum (xs := xs) (τ := τ) (e := e) (it := it) (l := l) hR.hh) (S.perm ((hp.perm.cons _).cons _))

/-- the turn of a comprehension ends with an item, or with none -/
def ElemEnd (B : Shared) (τ : Ty β) (J : Nat → List β → List Fact → Own → Prop) (N' : List (Str × NameKind)) (Cn : Addr) (cs : List Addr) (fr : Own) (i : Nat) (zs : List β) (y : Value) (s : Shared) : Prop :=
  ∃ P' o' ms' r1 oc r2 pre' z, St B P' o' s ∧ Ev P' τ y z ∧ ms'.map Prod.fst = locN N' ∧ Pick o' (Cn, nsC ms') r1 ∧ CellsNow cs oc ∧ Picks r1 oc r2 ∧ Picks r2 pre' fr ∧ J i (zs ++ [z]) P' pre'
def SkipEnd (B : Shared) (J : Nat → List β → List Fact → Own → Prop) (N' : List (Str × NameKind)) (Cn : Addr) (cs : List Addr) (fr : Own) (i : Nat) (zs : List β) (s : Shared) : Prop :=
  ∃ P' o' ms' r1 oc r2 pre', St B P' o' s ∧ ms'.map Prod.fst = locN N' ∧ Pick o' (Cn, nsC ms') r1 ∧ CellsNow cs oc ∧ Picks r1 oc r2 ∧ Picks r2 pre' fr ∧ J i zs P' pre'
theorem allNone_none (N : List (Str × NameKind)) : ∀ p ∈ allNone N, p.2 = none := fun p hp => by
  obtain ⟨n, _, rfl⟩ := List.mem_map.mp hp; rfl

theorem lenBound {n i : Nat} {zs : List β} (h : zs.length ≤ i) (hi : i < n) (hn : n ≤ 1000) : zs.length ≤ 1000 := by lia

theorem compX {elt target iter : Expr} {ifs : List Expr} {scope : Scope} {pos : Pos} {N N' : List (Str × NameKind)} {L : Addr} {C CL : List (Str × Addr)} {cn : List Str} {use : Option (Value → Sem Unit)} {Q : Value → Shared → Prop}
    {n : Nat} {F : Nat → Value → Fact} {first : Sem Value} {pos2 : Pos} (τ : Ty β) (J : Nat → List β → List Fact → Own → Prop) (pre fr : Own) (hE : EnvIs env N L C) (hn : n ≤ 1000)
    (hkind : scope.kind = .function) (hN' : relN N scope.names = N') (hCL : cloL C scope.names [] = CL) (hfree : (scope.names.all fun p => !(p.2 == .free) || (C.lookup p.1).isSome) = true)
    (hcn : (cellsFrom 0 scope.names []).map Prod.fst = cn)
    (hnames : (scope.names.all fun p => !(p.2 == .local) || (scope.names.lookup p.1 == some .local)) = true)
    (hnd : decide ((N'.map Prod.fst).Nodup ∧ (cn ++ CL.map Prod.fst).Nodup) = true) (hdb : (N'.all fun p => !(p.1 == ("__debug__" : Str))) = true) (hloc : locN N' = locN scope.names)
    (h : wpAny (model prog w) A first (fun xv s₁ => ∃ P, Enter prog w A B target xv s₁ n F pre fr P ∧ J 0 [] P pre) E s)
    (turn : ∀ Cn cs cenv, cs.length = cn.length → EnvIs cenv N' Cn (cn.zip cs ++ CL) → ∀ i v zs P pre fr s E, i < n → zs.length ≤ i → J i zs P pre → St B (F i v :: P) ((Cn, nsC (allNone N')) :: (uns cs ++ (pre ++ fr))) s →
      wpAny (model prog w) A (assign target cenv v) (fun _ s₂ => wpAny (model prog w) A (testsM ifs cenv) (fun ok s₃ =>
        if ok = true then wpAny (model prog w) A (eval elt cenv) (fun y s₄ => ElemEnd B τ J N' Cn cs fr (i + 1) zs y s₄) E s₃ else SkipEnd B J N' Cn cs fr (i + 1) zs s₃) E s₂) E s)
    (post : ∀ P pre zs D Cn cs s, J n zs P pre → St B P ((Cn, nsC (allNone N')) :: (D, lsC τ zs) :: (uns cs ++ (pre ++ fr))) s → compPost (model prog w) A E use Q (.ref D) Cn (.ok .next) s)
    (hs : ∀ x, foldedSetIterable iter env x = pure x) :
    wpAny (model prog w) A (comprehension (.ListComp elt [⟨target, iter, ifs, 0⟩] scope pos) scope env pos2 (newList []) false first use) Q E s := by
  refine wpAny_comprehension_free (cl := CL) rfl hs ((closureFor_eq hE.cells hfree).trans (by rw [hCL])) hkind (fun x hx hxl => ?_) (wpAny_mono h (fun xv s₁ h₁ => ?_) fun _ _ e => e)
  · have := List.all_eq_true.mp hnames x hx
    rw [hxl] at this
    simpa using this
  obtain ⟨P, hEn, hJ0⟩ := h₁
  refine hEn _ _ fun it c s₂ hC S2 => ?_
  refine layComp (τ := τ) (CL := CL) (N' := N') (cn := cn) hE S2 hkind hN' hcn hnd hdb hloc fun D Cn cs cenv s' hlen hE' hCn S3 => ?_
  have loop : codeAny (model prog w) A (.compLoop (.ListComp elt [⟨target, iter, ifs, 0⟩] scope pos) 0 it (.ref D) { cenv with scope := relabel scope env }) (compPost (model prog w) A E use Q (.ref D) cenv.locals) s' := by
    refine compLoopB (compTurn_list _ _ _ _ _ _ _ _ _) rfl hC (fun i P pre' => ∃ zs pre, pre' = (Cn, nsC (allNone N')) :: (D, lsC τ zs) :: (uns cs ++ pre) ∧ zs.length ≤ i ∧ J i zs P pre) (pre := (Cn, nsC (allNone N')) :: (D, lsC τ []) :: (uns cs ++ pre)) (fr := fr) (P := P)
      ⟨[], pre, rfl, Nat.zero_le _, hJ0⟩ ?_ ?_ ?_
    · refine S3.perm ?_
      have p1 : ((Cn, nsC (allNone N')) :: (D, lsC τ []) :: (uns cs ++ (c 0 ++ (pre ++ fr)))).Perm (c 0 ++ ((Cn, nsC (allNone N')) :: (D, lsC τ []) :: (uns cs ++ (pre ++ fr)))) := by
        have q1 : (uns cs ++ (c 0 ++ (pre ++ fr))).Perm (c 0 ++ (uns cs ++ (pre ++ fr))) := by
          rw [← List.append_assoc, ← List.append_assoc (c 0)]; exact List.perm_append_comm.append_right _
        exact ((q1.cons _).cons _).trans ((List.perm_middle.symm.cons _).trans List.perm_middle.symm)
      simpa using p1
    · rintro i v P pre' fr s E hi ⟨zs, pre, rfl, hzl, hJ⟩ S4
      have S5 : St B (F i v :: P) ((Cn, nsC (allNone N')) :: (uns cs ++ (pre ++ ((D, lsC τ zs) :: fr)))) s := S4.perm (by
        rw [List.cons_append, List.cons_append, List.append_assoc]
        refine List.Perm.cons _ ?_
        have : ((D, lsC τ zs) :: (uns cs ++ (pre ++ fr))).Perm ((uns cs ++ pre) ++ ((D, lsC τ zs) :: fr)) := by
          rw [← List.append_assoc]; exact List.perm_middle.symm
        rw [List.append_assoc] at this
        exact this)
      refine wpAny_mono (turn Cn cs _ hlen (hCn ▸ hE') i v zs P pre ((D, lsC τ zs) :: fr) s E hi hzl hJ S5) (fun _ s₂ h₂ => wpAny_mono h₂ (fun ok s₃ h₃ => ?_) fun _ _ e => e) fun _ _ e => e
      have back : ∀ {P' : List Fact} {o' r1 oc r2 pre' : Own} {ms' : List (Str × Option Value)} {zs2 : List β} {c : Chunk} {s₅ : Shared}, St B P' o' s₅ → ms'.map Prod.fst = locN N' → o'.Perm ((Cn, nsC ms') :: (D, c) :: (oc ++ (pre' ++ fr))) → CellsNow cs oc →
          St B P' ((Cn, nsC (allNone N')) :: (D, c) :: (uns cs ++ (pre' ++ fr))) s₅ := by
        intro P' o' r1 oc r2 pre' ms' zs2 c s₅ S hm hp hc
        have S' := S.perm hp
        have S'' := S'.forget (m := allNone N') (by rw [hm, allNone_names]) (allNone_none _)
        exact St.uncell hc (pre := [(Cn, nsC (allNone N')), (D, c)]) S''
      have perm1 : ∀ {o' r1 oc r2 pre' : Own} {ms' : List (Str × Option Value)}, Pick o' (Cn, nsC ms') r1 → Picks r1 oc r2 → Picks r2 pre' ((D, lsC τ zs) :: fr) → o'.Perm ((Cn, nsC ms') :: (D, lsC τ zs) :: (oc ++ (pre' ++ fr))) := by
        intro o' r1 oc r2 pre' ms' p1 p2 p3
        refine p1.perm.trans (List.Perm.cons _ ?_)
        refine p2.perm.trans ?_
        refine (p3.perm.append_left oc).trans ?_
        rw [← List.append_assoc, ← List.append_assoc]
        exact List.perm_middle
      cases ok with
      | false =>
        obtain ⟨P', o', ms', r1, oc, r2, pre', S6, hm, p1, hc, p2, p3, hJ'⟩ := h₃
        exact ⟨P', _, _, back (r1 := r1) (r2 := r2) (zs2 := zs) S6 hm (perm1 p1 p2 p3) hc, (by
          have : Picks ((Cn, nsC (allNone N')) :: (D, lsC τ zs) :: (uns cs ++ (pre' ++ fr))) ((Cn, nsC (allNone N')) :: (D, lsC τ zs) :: (uns cs ++ pre')) fr := by
            have : ∀ (l : Own), Picks (l ++ fr) l fr := by
              intro l
              induction l with
              | nil => exact .nil
              | cons x l ih => exact .cons .head ih
            have := this ((Cn, nsC (allNone N')) :: (D, lsC τ zs) :: (uns cs ++ pre'))
            simpa using this
          exact this), zs, pre', rfl, Nat.le_succ_of_le hzl, hJ'⟩
      | true =>
        refine wpAny_bind (wpAny_mono h₃ (fun y s₄ h₄ => ?_) fun _ _ e => e)
        obtain ⟨P', o', ms', r1, oc, r2, pre', z, S6, hev, hm, p1, hc, p2, p3, hJ'⟩ := h₄
        have S7 := back (r1 := r1) (r2 := r2) (zs2 := zs) S6 hm (perm1 p1 p2 p3) hc
        refine wpAny_bind (appendLs S7 (.tail .head) hev (lenBound hzl hi hn) fun s₅ S8 => wpAny_pure ?_)
        refine ⟨P', _, _, S8, ?_, zs ++ [z], pre', rfl, by rw [List.length_append, List.length_singleton]; lia, hJ'⟩
        refine .cons (.tail .head) (.cons .head ?_)
        have : ∀ (l : Own), Picks (l ++ fr) l fr := by
          intro l
          induction l with
          | nil => exact .nil
          | cons x l ih => exact .cons .head ih
        have := this (uns cs ++ pre')
        simpa using this
    · rintro P pre' s ⟨zs, pre, rfl, hzl, hJ⟩ S4
      rw [hCn]
      exact post P pre zs D Cn cs s hJ (by simpa using S4)
  exact codeAny_compStart_list loop (hC.self 0 P _ s' _ _ (S3.perm (by
      have q1 : (uns cs ++ (c 0 ++ (pre ++ fr))).Perm (c 0 ++ (uns cs ++ (pre ++ fr))) := by
        rw [← List.append_assoc, ← List.append_assoc (c 0)]; exact List.perm_append_comm.append_right _
      exact ((q1.cons _).cons _).trans ((List.perm_middle.symm.cons _).trans List.perm_middle.symm))) loop)
end
end Mine

namespace Mine
open PySem PySem.W PyProof.Rows PySem.Calls PySem.Spec

section
variable {B : Shared} {GT BT : List (Str × Value)} {P : List Fact} {own own₀ : Own} {prog : Program} {w : World} {A : Around} {E : Value → Shared → Prop} {s : Shared} {env : Env}
  {v u : Value} {a : Addr} {α β : Type} {τ : Ty α} {σ : Ty β} {x : α} {xs ys : List α} {i : Int} {t : Tok} {G : Gh}

theorem St.lose {c : Chunk} {o' : Own} {h' : Heap} {tk : Nat} (S : St B P ((a, c) :: o') s) (k : ∀ b o, b ≠ a → s.heap.get? b = some o → h'.get? b = some o) : St B P o' { s with heap := h', toks := tk } :=
  let ⟨G, h⟩ := S; ⟨G, h.lose k⟩
theorem St.dropUns {cs : List Addr} {o' : Own} : ∀ {pre : Own}, St B P (pre ++ (uns cs ++ o')) s → St B P (pre ++ o') s := by
  induction cs with
  | nil => exact fun S => S
  | cons c cs ih =>
    intro pre S
    have S1 : St B P ((c, ceU) :: (pre ++ (uns cs ++ o'))) s := S.perm List.perm_middle
    exact ih (S1.drop .head)

/-- the end of a turn, no cell of the comprehension's own -/
def Elem0 (B : Shared) (τ : Ty β) (J : Nat → List β → List Fact → Own → Prop) (ms0 : List (Str × Option Value)) (Cn : Addr) (fr : Own) (i : Nat) (zs : List β) (y : Value) (s : Shared) : Prop :=
  ∃ P' o' ms' r1 pre' z, St B P' o' s ∧ Ev P' τ y z ∧ Pick o' (Cn, nsC ms') r1 ∧ Picks r1 pre' fr ∧ ms'.map Prod.fst = ms0.map Prod.fst ∧ J i (zs ++ [z]) P' pre'
def Skip0 (B : Shared) (J : Nat → List β → List Fact → Own → Prop) (ms0 : List (Str × Option Value)) (Cn : Addr) (fr : Own) (i : Nat) (zs : List β) (s : Shared) : Prop :=
  ∃ P' o' ms' r1 pre', St B P' o' s ∧ Pick o' (Cn, nsC ms') r1 ∧ Picks r1 pre' fr ∧ ms'.map Prod.fst = ms0.map Prod.fst ∧ J i zs P' pre'
/-- one cell of its own -/
def Elem1 (B : Shared) (τ : Ty β) (J : Nat → List β → List Fact → Own → Prop) (ms0 : List (Str × Option Value)) (Cn c : Addr) (fr : Own) (i : Nat) (zs : List β) (y : Value) (s : Shared) : Prop :=
  ∃ P' o' ms' r1 u r2 pre' z, St B P' o' s ∧ Ev P' τ y z ∧ Pick o' (Cn, nsC ms') r1 ∧ Pick r1 (c, ceC u) r2 ∧ Picks r2 pre' fr ∧ ms'.map Prod.fst = ms0.map Prod.fst ∧ J i (zs ++ [z]) P' pre'

section
variable {elt target iter : Expr} {ifs : List Expr} {scope : Scope} {pos spos : Pos} {N N' : List (Str × NameKind)} {L : Addr} {C CL : List (Str × Addr)} {n : Nat} {F : Nat → Value → Fact}

structure CompOk (scope : Scope) (N N' : List (Str × NameKind)) (C CL : List (Str × Addr)) (cn : List Str) (ms0 : List (Str × Option Value)) : Prop where
  kind : scope.kind = .function
  names : relN N scope.names = N'
  clo : cloL C scope.names [] = CL
  free : (scope.names.all fun p => !(p.2 == .free) || (C.lookup p.1).isSome) = true
  cells : (cellsFrom 0 scope.names []).map Prod.fst = cn
  loc : (scope.names.all fun p => !(p.2 == .local) || (scope.names.lookup p.1 == some .local)) = true
  nd : decide ((N'.map Prod.fst).Nodup ∧ (cn ++ CL.map Prod.fst).Nodup) = true
  db : (N'.all fun p => !(p.1 == ("__debug__" : Str))) = true
  locs : locN N' = locN scope.names
  ms : allNone N' = ms0

theorem comp0 {Q : Value → Shared → Prop} (N' : List (Str × NameKind)) (CL : List (Str × Addr)) (ms0 : List (Str × Option Value)) (τ : Ty β) (J : Nat → List β → List Fact → Own → Prop) (pre fr : Own)
    (hE : EnvIs env N L C) (hn : n ≤ 1000) (ok : CompOk scope N N' C CL [] ms0)
    (h : wpAny (model prog w) A (eval iter env) (fun xv s₁ => ∃ P, Enter prog w A B target xv s₁ n F pre fr P ∧ J 0 [] P pre) E s)
    (turn : ∀ Cn cenv, EnvIs cenv N' Cn CL → ∀ i v zs P pre fr s E, i < n → zs.length ≤ i → J i zs P pre → St B (F i v :: P) ((Cn, nsC ms0) :: (pre ++ fr)) s →
      wpAny (model prog w) A (assign target cenv v) (fun _ s₂ => wpAny (model prog w) A (testsM ifs cenv) (fun ok s₃ =>
        if ok = true then wpAny (model prog w) A (eval elt cenv) (fun y s₄ => Elem0 B τ J ms0 Cn fr (i + 1) zs y s₄) E s₃ else Skip0 B J ms0 Cn fr (i + 1) zs s₃) E s₂) E s)
    (post : ∀ P pre zs D s, J n zs P pre → St B P ((D, lsC τ zs) :: (pre ++ fr)) s → Q (.ref D) s)
    (hs : ∀ x, foldedSetIterable iter env x = pure x := by intro _; rfl) :
    wpAny (model prog w) A (eval (.ListComp elt [⟨target, iter, ifs, 0⟩] scope pos) env) Q E s := by
  rw [eval_ListComp]
  refine compX τ J pre fr hE hn ok.kind ok.names ok.clo ok.free ok.cells ok.loc ok.nd ok.db ok.locs h ?_ ?_ hs
  · intro Cn cs cenv hl hE' i v zs P pre fr s E hi hz hJ S
    cases cs with
    | cons => simp at hl
    | nil =>
      refine wpAny_mono (turn Cn cenv hE' i v zs P pre fr s E hi hz hJ (ok.ms ▸ S)) (fun _ s₂ h₂ => wpAny_mono h₂ (fun ok' s₃ h₃ => ?_) fun _ _ e => e) fun _ _ e => e
      have e : ms0.map Prod.fst = locN N' := by rw [← ok.ms, allNone_names]
      cases ok' with
      | false =>
        obtain ⟨P', o', ms', r1, pre', S', p1, p2, hm, hJ'⟩ := h₃
        exact ⟨P', o', ms', r1, [], r1, pre', S', hm.trans e, p1, .nil, .nil, p2, hJ'⟩
      | true =>
        refine wpAny_mono h₃ (fun y s₄ h₄ => ?_) fun _ _ e => e
        obtain ⟨P', o', ms', r1, pre', z, S', hev, p1, p2, hm, hJ'⟩ := h₄
        exact ⟨P', o', ms', r1, [], r1, pre', z, S', hev, hm.trans e, p1, .nil, .nil, p2, hJ'⟩
  · intro P pre zs D Cn cs s hJ S
    have S' : St B P ((D, lsC τ zs) :: (pre ++ fr)) s := (S.drop .head).dropUns (pre := [(D, lsC τ zs)])
    have S2 : St B P ((Cn, nsC (allNone N')) :: (D, lsC τ zs) :: (pre ++ fr)) s := S.dropUns (pre := [(Cn, nsC (allNone N')), (D, lsC τ zs)])
    obtain ⟨G, hG⟩ := id S2
    obtain ⟨o, ho, hc⟩ := hG.at (.head _)
    obtain ⟨f, hns, _⟩ := nsC_ns (G := G) ho hc
    exact ⟨f, hns, fun h' hs' => post P pre zs D _ hJ (S2.lose (tk := s.toks) fun b o hb e => hs'.extBut b o hb e)⟩

theorem comp1 {Q : Value → Shared → Prop} (N' : List (Str × NameKind)) (n1 : Str) (CL : List (Str × Addr)) (ms0 : List (Str × Option Value)) (τ : Ty β) (J : Nat → List β → List Fact → Own → Prop) (pre fr : Own)
    (hE : EnvIs env N L C) (hn : n ≤ 1000) (ok : CompOk scope N N' C CL [n1] ms0)
    (h : wpAny (model prog w) A (eval iter env) (fun xv s₁ => ∃ P, Enter prog w A B target xv s₁ n F pre fr P ∧ J 0 [] P pre) E s)
    (turn : ∀ Cn c cenv, EnvIs cenv N' Cn ((n1, c) :: CL) → ∀ i v zs P pre fr s E, i < n → zs.length ≤ i → J i zs P pre → St B (F i v :: P) ((Cn, nsC ms0) :: (c, ceU) :: (pre ++ fr)) s →
      wpAny (model prog w) A (assign target cenv v) (fun _ s₂ => wpAny (model prog w) A (testsM ifs cenv) (fun ok s₃ =>
        ok = true ∧ wpAny (model prog w) A (eval elt cenv) (fun y s₄ => Elem1 B τ J ms0 Cn c fr (i + 1) zs y s₄) E s₃) E s₂) E s)
    (post : ∀ P pre zs D s, J n zs P pre → St B P ((D, lsC τ zs) :: (pre ++ fr)) s → Q (.ref D) s)
    (hs : ∀ x, foldedSetIterable iter env x = pure x := by intro _; rfl) :
    wpAny (model prog w) A (eval (.ListComp elt [⟨target, iter, ifs, 0⟩] scope pos) env) Q E s := by
  rw [eval_ListComp]
  refine compX τ J pre fr hE hn ok.kind ok.names ok.clo ok.free ok.cells ok.loc ok.nd ok.db ok.locs h ?_ ?_ hs
  · intro Cn cs cenv hl hE' i v zs P pre fr s E hi hz hJ S
    match cs, hl with
    | [c], _ =>
      refine wpAny_mono (turn Cn c cenv hE' i v zs P pre fr s E hi hz hJ (ok.ms ▸ S)) (fun _ s₂ h₂ => wpAny_mono h₂ (fun ok' s₃ h₃ => ?_) fun _ _ e => e) fun _ _ e => e
      have e : ms0.map Prod.fst = locN N' := by rw [← ok.ms, allNone_names]
      obtain ⟨rfl, h₃⟩ := h₃
      refine wpAny_mono h₃ (fun y s₄ h₄ => ?_) fun _ _ e => e
      obtain ⟨P', o', ms', r1, u, r2, pre', z, S', hev, p1, p2, p3, hm, hJ'⟩ := h₄
      exact ⟨P', o', ms', r1, [(c, ceC u)], r2, pre', z, S', hev, hm.trans e, p1, .cons .nil, .cons p2 .nil, p3, hJ'⟩
  · intro P pre zs D Cn cs s hJ S
    have S2 : St B P ((Cn, nsC (allNone N')) :: (D, lsC τ zs) :: (pre ++ fr)) s := S.dropUns (pre := [(Cn, nsC (allNone N')), (D, lsC τ zs)])
    obtain ⟨G, hG⟩ := id S2
    obtain ⟨o, ho, hc⟩ := hG.at (.head _)
    obtain ⟨f, hns, _⟩ := nsC_ns (G := G) ho hc
    exact ⟨f, hns, fun h' hs' => post P pre zs D _ hJ (S2.lose (tk := s.toks) fun b o hb e => hs'.extBut b o hb e)⟩

/-- the store that is exchanged with the letting go -/
theorem swaps_used {y : Str} {py : Pos} (hE : EnvIs env N L C) (hy : (y, NameKind.local) ∈ N) (hl : (py.line == pos.line) = true) (hnm : (scope.names.any fun (n, k) => n == y && (k == .local || k == .cell)) = false) :
    swapsWith (.ListComp elt [⟨target, iter, ifs, 0⟩] scope pos) (some (.Name y py)) spos.line env = pure true := by
  have hb : env.blockKind = .function := by unfold Env.blockKind; rw [hE.kind]; rfl
  unfold swapsWith
  simp only [hb, hE.kindOf hy, Expr.pos, hl, hnm]
  rfl
theorem swaps_cell {value : Expr} {y : Str} {py : Pos} {sl : Nat} (hE : EnvIs env N L C) (hy : (y, NameKind.cell) ∈ N) : swapsWith value (some (.Name y py)) sl env = pure false := by
  have hb : env.blockKind = .function := by unfold Env.blockKind; rw [hE.kind]; rfl
  have e : (some NameKind.cell == some NameKind.local) = false := by decide
  unfold swapsWith
  cases value <;> simp [hb, hE.kindOf hy, e]
theorem compU0 {y : Str} {py : Pos} {Q : Flow → Shared → Prop} (N' : List (Str × NameKind)) (CL : List (Str × Addr)) (ms0 : List (Str × Option Value)) (τ : Ty β) (J : Nat → List β → List Fact → Own → Prop) (pre fr : Own)
    (hE : EnvIs env N L C) (hn : n ≤ 1000) (ok : CompOk scope N N' C CL [] ms0) (hy : (y, NameKind.local) ∈ N) (hl : (py.line == pos.line) = true) (hnm : (scope.names.any fun (n, k) => n == y && (k == .local || k == .cell)) = false)
    (h : wpAny (model prog w) A (eval iter env) (fun xv s₁ => ∃ P, Enter prog w A B target xv s₁ n F pre fr P ∧ J 0 [] P pre) E s)
    (turn : ∀ Cn cenv, EnvIs cenv N' Cn CL → ∀ i v zs P pre fr s E, i < n → zs.length ≤ i → J i zs P pre → St B (F i v :: P) ((Cn, nsC ms0) :: (pre ++ fr)) s →
      wpAny (model prog w) A (assign target cenv v) (fun _ s₂ => wpAny (model prog w) A (testsM ifs cenv) (fun ok s₃ =>
        if ok = true then wpAny (model prog w) A (eval elt cenv) (fun y s₄ => Elem0 B τ J ms0 Cn fr (i + 1) zs y s₄) E s₃ else Skip0 B J ms0 Cn fr (i + 1) zs s₃) E s₂) E s)
    (post : ∀ P pre zs D Cn s, J n zs P pre → St B P ((Cn, nsC ms0) :: (D, lsC τ zs) :: (pre ++ fr)) s → wpAny (model prog w) A (storeName env y (.ref D)) (fun _ s'' => ∃ P' o' ms o'', St B P' o' s'' ∧ Pick o' (Cn, nsC ms) o'' ∧ ∀ s3, St B P' o'' s3 → Q .next s3) E s)
    (hs : ∀ x, foldedSetIterable iter env x = pure x := by intro _; rfl) :
    wpAny (model prog w) A (exec (.Assign [.Name y py] (.ListComp elt [⟨target, iter, ifs, 0⟩] scope pos) spos) env) Q E s := by
  rw [exec_Assign_Name_used _ _ _ _ (swaps_used hE hy hl hnm)]
  refine wpAny_bind (wpAny_standAt (wpAny_bind ?_))
  show wpAny _ A (do let _ ← comprehension (.ListComp elt [⟨target, iter, ifs, 0⟩] scope pos) scope env _ (newList []) false (eval iter env) (some (assign (.Name y py) env))) _ _ s
  refine wpAny_bind (wpAny_mono (compX (use := some (assign (.Name y py) env)) (Q := fun _ s' => Q .next s') τ J pre fr hE hn ok.kind ok.names ok.clo ok.free ok.cells ok.loc ok.nd ok.db ok.locs h ?_ ?_ hs) (fun _ s' hq => wpAny_pure (wpAny_pure hq)) fun _ _ e => e)
  · intro Cn cs cenv hl hE' i v zs P pre fr s E hi hz hJ S
    cases cs with
    | cons => simp at hl
    | nil =>
      refine wpAny_mono (turn Cn cenv hE' i v zs P pre fr s E hi hz hJ (ok.ms ▸ S)) (fun _ s₂ h₂ => wpAny_mono h₂ (fun ok' s₃ h₃ => ?_) fun _ _ e => e) fun _ _ e => e
      have e : ms0.map Prod.fst = locN N' := by rw [← ok.ms, allNone_names]
      cases ok' with
      | false =>
        obtain ⟨P', o', ms', r1, pre', S', p1, p2, hm, hJ'⟩ := h₃
        exact ⟨P', o', ms', r1, [], r1, pre', S', hm.trans e, p1, .nil, .nil, p2, hJ'⟩
      | true =>
        refine wpAny_mono h₃ (fun y s₄ h₄ => ?_) fun _ _ e => e
        obtain ⟨P', o', ms', r1, pre', z, S', hev, p1, p2, hm, hJ'⟩ := h₄
        exact ⟨P', o', ms', r1, [], r1, pre', z, S', hev, hm.trans e, p1, .nil, .nil, p2, hJ'⟩
  · intro P pre zs D Cn cs s hJ S
    have S2 : St B P ((Cn, nsC ms0) :: (D, lsC τ zs) :: (pre ++ fr)) s := by
      have := S.dropUns (pre := [(Cn, nsC (allNone N')), (D, lsC τ zs)])
      rw [ok.ms] at this
      exact this
    show wpAny _ A (assign (.Name y py) env (.ref D)) _ _ _
    refine asgNm (wpAny_mono (post P pre zs D Cn s hJ S2) (fun _ s'' h'' => ?_) fun _ _ e => e)
    obtain ⟨P', o', ms, o'', S3, hp, hq⟩ := h''
    have S4 := S3.perm hp.perm
    obtain ⟨G, hG⟩ := id S4
    obtain ⟨o, ho, hc⟩ := hG.at (.head _)
    obtain ⟨f, hns, _⟩ := nsC_ns (G := G) ho hc
    exact ⟨f, hns, fun h' hs' => hq _ (S4.lose (tk := s''.toks) fun b o hb e => hs'.extBut b o hb e)⟩
end
end
end Mine

namespace Mine
open PySem PySem.W PyProof.Rows PySem.Calls PySem.Spec

section
variable {B : Shared} {GT BT : List (Str × Value)} {P : List Fact} {own own₀ : Own} {prog : Program} {w : World} {A : Around} {E : Value → Shared → Prop} {s : Shared} {env : Env}
  {v u : Value} {a : Addr} {α β : Type} {τ : Ty α} {σ : Ty β} {x : α} {xs ys : List α} {i : Int} {t : Tok} {G : Gh}

theorem itN {Q : Value → Shared → Prop} {value slice : Expr} (n : Nat) (S : St B P own s) (h : Ev P (Ty.list τ) v xs) (hi : xs[n]? = some x) (hl : xs.length ≤ 1000) (hn : i = (n : Int)) (k : ∀ u, St B (τ.is u x :: P) own s → Q u s)
    (hs : ∀ a, subscripted slice false (.ref a) (.int i t) = operate [.ref a, .int i t] (getItem (.ref a) (.int i t)) := by intro _; with_unfolding_all rfl) :
    wpAny (model prog w) A (subscriptTail value slice v (.int i t)) Q E s := by
  have hlt : n < xs.length := (List.getElem?_eq_some_iff.mp hi).1
  subst hn
  exact itLs S h (by lia) (by lia) (by rw [Int.toNat_natCast]; exact hi) k hs
theorem itO {Q : Value → Shared → Prop} {value slice : Expr} (n : Nat) (S : St B P own s) (p : (a, lsC τ xs) ∈ own) (hi : xs[n]? = some x) (hl : xs.length ≤ 1000) (hn : i = (n : Int)) (k : ∀ u, St B (τ.is u x :: P) own s → Q u s)
    (hs : subscripted slice false (.ref a) (.int i t) = operate [.ref a, .int i t] (getItem (.ref a) (.int i t)) := by with_unfolding_all rfl) :
    wpAny (model prog w) A (subscriptTail value slice (.ref a) (.int i t)) Q E s := by
  have hlt : n < xs.length := (List.getElem?_eq_some_iff.mp hi).1
  subst hn
  exact itOw S p (by lia) (by lia) (by rw [Int.toNat_natCast]; exact hi) k hs
theorem putO {Q : Unit → Shared → Prop} (n : Nat) (S : St B P own s) (p : Pick own (a, lsC τ xs) own₀) (h : Ev P τ v x) (hi : n < xs.length) (hl : xs.length ≤ 1000) (hn : i = (n : Int))
    (k : ∀ s', St B P ((a, lsC τ (xs.set n x)) :: own₀) s' → Q () s') : wpAny (model prog w) A (setItem (.ref a) (.int i t) v) Q E s := by
  subst hn
  refine putOw S p h (by lia) (by lia) (by rw [Int.toNat_natCast]; exact hi) fun s' S' => k s' ?_
  rw [Int.toNat_natCast] at S'; exact S'
theorem lenL {Q : Value → Shared → Prop} (S : St B P own s) (h : Ev P (Ty.list τ) v xs) (hf : xs.length ≤ 1000) (k : ∀ t s', St B P own s' → Q (.int xs.length t) s') :
    wpAny (model prog w) A (call (.builtin "len") [v]) Q E s := lenLs S h (by lia) k
theorem lenO {Q : Value → Shared → Prop} (S : St B P own s) (p : (a, lsC τ xs) ∈ own) (hf : xs.length ≤ 1000) (k : ∀ t s', St B P own s' → Q (.int xs.length t) s') :
    wpAny (model prog w) A (call (.builtin "len") [.ref a]) Q E s := lenOw S p (by lia) k
theorem lenP {Q : Value → Shared → Prop} (S : St B P own s) (p : (a, plC τ xs) ∈ own) (hf : xs.length ≤ 1000) (k : ∀ t s', St B P own s' → Q (.int xs.length t) s') :
    wpAny (model prog w) A (call (.builtin "len") [.ref a]) Q E s := lenPl S p (by lia) k

theorem exprS {e : Expr} {pos : Pos} {N : List (Str × NameKind)} {L : Addr} {C : List (Str × Addr)} {Q : Flow → Shared → Prop} (hE : EnvIs env N L C) (h : wpAny (model prog w) A (eval e env) (fun v s' => v = .none ∧ Q .next s') E s)
    (hs : swapsWith e none pos.line env = pure false := by rfl) : wpAny (model prog w) A (exec (.Expr e pos) env) Q E s := by
  refine wpAny_Expr (wpAny_mono h (fun v s' h' => ?_) fun _ _ e => e) (by unfold interactive; rw [hE.kind]; rfl) hs
  obtain ⟨rfl, h'⟩ := h'
  exact h'

theorem callMeth {o elt : Expr} {nm : Str} {id : String} {apos pos : Pos} {Q : Value → Shared → Prop}
    (h : wpAny (model prog w) A (eval o env) (fun ov s₁ => (∀ (pl : Sem Bool) (Q : Value × List Value → Shared → Prop), Q (.builtin id, [ov]) s₁ → wpAny (model prog w) A (getMethod ov nm pl) Q E s₁) ∧
      wpAny (model prog w) A (eval elt env) (fun y s₂ => wpAny (model prog w) A (call (.builtin id) [ov, y]) Q E s₂) E s₁) E s)
    (hline : (apos.endLine == pos.line) = true := by rfl)
    (hbase : attributeBase o nm env (eval o env) = eval o env := by rfl)
    (hfew : ((backTo pos (starEach [elt] env)).all (fun x => !x.1) && (backToKw pos (keywordEach [] env)).all (fun x => x.1.isSome)
      && decide (([elt] : List Expr).length + ([] : List Keyword).length + (if ([] : List Keyword).isEmpty then 0 else 1) < 30)) = true := by rfl)
    (htrees : backTo pos (starEach [elt] env) = [(false, eval elt env)] := by rfl) :
    wpAny (model prog w) A (eval (.Call (.Attribute o nm apos) [elt] [] pos) env) Q E s := by
  rw [arm_eval_Call, hbase]
  refine wpAny_bind (wpAny_mono h (fun ov s₁ h₁ => ?_) fun _ _ e => e)
  obtain ⟨hmeth, hcall⟩ := h₁
  refine wpAny_bind (wpAny_standAt ?_)
  have fin : wpAny (model prog w) A (callWith pos (.builtin id) [ov] (backTo pos (starEach [elt] env)) []) Q E s₁ := by
    rw [htrees]
    exact Calls.callWith_builtin rfl (Calls.evalArgs_plain (Calls.spliced_cons (wpAny_mono hcall (fun y s₂ h₂ => Calls.spliced_nil h₂) fun _ _ e => e)))
  have hform : methodCallForm (([elt] : List Expr).length + ([] : List Keyword).length) (backTo pos (starEach [elt] env)) (backToKw pos (keywordEach [] env)) = true := hfew
  have hpos : methodCallPos true o env apos pos = pure pos := by unfold methodCallPos; simp [hline]
  unfold methodCall
  rw [hform]
  refine wpAny_bind (wpAny_holding (hmeth _ _ ?_))
  exact wpAny_bind (wpAny_of_eq hpos fin)
theorem methAppend (S : St B P own s) (p : (a, plC τ xs) ∈ own) : ∀ (pl : Sem Bool) (Q : Value × List Value → Shared → Prop), Q (.builtin "list.append", [.ref a]) s → wpAny (model prog w) A (getMethod (.ref a) "append" pl) Q E s := by
  intro pl Q k
  obtain ⟨G, hG⟩ := S
  obtain ⟨o, ho, vs, ⟨hl, hd, hsl⟩, hr⟩ := hG.at p
  exact Calls.getMethod_list_append ho hl.1 hd k
theorem methPop (S : St B P own s) (p : (a, plC τ xs) ∈ own) : ∀ (pl : Sem Bool) (Q : Value × List Value → Shared → Prop), Q (.builtin "list.pop", [.ref a]) s → wpAny (model prog w) A (getMethod (.ref a) "pop" pl) Q E s := by
  intro pl Q k
  obtain ⟨G, hG⟩ := S
  obtain ⟨o, ho, vs, ⟨hl, hd, hsl⟩, hr⟩ := hG.at p
  exact getMethod_builtin ⟨o, ho, hl.1⟩ PySem.F.plainAttrs_list PySem.F.slot_list_pop PySem.F.type_list_pop (fun a e => by cases e; exact ⟨o, ho, hd⟩) k

/-- a comprehension into a name that a cell holds, or into an item -/
theorem asgCell {value : Expr} {y : Str} {py spos : Pos} {N : List (Str × NameKind)} {L : Addr} {C : List (Str × Addr)} {Q : Flow → Shared → Prop} (hE : EnvIs env N L C) (hy : (y, NameKind.cell) ∈ N)
    (h : wpAny (model prog w) A (eval value env) (fun v s₁ => wpAny (model prog w) A (storeName env y v) (fun _ => Q .next) E s₁) E s) :
    wpAny (model prog w) A (exec (.Assign [.Name y py] value spos) env) Q E s := wpAny_Assign_Name h (swaps_cell hE hy)
/-- a tuple of names, one of them in a cell -/
theorem asgTpC {value : Expr} {e1 e2 : Expr} {k : Nat} {tpos pos : Pos} {Q : Flow → Shared → Prop}
    (h : wpAny (model prog w) A (eval value env) (fun v s₁ => wpAny (model prog w) A (assign (.Tuple [e1, e2] k tpos) env v) (fun _ => Q .next) E s₁) E s) (hs : swappedStores [.Tuple [e1, e2] k tpos] value env = pure none)
    (hw : swapsWithSole [.Tuple [e1, e2] k tpos] value pos.line env = pure false := by cases value <;> rfl) :
    wpAny (model prog w) A (exec (.Assign [.Tuple [e1, e2] k tpos] value pos) env) Q E s := PyProof.Rows.Assign_Tuple h hw hs
end
end Mine

namespace Mine
open PySem PySem.W PyProof.Rows PySem.Calls PySem.Spec

inductive Drops {α : Type} : List α → List α → Prop
  | refl {l} : Drops l l
  | skip {x l r} : Drops l r → Drops (x :: l) r

section
variable {B : Shared} {GT BT : List (Str × Value)} {P P' : List Fact} {own own₀ own' : Own} {prog : Program} {w : World} {A : Around} {E : Value → Shared → Prop} {s : Shared} {env : Env}
  {v u : Value} {a : Addr} {α β : Type} {τ : Ty α} {σ : Ty β} {x : α} {xs ys : List α} {i : Int} {t : Tok} {G : Gh}

theorem St.drops {l r : Own} (hd : Drops l r) : St B P l s → St B P r s := by
  induction hd with
  | refl => exact id
  | skip _ ih => exact fun S => ih (S.drop .head)
theorem St.out0 (S : St B P' own' s) (hd : Drops own' own) (hs : ∀ f ∈ P, f ∈ P') : St B P own s := (St.drops hd S).sub hs
theorem St.out1 {x : Addr × Chunk} {r : Own} (S : St B P' own' s) (hp : Pick own' x r) (hd : Drops r own) (hs : ∀ f ∈ P, f ∈ P') : St B P (x :: own) s := by
  have S1 := S.perm hp.perm
  have S2 : St B P' (own ++ [x]) s := by
    have : ∀ {l r : Own}, Drops l r → St B P' (l ++ [x]) s → St B P' (r ++ [x]) s := by
      intro l r hd
      induction hd with
      | refl => exact id
      | skip _ ih => exact fun S => ih (S.drop .head)
    exact this hd (S1.perm (List.perm_append_comm (l₁ := [x])))
  exact (S2.perm List.perm_append_comm).sub hs

section
variable {elt target iter : Expr} {ifs : List Expr} {scope : Scope} {pos spos : Pos} {N N' : List (Str × NameKind)} {L : Addr} {C CL : List (Str × Addr)} {n : Nat} {F : Nat → Value → Fact}

/-- one item made for each of n, nothing else changed -/
def Item0 (B : Shared) (τ : Ty β) (P0 : List Fact) (ms0 : List (Str × Option Value)) (Cn : Addr) (pre fr : Own) (y : Value) (z : β) (s : Shared) : Prop :=
  ∃ P' o' ms' r1, St B P' o' s ∧ Ev P' τ y z ∧ (∀ f ∈ P0, f ∈ P') ∧ Pick o' (Cn, nsC ms') r1 ∧ Picks r1 pre fr ∧ ms'.map Prod.fst = ms0.map Prod.fst
def Item1 (B : Shared) (τ : Ty β) (P0 : List Fact) (ms0 : List (Str × Option Value)) (Cn c : Addr) (pre fr : Own) (y : Value) (z : β) (s : Shared) : Prop :=
  ∃ P' o' ms' r1 u r2, St B P' o' s ∧ Ev P' τ y z ∧ (∀ f ∈ P0, f ∈ P') ∧ Pick o' (Cn, nsC ms') r1 ∧ Pick r1 (c, ceC u) r2 ∧ Picks r2 pre fr ∧ ms'.map Prod.fst = ms0.map Prod.fst

theorem compMap0 {Q : Value → Shared → Prop} (N' : List (Str × NameKind)) (CL : List (Str × Addr)) (ms0 : List (Str × Option Value)) (τ : Ty β) (f : Nat → β) (pre fr : Own) (P0 : List Fact)
    (hE : EnvIs env N L C) (hn : n ≤ 1000) (ok : CompOk scope N N' C CL [] ms0)
    (h : wpAny (model prog w) A (eval iter env) (fun xv s₁ => ∃ P, Enter prog w A B target xv s₁ n F pre fr P ∧ ∀ f ∈ P0, f ∈ P) E s)
    (turn : ∀ Cn cenv, EnvIs cenv N' Cn CL → ∀ i v fr s E, i < n → St B (F i v :: P0) ((Cn, nsC ms0) :: (pre ++ fr)) s →
      wpAny (model prog w) A (assign target cenv v) (fun _ s₂ => wpAny (model prog w) A (eval elt cenv) (fun y s₄ => Item0 B τ P0 ms0 Cn pre fr y (f i) s₄) E s₂) E s)
    (post : ∀ D s, St B P0 ((D, lsC τ ((List.range n).map f)) :: (pre ++ fr)) s → Q (.ref D) s)
    (hs : ∀ x, foldedSetIterable iter env x = pure x := by intro _; rfl) :
    wpAny (model prog w) A (eval (.ListComp elt [⟨target, iter, [], 0⟩] scope pos) env) Q E s := by
  refine comp0 (B := B) (F := F) N' CL ms0 τ (fun i zs P pre' => zs = (List.range i).map f ∧ (∀ f ∈ P0, f ∈ P) ∧ pre' = pre) pre fr hE hn ok (wpAny_mono h (fun xv s₁ h₁ => ?_) fun _ _ e => e) ?_ ?_ hs
  · obtain ⟨P, h1, h2⟩ := h₁
    exact ⟨P, h1, rfl, h2, rfl⟩
  · rintro Cn cenv hE' i v zs P pre' fr s E hi hz ⟨rfl, hsub, rfl⟩ S
    refine wpAny_mono (turn Cn cenv hE' i v fr s E hi (S.sub fun g hg => ?_)) (fun _ s₂ h₂ => wpAny_tests_nil ?_) fun _ _ e => e
    · rcases List.mem_cons.mp hg with rfl | hg
      · exact .head _
      · exact .tail _ (hsub g hg)
    · rw [if_pos rfl]
      refine wpAny_mono h₂ (fun y s₄ h₄ => ?_) fun _ _ e => e
      obtain ⟨P', o', ms', r1, S', hev, hs', p1, p2, hm⟩ := h₄
      exact ⟨P', o', ms', r1, _, f i, S', hev, p1, p2, hm, by rw [List.range_succ, List.map_append]; rfl, hs', rfl⟩
  · rintro P pre' zs D s ⟨rfl, hsub, rfl⟩ S
    exact post D s (S.sub hsub)
theorem compMap1 {Q : Value → Shared → Prop} (N' : List (Str × NameKind)) (n1 : Str) (CL : List (Str × Addr)) (ms0 : List (Str × Option Value)) (τ : Ty β) (f : Nat → β) (pre fr : Own) (P0 : List Fact)
    (hE : EnvIs env N L C) (hn : n ≤ 1000) (ok : CompOk scope N N' C CL [n1] ms0)
    (h : wpAny (model prog w) A (eval iter env) (fun xv s₁ => ∃ P, Enter prog w A B target xv s₁ n F pre fr P ∧ ∀ f ∈ P0, f ∈ P) E s)
    (turn : ∀ Cn c cenv, EnvIs cenv N' Cn ((n1, c) :: CL) → ∀ i v fr s E, i < n → St B (F i v :: P0) ((Cn, nsC ms0) :: (c, ceU) :: (pre ++ fr)) s →
      wpAny (model prog w) A (assign target cenv v) (fun _ s₂ => wpAny (model prog w) A (eval elt cenv) (fun y s₄ => Item1 B τ P0 ms0 Cn c pre fr y (f i) s₄) E s₂) E s)
    (post : ∀ D s, St B P0 ((D, lsC τ ((List.range n).map f)) :: (pre ++ fr)) s → Q (.ref D) s)
    (hs : ∀ x, foldedSetIterable iter env x = pure x := by intro _; rfl) :
    wpAny (model prog w) A (eval (.ListComp elt [⟨target, iter, [], 0⟩] scope pos) env) Q E s := by
  refine comp1 (B := B) (F := F) N' n1 CL ms0 τ (fun i zs P pre' => zs = (List.range i).map f ∧ (∀ f ∈ P0, f ∈ P) ∧ pre' = pre) pre fr hE hn ok (wpAny_mono h (fun xv s₁ h₁ => ?_) fun _ _ e => e) ?_ ?_ hs
  · obtain ⟨P, h1, h2⟩ := h₁
    exact ⟨P, h1, rfl, h2, rfl⟩
  · rintro Cn c cenv hE' i v zs P pre' fr s E hi hz ⟨rfl, hsub, rfl⟩ S
    refine wpAny_mono (turn Cn c cenv hE' i v fr s E hi (S.sub fun g hg => ?_)) (fun _ s₂ h₂ => wpAny_tests_nil ?_) fun _ _ e => e
    · rcases List.mem_cons.mp hg with rfl | hg
      · exact .head _
      · exact .tail _ (hsub g hg)
    · refine ⟨rfl, wpAny_mono h₂ (fun y s₄ h₄ => ?_) fun _ _ e => e⟩
      obtain ⟨P', o', ms', r1, u, r2, S', hev, hs', p1, p2, p3, hm⟩ := h₄
      exact ⟨P', o', ms', r1, u, r2, _, f i, S', hev, p1, p2, p3, hm, by rw [List.range_succ, List.map_append]; rfl, hs', rfl⟩
  · rintro P pre' zs D s ⟨rfl, hsub, rfl⟩ S
    exact post D s (S.sub hsub)
/-- the same into a name -/
theorem compMapU {y : Str} {py : Pos} {Q : Flow → Shared → Prop} (N' : List (Str × NameKind)) (CL : List (Str × Addr)) (ms0 : List (Str × Option Value)) (τ : Ty β) (f : Nat → β) (pre fr : Own) (P0 : List Fact)
    (hE : EnvIs env N L C) (hn : n ≤ 1000) (ok : CompOk scope N N' C CL [] ms0) (hy : (y, NameKind.local) ∈ N) (hl : (py.line == pos.line) = true) (hnm : (scope.names.any fun (n, k) => n == y && (k == .local || k == .cell)) = false)
    (h : wpAny (model prog w) A (eval iter env) (fun xv s₁ => ∃ P, Enter prog w A B target xv s₁ n F pre fr P ∧ ∀ f ∈ P0, f ∈ P) E s)
    (turn : ∀ Cn cenv, EnvIs cenv N' Cn CL → ∀ i v fr s E, i < n → St B (F i v :: P0) ((Cn, nsC ms0) :: (pre ++ fr)) s →
      wpAny (model prog w) A (assign target cenv v) (fun _ s₂ => wpAny (model prog w) A (eval elt cenv) (fun y s₄ => Item0 B τ P0 ms0 Cn pre fr y (f i) s₄) E s₂) E s)
    (post : ∀ D Cn s, St B P0 ((Cn, nsC ms0) :: (D, lsC τ ((List.range n).map f)) :: (pre ++ fr)) s → wpAny (model prog w) A (storeName env y (.ref D)) (fun _ s'' => ∃ P' o' ms o'', St B P' o' s'' ∧ Pick o' (Cn, nsC ms) o'' ∧ ∀ s3, St B P' o'' s3 → Q .next s3) E s)
    (hs : ∀ x, foldedSetIterable iter env x = pure x := by intro _; rfl) :
    wpAny (model prog w) A (exec (.Assign [.Name y py] (.ListComp elt [⟨target, iter, [], 0⟩] scope pos) spos) env) Q E s := by
  refine compU0 (B := B) (F := F) N' CL ms0 τ (fun i zs P pre' => zs = (List.range i).map f ∧ (∀ f ∈ P0, f ∈ P) ∧ pre' = pre) pre fr hE hn ok hy hl hnm (wpAny_mono h (fun xv s₁ h₁ => ?_) fun _ _ e => e) ?_ ?_ hs
  · obtain ⟨P, h1, h2⟩ := h₁
    exact ⟨P, h1, rfl, h2, rfl⟩
  · rintro Cn cenv hE' i v zs P pre' fr s E hi hz ⟨rfl, hsub, rfl⟩ S
    refine wpAny_mono (turn Cn cenv hE' i v fr s E hi (S.sub fun g hg => ?_)) (fun _ s₂ h₂ => wpAny_tests_nil ?_) fun _ _ e => e
    · rcases List.mem_cons.mp hg with rfl | hg
      · exact .head _
      · exact .tail _ (hsub g hg)
    · rw [if_pos rfl]
      refine wpAny_mono h₂ (fun y s₄ h₄ => ?_) fun _ _ e => e
      obtain ⟨P', o', ms', r1, S', hev, hs', p1, p2, hm⟩ := h₄
      exact ⟨P', o', ms', r1, _, f i, S', hev, p1, p2, hm, by rw [List.range_succ, List.map_append]; rfl, hs', rfl⟩
  · rintro P pre' zs D Cn s ⟨rfl, hsub, rfl⟩ S
    exact post D Cn s (S.sub hsub)
end
theorem map_range_get {α β : Type} {f : α → β} {xs : List α} {g : Nat → β} (h : ∀ i x, xs[i]? = some x → g i = f x) : (List.range xs.length).map g = xs.map f := by
  apply List.ext_getElem?
  intro i
  rw [List.getElem?_map, List.getElem?_map]
  by_cases hi : i < xs.length
  · rw [List.getElem?_range hi, List.getElem?_eq_getElem hi]
    simp [h i _ (List.getElem?_eq_getElem hi)]
  · rw [List.getElem?_eq_none (by simpa using hi), List.getElem?_eq_none (by simpa using hi)]; rfl
end
end Mine
namespace Mine
theorem get_of {α : Type} {xs : List α} {i : Nat} {x d : α} (h : xs[i]? = some x) : xs.getD i d = x := by rw [List.getD_eq_getElem?_getD, h]; rfl
theorem map_getD {α β : Type} (g : α → β) (xs : List α) (d : α) : (List.range xs.length).map (fun i => g (xs.getD i d)) = xs.map g := map_range_get fun i x h => by rw [get_of h]
theorem map_getD_id {α : Type} (xs : List α) (d : α) : (List.range xs.length).map (fun i => xs.getD i d) = xs := by
  have := map_getD (fun x : α => x) xs d
  rw [List.map_id'] at this; exact this
end Mine
namespace Mine
open PySem PySem.W PyProof.Rows PySem.Calls PySem.Spec
theorem St.baseF {B : Shared} {P : List Fact} {own : Own} {s : Shared} {f : Fact} (S : St B P own s) (h : ∀ G : Gh, (∀ a o, B.heap.get? a = some o → G a = some o) → f.p G) : St B (f :: P) own s :=
  let ⟨G, hG⟩ := S; ⟨G, hG.addF (h G hG.ba)⟩
theorem St.R0 {B : Shared} {P : List Fact} {own : Own} {s : Shared} {ad : Nat → Addr} (S : St B P own s) (X : Fns B ad) : St B (Ty.rat.is (.ref (ad 100)) 0 :: P) own s :=
  let ⟨o, t, u, e, h⟩ := X.r0
  S.baseF fun G hG => ⟨ad 100, o, .int 0 t, .int 1 u, rfl, hG _ _ e, h, ⟨_, rfl⟩, ⟨_, rfl⟩⟩
theorem St.R1 {B : Shared} {P : List Fact} {own : Own} {s : Shared} {ad : Nat → Addr} (S : St B P own s) (X : Fns B ad) : St B (Ty.rat.is (.ref (ad 101)) 1 :: P) own s :=
  let ⟨o, t, u, e, h⟩ := X.r1
  S.baseF fun G hG => ⟨ad 101, o, .int 1 t, .int 1 u, rfl, hG _ _ e, h, ⟨_, rfl⟩, ⟨_, rfl⟩⟩
end Mine

namespace Mine
abbrev Mat := List (List Rat)
def wid {α : Type} (a : List (List α)) : Nat := match a with | [] => 0 | r :: _ => r.length
def Rect {α : Type} (h w : Nat) (a : List (List α)) : Prop := a.length = h ∧ ∀ r ∈ a, r.length = w
def AllE {α : Type} (p : α → Prop) (a : List (List α)) : Prop := ∀ r ∈ a, ∀ x ∈ r, p x
def mrow (a : Mat) (i : Nat) : List Rat := a.getD i []
def ent (a : Mat) (i j : Nat) : Rat := (mrow a i).getD j 0
def swp (a : Mat) (i j : Nat) : Mat := (a.set i (mrow a j)).set j (mrow a i)
def offRow (r t : List Rat) (q : Rat) : List Rat := r.mapIdx fun at_ one => one - q * t.getD at_ 0
def tkOff (a : Mat) (i s : Nat) (q : Rat) : Mat := a.set i (offRow (mrow a i) (mrow a s) q)
def clrTo (r c : Nat) (a : Mat) (n : Nat) : Mat := (List.range n).foldl (fun a o => if o ≠ r ∧ ent a o c ≠ 0 then tkOff a o r (ent a o c) else a) a
def spots (a : Mat) (r c : Nat) : List Nat := ((List.range (a.length - r)).map fun i => r + i).filter fun i => decide (ent a i c ≠ 0)
def scl (a : Mat) (r c : Nat) : Mat := a.set r ((mrow a r).map fun x => x / ent a r c)
def pivot (a : Mat) (r c s : Nat) : Mat := clrTo r c (scl (swp a r s) r c) a.length
def estep (st : Mat × List Nat) (c : Nat) : Mat × List Nat :=
  match spots st.1 st.2.length c with
  | [] => st
  | s :: _ => (pivot st.1 st.2.length c s, st.2 ++ [c])
def echTo (a : Mat) (n : Nat) : Mat × List Nat := (List.range n).foldl estep (a, [])
def ech (a : Mat) : Mat × List Nat := echTo a (wid a)
def bits : Nat → Nat
  | 0 => 10
  | p + 1 => 4 * bits p + 1
theorem bits_mono : ∀ {p q : Nat}, p ≤ q → bits p ≤ bits q
  | p, 0, h => by have : p = 0 := by lia
                  subst this; exact Nat.le_refl _
  | p, q + 1, h => by
    rcases Nat.lt_or_ge p (q + 1) with h1 | h1
    · have := bits_mono (p := p) (q := q) (by lia); simp only [bits]; lia
    · have : p = q + 1 := by lia
      subst this; exact Nat.le_refl _
theorem bits3 : bits 3 = 661 := rfl

def i2q (x : Int) : Rat := (x : Rat)
def toQ (a : List (List Int)) : Mat := a.map fun r => r.map i2q

def idM (n : Nat) : Mat := (List.range n).map fun i => (List.range n).map fun j => if i = j then 1 else 0
def trM (a : Mat) : Mat := (List.range (wid a)).map fun j => a.map fun r => r.getD j 0
def dotM (r c : List Rat) (n : Nat) : Rat := (List.range n).foldl (fun t i => t + r.getD i 0 * c.getD i 0) 0
def mulM (a b : Mat) : Mat := a.map fun r => (trM b).map fun c => dotM r c r.length

theorem echTo_succ (a : Mat) (n : Nat) : echTo a (n + 1) = estep (echTo a n) n := by unfold echTo; rw [List.range_succ, List.foldl_append]; rfl
theorem clrTo_succ (r c : Nat) (a : Mat) (n : Nat) : clrTo r c a (n + 1) = if n ≠ r ∧ ent (clrTo r c a n) n c ≠ 0 then tkOff (clrTo r c a n) n r (ent (clrTo r c a n) n c) else clrTo r c a n := by
  unfold clrTo; rw [List.range_succ, List.foldl_append]; rfl

theorem Rect.row {h w : Nat} {a : Mat} (H : Rect h w a) {i : Nat} (hi : i < h) : a[i]? = some (mrow a i) ∧ (mrow a i).length = w ∧ mrow a i ∈ a := by
  have hl : i < a.length := by rw [H.1]; exact hi
  have e : mrow a i = a[i] := by unfold mrow; rw [List.getD_eq_getElem?_getD, List.getElem?_eq_getElem hl]; rfl
  rw [e]
  exact ⟨List.getElem?_eq_getElem hl, H.2 _ (List.getElem_mem hl), List.getElem_mem hl⟩
theorem Rect.ent {h w : Nat} {a : Mat} (H : Rect h w a) {i j : Nat} (hi : i < h) (hj : j < w) : (mrow a i)[j]? = some (ent a i j) := by
  obtain ⟨_, hl, _⟩ := H.row hi
  unfold Mine.ent
  rw [List.getD_eq_getElem?_getD, List.getElem?_eq_getElem (by lia)]; rfl
theorem AllE.ent {p : Rat → Prop} {h w : Nat} {a : Mat} (H : Rect h w a) (hp : AllE p a) {i j : Nat} (hi : i < h) (hj : j < w) : p (ent a i j) :=
  hp _ (H.row hi).2.2 _ (List.mem_of_getElem? (H.ent hi hj))
theorem Rect.set {h w : Nat} {a : Mat} (H : Rect h w a) {r : List Rat} (hr : r.length = w) (i : Nat) : Rect h w (a.set i r) :=
  ⟨by rw [List.length_set]; exact H.1, fun x hx => by rcases List.mem_or_eq_of_mem_set hx with h1 | h1; exact H.2 x h1; exact h1 ▸ hr⟩
theorem AllE.set {p : Rat → Prop} {a : Mat} (H : AllE p a) {r : List Rat} (hr : ∀ x ∈ r, p x) (i : Nat) : AllE p (a.set i r) :=
  fun x hx => by rcases List.mem_or_eq_of_mem_set hx with h1 | h1; exact H x h1; exact h1 ▸ hr
theorem AllE.imp {α : Type} {p q : α → Prop} {a : List (List α)} (H : AllE p a) (h : ∀ x, p x → q x) : AllE q a := fun r hr x hx => h x (H r hr x hx)
theorem Rect.wid {α : Type} {h w : Nat} {a : List (List α)} (H : Rect h w a) (hh : 0 < h) : Mine.wid a = w := by
  cases a with
  | nil => have := H.1; simp at this; lia
  | cons r t => exact H.2 r (.head _)
theorem mrow_set {a : Mat} {i j : Nat} {r : List Rat} (hi : i < a.length) : mrow (a.set i r) j = if i = j then r else mrow a j := by
  unfold mrow
  rw [List.getD_eq_getElem?_getD, List.getD_eq_getElem?_getD, List.getElem?_set]
  by_cases h : i = j
  · subst h; simp [hi]
  · simp [h]
theorem offRow_len {r t : List Rat} {q : Rat} : (offRow r t q).length = r.length := by simp [offRow]
theorem offRow_get {r t : List Rat} {q : Rat} {j : Nat} (hj : j < r.length) : (offRow r t q).getD j 0 = r.getD j 0 - q * t.getD j 0 := by
  unfold offRow
  simp [List.getD_eq_getElem?_getD, List.getElem?_mapIdx, List.getElem?_eq_getElem hj]
end Mine

namespace Mine
open PySem PySem.W PyProof.Rows PySem.Calls PySem.Spec
section
variable {B : Shared} {GT BT : List (Str × Value)} {P P' : List Fact} {own own₀ own' : Own} {prog : Program} {w : World} {A : Around} {E : Value → Shared → Prop} {s : Shared} {env : Env}
  {v u : Value} {a : Addr} {α β : Type} {τ : Ty α} {σ : Ty β} {x : α} {xs ys : List α} {i : Int} {t : Tok} {G : Gh}

theorem asgSub {o ix : Expr} {pos : Pos} {Q : Unit → Shared → Prop} (h : wpAny (model prog w) A (eval o env) (fun ov s₂ => wpAny (model prog w) A (eval ix env) (fun iv s₃ => wpAny (model prog w) A (setItem ov iv v) Q E s₃) E s₂) E s) :
    wpAny (model prog w) A (assign (.Subscript o ix pos) env v) Q E s := by
  rw [arm_assign_Subscript]
  exact wpAny_bind (wpAny_holding (wpAny_mono h (fun ov s₂ h₂ => wpAny_bind (wpAny_holding (wpAny_mono h₂ (fun iv s₃ h₃ => wpAny_bind (wpAny_standAt (wpAny_bind (wpAny_holding (wpAny_mono h₃ (fun _ s₄ h₄ => wpAny_release' h₄) fun _ _ e => e))))) fun _ _ e => e))) fun _ _ e => e))
theorem asgRaw2 {e1 e2 : Expr} {j n : Nat} {tp : Pos} {u1 u2 : Value} {Q : Unit → Shared → Prop} (hR : Room A n) (S : St B P own s) (h : tpF a [u1, u2] ∈ P)
    (k : ∀ s', St B P own s' → wpAny (model prog w) A (assign e1 env u1) (fun _ s₂ => wpAny (model prog w) A (assign e2 env u2) Q E s₂) E s')
    (he : assignEach [e1, e2] env = [(false, assign e1 env), (false, assign e2 env)] := by rfl) :
    wpAny (model prog w) A (assign (.Tuple [e1, e2] j tp) env (.ref a)) Q E s := by
  obtain ⟨G, hG⟩ := S
  obtain ⟨o, ho, hl⟩ := hG.fa _ h
  refine wpAny_assign_Tuple (items := #[u1, u2]) hR.hh ⟨o, hG.fr _ _ ho, hl.1, hl.2⟩ (by rw [he]; rfl) (by rw [he]; rfl) fun h' hx => ?_
  rw [he]
  have S' : St B P own { s with heap := h' } := ⟨G, hG.ext (tk := s.toks) fun b o e => hx b o (Nat.ne_of_lt (Heap.lt_size e)) e⟩
  exact asgCons (wpAny_mono (k _ S') (fun _ s₂ h₂ => asgCons (wpAny_mono h₂ (fun _ s₃ h₃ => asgNil h₃) fun _ _ e => e)) fun _ _ e => e)
theorem noSwapSub {o1 i1 o2 i2 e1 e2 : Expr} {p1 p2 tp vp : Pos} {k k2 : Nat} (hs : ([e1, e2].any fun | .Starred .. => true | _ => false) = false) :
    swappedStores [.Tuple [.Subscript o1 i1 p1, .Subscript o2 i2 p2] k tp] (.Tuple [e1, e2] k2 vp) env = pure none := by
  unfold swappedStores
  simp only [List.length_cons, List.length_nil, hs, List.filterMap_cons, List.filterMap_nil]
  cases h : env.blockKind != ScopeKind.function <;> simp
theorem noSwapCell1 {N : List (Str × NameKind)} {L : Addr} {C : List (Str × Addr)} {x y : Str} {p1 p2 tp vp : Pos} {e1 e2 : Expr} {k k2 : Nat} (hE : EnvIs env N L C) (h1 : (x, NameKind.cell) ∈ N)
    (hs : ([e1, e2].any fun | .Starred .. => true | _ => false) = false) :
    swappedStores [.Tuple [.Name x p1, .Name y p2] k tp] (.Tuple [e1, e2] k2 vp) env = pure none := by
  have k1 := hE.kindOf h1
  have hb : env.blockKind = .function := by unfold Env.blockKind; rw [hE.kind]; rfl
  have e : (some NameKind.cell == some NameKind.local) = false := by decide
  unfold swappedStores
  simp only [List.length_cons, List.length_nil, hb, hs, k1, List.filterMap_cons, List.filterMap_nil, e]
  cases h : (env.kindOf y == some NameKind.local && p2.line == ((List.head? [Expr.Name x p1, Expr.Name y p2]).map (·.pos.line)).getD 0) <;> simp [h]
theorem asgTwo {e1 e2 v1 v2 : Expr} {k k2 : Nat} {tpos vp pos : Pos} {Q : Flow → Shared → Prop}
    (h : wpAny (model prog w) A (eval (.Tuple [v1, v2] k2 vp) env) (fun v s₁ => wpAny (model prog w) A (assign (.Tuple [e1, e2] k tpos) env v) (fun _ => Q .next) E s₁) E s) (hs : swappedStores [.Tuple [e1, e2] k tpos] (.Tuple [v1, v2] k2 vp) env = pure none) :
    wpAny (model prog w) A (exec (.Assign [.Tuple [e1, e2] k tpos] (.Tuple [v1, v2] k2 vp) pos) env) Q E s := PyProof.Rows.Assign_Tuple h rfl hs
/-- a call's value taken apart -/
theorem asgCall2 {e1 e2 f : Expr} {args : List Expr} {k : Nat} {tpos cp pos : Pos} {Q : Flow → Shared → Prop}
    (h : wpAny (model prog w) A (eval (.Call f args [] cp) env) (fun v s₁ => wpAny (model prog w) A (assign (.Tuple [e1, e2] k tpos) env v) (fun _ => Q .next) E s₁) E s) :
    wpAny (model prog w) A (exec (.Assign [.Tuple [e1, e2] k tpos] (.Call f args [] cp) pos) env) Q E s := PyProof.Rows.Assign_Tuple h rfl rfl
end
theorem offRow_range (r t : List Rat) (q : Rat) : (List.range r.length).map (fun j => r.getD j 0 - q * t.getD j 0) = offRow r t q := by
  unfold offRow
  apply List.ext_getElem?
  intro i
  rw [List.getElem?_map, List.getElem?_mapIdx]
  by_cases hi : i < r.length
  · rw [List.getElem?_range hi, List.getElem?_eq_getElem hi]
    simp [List.getD_eq_getElem?_getD, List.getElem?_eq_getElem hi]
  · rw [List.getElem?_eq_none (by simpa using hi), List.getElem?_eq_none (by simpa using hi)]; rfl
end Mine

namespace Mine
open PySem PySem.W PyProof.Rows PySem.Calls PySem.Spec
section
variable {B : Shared} {P P' : List Fact} {own own₀ own' : Own} {prog : Program} {w : World} {A : Around} {E : Value → Shared → Prop} {s : Shared} {env : Env}
  {v u : Value} {a : Addr} {α β : Type} {σ : Ty β} {x : α} {i : Int} {t : Tok} {G : Gh}

theorem evPart {e : Expr} {Q : Value → Shared → Prop} (h : wpAny (model prog w) A (eval e env) Q E s) : wpAny (model prog w) A (evalPart (some e) env) Q E s := h
theorem sliceFrom {value lo : Expr} {p pos : Pos} {Q : Value → Shared → Prop} (B : Shared) (τ : Ty α)
    (h : wpAny (model prog w) A (eval value env) (fun o s₁ => wpAny (model prog w) A (eval lo env) (fun vl s₂ => ∃ (P : List Fact) (own : Own) (xs : List α) (n : Nat) (t : Tok), St B P own s₂ ∧ Ev P (Ty.list τ) o xs ∧ vl = .int (n : Int) t ∧ n ≤ xs.length ∧ xs.length ≤ 1000 ∧
      ∀ a s', St B ((Ty.list τ).is (.ref a) (xs.drop n) :: P) own s' → Q (.ref a) s') E s₁) E s)
    (ht : ∀ o r, letTemporaryGo value o r = pure () := by intro _ _; rfl) :
    wpAny (model prog w) A (eval (.Subscript value (.Slice (some lo) none none p) pos) env) Q E s := by
  refine sliceLs (wpAny_mono h (fun o s₁ h₁ => evPart (wpAny_mono h₁ (fun vl s₂ h₂ => wpAny_evalPart_none ?_) fun _ _ e => e)) fun _ _ e => e) ht
  obtain ⟨P, own, xs, n, t, S, hv, rfl, hn, hl, k⟩ := h₂
  exact ⟨B, P, own, α, τ, xs, xs.drop n, some (n : Int), none, S, hv, hl, .int _ _, .none, fun R vs hr => pickFrom hr hn, k⟩
theorem sliceUpto {value hi : Expr} {p pos : Pos} {Q : Value → Shared → Prop} (B : Shared) (τ : Ty α)
    (h : wpAny (model prog w) A (eval value env) (fun o s₁ => wpAny (model prog w) A (eval hi env) (fun vu s₂ => ∃ (P : List Fact) (own : Own) (xs : List α) (n : Nat) (t : Tok), St B P own s₂ ∧ Ev P (Ty.list τ) o xs ∧ vu = .int (n : Int) t ∧ xs.length ≤ 1000 ∧
      ∀ a s', St B ((Ty.list τ).is (.ref a) (xs.take n) :: P) own s' → Q (.ref a) s') E s₁) E s)
    (ht : ∀ o r, letTemporaryGo value o r = pure () := by intro _ _; rfl) :
    wpAny (model prog w) A (eval (.Subscript value (.Slice none (some hi) none p) pos) env) Q E s := by
  refine sliceLs (wpAny_mono h (fun o s₁ h₁ => wpAny_evalPart_none (evPart (wpAny_mono h₁ (fun vu s₂ h₂ => ?_) fun _ _ e => e))) fun _ _ e => e) ht
  obtain ⟨P, own, xs, n, t, S, hv, rfl, hl, k⟩ := h₂
  exact ⟨B, P, own, α, τ, xs, xs.take n, none, some (n : Int), S, hv, hl, .none, .int _ _, fun R vs hr => pickUptoC hr, k⟩
end
end Mine

namespace Mine
theorem mrow_mem_all {p : Rat → Prop} {a : Mat} (H : AllE p a) {i : Nat} (hi : i < a.length) : ∀ x ∈ mrow a i, p x := by
  have e : mrow a i = a[i] := by unfold mrow; rw [List.getD_eq_getElem?_getD, List.getElem?_eq_getElem hi]; rfl
  rw [e]; exact H _ (List.getElem_mem hi)
structure EOk (h m k : Nat) (a : Mat) : Prop where
  rect : Rect h m a
  sz : AllE (Sz k) a
theorem EOk.mono {h m k l : Nat} {a : Mat} (H : EOk h m k a) (hl : k ≤ l) : EOk h m l a := ⟨H.rect, H.sz.imp fun x hx => hx.mono hl⟩
theorem EOk.row {h m k : Nat} {a : Mat} (H : EOk h m k a) {i : Nat} (hi : i < h) : (mrow a i).length = m ∧ ∀ x ∈ mrow a i, Sz k x :=
  ⟨(H.rect.row hi).2.1, mrow_mem_all H.sz (by rw [H.rect.1]; exact hi)⟩
theorem EOk.set {h m k : Nat} {a : Mat} (H : EOk h m k a) {r : List Rat} (hr : r.length = m) (hs : ∀ x ∈ r, Sz k x) (i : Nat) : EOk h m k (a.set i r) := ⟨H.rect.set hr i, H.sz.set hs i⟩
theorem swp_ok {h m k : Nat} {a : Mat} (H : EOk h m k a) {i j : Nat} (hi : i < h) (hj : j < h) : EOk h m k (swp a i j) :=
  (H.set (H.row hj).1 (H.row hj).2 i).set (H.row hi).1 (H.row hi).2 j
theorem mrow_swp {h m : Nat} {a : Mat} (H : Rect h m a) {i j o : Nat} (hi : i < h) (hj : j < h) : mrow (swp a i j) o = if o = j then mrow a i else if o = i then mrow a j else mrow a o := by
  unfold swp
  rw [mrow_set (by rw [List.length_set, H.1]; exact hj), mrow_set (by rw [H.1]; exact hi)]
  by_cases h1 : j = o
  · subst h1; simp
  · rw [if_neg h1, if_neg (Ne.symm h1)]
    by_cases h2 : i = o
    · subst h2; simp
    · rw [if_neg h2, if_neg (Ne.symm h2)]
theorem ent_swp_self {h m : Nat} {a : Mat} (H : Rect h m a) {i j c : Nat} (hi : i < h) (hj : j < h) : ent (swp a i j) i c = ent a j c := by
  unfold ent
  rw [mrow_swp H hi hj]
  by_cases h1 : i = j
  · subst h1; simp
  · rw [if_neg h1, if_pos rfl]
theorem scl_rect {h m : Nat} {a : Mat} (H : Rect h m a) {r c : Nat} (hr : r < h) : Rect h m (scl a r c) := H.set (by rw [List.length_map]; exact (H.row hr).2.1) r
theorem mrow_scl {h m : Nat} {a : Mat} (H : Rect h m a) {r c o : Nat} (hr : r < h) : mrow (scl a r c) o = if o = r then (mrow a r).map (fun x => x / ent a r c) else mrow a o := by
  unfold scl
  rw [mrow_set (by rw [H.1]; exact hr)]
  by_cases h1 : r = o
  · subst h1; simp
  · rw [if_neg h1, if_neg (Ne.symm h1)]
theorem scl_sz {h m k : Nat} {a : Mat} (H : EOk h m k a) {r c : Nat} (hr : r < h) (hc : c < m) (h0 : ent a r c ≠ 0) : ∀ x ∈ mrow (scl a r c) r, Sz (2 * k) x := by
  rw [mrow_scl H.rect hr, if_pos rfl]
  intro x hx
  obtain ⟨y, hy, rfl⟩ := List.mem_map.mp hx
  have := sz_div ((H.row hr).2 y hy) (AllE.ent H.rect H.sz hr hc) h0
  exact this.mono (by lia)
theorem scl_ok {h m k : Nat} {a : Mat} (H : EOk h m k a) {r c : Nat} (hr : r < h) (hc : c < m) (h0 : ent a r c ≠ 0) : EOk h m (2 * k) (scl a r c) := by
  have h2 := H.mono (l := 2 * k) (by lia)
  refine ⟨scl_rect H.rect hr, h2.sz.set ?_ r⟩
  have := scl_sz H hr hc h0
  rw [mrow_scl H.rect hr, if_pos rfl] at this
  exact this
/-- what the clearing keeps, turn for turn -/
structure ClrOk (h m k r c : Nat) (a : Mat) (n : Nat) (b : Mat) : Prop where
  ok : EOk h m (4 * k + 1) b
  piv : mrow b r = mrow a r
  rest : ∀ o, n ≤ o → mrow b o = mrow a o
  done : ∀ o, o < n → o < h → o ≠ r → mrow b o = if ent a o c ≠ 0 then offRow (mrow a o) (mrow a r) (ent a o c) else mrow a o
theorem clr_ok {h m k : Nat} {a : Mat} {r c : Nat} (hr : r < h) (hc : c < m) (H : Rect h m a) (hp : ∀ x ∈ mrow a r, Sz (2 * k) x) (ho : ∀ o, o < h → o ≠ r → ∀ x ∈ mrow a o, Sz k x) : ∀ n, n ≤ h → ClrOk h m k r c a n (clrTo r c a n)
  | 0, _ => by
    show ClrOk h m k r c a 0 a
    refine ⟨⟨H, ?_⟩, rfl, fun _ _ => rfl, fun o h1 => absurd h1 (Nat.not_lt_zero _)⟩
    intro x hx y hy
    obtain ⟨o, hol, rfl⟩ := List.getElem_of_mem hx
    have e : mrow a o = a[o] := by unfold mrow; rw [List.getD_eq_getElem?_getD, List.getElem?_eq_getElem hol]; rfl
    by_cases h1 : o = r
    · subst h1; exact (hp y (e ▸ hy)).mono (by lia)
    · exact (ho o (by rw [← H.1]; exact hol) h1 y (e ▸ hy)).mono (by lia)
  | n + 1, hn => by
    have ih := clr_ok hr hc H hp ho n (by lia)
    rw [clrTo_succ]
    have en : mrow (clrTo r c a n) n = mrow a n := ih.rest n (Nat.le_refl _)
    have ent_n : ent (clrTo r c a n) n c = ent a n c := by unfold ent; rw [en]
    have hlen : n < (clrTo r c a n).length := by rw [ih.ok.rect.1]; lia
    by_cases hcnd : n ≠ r ∧ ent (clrTo r c a n) n c ≠ 0
    · rw [if_pos hcnd]
      have hs : ∀ x ∈ offRow (mrow (clrTo r c a n) n) (mrow (clrTo r c a n) r) (ent (clrTo r c a n) n c), Sz (4 * k + 1) x := by
        rw [en, ent_n, ih.piv, ← offRow_range']
        intro x hx
        obtain ⟨j, hj, rfl⟩ := List.mem_map.mp hx
        have hj' : j < m := by have := List.mem_range.mp hj; rw [(H.row (i := n) (by lia)).2.1] at this; exact this
        have h1 : Sz k ((mrow a n).getD j 0) := ho n (by lia) hcnd.1 _ (List.mem_of_getElem? (H.ent (i := n) (by lia) hj'))
        have h2 : Sz k (ent a n c) := ho n (by lia) hcnd.1 _ (List.mem_of_getElem? (H.ent (i := n) (by lia) hc))
        have h3 : Sz (2 * k) ((mrow a r).getD j 0) := hp _ (List.mem_of_getElem? (H.ent hr hj'))
        exact (sz_sub h1 (sz_mul h2 h3)).mono (by lia)
      refine ⟨ih.ok.set (by rw [offRow_len]; exact (ih.ok.rect.row (i := n) (by lia)).2.1) hs n, ?_, ?_, ?_⟩
      · show mrow (tkOff _ _ _ _) r = _
        unfold tkOff
        rw [mrow_set hlen, if_neg hcnd.1]; exact ih.piv
      · intro o hle
        show mrow (tkOff _ _ _ _) o = _
        unfold tkOff
        rw [mrow_set hlen, if_neg (by lia)]; exact ih.rest o (by lia)
      · intro o h1 h2 h3
        show mrow (tkOff _ _ _ _) o = _
        unfold tkOff
        rw [mrow_set hlen]
        by_cases h4 : n = o
        · subst h4
          rw [if_pos rfl, en, ent_n, ih.piv, if_pos (ent_n ▸ hcnd.2)]
        · rw [if_neg h4]; exact ih.done o (by lia) h2 h3
    · rw [if_neg hcnd]
      refine ⟨ih.ok, ih.piv, fun o hle => ih.rest o (by lia), ?_⟩
      intro o h1 h2 h3
      by_cases h4 : n = o
      · subst h4
        rw [en, if_neg]
        intro h5
        exact hcnd ⟨h3, ent_n ▸ h5⟩
      · exact ih.done o (by lia) h2 h3
where
  offRow_range' {r t : List Rat} {q : Rat} : (List.range r.length).map (fun j => r.getD j 0 - q * t.getD j 0) = offRow r t q := by
    unfold offRow
    apply List.ext_getElem?
    intro i
    rw [List.getElem?_map, List.getElem?_mapIdx]
    by_cases hi : i < r.length
    · rw [List.getElem?_range hi, List.getElem?_eq_getElem hi]
      simp [List.getD_eq_getElem?_getD, List.getElem?_eq_getElem hi]
    · rw [List.getElem?_eq_none (by simpa using hi), List.getElem?_eq_none (by simpa using hi)]; rfl

theorem mem_spots {a : Mat} {r c s : Nat} (h : s ∈ spots a r c) : r ≤ s ∧ s < a.length ∧ ent a s c ≠ 0 := by
  obtain ⟨h1, h2⟩ := List.mem_filter.mp h
  obtain ⟨i, hi, rfl⟩ := List.mem_map.mp h1
  have := List.mem_range.mp hi
  exact ⟨by lia, by lia, by simpa using h2⟩
theorem spots_nil {a : Mat} {r c : Nat} (h : spots a r c = []) : ∀ s, r ≤ s → s < a.length → ent a s c = 0 := by
  intro s h1 h2
  have : s ∉ spots a r c := by rw [h]; exact List.not_mem_nil
  by_cases h0 : ent a s c = 0
  · exact h0
  · refine absurd (List.mem_filter.mpr ⟨List.mem_map.mpr ⟨s - r, List.mem_range.mpr (by lia), by lia⟩, by simpa using h0⟩) this
/-- the pivot's step -/
structure PivOk (h m k r c s : Nat) (a b : Mat) : Prop where
  lt : r < h
  ls : s < h
  ne : ent a s c ≠ 0
  sw : EOk h m k (swp a r s)
  sc : EOk h m (2 * k) (scl (swp a r s) r c)
  clr : ∀ n, n ≤ h → ClrOk h m k r c (scl (swp a r s) r c) n (clrTo r c (scl (swp a r s) r c) n)
theorem piv_ok {h m k : Nat} {a : Mat} {r c s : Nat} (H : EOk h m k a) (hc : c < m) (hs : s ∈ spots a r c) : PivOk h m k r c s a (pivot a r c s) := by
  obtain ⟨h1, h2, h3⟩ := mem_spots hs
  rw [H.rect.1] at h2
  have hr : r < h := by lia
  have hsw := swp_ok H hr h2
  have h0 : ent (swp a r s) r c ≠ 0 := by rw [ent_swp_self H.rect hr h2]; exact h3
  refine ⟨hr, h2, h3, hsw, scl_ok hsw hr hc h0, fun n hn => clr_ok hr hc (scl_rect hsw.rect hr) (scl_sz hsw hr hc h0) ?_ n hn⟩
  intro o ho hor
  rw [mrow_scl hsw.rect hr, if_neg hor]
  exact (hsw.row ho).2

structure EInv (h m n : Nat) (st : Mat × List Nat) : Prop where
  ok : EOk h m (bits st.2.length) st.1
  le : st.2.length ≤ h
  lt : ∀ c ∈ st.2, c < n
theorem estep_inv {h m n : Nat} {st : Mat × List Nat} (H : EInv h m n st) (hn : n < m) : EInv h m (n + 1) (estep st n) := by
  unfold estep
  split
  · exact ⟨H.ok, H.le, fun c hc => Nat.lt_succ_of_lt (H.lt c hc)⟩
  · rename_i s rest he
    have P := piv_ok H.ok hn (r := st.2.length) (s := s) (by rw [he]; exact .head _)
    refine ⟨?_, ?_, ?_⟩
    · have e : pivot st.1 st.2.length n s = clrTo st.2.length n (scl (swp st.1 st.2.length s) st.2.length n) h := by unfold pivot; rw [H.ok.rect.1]
      show EOk h m (bits (st.2 ++ [n]).length) _
      rw [List.length_append]
      show EOk h m (bits (st.2.length + 1)) _
      rw [e]
      exact (P.clr h (Nat.le_refl _)).ok
    · show (st.2 ++ [n]).length ≤ h
      rw [List.length_append]; exact P.lt
    · intro c hc
      rcases List.mem_append.mp hc with hc | hc
      · exact Nat.lt_succ_of_lt (H.lt c hc)
      · have := List.mem_singleton.mp hc; lia
theorem ech_inv {h m : Nat} {a : Mat} (H : EOk h m 10 a) : ∀ n, n ≤ m → EInv h m n (echTo a n)
  | 0, _ => ⟨H, Nat.zero_le _, fun c hc => nomatch hc⟩
  | n + 1, hn => by rw [echTo_succ]; exact estep_inv (ech_inv H n (by lia)) (by lia)

def toZ (l : List Nat) : List Int := l.map fun n : Nat => (n : Int)
def wideM (a : Mat) : Mat := (List.range a.length).map fun i => a.getD i [] ++ (idM a.length).getD i []
def invM (a : Mat) : Option Mat := if (toZ (ech (wideM a)).2).take a.length = (List.range a.length).map (fun i : Nat => (0 : Int) + (i : Int)) then some ((ech (wideM a)).1.map fun r => r.drop a.length) else none
def nullV (E : Mat) (piv : List Nat) (w c : Nat) : Nat → List Rat
  | 0 => (List.replicate w 0).set c 1
  | n + 1 => (nullV E piv w c n).set (piv.getD n 0) (-(ent E n c))
def nullM (a : Mat) : Mat := ((List.range (wid a)).filter fun c => !(ech a).2.contains c).map fun c => nullV (ech a).1 (ech a).2 (wid a) c (ech a).2.length
def augM (a : Mat) (b : List Rat) : Mat := (List.range a.length).map fun i => a.getD i [] ++ [b.getD i 0]
def solV (E : Mat) (piv : List Nat) (w : Nat) : Nat → List Rat
  | 0 => List.replicate w 0
  | n + 1 => (solV E piv w n).set (piv.getD n 0) (ent E n w)
def solM (a : Mat) (b : List Rat) : Option (List Rat) :=
  if wid a ∈ (ech (augM a b)).2 then none else some (solV (ech (augM a b)).1 (ech (augM a b)).2 (wid a) (ech (augM a b)).2.length)
theorem idM_ok {n : Nat} : Rect n n (idM n) ∧ AllE (Sz 10) (idM n) := by
  refine ⟨⟨by simp [idM], fun r hr => ?_⟩, fun r hr x hx => ?_⟩
  · obtain ⟨i, _, rfl⟩ := List.mem_map.mp hr; simp
  · obtain ⟨i, _, rfl⟩ := List.mem_map.mp hr
    obtain ⟨j, _, rfl⟩ := List.mem_map.mp hx
    split
    · exact ⟨by decide, by decide⟩
    · exact ⟨by decide, by decide⟩
theorem wideM_ok {n : Nat} {a : Mat} (H : EOk n n 10 a) : EOk n (n + n) 10 (wideM a) := by
  obtain ⟨h1, h2⟩ := idM_ok (n := n)
  have hl := H.rect.1
  unfold wideM
  rw [hl]
  refine ⟨⟨by simp, fun r hr => ?_⟩, fun r hr x hx => ?_⟩
  · obtain ⟨i, hi, rfl⟩ := List.mem_map.mp hr
    have hi' := List.mem_range.mp hi
    have e1 := (H.rect.row hi').2.1
    have e2 := (h1.row hi').2.1
    rw [List.length_append]
    show (mrow a i).length + (mrow (idM n) i).length = _
    rw [e1, e2]
  · obtain ⟨i, hi, rfl⟩ := List.mem_map.mp hr
    have hi' := List.mem_range.mp hi
    rcases List.mem_append.mp hx with hx | hx
    · exact H.sz _ (H.rect.row hi').2.2 x hx
    · exact h2 _ (h1.row hi').2.2 x hx
theorem augM_ok {n m : Nat} {a : Mat} {b : List Rat} (H : EOk n m 10 a) (hb : b.length = n) (hs : ∀ x ∈ b, Sz 10 x) : EOk n (m + 1) 10 (augM a b) := by
  have hl := H.rect.1
  unfold augM
  rw [hl]
  refine ⟨⟨by simp, fun r hr => ?_⟩, fun r hr x hx => ?_⟩
  · obtain ⟨i, hi, rfl⟩ := List.mem_map.mp hr
    have hi' := List.mem_range.mp hi
    have e1 := (H.rect.row hi').2.1
    rw [List.length_append]
    show (mrow a i).length + 1 = _
    rw [e1]
  · obtain ⟨i, hi, rfl⟩ := List.mem_map.mp hr
    have hi' := List.mem_range.mp hi
    rcases List.mem_append.mp hx with hx | hx
    · exact H.sz _ (H.rect.row hi').2.2 x hx
    · have := List.mem_singleton.mp hx
      rw [this]
      have hi2 : i < b.length := by lia
      rw [List.getD_eq_getElem?_getD, List.getElem?_eq_getElem hi2]
      exact hs _ (List.getElem_mem hi2)

theorem nullV_len (E : Mat) (piv : List Nat) (w c : Nat) : ∀ n, (nullV E piv w c n).length = w
  | 0 => by simp [nullV]
  | n + 1 => by rw [nullV, List.length_set]; exact nullV_len E piv w c n
theorem solV_len (E : Mat) (piv : List Nat) (w : Nat) : ∀ n, (solV E piv w n).length = w
  | 0 => by simp [solV]
  | n + 1 => by rw [solV, List.length_set]; exact solV_len E piv w n
theorem toZ_mem {l : List Nat} {c : Nat} : ((c : Int) ∈ toZ l) ↔ c ∈ l := by
  unfold toZ
  rw [List.mem_map]
  constructor
  · rintro ⟨x, hx, e⟩
    have : x = c := by lia
    exact this ▸ hx
  · exact fun h => ⟨c, h, rfl⟩
theorem toZ_get {l : List Nat} {i : Nat} {x : Int} (h : (toZ l)[i]? = some x) : x = ((l.getD i 0 : Nat) : Int) ∧ i < l.length ∧ l.getD i 0 ∈ l := by
  unfold toZ at h
  rw [List.getElem?_map] at h
  cases hl : l[i]? with
  | none => rw [hl] at h; cases h
  | some y =>
    rw [hl] at h
    have hlt := (List.getElem?_eq_some_iff.mp hl).1
    have e : l.getD i 0 = y := by rw [List.getD_eq_getElem?_getD, hl]; rfl
    cases h
    exact ⟨by rw [e], hlt, by rw [e]; exact List.mem_of_getElem? hl⟩
end Mine

namespace Mine
open PySem PySem.W PyProof.Rows PySem.Calls PySem.Spec
/-- the law's box: what is left of the script, and a number that is stirred -/
def bxC (l : Addr) : Chunk := ⟨fun _ o => ∃ st t, (0 ≤ st ∧ st < 2 ^ 31) ∧ IsLs o [.ref l, .int st t], fun _ _ _ _ h => h⟩
def blC : Chunk := ⟨fun G o => ∃ xs : List Int, xs.length ≤ 24 ∧ (plC Ty.int xs).c G o, fun G G' o h ⟨xs, hl, hc⟩ => ⟨xs, hl, (plC Ty.int xs).mono G G' o h hc⟩⟩
section
variable {B : Shared} {P P' : List Fact} {own own₀ own' : Own} {prog : Program} {w : World} {A : Around} {E : Value → Shared → Prop} {s : Shared} {env : Env}
  {v u : Value} {a l : Addr} {α β : Type} {σ : Ty β} {x : α} {i : Int} {t : Tok} {G : Gh}
theorem St.bxOut (S : St B P ((a, bxC l) :: own) s) : ∃ st t, (0 ≤ st ∧ st < 2 ^ 31) ∧ St B P ((a, rlC [.ref l, .int st t]) :: own) s := by
  obtain ⟨G, hG⟩ := S
  obtain ⟨o, ho, st, t, hs, hl⟩ := hG.at (.head _)
  exact ⟨st, t, hs, G, hG.upd (h' := s.heap) (tk := s.toks) .head (fun _ _ _ e => e) ⟨o, ho, hl⟩⟩
theorem St.bxIn {st : Int} (S : St B P ((a, rlC [.ref l, .int st t]) :: own) s) (hs : 0 ≤ st ∧ st < 2 ^ 31) : St B P ((a, bxC l) :: own) s :=
  S.weak fun G o h => ⟨st, t, hs, h⟩
theorem St.blOut (S : St B P ((a, blC) :: own) s) : ∃ xs : List Int, xs.length ≤ 24 ∧ St B P ((a, plC Ty.int xs) :: own) s := by
  obtain ⟨G, hG⟩ := S
  obtain ⟨o, ho, xs, hl, hc⟩ := hG.at (.head _)
  exact ⟨xs, hl, G, hG.upd (h' := s.heap) (tk := s.toks) .head (fun _ _ _ e => e) ⟨o, ho, hc⟩⟩
theorem St.blIn {xs : List Int} (S : St B P ((a, plC Ty.int xs) :: own) s) (hl : xs.length ≤ 24) : St B P ((a, blC) :: own) s :=
  S.weak fun G o h => ⟨xs, hl, h⟩
theorem negI {b : Int} {Q : Value → Shared → Prop} (S : St B P own s) (k : ∀ t' s', St B P own s' → Q (.int (-b) t') s') : wpAny (model prog w) A (unaryOp .USub (.int b t)) Q E s := neg_int (k _ _ S.toks)
theorem smallI {i : Int} (h : i.natAbs < 2 ^ 200) : i.natAbs < 2 ^ 8000 := Nat.lt_of_lt_of_le h (Nat.pow_le_pow_right (by decide) (by decide))

theorem intsAre_of {G : Gh} : ∀ {vs : List Value} {ns : List Int}, All2 (Ty.int.R G) vs ns → IntsAre vs ns
  | _, _, .nil => .nil
  | _, _, .cons a r => by
    obtain ⟨t, rfl⟩ := a
    exact .cons _ _ (intsAre_of r)
theorem sumL {ns : List Int} {n : Nat} {Q : Value → Shared → Prop} (S : St B P own s) (hR : Room A n) (h : Ev P (Ty.list Ty.int) v ns) (k : ∀ t' s', St B P own s' → Q (.int ns.sum t') s') : wpAny (model prog w) A (call (.builtin "sum") [v]) Q E s := by
  obtain ⟨G, hG⟩ := id S
  obtain ⟨l, o, vs, rfl, ho, hl, hr⟩ := h G hG.fa
  have hi := intsAre_of hr
  obtain ⟨xs, hx⟩ := hi.allInts.items
  have hl' : s.heap.IsList l (intItems xs) := hx ▸ hl.isList (hG.fr _ _ ho)
  refine sum_intListG hR.hh hl' fun h' tk t' hk => ?_
  have e1 : ns = xs.toList.map (·.1) := by
    rw [← nums_intItems, ← hx]
    exact (show numsOf vs.toArray.toList = ns from hi.numsOf).symm
  have e2 : preSum (numAt xs) xs.size = ns.sum := by
    rw [preSum_eq, List.take_of_length_le (by simp), e1]
  rw [e2]
  exact k t' _ (S.ext hk)
theorem minI {b c : Int} {u : Tok} {n : Nat} {Q : Value → Shared → Prop} (S : St B P own s) (hR : Room A n) (k : ∀ t' s', St B P own s' → Q (.int (if c < b then c else b) t') s') : wpAny (model prog w) A (call (.builtin "min") [.int b t, .int c u]) Q E s := by
  refine min_two_ints hR.hh fun h' tk hk => ?_
  by_cases hc : c < b
  · have := k u _ (S.ext (tk := tk) hk); rw [if_pos hc] at this ⊢; exact this
  · have := k t _ (S.ext (tk := tk) hk); rw [if_neg hc] at this ⊢; exact this
end
end Mine

namespace Mine
open PySem PySem.W PyProof.Rows PySem.Calls PySem.Spec
abbrev twoE (elt t1 t2 i1 i2 : Expr) (scope : Scope) (pos : Pos) : Expr := .ListComp elt [⟨t1, i1, [], 0⟩, ⟨t2, i2, [], 0⟩] scope pos
theorem compTurn_two0 (elt t1 t2 i1 i2 : Expr) (scope : Scope) (pos : Pos) (it acc : Value) (env : Env) :
    compTurn (twoE elt t1 t2 i1 i2 scope pos) 0 it acc env = (standAt i1.pos >>= fun _ => pyNext it >>= fun r => match r with
      | none => pure (.done .next)
      | some v => letOwnedTupleGo t1 it v >>= fun _ => assign t1 env v >>= fun _ => testsM [] env >>= fun ok => if ok = true then
          (eval i2 env >>= fun x => standAt i2.pos >>= fun _ => foldedSetIterable i2 env x >>= fun x => holding [x] (pyIter x) >>= fun it2 =>
            runOwn (.compStart (twoE elt t1 t2 i1 i2 scope pos) 1 it2 acc env) env >>= fun _ => again (.compLoop (twoE elt t1 t2 i1 i2 scope pos) 0 it acc env))
        else again (.compLoop (twoE elt t1 t2 i1 i2 scope pos) 0 it acc env)) := by rfl
theorem compTurn_two1 (elt t1 t2 i1 i2 : Expr) (scope : Scope) (pos : Pos) (it acc : Value) (env : Env) :
    compTurn (twoE elt t1 t2 i1 i2 scope pos) 1 it acc env = (do
      standAt i2.pos
      match ← pyNext it with
      | none => pure (.done .next)
      | some v =>
        letOwnedTupleGo t2 it v
        assign t2 env v
        let mut ok := true
        for c in ([] : List Expr) do
          if ok then ok ← isTrue c env (eval c env)
        if ok then
          (do let _ ← call (.builtin "list.append") [acc, ← eval elt env])
        again (.compLoop (twoE elt t1 t2 i1 i2 scope pos) 1 it acc env)) := by rfl
section
variable {B : Shared} {P P' : List Fact} {own own₀ own' : Own} {prog : Program} {w : World} {A : Around} {E : Value → Shared → Prop} {s : Shared} {env : Env}
  {v u : Value} {a l : Addr} {α β : Type} {τ : Ty β} {σ : Ty β} {x : α} {i : Int} {t : Tok} {G : Gh} {R : Result → Shared → Prop}
theorem compStart_two1 {elt t1 t2 i1 i2 scope pos it acc env}
    (h0 : codeAny (model prog w) A (.compLoop (.ListComp elt [⟨t1, i1, [], 0⟩, ⟨t2, i2, [], 0⟩] scope pos) 1 it acc env) R s)
    (h : wpAny (model prog w) A (pyIter it) (fun it' s' => codeAny (model prog w) A (.compLoop (.ListComp elt [⟨t1, i1, [], 0⟩, ⟨t2, i2, [], 0⟩] scope pos) 1 it' acc env) R s')
      (notedBy (model prog w) A env fun x s' => R (.error x) s') s) :
    codeAny (model prog w) A (.compStart (.ListComp elt [⟨t1, i1, [], 0⟩, ⟨t2, i2, [], 0⟩] scope pos) 1 it acc env) R s := by
  refine codeAny_of_tree ?_
  show wpAny _ _ ((compStart (.ListComp elt [⟨t1, i1, [], 0⟩, ⟨t2, i2, [], 0⟩] scope pos) 1 it acc env).onRaise (fun x => do noteFrame x env; standAt theWindowsPlace)) _ _ s
  refine wpAny_notedAt ?_
  unfold compStart
  show wpAny _ _ (ask >>= _) _ _ s
  refine wpAny_bind (wpAny_askSetting (wpAny_ite ?_))
  split
  · first
      | exact wpAny_bind (wpAny_pure (wpAny_pure (And.intro rfl h0)))
      | exact wpAny_pure (And.intro rfl h0)
  · first
      | exact wpAny_bind (wpAny_rule (wpAny_bind (wpAny_standAt (wpAny_bind (wpAny_mono h (fun it' s' h' => wpAny_pure (And.intro rfl h')) fun _ _ x => x)))))
      | (refine wpAny_bind (wpAny_rule ?_); show wpAny _ _ (standAt i2.pos >>= _) _ _ s; exact wpAny_bind (wpAny_standAt (wpAny_bind (wpAny_mono h (fun it' s' h' => wpAny_pure (And.intro rfl h')) fun _ _ x => x))))

theorem compLoopK {elt : Expr} {gens : List Comprehension} {scope : Scope} {pos : Pos} {d : Nat} {target iter : Expr} {ifs : List Expr} {K : Sem Fin} {cenv : Env} {it acc : Value} {n : Nat} {F : Nat → Value → Fact} {c : Nat → Own}
    (hT : compTurn (.ListComp elt gens scope pos) d it acc cenv = (standAt iter.pos >>= fun _ => pyNext it >>= fun r => match r with
      | none => pure (.done .next)
      | some v => letOwnedTupleGo target it v >>= fun _ => assign target cenv v >>= fun _ => testsM ifs cenv >>= fun ok => if ok = true then K else again (.compLoop (.ListComp elt gens scope pos) d it acc cenv)))
    (hq : (Code.compLoop (.ListComp elt gens scope pos) d it acc cenv).quiet = true)
    (C : Cursor prog w A B target it n F c) (J : Nat → List Fact → Own → Prop) {pre fr : Own} (h0 : J 0 P pre) (S : St B P (c 0 ++ (pre ++ fr)) s)
    (turn : ∀ i v P pre fr s E, i < n → J i P pre → St B (F i v :: P) (pre ++ fr) s → wpAny (model prog w) A (assign target cenv v) (fun _ s₂ => wpAny (model prog w) A (testsM ifs cenv) (fun ok s₃ =>
      if ok = true then wpAny (model prog w) A K (fun r s₄ => r = Fin.again (.compLoop (.ListComp elt gens scope pos) d it acc cenv) ∧ TurnEnd B J fr (i + 1) s₄) E s₃ else TurnEnd B J fr (i + 1) s₃) E s₂) E s)
    (done : ∀ P pre s, J n P pre → St B P (pre ++ fr) s → R (.ok .next) s) :
    codeAny (model prog w) A (.compLoop (.ListComp elt gens scope pos) d it acc cenv) R s := by
  refine codeAny_loop hq (fun k s => ∃ i P pre, k = n - i ∧ i ≤ n ∧ J i P pre ∧ St B P (c i ++ (pre ++ fr)) s) (fun k s hk => ?_) n ⟨0, P, pre, rfl, Nat.zero_le _, h0, S⟩
  show wpAny _ A ((compTurn (.ListComp elt gens scope pos) d it acc cenv).onRaise (fun x => do noteFrame x cenv; theTreesLotGoes x)) _ _ s
  refine wpAny_noted ?_
  rw [hT]
  obtain ⟨i, P, pre, rfl, hi, hJ, S⟩ := hk
  by_cases hin : i < n
  · refine wpAny_bind (wpAny_standAt (wpAny_bind (wpAny_mono (C.item i P (pre ++ fr) s (fun v s' => wpAny (model prog w) A (assign target cenv v) (fun _ s₂ => wpAny (model prog w) A (testsM ifs cenv) (fun ok s₃ =>
        if ok = true then wpAny (model prog w) A K (fun r s₄ => r = Fin.again (.compLoop (.ListComp elt gens scope pos) d it acc cenv) ∧ ∃ m, m < n - i ∧ ∃ i P pre, m = n - i ∧ i ≤ n ∧ J i P pre ∧ St B P (c i ++ (pre ++ fr)) s₄) (notedBy (model prog w) A cenv fun e s' => R (.error e) s') s₃
        else ∃ m, m < n - i ∧ ∃ i P pre, m = n - i ∧ i ≤ n ∧ J i P pre ∧ St B P (c i ++ (pre ++ fr)) s₃) (notedBy (model prog w) A cenv fun e s' => R (.error e) s') s₂) (notedBy (model prog w) A cenv fun e s' => R (.error e) s') s') _ (notedBy (model prog w) A cenv fun e s' => R (.error e) s') hin S fun v s' S' => ?_) (fun r s₁ h₁ => ?_) fun _ _ e => e)))
    · have S2 : St B (F i v :: P) (pre ++ (c (i + 1) ++ fr)) s' := S'.perm (by rw [← List.append_assoc, ← List.append_assoc]; exact (List.perm_append_comm).append_right _)
      have fin : ∀ s₃, TurnEnd B J (c (i + 1) ++ fr) (i + 1) s₃ → ∃ m, m < n - i ∧ ∃ i P pre, m = n - i ∧ i ≤ n ∧ J i P pre ∧ St B P (c i ++ (pre ++ fr)) s₃ := by
        rintro s₃ ⟨P', o', pre', S3, hp, hJ'⟩
        have S4 : St B P' (c (i + 1) ++ (pre' ++ fr)) s₃ := (S3.picks hp).perm (by rw [← List.append_assoc, ← List.append_assoc]; exact (List.perm_append_comm).append_right _)
        exact ⟨n - (i + 1), by lia, i + 1, P', pre', rfl, hin, hJ', S4⟩
      refine wpAny_mono (turn i v P pre (c (i + 1) ++ fr) s' _ hin hJ S2) (fun _ s₂ h₂ => wpAny_mono h₂ (fun ok s₃ h₃ => ?_) fun _ _ e => e) fun _ _ e => e
      cases ok with
      | false => exact fin _ h₃
      | true => exact wpAny_mono h₃ (fun r s₄ h₄ => ⟨h₄.1, fin _ h₄.2⟩) fun _ _ e => e
    · cases r with
      | none => exact h₁.elim
      | some v =>
        refine wpAny_bind (wpAny_mono h₁ (fun _ s₁' h₁' => ?_) fun _ _ h' => h')
        refine wpAny_bind (wpAny_mono h₁' (fun _ s₂ h₂ => wpAny_bind (wpAny_mono h₂ (fun ok s₃ h₃ => ?_) fun _ _ h' => h')) fun _ _ h' => h')
        cases ok with
        | false => exact wpAny_pure ⟨rfl, h₃⟩
        | true =>
          refine wpAny_mono h₃ (fun r s₄ h₄ => ?_) fun _ _ h' => h'
          obtain ⟨rfl, h₄⟩ := h₄
          exact ⟨rfl, h₄⟩
  · have hin' : i = n := by lia
    subst hin'
    refine wpAny_bind (wpAny_standAt (wpAny_bind (wpAny_mono (C.done P (pre ++ fr) s (R (.ok .next)) _ S fun s' S' => done P pre s' hJ S') (fun r s₁ h₁ => ?_) fun _ _ e => e)))
    obtain ⟨rfl, h₁⟩ := h₁
    exact wpAny_pure h₁
end
end Mine

namespace Mine
open PySem PySem.W PyProof.Rows PySem.Calls PySem.Spec
section
variable {B : Shared} {P P' : List Fact} {own own₀ own' : Own} {prog : Program} {w : World} {A : Around} {E : Value → Shared → Prop} {s : Shared} {env : Env}
  {v u : Value} {a l : Addr} {α β : Type} {τ : Ty β} {σ : Ty β} {x : α} {i : Int} {t : Tok} {G : Gh} {R : Result → Shared → Prop}
theorem St.atFm {γ : Type} {ρ : Ty γ} {xs : List γ} {i : Nat} (S : St B P own s) (hm : Mine.atF ρ xs i v ∈ P) : ∃ x, xs[i]? = some x ∧ St B (ρ.is v x :: P) own s := by
  obtain ⟨G, hG⟩ := S
  obtain ⟨x, e, r⟩ := hG.fa _ hm
  exact ⟨x, e, G, hG.addF r⟩
theorem picksAll {α : Type} (fr : List α) : ∀ (l : List α), Picks (l ++ fr) l fr
  | [] => .nil
  | _ :: l => .cons .head (picksAll fr l)
theorem flat_succ {β : Type} (f : Nat → Nat → β) (n1 n2 : Nat) : ((List.range (n1 + 1)).flatMap fun i => (List.range n2).map (f i)) = ((List.range n1).flatMap fun i => (List.range n2).map (f i)) ++ (List.range n2).map (f n1) := by
  rw [List.range_succ, List.flatMap_append]; simp
theorem flat_len {β : Type} (f : Nat → Nat → β) (n2 : Nat) : ∀ n1, ((List.range n1).flatMap fun i => (List.range n2).map (f i)).length = n1 * n2
  | 0 => by simp
  | n1 + 1 => by rw [flat_succ, List.length_append, flat_len f n2 n1, List.length_map, List.length_range, Nat.add_mul, Nat.one_mul]
theorem comp2 {elt i1 i2 : Expr} {x1 x2 : Str} {p1 p2 : Pos} {scope : Scope} {pos : Pos} {N : List (Str × NameKind)} {L : Addr} {C : List (Str × Addr)} {Q : Value → Shared → Prop} {n1 n2 : Nat} {F1 F2 : Nat → Value → Fact}
    (N' : List (Str × NameKind)) (CL : List (Str × Addr)) (ms0 : List (Str × Option Value)) (ms1 : Value → List (Str × Option Value)) (τ : Ty β) (f : Nat → Nat → β) (pre fr : Own) (P0 : List Fact)
    (hE : EnvIs env N L C) (hn : n1 * n2 ≤ 1000) (ok : CompOk scope N N' C CL [x2] ms0) (hx1 : (x1, NameKind.local) ∈ N') (hx2 : (x2, NameKind.cell) ∈ N') (hms : ∀ v, PutM ms0 x1 v (ms1 v))
    (h : wpAny (model prog w) A (eval i1 env) (fun xv s₁ => ∃ P, Enter prog w A B (.Name x1 p1) xv s₁ n1 F1 pre fr P ∧ ∀ f ∈ P0, f ∈ P) E s)
    (inner : ∀ Cn c cenv, EnvIs cenv N' Cn ((x2, c) :: CL) → ∀ i v fr s E, i < n1 → St B (F1 i v :: P0) ((Cn, nsC (ms1 v)) :: (c, ceU) :: (pre ++ fr)) s →
      wpAny (model prog w) A (eval i2 cenv) (fun xv s₁ => ∃ P, Enter prog w A B (.Name x2 p2) xv s₁ n2 F2 ((Cn, nsC (ms1 v)) :: (c, ceU) :: pre) fr P ∧ ∀ f ∈ F1 i v :: P0, f ∈ P) E s)
    (turn : ∀ Cn c cenv, EnvIs cenv N' Cn ((x2, c) :: CL) → ∀ i v j u fr s E, i < n1 → j < n2 → St B (F2 j u :: F1 i v :: P0) ((c, ceC (some u)) :: (Cn, nsC (ms1 v)) :: (pre ++ fr)) s →
      wpAny (model prog w) A (eval elt cenv) (fun y s₄ => ∃ P' o', St B P' o' s₄ ∧ Ev P' τ y (f i j) ∧ (∀ g ∈ F1 i v :: P0, g ∈ P') ∧ Picks o' ((c, ceC (some u)) :: (Cn, nsC (ms1 v)) :: pre) fr) E s)
    (post : ∀ D s, St B P0 ((D, lsC τ ((List.range n1).flatMap fun i => (List.range n2).map (f i))) :: (pre ++ fr)) s → Q (.ref D) s)
    (hs1 : ∀ x, foldedSetIterable i1 env x = pure x := by intro _; rfl) (hs2 : ∀ env x, foldedSetIterable i2 env x = pure x := by intro _ _; rfl) :
    wpAny (model prog w) A (eval (twoE elt (.Name x1 p1) (.Name x2 p2) i1 i2 scope pos) env) Q E s := by
  show wpAny (model prog w) A (eval (.ListComp elt [⟨.Name x1 p1, i1, [], 0⟩, ⟨.Name x2 p2, i2, [], 0⟩] scope pos) env) Q E s
  rw [eval_ListComp]
  refine wpAny_comprehension_free (cl := CL) (use := none) rfl hs1 ((closureFor_eq hE.cells ok.free).trans (by rw [ok.clo])) ok.kind (fun x hx hxl => ?_) (wpAny_mono h (fun xv s₁ h₁ => ?_) fun _ _ e => e)
  · have := List.all_eq_true.mp ok.loc x hx
    rw [hxl] at this
    simpa using this
  obtain ⟨P, hEn, hsub0⟩ := h₁
  refine hEn _ _ fun it c1 s₂ hC S2 => ?_
  refine layComp (τ := τ) (CL := CL) (N' := N') (cn := [x2]) hE S2 ok.kind ok.names ok.cells ok.nd ok.db ok.locs fun D Cn cs cenv s' hlen hE' hCn S3 => ?_
  match cs, hlen with
  | [c], _ =>
  rw [ok.ms] at S3
  have hE2 : EnvIs { cenv with scope := relabel scope env } N' Cn ((x2, c) :: CL) := hCn ▸ hE'
  have hms0 : ms0.map Prod.fst = locN N' := by rw [← ok.ms, allNone_names]
  have hmsn : ∀ p ∈ ms0, p.2 = none := by rw [← ok.ms]; exact allNone_none _
  have loop : codeAny (model prog w) A (.compLoop (twoE elt (.Name x1 p1) (.Name x2 p2) i1 i2 scope pos) 0 it (.ref D) { cenv with scope := relabel scope env }) (compPost (model prog w) A E none Q (.ref D) cenv.locals) s' := by
    refine compLoopK (compTurn_two0 _ _ _ _ _ _ _ _ _ _) rfl hC (fun i P pre' => ∃ zs, pre' = (Cn, nsC ms0) :: (D, lsC τ zs) :: (c, ceU) :: pre ∧ zs = ((List.range i).flatMap fun i => (List.range n2).map (f i)) ∧ ∀ g ∈ P0, g ∈ P)
      (pre := (Cn, nsC ms0) :: (D, lsC τ []) :: (c, ceU) :: pre) (fr := fr) (P := P) ⟨[], rfl, rfl, hsub0⟩ ?_ ?_ ?_
    · refine S3.perm ?_
      have q1 : ((Cn, nsC ms0) :: (D, lsC τ []) :: (c, ceU) :: (c1 0 ++ (pre ++ fr))).Perm (c1 0 ++ ((Cn, nsC ms0) :: (D, lsC τ []) :: (c, ceU) :: (pre ++ fr))) :=
        (((List.perm_middle.symm.cons _).trans List.perm_middle.symm).cons _).trans List.perm_middle.symm
      exact q1
    · rintro i v P1 pre' fr1 s4 E4 hi ⟨_, rfl, rfl, hsub⟩ S4
      have S4' : St B (F1 i v :: P0) ((Cn, nsC ms0) :: (D, lsC τ ((List.range i).flatMap fun i => (List.range n2).map (f i))) :: (c, ceU) :: (pre ++ fr1)) s4 := S4.sub fun g hg => by
        rcases List.mem_cons.mp hg with rfl | hg
        · exact .head _
        · exact .tail _ (hsub g hg)
      refine asgNm (stL S4' hE2 hx1 .head (hms v) fun s5 S5 => wpAny_tests_nil ?_)
      rw [if_pos rfl]
      have S5' : St B (F1 i v :: P0) ((Cn, nsC (ms1 v)) :: (c, ceU) :: (pre ++ ((D, lsC τ ((List.range i).flatMap fun i => (List.range n2).map (f i))) :: fr1))) s5 := S5.perm (List.Perm.cons _ ((List.Perm.swap _ _ _).trans (List.perm_middle.symm.cons _)))
      refine wpAny_bind (wpAny_mono (inner Cn c _ hE2 i v _ s5 E4 hi S5') (fun xv s6 h6 => ?_) fun _ _ e => e)
      obtain ⟨P6, hEn6, hsub6⟩ := h6
      refine wpAny_bind (wpAny_standAt (wpAny_bind (wpAny_of_eq (hs2 _ xv) (wpAny_bind (wpAny_holding (hEn6 _ _ fun it2 c2 s7 hC2 S7 => ?_))))))
      refine wpAny_bind (wpAny_runOwn (Q := fun _ s8 => wpAny (model prog w) A (again (.compLoop (twoE elt (.Name x1 p1) (.Name x2 p2) i1 i2 scope pos) 0 it (.ref D) { cenv with scope := relabel scope env })) _ E4 s8) ?_)
      have loop2 : ∀ s7, St B P6 (c2 0 ++ ((Cn, nsC (ms1 v)) :: (c, ceU) :: pre ++ ((D, lsC τ ((List.range i).flatMap fun i => (List.range n2).map (f i))) :: fr1))) s7 → codeAny (model prog w) A (.compLoop (twoE elt (.Name x1 p1) (.Name x2 p2) i1 i2 scope pos) 1 it2 (.ref D) { cenv with scope := relabel scope env })
          (fun r s' => match r with
            | .ok fl => wpAny (model prog w) A (again (.compLoop (twoE elt (.Name x1 p1) (.Name x2 p2) i1 i2 scope pos) 0 it (.ref D) { cenv with scope := relabel scope env })) (fun r s₄ => r = Fin.again (.compLoop (twoE elt (.Name x1 p1) (.Name x2 p2) i1 i2 scope pos) 0 it (.ref D) { cenv with scope := relabel scope env }) ∧
                TurnEnd B (fun i P pre' => ∃ zs, pre' = (Cn, nsC ms0) :: (D, lsC τ zs) :: (c, ceU) :: pre ∧ zs = ((List.range i).flatMap fun i => (List.range n2).map (f i)) ∧ ∀ g ∈ P0, g ∈ P) fr1 (i + 1) s₄) E4 s'
            | .error e => cameBackBy (model prog w) A { cenv with scope := relabel scope env } E4 e s') s7 := by
        intro s7 S7
        refine compLoopB (compTurn_two1 _ _ _ _ _ _ _ _ _ _) rfl hC2 (fun j P pre' => ∃ zs, pre' = (Cn, nsC (ms1 v)) :: (c, ceU) :: (D, lsC τ zs) :: pre ∧ zs = ((List.range i).flatMap fun i => (List.range n2).map (f i)) ++ (List.range j).map (f i) ∧ ∀ g ∈ F1 i v :: P0, g ∈ P)
          (pre := (Cn, nsC (ms1 v)) :: (c, ceU) :: (D, lsC τ ((List.range i).flatMap fun i => (List.range n2).map (f i))) :: pre) (fr := fr1) (P := P6) ⟨_, rfl, by simp, hsub6⟩ ?_ ?_ ?_
        · refine S7.perm (List.Perm.append_left _ ?_)
          exact ((List.perm_middle).cons _).cons _
        · rintro j u P8 pre' fr2 s8 E8 hj ⟨_, rfl, rfl, hsub8⟩ S8
          have S8' : St B (F2 j u :: F1 i v :: P0) ((Cn, nsC (ms1 v)) :: (c, ceU) :: (D, lsC τ (((List.range i).flatMap fun i => (List.range n2).map (f i)) ++ (List.range j).map (f i))) :: (pre ++ fr2)) s8 := S8.sub fun g hg => by
            rcases List.mem_cons.mp hg with rfl | hg
            · exact .head _
            · exact .tail _ (hsub8 g hg)
          refine asgNm (stCU S8' hE2 hx2 (.head _) (.tail .head) fun s9 S9 => wpAny_tests_nil ?_)
          rw [if_pos rfl]
          have S9' : St B (F2 j u :: F1 i v :: P0) ((c, ceC (some u)) :: (Cn, nsC (ms1 v)) :: (pre ++ ((D, lsC τ (((List.range i).flatMap fun i => (List.range n2).map (f i)) ++ (List.range j).map (f i))) :: fr2))) s9 :=
            S9.perm ((List.perm_middle.symm.cons _).cons _)
          refine wpAny_bind (wpAny_mono (turn Cn c _ hE2 i v j u _ s9 E8 hi hj S9') (fun y s10 h10 => ?_) fun _ _ e => e)
          obtain ⟨P10, o10, S10, hev, hsub10, hp10⟩ := h10
          have S11 : St B P10 ((c, ceC (some u)) :: (Cn, nsC (ms1 v)) :: (pre ++ ((D, lsC τ (((List.range i).flatMap fun i => (List.range n2).map (f i)) ++ (List.range j).map (f i))) :: fr2))) s10 := S10.picks hp10
          have S12 : St B P10 ((D, lsC τ (((List.range i).flatMap fun i => (List.range n2).map (f i)) ++ (List.range j).map (f i))) :: (c, ceC (some u)) :: (Cn, nsC (ms1 v)) :: (pre ++ fr2)) s10 :=
            S11.perm ((((List.perm_middle).cons _).trans (List.Perm.swap _ _ _)).cons _ |>.trans (List.Perm.swap _ _ _))
          have hlb : (((List.range i).flatMap fun i => (List.range n2).map (f i)) ++ (List.range j).map (f i)).length ≤ 1000 := by
            rw [List.length_append, flat_len, List.length_map, List.length_range]
            have h1 : i * n2 + n2 ≤ n1 * n2 := by
              have := Nat.mul_le_mul_right n2 (show i + 1 ≤ n1 from hi)
              rw [Nat.add_mul, Nat.one_mul] at this; exact this
            lia
          refine wpAny_bind (appendLs S12 .head hev hlb fun s13 S13 => wpAny_pure ?_)
          have S14 : St B P10 ((c, ceU) :: (Cn, nsC (ms1 v)) :: (D, lsC τ (((List.range i).flatMap fun i => (List.range n2).map (f i)) ++ (List.range j).map (f i) ++ [f i j])) :: (pre ++ fr2)) s13 :=
            (S13.perm ((List.Perm.swap _ _ _).trans ((List.Perm.swap _ _ _).cons _))).weak fun G o h => ⟨_, h⟩
          have S15 : St B P10 (((Cn, nsC (ms1 v)) :: (c, ceU) :: (D, lsC τ (((List.range i).flatMap fun i => (List.range n2).map (f i)) ++ (List.range j).map (f i) ++ [f i j])) :: pre) ++ fr2) s13 := S14.perm (List.Perm.swap _ _ _)
          exact ⟨P10, _, _, S15, picksAll _ _, _, rfl, by rw [List.range_succ, List.map_append, List.append_assoc]; rfl, hsub10⟩
        · rintro P8 pre' s8 ⟨_, rfl, rfl, hsub8⟩ S8
          refine wpAny_pure ⟨rfl, P8, _, _, ?_, picksAll _ _, _, rfl, (flat_succ f i n2).symm, fun g hg => hsub8 g (.tail _ hg)⟩
          have S9 : St B P8 ((Cn, nsC ms0) :: (c, ceU) :: (D, lsC τ (((List.range i).flatMap fun i => (List.range n2).map (f i)) ++ (List.range n2).map (f i))) :: (pre ++ fr1)) s8 := S8.forget (by rw [(hms v).names]) hmsn
          exact S9.perm ((List.Perm.swap _ _ _).cons _)
      exact compStart_two1 (loop2 _ S7) (hC2.self 0 P6 _ s7 _ _ S7 (loop2 _ S7))
    · rintro P1 pre' s4 ⟨_, rfl, rfl, hsub⟩ S4
      rw [hCn]
      have S5 : St B P0 ((Cn, nsC ms0) :: (D, lsC τ ((List.range n1).flatMap fun i => (List.range n2).map (f i))) :: (pre ++ fr)) s4 := ((S4.drop (.tail (.tail .head))).sub hsub)
      obtain ⟨G, hG⟩ := id S5
      obtain ⟨o, ho, hc⟩ := hG.at (.head _)
      obtain ⟨g, hns, _⟩ := nsC_ns (G := G) ho hc
      exact ⟨g, hns, fun h' hs' => post D _ (S5.lose (tk := s4.toks) fun b o hb e => hs'.extBut b o hb e)⟩
  have S3' : St B P ((Cn, nsC ms0) :: (D, lsC τ []) :: (c, ceU) :: (c1 0 ++ (pre ++ fr))) s' := S3
  have q1 : ((Cn, nsC ms0) :: (D, lsC τ []) :: (c, ceU) :: (c1 0 ++ (pre ++ fr))).Perm (c1 0 ++ ((Cn, nsC ms0) :: (D, lsC τ []) :: (c, ceU) :: (pre ++ fr))) :=
    (((List.perm_middle.symm.cons _).trans List.perm_middle.symm).cons _).trans List.perm_middle.symm
  have Sself := S3'.perm q1
  exact codeAny_compStart_list loop (hC.self 0 P _ s' _ _ Sself loop)
end
end Mine

namespace Mine
abbrev IMat := List (List Int)
def minorL (g : IMat) (j : Nat) : IMat := (g.drop 1).map fun r => r.take j ++ r.drop (j + 1)
def hd0 (g : IMat) : List Int := g.getD 0 []
def detS (f : IMat → Int) (g : IMat) (k : Nat) : Int := (List.range k).foldl (fun t j => if (hd0 g).getD j 0 ≠ 0 then t + (1 - 2 * ((j : Int).fmod 2)) * (hd0 g).getD j 0 * f (minorL g j) else t) 0
def detL : Nat → IMat → Int
  | 0, _ => 1
  | n + 1, g => detS (detL n) g (hd0 g).length
theorem detS_succ (f : IMat → Int) (g : IMat) (k : Nat) : detS f g (k + 1) = if (hd0 g).getD k 0 ≠ 0 then detS f g k + (1 - 2 * ((k : Int).fmod 2)) * (hd0 g).getD k 0 * f (minorL g k) else detS f g k := by
  unfold detS; rw [List.range_succ, List.foldl_append]; rfl
def Bnd (k : Nat) (x : Int) : Prop := x.natAbs < 2 ^ k
theorem Rect.irow {α : Type} {h w : Nat} {a : List (List α)} (H : Rect h w a) {i : Nat} (hi : i < h) : a[i]? = some (a.getD i []) ∧ (a.getD i []).length = w ∧ a.getD i [] ∈ a := by
  have hl : i < a.length := by rw [H.1]; exact hi
  have e : a.getD i [] = a[i] := by rw [List.getD_eq_getElem?_getD, List.getElem?_eq_getElem hl]; rfl
  rw [e]
  exact ⟨List.getElem?_eq_getElem hl, H.2 _ (List.getElem_mem hl), List.getElem_mem hl⟩
theorem minor_rect {n m : Nat} {g : IMat} (H : Rect (n + 1) (m + 1) g) {j : Nat} (hj : j < m + 1) : Rect n m (minorL g j) := by
  refine ⟨by unfold minorL; rw [List.length_map, List.length_drop, H.1]; rfl, fun r hr => ?_⟩
  obtain ⟨r', hr', rfl⟩ := List.mem_map.mp hr
  have := H.2 r' (List.mem_of_mem_drop hr')
  rw [List.length_append, List.length_take, List.length_drop]; lia
theorem minor_all {p : Int → Prop} {g : IMat} (H : AllE p g) {j : Nat} : AllE p (minorL g j) := by
  intro r hr x hx
  obtain ⟨r', hr', rfl⟩ := List.mem_map.mp hr
  have hm := List.mem_of_mem_drop hr'
  rcases List.mem_append.mp hx with hx | hx
  · exact H r' hm x (List.mem_of_mem_take hx)
  · exact H r' hm x (List.mem_of_mem_drop hx)
theorem sgn_natAbs (k : Nat) : (1 - 2 * ((k : Int).fmod 2)).natAbs = 1 := by
  rw [Int.fmod_eq_emod_of_nonneg _ (by decide)]; lia
theorem detS_bound {f : IMat → Int} {g : IMat} {b c : Nat} (hg : ∀ x ∈ hd0 g, Bnd b x) (hf : ∀ j, j < (hd0 g).length → Bnd c (f (minorL g j))) : ∀ k, k ≤ (hd0 g).length → (detS f g k).natAbs ≤ k * 2 ^ (b + c)
  | 0, _ => by show (0 : Int).natAbs ≤ _; simp
  | k + 1, hk => by
    have ih := detS_bound hg hf k (by lia)
    rw [detS_succ]
    have hk' : k < (hd0 g).length := by lia
    have e : (k + 1) * 2 ^ (b + c) = k * 2 ^ (b + c) + 2 ^ (b + c) := by rw [Nat.add_mul, Nat.one_mul]
    split
    · have h1 : Bnd b ((hd0 g).getD k 0) := hg _ (by rw [List.getD_eq_getElem?_getD, List.getElem?_eq_getElem hk']; exact List.getElem_mem hk')
      have h2 := hf k hk'
      have h3 : ((1 - 2 * ((k : Int).fmod 2)) * (hd0 g).getD k 0 * f (minorL g k)).natAbs ≤ 2 ^ (b + c) := by
        rw [Int.natAbs_mul, Int.natAbs_mul, sgn_natAbs, Nat.one_mul]
        exact Nat.le_of_lt (lt_pow_mul h1 h2)
      have h4 := Int.natAbs_add_le (detS f g k) ((1 - 2 * ((k : Int).fmod 2)) * (hd0 g).getD k 0 * f (minorL g k))
      rw [e]
      generalize k * 2 ^ (b + c) = U at *
      generalize 2 ^ (b + c) = T at *
      lia
    · rw [e]; exact Nat.le_trans ih (Nat.le_add_right _ _)
theorem detL_bound {b : Nat} : ∀ (n : Nat) (g : IMat), n ≤ 3 → Rect n n g → AllE (Bnd b) g → Bnd (1 + (b + 2) * n) (detL n g)
  | 0, g, _, _, _ => by show (1 : Int).natAbs < 2 ^ _; simp
  | n + 1, g, hn, H, ha => by
    obtain ⟨h1, h2, h3⟩ := H.irow (i := 0) (by lia)
    have hb : ∀ x ∈ hd0 g, Bnd b x := ha _ h3
    have h4 := detS_bound (f := detL n) (c := 1 + (b + 2) * n) hb (fun j hj => detL_bound n _ (by lia) (minor_rect H (by rw [← h2]; exact hj)) (minor_all ha)) (hd0 g).length (Nat.le_refl _)
    show (detS (detL n) g (hd0 g).length).natAbs < _
    refine Nat.lt_of_le_of_lt h4 ?_
    have e1 : (hd0 g).length = n + 1 := h2
    have e2 : 1 + (b + 2) * (n + 1) = (b + (1 + (b + 2) * n)) + 2 := by rw [Nat.mul_add]; lia
    have e3 : 2 ^ (1 + (b + 2) * (n + 1)) = 4 * 2 ^ (b + (1 + (b + 2) * n)) := by rw [e2, Nat.pow_succ, Nat.pow_succ]; lia
    rw [e1, e3]
    have hp := Nat.two_pow_pos (b + (1 + (b + 2) * n))
    generalize 2 ^ (b + (1 + (b + 2) * n)) = T at *
    have h5 : (n + 1) * T ≤ 3 * T := Nat.mul_le_mul_right T hn
    lia
end Mine
namespace Mine
def timesL (a b : IMat) : IMat := a.map fun line => (List.range (wid b)).map fun spot => ((List.range b.length).map fun at_ => line.getD at_ 0 * (b.getD at_ []).getD spot 0).sum
theorem sum_natAbs {b : Nat} : ∀ (l : List Int), (∀ x ∈ l, x.natAbs ≤ b) → l.sum.natAbs ≤ l.length * b
  | [], _ => by simp
  | x :: l, h => by
    have h1 := sum_natAbs l (fun y hy => h y (.tail _ hy))
    have h2 := h x (.head _)
    rw [List.sum_cons, List.length_cons, Nat.add_mul, Nat.one_mul]
    have := Int.natAbs_add_le x l.sum
    lia
end Mine
namespace Mine
def chS (f : Nat → IMat) (k n : Nat) : IMat := (List.range n).foldl (fun ws i => ws ++ (f (k + i)).map fun way => way ++ [((k + i : Nat) : Int)]) []
def chL : Nat → Nat → IMat
  | 0, _ => [[]]
  | k + 1, many => chS (chL k) k (many - k)
theorem chS_succ (f : Nat → IMat) (k n : Nat) : chS f k (n + 1) = chS f k n ++ (f (k + n)).map fun way => way ++ [((k + n : Nat) : Int)] := by
  unfold chS; rw [List.range_succ, List.foldl_append]; rfl
theorem chS_len {f : Nat → IMat} {k c : Nat} : ∀ n, (∀ i, i < n → (f (k + i)).length ≤ c) → (chS f k n).length ≤ n * c
  | 0, _ => by simp [chS]
  | n + 1, h => by
    have h1 := chS_len n (fun i hi => h i (by lia))
    have h2 := h n (by lia)
    rw [chS_succ, List.length_append, List.length_map, Nat.add_mul, Nat.one_mul]; lia
theorem chL_len : ∀ (k many : Nat), many ≤ 4 → (chL k many).length ≤ 4 ^ k
  | 0, _, _ => Nat.le_refl 1
  | k + 1, many, h => by
    have h1 := chS_len (f := chL k) (k := k) (c := 4 ^ k) (many - k) (fun i hi => chL_len k (k + i) (by lia))
    show (chS (chL k) k (many - k)).length ≤ _
    refine Nat.le_trans h1 ?_
    rw [Nat.pow_succ, Nat.mul_comm]
    exact Nat.mul_le_mul_left _ (by lia)
theorem chS_mem {f : Nat → IMat} {k : Nat} : ∀ n w, w ∈ chS f k n → ∃ i way, i < n ∧ way ∈ f (k + i) ∧ w = way ++ [((k + i : Nat) : Int)]
  | 0, w, h => by cases h
  | n + 1, w, h => by
    rw [chS_succ] at h
    rcases List.mem_append.mp h with h | h
    · obtain ⟨i, way, h1, h2⟩ := chS_mem n w h
      exact ⟨i, way, by lia, h2⟩
    · obtain ⟨way, h1, h2⟩ := List.mem_map.mp h
      exact ⟨n, way, by lia, h1, h2.symm⟩
theorem chL_way : ∀ (k many : Nat) (w : List Int), w ∈ chL k many → w.length = k ∧ ∀ x ∈ w, ∃ n : Nat, x = (n : Int) ∧ n < many
  | 0, many, w, h => by
    have := List.mem_singleton.mp h
    subst this
    exact ⟨rfl, fun x hx => nomatch hx⟩
  | k + 1, many, w, h => by
    obtain ⟨i, way, h1, h2, rfl⟩ := chS_mem (f := chL k) (k := k) (many - k) w h
    obtain ⟨h3, h4⟩ := chL_way k (k + i) way h2
    refine ⟨by rw [List.length_append, h3]; rfl, fun x hx => ?_⟩
    rcases List.mem_append.mp hx with hx | hx
    · obtain ⟨n, e, hn⟩ := h4 x hx
      exact ⟨n, e, by lia⟩
    · exact ⟨k + i, List.mem_singleton.mp hx, by lia⟩
end Mine
namespace Mine
theorem chL_len6' : ∀ k : Fin 4, ∀ m : Fin 5, (chL k.val m.val).length ≤ 6 := by decide +kernel
theorem chL_len6 {k m : Nat} (hk : k ≤ 3) (hm : m ≤ 4) : (chL k m).length ≤ 6 := chL_len6' ⟨k, by lia⟩ ⟨m, by lia⟩
def subL (g : IMat) (lines sp : List Int) : IMat := lines.map fun line => sp.map fun spot => (g.getD line.toNat []).getD spot.toNat 0
def partsL (g : IMat) (size wide : Nat) : List IMat := (chL size g.length).flatMap fun lines => (chL size wide).map fun sp => subL g lines sp
theorem flat_getD {α β γ : Type} (A : List α) (B : List β) (f : α → β → γ) (d : α) (e : β) : ((List.range A.length).flatMap fun i => (List.range B.length).map fun j => f (A.getD i d) (B.getD j e)) = A.flatMap fun a => B.map fun b => f a b := by
  have h1 : ∀ i, ((List.range B.length).map fun j => f (A.getD i d) (B.getD j e)) = B.map (f (A.getD i d)) := by
    intro i
    apply List.ext_getElem?
    intro k
    rw [List.getElem?_map, List.getElem?_map]
    by_cases hk : k < B.length
    · rw [List.getElem?_range hk, List.getElem?_eq_getElem hk]; simp [List.getD_eq_getElem?_getD, List.getElem?_eq_getElem hk]
    · rw [List.getElem?_eq_none (by simpa using hk), List.getElem?_eq_none (by simpa using hk)]; rfl
  simp only [h1]
  rw [List.flatMap_def, List.flatMap_def]
  congr 1
  apply List.ext_getElem?
  intro k
  rw [List.getElem?_map, List.getElem?_map]
  by_cases hk : k < A.length
  · rw [List.getElem?_range hk, List.getElem?_eq_getElem hk]; simp [List.getD_eq_getElem?_getD, List.getElem?_eq_getElem hk]
  · rw [List.getElem?_eq_none (by simpa using hk), List.getElem?_eq_none (by simpa using hk)]; rfl
end Mine

namespace Mine
def nzP (g : IMat) (m n : Nat) : List IMat := (partsL g n m).filter fun p => decide (detL n p ≠ 0)
def rankT (g : IMat) (m : Nat) : Nat → Nat
  | 0 => 0
  | n + 1 => if nzP g m (n + 1) = [] then rankT g m n else n + 1
def rankL (g : IMat) (m : Nat) : Nat := rankT g m (min g.length m)
theorem getD_all {α : Type} {p : α → Prop} {l : List α} (h : ∀ x ∈ l, p x) {i : Nat} {d : α} (hd : p d) : p (l.getD i d) := by
  rw [List.getD_eq_getElem?_getD]
  cases e : l[i]? with
  | none => exact hd
  | some x => exact h x (List.mem_of_getElem? e)
theorem parts_ok {g : IMat} {n m b : Nat} (hb : AllE (Bnd b) g) : ∀ p ∈ partsL g n m, Rect n n p ∧ AllE (Bnd b) p := by
  intro p hp
  obtain ⟨lines, h1, h2⟩ := List.mem_flatMap.mp hp
  obtain ⟨sp, h3, rfl⟩ := List.mem_map.mp h2
  obtain ⟨l1, l2⟩ := chL_way n g.length lines h1
  obtain ⟨s1, s2⟩ := chL_way n m sp h3
  have h0 : Bnd b 0 := by show (0 : Int).natAbs < 2 ^ b; exact Nat.two_pow_pos b
  refine ⟨⟨by unfold subL; rw [List.length_map]; exact l1, fun r hr => ?_⟩, fun r hr x hx => ?_⟩
  · obtain ⟨line, _, rfl⟩ := List.mem_map.mp hr
    rw [List.length_map]; exact s1
  · obtain ⟨line, _, rfl⟩ := List.mem_map.mp hr
    obtain ⟨spot, _, rfl⟩ := List.mem_map.mp hx
    refine getD_all ?_ h0
    exact getD_all (p := fun r : List Int => ∀ x ∈ r, Bnd b x) hb (fun x hx => nomatch hx)
theorem partsL_len {g : IMat} {n m : Nat} (hn : n ≤ 3) (hg : g.length ≤ 4) (hm : m ≤ 4) : (partsL g n m).length ≤ 36 := by
  unfold partsL
  rw [List.length_flatMap]
  simp only [List.length_map]
  have h1 := chL_len6 hn hg
  have h2 := chL_len6 hn hm
  have : ∀ l : List (List Int), (l.map fun _ => (chL n m).length).sum = l.length * (chL n m).length := by
    intro l
    induction l with
    | nil => simp
    | cons a l ih => rw [List.map_cons, List.sum_cons, ih, List.length_cons, Nat.add_mul, Nat.one_mul, Nat.add_comm]
  rw [this]
  exact Nat.le_trans (Nat.mul_le_mul h1 h2) (by decide)
theorem take_succ_filter {α : Type} {l : List α} {p : α → Bool} {i : Nat} {x : α} (h : l[i]? = some x) : (l.take (i + 1)).filter p = (l.take i).filter p ++ (if p x then [x] else []) := by
  rw [List.take_succ, h, List.filter_append]
  cases hp : p x <;> simp [hp]
end Mine
namespace Mine
def manyN (row : List Rat) : Nat → Nat
  | 0 => 1
  | n + 1 => manyN row n * (row.getD n 0).den
def clrRow (row : List Rat) : List Int := row.map fun q => q.num * ((manyN row row.length : Nat) : Int).fdiv (q.den : Int)
def clearedL (rows : Mat) : IMat := rows.map clrRow
theorem manyN_lt {row : List Rat} {k : Nat} (h : ∀ x ∈ row, Sz k x) : ∀ n, n ≤ row.length → manyN row n < 2 ^ (1 + k * n)
  | 0, _ => by show 1 < 2 ^ _; simp
  | n + 1, hn => by
    have ih := manyN_lt h n (by lia)
    have h1 : Sz k (row.getD n 0) := by
      have hl : n < row.length := by lia
      rw [List.getD_eq_getElem?_getD, List.getElem?_eq_getElem hl]; exact h _ (List.getElem_mem hl)
    have e : 1 + k * (n + 1) = (1 + k * n) + k := by rw [Nat.mul_add]; lia
    show manyN row n * _ < _
    rw [e]
    exact lt_pow_mul ih h1.2
theorem fdiv_nat (a b : Nat) : ((a : Nat) : Int).fdiv ((b : Nat) : Int) = ((a / b : Nat) : Int) := by
  rw [Int.fdiv_eq_ediv_of_nonneg _ (by lia)]; rfl
theorem cleared_bnd {rows : Mat} {d m : Nat} (hr : Rect d m rows) (hm : m ≤ 3) (hs : AllE (Sz 661) rows) : Rect d m (clearedL rows) ∧ AllE (Bnd 2650) (clearedL rows) := by
  refine ⟨⟨by unfold clearedL; rw [List.length_map]; exact hr.1, fun r h => ?_⟩, fun r h x hx => ?_⟩
  · obtain ⟨row, h1, rfl⟩ := List.mem_map.mp h
    unfold clrRow; rw [List.length_map]; exact hr.2 _ h1
  · obtain ⟨row, h1, rfl⟩ := List.mem_map.mp h
    obtain ⟨q, h2, rfl⟩ := List.mem_map.mp hx
    have e := hr.2 _ h1
    have b1 := manyN_lt (hs _ h1) row.length (Nat.le_refl _)
    have b2 := hs _ h1 q h2
    show (q.num * _).natAbs < 2 ^ 2650
    rw [fdiv_nat, Int.natAbs_mul]
    have b3 : ((manyN row row.length / q.den : Nat) : Int).natAbs < 2 ^ (1 + 661 * 3) := by
      show manyN row row.length / q.den < _
      refine Nat.lt_of_le_of_lt (Nat.div_le_self _ _) (Nat.lt_of_lt_of_le b1 (Nat.pow_le_pow_right (by decide) ?_))
      have := Nat.mul_le_mul_left 661 (show row.length ≤ 3 by lia); lia
    exact Nat.lt_of_lt_of_le (lt_pow_mul b2.1 b3) (Nat.pow_le_pow_right (by decide) (by decide))
end Mine

namespace Mine
def augI (g : IMat) (goal : List Int) : IMat := (List.range g.length).map fun i => g.getD i [] ++ [goal.getD i 0]
def colM (x : List Rat) : Mat := x.map fun q => [q]
/-- what the law asks -/
structure LawOk (h m : Nat) (g : IMat) (goal : List Int) : Prop where
  fine : (solM (toQ g) (goal.map i2q) = none) ↔ rankL (augI g goal) (m + 1) ≠ rankL g m
  base : (nullM (toQ g)).length + rankL g m = m
  sol : ∀ x, solM (toQ g) (goal.map i2q) = some x → mulM (toQ g) (colM x) = goal.map fun z => [i2q z]
  zero : ∀ c ∈ nullM (toQ g), ∀ r ∈ mulM (toQ g) (colM c), r = [0]
  free : nullM (toQ g) ≠ [] → rankL (clearedL (nullM (toQ g))) m = (nullM (toQ g)).length
  invN : h = m → ((invM (toQ g) = none) ↔ detL h g = 0)
  invS : h = m → ∀ b, invM (toQ g) = some b → mulM b (toQ g) = idM h ∧ mulM (toQ g) b = idM h
/-- sizes -/
theorem sz_i2q {x : Int} (h : x.natAbs < 1024) : Sz 10 (i2q x) := ⟨by show x.natAbs < _; exact h, by show 1 < 2 ^ 10; decide⟩
theorem toQ_ok {h m : Nat} {g : IMat} (hg : Rect h m g) (hb : ∀ r ∈ g, ∀ x ∈ r, x.natAbs < 1024) : EOk h m 10 (toQ g) := by
  refine ⟨⟨by unfold toQ; rw [List.length_map]; exact hg.1, fun r hr => ?_⟩, fun r hr x hx => ?_⟩
  · obtain ⟨r', h1, rfl⟩ := List.mem_map.mp hr
    rw [List.length_map]; exact hg.2 _ h1
  · obtain ⟨r', h1, rfl⟩ := List.mem_map.mp hr
    obtain ⟨z, h2, rfl⟩ := List.mem_map.mp hx
    exact sz_i2q (hb _ h1 _ h2)
theorem bits_le {p : Nat} (h : p ≤ 3) : bits p ≤ 661 := bits3 ▸ bits_mono h
theorem sz0 {k : Nat} (hk : 1 ≤ k) : Sz k 0 := ⟨by show 0 < 2 ^ k; exact Nat.two_pow_pos k, by show 1 < 2 ^ k; exact Nat.one_lt_two_pow (by lia)⟩
theorem sz1 {k : Nat} (hk : 1 ≤ k) : Sz k 1 := ⟨by show 1 < 2 ^ k; exact Nat.one_lt_two_pow (by lia), by show 1 < 2 ^ k; exact Nat.one_lt_two_pow (by lia)⟩
theorem all_set {α : Type} {p : α → Prop} {l : List α} (H : ∀ x ∈ l, p x) {y : α} (hy : p y) (i : Nat) : ∀ x ∈ l.set i y, p x := fun x hx => by
  rcases List.mem_or_eq_of_mem_set hx with h1 | h1
  · exact H x h1
  · exact h1 ▸ hy
theorem ent_all {p : Rat → Prop} {a : Mat} (H : AllE p a) (h0 : p 0) (i j : Nat) : p (ent a i j) := by
  unfold ent mrow
  refine getD_all ?_ h0
  exact getD_all (p := fun r : List Rat => ∀ x ∈ r, p x) H (fun x hx => nomatch hx)
theorem nullV_sz {E : Mat} {piv : List Nat} {w c k : Nat} (H : AllE (Sz k) E) (hk : 1 ≤ k) : ∀ n, ∀ x ∈ nullV E piv w c n, Sz k x
  | 0 => all_set (fun x hx => by have := (List.mem_replicate.mp hx).2; subst this; exact sz0 hk) (sz1 hk) c
  | n + 1 => all_set (nullV_sz H hk n) (sz_neg (ent_all H (sz0 hk) n c)) _
theorem solV_sz {E : Mat} {piv : List Nat} {w k : Nat} (H : AllE (Sz k) E) (hk : 1 ≤ k) : ∀ n, ∀ x ∈ solV E piv w n, Sz k x
  | 0 => fun x hx => by have := (List.mem_replicate.mp hx).2; subst this; exact sz0 hk
  | n + 1 => all_set (solV_sz H hk n) (ent_all H (sz0 hk) n w) _
theorem ech_sz {h m : Nat} {a : Mat} (H : EOk h m 10 a) (hh : 0 < h) (hh3 : h ≤ 3) : EOk h m 661 (ech a).1 := by
  unfold ech
  rw [H.rect.wid hh]
  have I := ech_inv H m (Nat.le_refl _)
  exact I.ok.mono (bits_le (Nat.le_trans I.le hh3))
theorem nullM_ok {h m : Nat} {a : Mat} (H : EOk h m 10 a) (hh : 0 < h) (hh3 : h ≤ 3) : Rect (nullM a).length m (nullM a) ∧ AllE (Sz 661) (nullM a) := by
  have E := ech_sz H hh hh3
  refine ⟨⟨rfl, fun r hr => ?_⟩, fun r hr x hx => ?_⟩
  · obtain ⟨c, _, rfl⟩ := List.mem_map.mp hr
    rw [nullV_len, H.rect.wid hh]
  · obtain ⟨c, _, rfl⟩ := List.mem_map.mp hr
    exact nullV_sz E.sz (by decide) _ x hx
theorem nullM_len {h m : Nat} {a : Mat} (H : Rect h m a) (hh : 0 < h) : (nullM a).length ≤ m := by
  unfold nullM
  rw [List.length_map, H.wid hh]
  exact Nat.le_trans (List.length_filter_le _ _) (by rw [List.length_range]; exact Nat.le_refl _)
theorem solM_ok {h m : Nat} {a : Mat} {b x : List Rat} (H : EOk h m 10 a) (hh : 0 < h) (hh3 : h ≤ 3) (hb : b.length = h) (hs : ∀ x ∈ b, Sz 10 x) (e : solM a b = some x) : x.length = m ∧ ∀ q ∈ x, Sz 661 q := by
  have E := ech_sz (augM_ok H hb hs) hh hh3
  unfold solM at e
  split at e
  · cases e
  · cases e
    exact ⟨by rw [solV_len, H.rect.wid hh], solV_sz E.sz (by decide) _⟩
theorem invM_ok {n : Nat} {a b : Mat} (H : EOk n n 10 a) (hh : 0 < n) (hh3 : n ≤ 3) (e : invM a = some b) : Rect n n b ∧ AllE (Sz 661) b := by
  have E := ech_sz (wideM_ok H) hh hh3
  unfold invM at e
  split at e
  · cases e
    have hl := H.rect.1
    refine ⟨⟨by rw [List.length_map]; exact E.rect.1, fun r hr => ?_⟩, fun r hr x hx => ?_⟩
    · obtain ⟨r', h1, rfl⟩ := List.mem_map.mp hr
      rw [List.length_drop, E.rect.2 _ h1, hl]; lia
    · obtain ⟨r', h1, rfl⟩ := List.mem_map.mp hr
      exact E.sz _ h1 x (List.mem_of_mem_drop hx)
  · cases e
theorem colM_ok {k : Nat} {x : List Rat} (h : ∀ q ∈ x, Sz k q) : Rect x.length 1 (colM x) ∧ AllE (Sz k) (colM x) := by
  refine ⟨⟨by unfold colM; rw [List.length_map], fun r hr => ?_⟩, fun r hr y hy => ?_⟩
  · obtain ⟨q, _, rfl⟩ := List.mem_map.mp hr; rfl
  · obtain ⟨q, h1, rfl⟩ := List.mem_map.mp hr
    have := List.mem_singleton.mp hy; subst this; exact h _ h1
theorem times_ok {h m n : Nat} {a b : IMat} (ra : Rect h m a) (ba : ∀ r ∈ a, ∀ x ∈ r, x.natAbs ≤ 36) (rb : Rect m n b) (bb : ∀ r ∈ b, ∀ x ∈ r, x.natAbs ≤ 6) (hm : 0 < m) (hm3 : m ≤ 3) :
    Rect h n (timesL a b) ∧ ∀ r ∈ timesL a b, ∀ x ∈ r, x.natAbs < 1024 := by
  have hw := rb.wid hm
  refine ⟨⟨by unfold timesL; rw [List.length_map]; exact ra.1, fun r hr => ?_⟩, fun r hr x hx => ?_⟩
  · obtain ⟨line, _, rfl⟩ := List.mem_map.mp hr
    rw [List.length_map, List.length_range, hw]
  · obtain ⟨line, h1, rfl⟩ := List.mem_map.mp hr
    obtain ⟨spot, h2, rfl⟩ := List.mem_map.mp hx
    have h3 := sum_natAbs (b := 216) ((List.range b.length).map fun at_ => line.getD at_ 0 * (b.getD at_ []).getD spot 0) (fun y hy => by
      obtain ⟨i, _, rfl⟩ := List.mem_map.mp hy
      rw [Int.natAbs_mul]
      have e1 : (line.getD i 0).natAbs ≤ 36 := getD_all (p := fun x : Int => x.natAbs ≤ 36) (ba _ h1) (by decide)
      have e2 : ((b.getD i []).getD spot 0).natAbs ≤ 6 := by
        refine getD_all (p := fun x : Int => x.natAbs ≤ 6) ?_ (by decide)
        exact getD_all (p := fun r : List Int => ∀ x ∈ r, x.natAbs ≤ 6) bb (fun x hx => nomatch hx)
      exact Nat.le_trans (Nat.mul_le_mul e1 e2) (by decide))
    have h4 : ((List.range b.length).map fun at_ => line.getD at_ 0 * (b.getD at_ []).getD spot 0).length = m := by rw [List.length_map, List.length_range, rb.1]
    rw [h4] at h3
    have := Nat.mul_le_mul_right 216 hm3
    lia
end Mine

namespace Mine
abbrev RF := Nat → Nat → Rat
def Sp (N : RF) (v : Nat → Rat) : Prop := ∃ x y z : Rat, ∀ j, v j = x * N 0 j + y * N 1 j + z * N 2 j
def Gen (M N : RF) : Prop := ∀ i, Sp N (M i)
theorem Sp.zero {N : RF} {v : Nat → Rat} (h : ∀ j, v j = 0) : Sp N v := ⟨0, 0, 0, fun j => by rw [h j]; grind⟩
theorem Sp.row {N : RF} {i : Nat} (h : i < 3) : Sp N (N i) := by
  rcases i with _ | _ | _ | i
  · exact ⟨1, 0, 0, fun j => by grind⟩
  · exact ⟨0, 1, 0, fun j => by grind⟩
  · exact ⟨0, 0, 1, fun j => by grind⟩
  · lia
theorem Sp.lin {N : RF} {u v t : Nat → Rat} (a b : Rat) (hu : Sp N u) (hv : Sp N v) (h : ∀ j, t j = a * u j + b * v j) : Sp N t := by
  obtain ⟨x, y, z, h1⟩ := hu
  obtain ⟨x', y', z', h2⟩ := hv
  exact ⟨a * x + b * x', a * y + b * y', a * z + b * z', fun j => by rw [h, h1, h2]; grind⟩
theorem Sp.trans {N K : RF} {v : Nat → Rat} (hv : Sp N v) (h : Gen N K) : Sp K v := by
  obtain ⟨x, y, z, h1⟩ := hv
  have h2 := (h 0).lin (t := fun j => x * N 0 j + y * N 1 j) x y (h 1) (fun j => rfl)
  exact h2.lin 1 z (h 2) (fun j => by rw [h1]; grind)
theorem Gen.trans {M N K : RF} (h : Gen M N) (k : Gen N K) : Gen M K := fun i => (h i).trans k
theorem Gen.refl {M : RF} (h : ∀ i, 3 ≤ i → ∀ j, M i j = 0) : Gen M M := fun i => if hi : i < 3 then Sp.row hi else Sp.zero (h i (by lia))

def d2 (M : RF) (i1 i2 j1 j2 : Nat) : Rat := M i1 j1 * M i2 j2 - M i1 j2 * M i2 j1
def d3 (M : RF) (i1 i2 i3 j1 j2 j3 : Nat) : Rat := M i1 j1 * d2 M i2 i3 j2 j3 - M i1 j2 * d2 M i2 i3 j1 j3 + M i1 j3 * d2 M i2 i3 j1 j2
/-- all minors of k rows within w columns vanish -/
def Zm (M : RF) (w : Nat) : Nat → Prop
  | 0 => False
  | 1 => ∀ i j, j < w → M i j = 0
  | 2 => ∀ i1 i2 j1 j2, j1 < w → j2 < w → d2 M i1 i2 j1 j2 = 0
  | _ => ∀ i1 i2 i3 j1 j2 j3, j1 < w → j2 < w → j3 < w → d3 M i1 i2 i3 j1 j2 j3 = 0
theorem Gen.Zm {M N : RF} {w : Nat} (h : Gen M N) : ∀ k, k ≤ 3 → Mine.Zm N w k → Mine.Zm M w k
  | 0, _, z => z
  | 1, _, z => fun i j hj => by
    obtain ⟨x, y, t, e⟩ := h i
    rw [e, z 0 j hj, z 1 j hj, z 2 j hj]; grind
  | 2, _, z => fun i1 i2 j1 j2 h1 h2 => by
    obtain ⟨x, y, t, e⟩ := h i1
    obtain ⟨x', y', t', e'⟩ := h i2
    have a := z 0 1 j1 j2 h1 h2
    have b := z 0 2 j1 j2 h1 h2
    have c := z 1 2 j1 j2 h1 h2
    have : d2 M i1 i2 j1 j2 = (x * y' - y * x') * d2 N 0 1 j1 j2 + (x * t' - t * x') * d2 N 0 2 j1 j2 + (y * t' - t * y') * d2 N 1 2 j1 j2 := by
      unfold d2; rw [e, e, e', e']; grind
    rw [this, a, b, c]; grind
  | 3, _, z => fun i1 i2 i3 j1 j2 j3 h1 h2 h3 => by
    obtain ⟨x, y, t, e⟩ := h i1
    obtain ⟨x', y', t', e'⟩ := h i2
    obtain ⟨x'', y'', t'', e''⟩ := h i3
    have a := z 0 1 2 j1 j2 j3 h1 h2 h3
    have : d3 M i1 i2 i3 j1 j2 j3 = (x * (y' * t'' - t' * y'') - y * (x' * t'' - t' * x'') + t * (x' * y'' - y' * x'')) * d3 N 0 1 2 j1 j2 j3 := by
      unfold d3 d2; rw [e, e, e, e', e', e', e'', e'', e'']; grind
    rw [this, a]; grind
  | k + 4, hk, _ => by lia
theorem Zm.congr {M N : RF} {w : Nat} (h : ∀ i j, j < w → M i j = N i j) : ∀ k, Zm N w k → Zm M w k
  | 0, z => z
  | 1, z => fun i j hj => by rw [h i j hj]; exact z i j hj
  | 2, z => fun i1 i2 j1 j2 h1 h2 => by
    have := z i1 i2 j1 j2 h1 h2
    unfold d2 at *; rw [h _ _ h1, h _ _ h2, h _ _ h1, h _ _ h2]; exact this
  | k + 3, z => fun i1 i2 i3 j1 j2 j3 h1 h2 h3 => by
    have := z i1 i2 i3 j1 j2 j3 h1 h2 h3
    unfold d3 d2 at *
    rw [h _ _ h1, h _ _ h2, h _ _ h3, h _ _ h1, h _ _ h2, h _ _ h3, h _ _ h1, h _ _ h2, h _ _ h3]; exact this
theorem alt2 {f : Nat → Nat → Rat} {n : Nat} (s : ∀ i j, f i j = -f j i) (H : ∀ i j, i < j → j < n → f i j = 0) : ∀ i j, i < n → j < n → f i j = 0 := by
  intro i j hi hj
  rcases Nat.lt_trichotomy i j with h | h | h
  · exact H i j h hj
  · subst h; have := s i i; grind
  · rw [s, H j i h hi]; grind
theorem alt3 {f : Nat → Nat → Nat → Rat} {n : Nat} (s : ∀ i j k, f i j k = -f j i k) (t : ∀ i j k, f i j k = -f i k j) (H : ∀ i j k, i < j → j < k → k < n → f i j k = 0) : ∀ i j k, i < n → j < n → k < n → f i j k = 0 := by
  intro i j k hi hj hk
  have e1 : ∀ i k, f i i k = 0 := fun i k => by have := s i i k; grind
  have e2 : ∀ i k, f i k k = 0 := fun i k => by have := t i k k; grind
  rcases Nat.lt_trichotomy i j with h | h | h
  · rcases Nat.lt_trichotomy j k with h' | h' | h'
    · exact H i j k h h' hk
    · subst h'; exact e2 _ _
    · rcases Nat.lt_trichotomy i k with h'' | h'' | h''
      · rw [t, H i k j h'' h' hj]; grind
      · subst h''; rw [t, e1]; grind
      · rw [t, s, H k i j h'' h hj]; grind
  · subst h; exact e1 _ _
  · rcases Nat.lt_trichotomy i k with h' | h' | h'
    · rw [s, H j i k h h' hk]; grind
    · subst h'; rw [s, e2]; grind
    · rcases Nat.lt_trichotomy j k with h'' | h'' | h''
      · rw [s, t, H j k i h'' h' hi]; grind
      · subst h''; exact e2 _ _
      · rw [s, t, s, H k j i h'' h hi]; grind
end Mine

namespace Mine
theorem getD_ge {l : List Rat} {j : Nat} (h : l.length ≤ j) : l.getD j 0 = 0 := by rw [List.getD_eq_getElem?_getD, List.getElem?_eq_none h]; rfl
theorem ent_out {h m : Nat} {a : Mat} (H : Rect h m a) {i : Nat} (hi : h ≤ i) (j : Nat) : ent a i j = 0 := by
  unfold ent mrow
  rw [List.getD_eq_getElem?_getD (l := a), List.getElem?_eq_none (by rw [H.1]; exact hi)]; rfl
theorem off_all {r t : List Rat} {q : Rat} (h : r.length = t.length) (j : Nat) : (offRow r t q).getD j 0 = r.getD j 0 - q * t.getD j 0 := by
  by_cases hj : j < r.length
  · exact offRow_get hj
  · rw [getD_ge (by rw [offRow_len]; lia), getD_ge (l := r) (by lia), getD_ge (l := t) (by lia)]; grind
theorem map_div_getD {l : List Rat} {q : Rat} (j : Nat) : (l.map fun x => x / q).getD j 0 = l.getD j 0 / q := by
  rw [List.getD_eq_getElem?_getD, List.getD_eq_getElem?_getD, List.getElem?_map]
  cases l[j]? with
  | none => show (0 : Rat) = 0 / q; grind
  | some x => rfl
structure PivEnt (h r c s : Nat) (a b : RF) : Prop where
  piv : ∀ j, b r j = a s j / a s c
  oth : ∀ o, o < h → o ≠ r → ∀ j, b o j = a (if o = s then r else o) j - a (if o = s then r else o) c * (a s j / a s c)
theorem piv_ent {h m k : Nat} {a : Mat} {r c s : Nat} (H : EOk h m k a) (hc : c < m) (hs : s ∈ spots a r c) : PivEnt h r c s (ent a) (ent (pivot a r c s)) := by
  have P := piv_ok H hc hs
  have e : pivot a r c s = clrTo r c (scl (swp a r s) r c) h := by unfold pivot; rw [H.rect.1]
  have K := P.clr h (Nat.le_refl _)
  rw [← e] at K
  have R1 := P.sw.rect
  have R2 := P.sc.rect
  have er : ∀ j, ent (scl (swp a r s) r c) r j = ent a s j / ent a s c := fun j => by
    unfold ent
    rw [mrow_scl R1 P.lt, if_pos rfl, map_div_getD, ent_swp_self H.rect P.lt P.ls]
    show ent (swp a r s) r j / _ = _
    rw [ent_swp_self H.rect P.lt P.ls]; rfl
  have eo : ∀ o, o ≠ r → ∀ j, ent (scl (swp a r s) r c) o j = ent a (if o = s then r else o) j := fun o ho j => by
    unfold ent
    rw [mrow_scl R1 P.lt, if_neg ho, mrow_swp H.rect P.lt P.ls]
    by_cases h1 : o = s
    · rw [if_pos h1, if_pos h1]
    · rw [if_neg h1, if_neg ho, if_neg h1]
  refine ⟨fun j => ?_, fun o h1 h2 j => ?_⟩
  · rw [← er]; unfold ent; rw [K.piv]
  · have hd := K.done o h1 h1 h2
    rw [← eo o h2, ← eo o h2, ← er]
    have : ent (pivot a r c s) o j = (mrow (pivot a r c s) o).getD j 0 := rfl
    rw [this, hd]
    by_cases h0 : ent (scl (swp a r s) r c) o c = 0
    · rw [if_neg (by simpa using h0), h0]
      show ent (scl (swp a r s) r c) o j = _
      grind
    · rw [if_pos h0, off_all (by rw [(R2.row h1).2.1, (R2.row P.lt).2.1])]; rfl
theorem piv_gen {h m k : Nat} {a : Mat} {r c s : Nat} (H : EOk h m k a) (hh3 : h ≤ 3) (hc : c < m) (hs : s ∈ spots a r c) (R' : Rect h m (pivot a r c s)) : Gen (ent (pivot a r c s)) (ent a) ∧ Gen (ent a) (ent (pivot a r c s)) := by
  have P := piv_ok H hc hs
  obtain ⟨p1, p2⟩ := piv_ent H hc hs
  have hne := P.ne
  have hr := P.lt
  have hsl := P.ls
  constructor
  · intro i
    by_cases hi : i < h
    · by_cases h1 : i = r
      · subst h1
        exact (Sp.row (i := s) (by lia)).lin (1 / ent a s c) 0 (Sp.row (i := s) (by lia)) (fun j => by rw [p1]; grind)
      · refine (Sp.row (i := if i = s then r else i) (by split <;> lia)).lin 1 (-(ent a (if i = s then r else i) c / ent a s c)) (Sp.row (i := s) (by lia)) (fun j => ?_)
        rw [p2 i hi h1]; grind
    · exact Sp.zero (ent_out R' (by lia))
  · intro i
    by_cases hi : i < h
    · by_cases h1 : i = s
      · subst h1
        exact (Sp.row (i := r) (by lia)).lin (ent a i c) 0 (Sp.row (i := r) (by lia)) (fun j => by rw [p1]; grind)
      · by_cases h2 : i = r
        · have hsr : s ≠ r := fun e => h1 (h2.trans e.symm)
          refine (Sp.row (i := s) (by lia)).lin 1 (ent a i c) (Sp.row (i := r) (by lia)) (fun j => ?_)
          rw [p2 s hsl hsr, p1, if_pos rfl, ← h2]; grind
        · refine (Sp.row (i := i) (by lia)).lin 1 (ent a i c) (Sp.row (i := r) (by lia)) (fun j => ?_)
          rw [p2 i hi h2, p1, if_neg h1]; grind
    · exact Sp.zero (ent_out H.rect (by lia))

structure RInv (h m n : Nat) (A : Mat) (st : Mat × List Nat) : Prop where
  inv : EInv h m n st
  g1 : Gen (ent st.1) (ent A)
  g2 : Gen (ent A) (ent st.1)
  unit : ∀ k, k < st.2.length → ∀ i, i < h → ent st.1 i (st.2.getD k 0) = if i = k then 1 else 0
  zero : ∀ i, st.2.length ≤ i → ∀ c, c < n → ent st.1 i c = 0
  cnt : ((List.range n).filter fun c => !st.2.contains c).length + st.2.length = n
  inc : st.2.Pairwise (· < ·)
theorem getD_app {l : List Nat} {n k : Nat} : (l ++ [n]).getD k 0 = if k < l.length then l.getD k 0 else if k = l.length then n else 0 := by
  rw [List.getD_eq_getElem?_getD, List.getD_eq_getElem?_getD, List.getElem?_append]
  split
  · rfl
  · rename_i h
    split
    · rename_i h1; subst h1; simp
    · rename_i h1
      rw [List.getElem?_eq_none (by simp; lia)]; rfl
theorem getD_mem {l : List Nat} {k : Nat} (h : k < l.length) : l.getD k 0 ∈ l := by
  rw [List.getD_eq_getElem?_getD, List.getElem?_eq_getElem h]; exact List.getElem_mem h
theorem rinv_step {h m n : Nat} {A : Mat} {st : Mat × List Nat} (hh3 : h ≤ 3) (H : RInv h m n A st) (hn : n < m) : RInv h m (n + 1) A (estep st n) := by
  have I' := estep_inv H.inv hn
  have hok := H.inv.ok
  unfold estep at I' ⊢
  split at I'
  · rename_i he
    have hz := spots_nil he
    refine ⟨I', H.g1, H.g2, H.unit, fun i hi c hc => ?_, ?_, H.inc⟩
    · by_cases h1 : c = n
      · subst h1
        by_cases h2 : i < h
        · exact hz i hi (by rw [hok.rect.1]; exact h2)
        · exact ent_out hok.rect (by lia) c
      · exact H.zero i hi c (by lia)
    · have hnm : n ∉ st.2 := fun hm => Nat.lt_irrefl _ (H.inv.lt n hm)
      have := H.cnt
      show ((List.range (n + 1)).filter fun c => !st.2.contains c).length + st.2.length = n + 1
      rw [List.range_succ, List.filter_append]
      simp [hnm] at this ⊢
      lia
  · rename_i s rest he
    have hs : s ∈ spots st.1 st.2.length n := by rw [he]; exact .head _
    have P := piv_ok hok hn hs
    obtain ⟨p1, p2⟩ := piv_ent hok hn hs
    obtain ⟨q1, q2⟩ := piv_gen hok hh3 hn hs I'.ok.rect
    have hr := P.lt
    have hsl := P.ls
    have hne := P.ne
    obtain ⟨hs1, _, _⟩ := mem_spots hs
    have hsz : ∀ c, c < n → ent st.1 s c = 0 := fun c hc => H.zero s hs1 c hc
    have hpn : ∀ k, k < st.2.length → st.2.getD k 0 < n := fun k hk => H.inv.lt _ (getD_mem hk)
    have low : ∀ c, c < n → ∀ o, o < h → ent (pivot st.1 st.2.length n s) o c = if o = st.2.length then 0 else ent st.1 (if o = s then st.2.length else o) c := fun c hc o ho => by
      by_cases h1 : o = st.2.length
      · rw [if_pos h1, h1, p1, hsz c hc]; grind
      · rw [if_neg h1, p2 o ho h1, hsz c hc]; grind
    have top : ∀ o, o < h → ent (pivot st.1 st.2.length n s) o n = if o = st.2.length then 1 else 0 := fun o ho => by
      by_cases h1 : o = st.2.length
      · rw [if_pos h1, h1, p1]; grind
      · rw [if_neg h1, p2 o ho h1]; grind
    refine ⟨I', q1.trans H.g1, H.g2.trans q2, fun k hk i hi => ?_, fun i hi c hc => ?_, ?_, ?_⟩
    · dsimp only at hk ⊢
      rw [List.length_append] at hk
      rw [getD_app]
      by_cases hk1 : k < st.2.length
      · rw [if_pos hk1, low _ (hpn k hk1) i hi]
        by_cases h1 : i = st.2.length
        · rw [if_pos h1, if_neg (by lia)]
        · rw [if_neg h1]
          by_cases h2 : i = s
          · rw [if_pos h2, if_neg (by lia)]
            exact H.zero _ (Nat.le_refl _) _ (hpn k hk1)
          · rw [if_neg h2]; exact H.unit k hk1 i hi
      · have hk2 : k = st.2.length := by simp at hk; lia
        rw [if_neg hk1, if_pos hk2, top i hi, hk2]
    · dsimp only at hi ⊢
      rw [List.length_append] at hi
      simp at hi
      by_cases h2 : i < h
      · by_cases h1 : c = n
        · subst h1; rw [top i h2, if_neg (by lia)]
        · rw [low c (by lia) i h2, if_neg (by lia)]
          exact H.zero _ (by split <;> lia) c (by lia)
      · exact ent_out I'.ok.rect (by lia) c
    · have := H.cnt
      show ((List.range (n + 1)).filter fun c => !(st.2 ++ [n]).contains c).length + (st.2 ++ [n]).length = n + 1
      have e : ((List.range (n + 1)).filter fun c => !(st.2 ++ [n]).contains c) = (List.range n).filter fun c => !st.2.contains c := by
        rw [List.range_succ, List.filter_append]
        have e1 : ([n].filter fun c => !(st.2 ++ [n]).contains c) = [] := by simp
        rw [e1, List.append_nil]
        apply List.filter_congr
        intro c hc
        have hc' := List.mem_range.mp hc
        have : c ≠ n := by lia
        simp [this]
      rw [e, List.length_append]
      show _ + (st.2.length + 1) = _
      lia
    · show (st.2 ++ [n]).Pairwise (· < ·)
      rw [List.pairwise_append]
      refine ⟨H.inc, by simp, fun x hx y hy => ?_⟩
      obtain rfl := List.mem_singleton.mp hy
      exact H.inv.lt x hx
theorem rinv {h m : Nat} {A : Mat} (H : EOk h m 10 A) (hh3 : h ≤ 3) : ∀ n, n ≤ m → RInv h m n A (echTo A n)
  | 0, _ => ⟨ech_inv H 0 (Nat.zero_le _), Gen.refl (fun i hi j => ent_out H.rect (by lia) j), Gen.refl (fun i hi j => ent_out H.rect (by lia) j), fun k hk => absurd hk (Nat.not_lt_zero _), fun i _ c hc => absurd hc (Nat.not_lt_zero _), rfl, .nil⟩
  | n + 1, hn => by rw [echTo_succ]; exact rinv_step hh3 (rinv H hh3 n (by lia)) (by lia)
end Mine

namespace Mine
theorem zm_zero_row {M : RF} {w p : Nat} (z : ∀ i, p ≤ i → ∀ c, c < w → M i c = 0) : ∀ k, p < k → k ≤ 3 → Zm M w k
  | 0, h, _ => absurd h (Nat.not_lt_zero _)
  | 1, h, _ => fun i j hj => z i (by lia) j hj
  | 2, h, _ => fun i1 i2 j1 j2 h1 h2 => by
    unfold d2
    by_cases a : p ≤ i1
    · rw [z i1 a j1 h1, z i1 a j2 h2]; grind
    · by_cases b : p ≤ i2
      · rw [z i2 b j1 h1, z i2 b j2 h2]; grind
      · have e1 : i1 = 0 := by lia
        have e2 : i2 = 0 := by lia
        subst e1; subst e2; grind
  | 3, h, _ => fun i1 i2 i3 j1 j2 j3 h1 h2 h3 => by
    unfold d3 d2
    by_cases a : p ≤ i1
    · rw [z i1 a j1 h1, z i1 a j2 h2, z i1 a j3 h3]; grind
    · by_cases b : p ≤ i2
      · rw [z i2 b j1 h1, z i2 b j2 h2, z i2 b j3 h3]; grind
      · by_cases c : p ≤ i3
        · rw [z i3 c j1 h1, z i3 c j2 h2, z i3 c j3 h3]; grind
        · have : i1 = i2 ∨ i1 = i3 ∨ i2 = i3 := by lia
          rcases this with e | e | e
          · subst e; grind
          · subst e; grind
          · subst e; grind
  | k + 4, _, h => by lia
theorem zm_unit {M : RF} {w : Nat} {c : Nat → Nat} {k : Nat} (u : ∀ i l, i < k → l < k → M i (c l) = if i = l then 1 else 0) (hc : ∀ l, l < k → c l < w) (hk : k ≤ 3) : ¬ Zm M w k := by
  intro z
  rcases k with _ | _ | _ | _ | k
  · exact z
  · have := z 0 (c 0) (hc 0 (by lia))
    rw [u 0 0 (by lia) (by lia)] at this
    grind
  · have := z 0 1 (c 0) (c 1) (hc 0 (by lia)) (hc 1 (by lia))
    unfold d2 at this
    rw [u 0 0 (by lia) (by lia), u 0 1 (by lia) (by lia), u 1 0 (by lia) (by lia), u 1 1 (by lia) (by lia)] at this
    grind
  · have := z 0 1 2 (c 0) (c 1) (c 2) (hc 0 (by lia)) (hc 1 (by lia)) (hc 2 (by lia))
    unfold d3 d2 at this
    rw [u 0 0 (by lia) (by lia), u 0 1 (by lia) (by lia), u 0 2 (by lia) (by lia), u 1 0 (by lia) (by lia), u 1 1 (by lia) (by lia), u 1 2 (by lia) (by lia),
      u 2 0 (by lia) (by lia), u 2 1 (by lia) (by lia), u 2 2 (by lia) (by lia)] at this
    grind
  · lia
theorem piv_rank {h m n : Nat} {A : Mat} {st : Mat × List Nat} (R : RInv h m n A st) {k : Nat} (hk : k ≤ 3) (hk0 : 0 < k) : Zm (ent A) n k ↔ st.2.length < k := by
  constructor
  · intro z
    refine Nat.lt_of_not_le fun hle => ?_
    have z' := R.g1.Zm k hk z
    have hl := R.inv.le
    exact zm_unit (c := fun l => st.2.getD l 0) (fun i l hi hl' => R.unit l (by lia) i (by lia)) (fun l hl' => R.inv.lt _ (getD_mem (by lia))) hk z'
  · intro hlt
    exact R.g2.Zm k hk (zm_zero_row R.zero k hlt hk)

/-- the choices, told by membership -/
theorem chS_iff {f : Nat → IMat} {k : Nat} {w : List Int} : ∀ n, w ∈ chS f k n ↔ ∃ i way, i < n ∧ way ∈ f (k + i) ∧ w = way ++ [((k + i : Nat) : Int)]
  | 0 => ⟨fun h => absurd (show w ∈ [] from h) List.not_mem_nil, fun ⟨_, _, h, _⟩ => absurd h (Nat.not_lt_zero _)⟩
  | n + 1 => by
    refine ⟨chS_mem (n + 1) w, ?_⟩
    rintro ⟨i, way, h1, h2, h3⟩
    rw [chS_succ]
    by_cases h : i = n
    · subst h
      exact List.mem_append.mpr (.inr (List.mem_map.mpr ⟨way, h2, h3.symm⟩))
    · exact List.mem_append.mpr (.inl ((chS_iff n).mpr ⟨i, way, by lia, h2, h3⟩))
theorem ch0 {many : Nat} {w : List Int} : w ∈ chL 0 many ↔ w = [] := List.mem_singleton
theorem ch1 {many : Nat} {w : List Int} : w ∈ chL 1 many ↔ ∃ i : Nat, i < many ∧ w = [(i : Int)] := by
  show w ∈ chS (chL 0) 0 (many - 0) ↔ _
  rw [chS_iff]
  constructor
  · rintro ⟨i, way, h1, h2, rfl⟩
    rw [ch0] at h2; subst h2
    exact ⟨i, by lia, by simp⟩
  · rintro ⟨i, h, rfl⟩
    exact ⟨i, [], by lia, ch0.mpr rfl, by simp⟩
theorem ch2 {many : Nat} {w : List Int} : w ∈ chL 2 many ↔ ∃ i j : Nat, i < j ∧ j < many ∧ w = [(i : Int), (j : Int)] := by
  show w ∈ chS (chL 1) 1 (many - 1) ↔ _
  rw [chS_iff]
  constructor
  · rintro ⟨j, way, h1, h2, rfl⟩
    obtain ⟨i, h3, rfl⟩ := ch1.mp h2
    exact ⟨i, 1 + j, by lia, by lia, rfl⟩
  · rintro ⟨i, j, h1, h2, rfl⟩
    exact ⟨j - 1, [(i : Int)], by lia, ch1.mpr ⟨i, by lia, rfl⟩, by rw [show 1 + (j - 1) = j by lia]; rfl⟩
theorem ch3 {many : Nat} {w : List Int} : w ∈ chL 3 many ↔ ∃ i j l : Nat, i < j ∧ j < l ∧ l < many ∧ w = [(i : Int), (j : Int), (l : Int)] := by
  show w ∈ chS (chL 2) 2 (many - 2) ↔ _
  rw [chS_iff]
  constructor
  · rintro ⟨j, way, h1, h2, rfl⟩
    obtain ⟨i, i', h3, h4, rfl⟩ := ch2.mp h2
    exact ⟨i, i', 2 + j, h3, by lia, by lia, rfl⟩
  · rintro ⟨i, j, l, h1, h2, h3, rfl⟩
    exact ⟨l - 2, [(i : Int), (j : Int)], by lia, ch2.mpr ⟨i, j, h1, by lia, rfl⟩, by rw [show 2 + (l - 2) = l by lia]; rfl⟩
/-- determinants written out -/
theorem detS_s (f : IMat → Int) (g : IMat) (k : Nat) : detS f g (k + 1) = detS f g k + (1 - 2 * ((k : Int).fmod 2)) * (hd0 g).getD k 0 * f (minorL g k) := by
  rw [detS_succ]
  split
  · rfl
  · rename_i h
    have : (hd0 g).getD k 0 = 0 := by simpa using h
    rw [this]; simp
theorem detS_z (f : IMat → Int) (g : IMat) : detS f g 0 = 0 := rfl
theorem det1 (a : Int) : detL 1 [[a]] = a := by
  show detS (detL 0) [[a]] (0 + 1) = a
  rw [detS_s, detS_z]
  show 0 + (1 - 2 * 0) * a * 1 = a
  grind
theorem det2 (a b c d : Int) : detL 2 [[a, b], [c, d]] = a * d - b * c := by
  show detS (detL 1) [[a, b], [c, d]] (0 + 1 + 1) = _
  rw [detS_s, detS_s, detS_z]
  show 0 + (1 - 2 * 0) * a * detL 1 [[d]] + (1 - 2 * 1) * b * detL 1 [[c]] = _
  rw [det1, det1]; grind
theorem det3 (a b c d e f p q r : Int) : detL 3 [[a, b, c], [d, e, f], [p, q, r]] = a * (e * r - f * q) - b * (d * r - f * p) + c * (d * q - e * p) := by
  show detS (detL 2) [[a, b, c], [d, e, f], [p, q, r]] (0 + 1 + 1 + 1) = _
  rw [detS_s, detS_s, detS_s, detS_z]
  show 0 + (1 - 2 * 0) * a * detL 2 [[e, f], [q, r]] + (1 - 2 * 1) * b * detL 2 [[d, f], [p, r]] + (1 - 2 * 0) * c * detL 2 [[d, e], [p, q]] = _
  rw [det2, det2, det2]; grind
theorem cast0 {x : Int} : ((x : Rat) = 0) ↔ x = 0 := by
  constructor
  · intro h; exact Rat.intCast_inj.mp h
  · rintro rfl; rfl
def gi (g : IMat) (i j : Nat) : Int := (g.getD i []).getD j 0
def gr (g : IMat) : RF := fun i j => ((gi g i j : Int) : Rat)
theorem sub1 (g : IMat) (i a : Nat) : ((detL 1 (subL g [(i : Int)] [(a : Int)]) : Int) : Rat) = gr g i a := by
  show ((detL 1 [[gi g i a]] : Int) : Rat) = _
  rw [det1]; rfl
theorem sub2 (g : IMat) (i j a b : Nat) : ((detL 2 (subL g [(i : Int), (j : Int)] [(a : Int), (b : Int)]) : Int) : Rat) = d2 (gr g) i j a b := by
  show ((detL 2 [[gi g i a, gi g i b], [gi g j a, gi g j b]] : Int) : Rat) = _
  rw [det2]; unfold d2 gr
  rw [Rat.intCast_sub, Rat.intCast_mul, Rat.intCast_mul]
theorem sub3 (g : IMat) (i j l a b c : Nat) : ((detL 3 (subL g [(i : Int), (j : Int), (l : Int)] [(a : Int), (b : Int), (c : Int)]) : Int) : Rat) = d3 (gr g) i j l a b c := by
  show ((detL 3 [[gi g i a, gi g i b, gi g i c], [gi g j a, gi g j b, gi g j c], [gi g l a, gi g l b, gi g l c]] : Int) : Rat) = _
  rw [det3]; unfold d3 d2 gr
  simp only [Rat.intCast_sub, Rat.intCast_mul, Rat.intCast_add]
theorem nz_iff0 {g : IMat} {w k : Nat} : nzP g w k = [] ↔ ∀ lines ∈ chL k g.length, ∀ sp ∈ chL k w, detL k (subL g lines sp) = 0 := by
  unfold nzP
  rw [List.filter_eq_nil_iff]
  constructor
  · intro H lines h1 sp h2
    have := H (subL g lines sp) (List.mem_flatMap.mpr ⟨lines, h1, List.mem_map.mpr ⟨sp, h2, rfl⟩⟩)
    simpa using this
  · intro H p hp
    obtain ⟨lines, h1, h2⟩ := List.mem_flatMap.mp hp
    obtain ⟨sp, h3, rfl⟩ := List.mem_map.mp h2
    simpa using H lines h1 sp h3
theorem gr_out {g : IMat} {i : Nat} (h : g.length ≤ i) (j : Nat) : gr g i j = 0 := by
  unfold gr gi
  rw [List.getD_eq_getElem?_getD (l := g), List.getElem?_eq_none h]; rfl
theorem nz_iff {g : IMat} {w : Nat} : ∀ k, 0 < k → k ≤ 3 → (nzP g w k = [] ↔ Zm (gr g) w k)
  | 0, h, _ => absurd h (Nat.lt_irrefl _)
  | 1, _, _ => by
    rw [nz_iff0]
    constructor
    · intro H i j hj
      by_cases hi : i < g.length
      · rw [← sub1, H _ (ch1.mpr ⟨i, hi, rfl⟩) _ (ch1.mpr ⟨j, hj, rfl⟩)]; rfl
      · exact gr_out (by lia) j
    · intro z lines h1 sp h2
      obtain ⟨i, hi, rfl⟩ := ch1.mp h1
      obtain ⟨j, hj, rfl⟩ := ch1.mp h2
      rw [← cast0, sub1]; exact z i j hj
  | 2, _, _ => by
    rw [nz_iff0]
    constructor
    · intro H i1 i2 j1 j2 h1 h2
      by_cases a : i1 < g.length
      · by_cases b : i2 < g.length
        · refine alt2 (f := fun i1 i2 => d2 (gr g) i1 i2 j1 j2) (n := g.length) (fun i j => by unfold d2; grind) (fun i1 i2 hi hi2 => ?_) i1 i2 a b
          refine alt2 (f := fun j1 j2 => d2 (gr g) i1 i2 j1 j2) (n := w) (fun i j => by unfold d2; grind) (fun j1 j2 hj hj2 => ?_) j1 j2 h1 h2
          show d2 (gr g) i1 i2 j1 j2 = 0
          rw [← sub2, H _ (ch2.mpr ⟨i1, i2, hi, hi2, rfl⟩) _ (ch2.mpr ⟨j1, j2, hj, hj2, rfl⟩)]; rfl
        · unfold d2; rw [gr_out (i := i2) (by lia), gr_out (i := i2) (by lia)]; grind
      · unfold d2; rw [gr_out (i := i1) (by lia), gr_out (i := i1) (by lia)]; grind
    · intro z lines h1 sp h2
      obtain ⟨i1, i2, hi, hi2, rfl⟩ := ch2.mp h1
      obtain ⟨j1, j2, hj, hj2, rfl⟩ := ch2.mp h2
      rw [← cast0, sub2]; exact z i1 i2 j1 j2 (by lia) hj2
  | 3, _, _ => by
    rw [nz_iff0]
    constructor
    · intro H i1 i2 i3 j1 j2 j3 h1 h2 h3
      by_cases a : i1 < g.length
      · by_cases b : i2 < g.length
        · by_cases c : i3 < g.length
          · refine alt3 (f := fun i1 i2 i3 => d3 (gr g) i1 i2 i3 j1 j2 j3) (n := g.length) (fun i j k => by unfold d3 d2; grind) (fun i j k => by unfold d3 d2; grind) (fun i1 i2 i3 hi hi2 hi3 => ?_) i1 i2 i3 a b c
            refine alt3 (f := fun j1 j2 j3 => d3 (gr g) i1 i2 i3 j1 j2 j3) (n := w) (fun i j k => by unfold d3 d2; grind) (fun i j k => by unfold d3 d2; grind) (fun j1 j2 j3 hj hj2 hj3 => ?_) j1 j2 j3 h1 h2 h3
            show d3 (gr g) i1 i2 i3 j1 j2 j3 = 0
            rw [← sub3, H _ (ch3.mpr ⟨i1, i2, i3, hi, hi2, hi3, rfl⟩) _ (ch3.mpr ⟨j1, j2, j3, hj, hj2, hj3, rfl⟩)]; rfl
          · unfold d3 d2; simp only [gr_out (i := i3) (g := g) (by lia)]; grind
        · unfold d3 d2; simp only [gr_out (i := i2) (g := g) (by lia)]; grind
      · unfold d3 d2; simp only [gr_out (i := i1) (g := g) (by lia)]; grind
    · intro z lines h1 sp h2
      obtain ⟨i1, i2, i3, hi, hi2, hi3, rfl⟩ := ch3.mp h1
      obtain ⟨j1, j2, j3, hj, hj2, hj3, rfl⟩ := ch3.mp h2
      rw [← cast0, sub3]; exact z i1 i2 i3 j1 j2 j3 (by lia) (by lia) hj3
  | k + 4, _, h => by lia
theorem rankT_eq {g : IMat} {w p : Nat} (H : ∀ k, 0 < k → k ≤ 3 → (Zm (gr g) w k ↔ p < k)) : ∀ n, n ≤ 3 → p ≤ n → rankT g w n = p
  | 0, _, h => by show 0 = p; lia
  | n + 1, hn, h => by
    rw [rankT]
    by_cases e : p = n + 1
    · rw [if_neg (fun hz => by have := (H (n + 1) (by lia) hn).mp ((nz_iff _ (by lia) hn).mp hz); lia)]; exact e.symm
    · rw [if_pos ((nz_iff _ (by lia) hn).mpr ((H (n + 1) (by lia) hn).mpr (by lia)))]
      exact rankT_eq H n (by lia) (by lia)
end Mine

namespace Mine
def dotF (u v : Nat → Rat) : Nat → Rat
  | 0 => 0
  | n + 1 => dotF u v n + u n * v n
theorem dotM_eq (r c : List Rat) : ∀ n, dotM r c n = dotF (fun j => r.getD j 0) (fun j => c.getD j 0) n
  | 0 => rfl
  | n + 1 => by
    have : dotM r c (n + 1) = dotM r c n + r.getD n 0 * c.getD n 0 := by unfold dotM; rw [List.range_succ, List.foldl_append]; rfl
    rw [this, dotM_eq r c n]; rfl
theorem dotF_lin {u v a b c : Nat → Rat} {x y z : Rat} : ∀ n, (∀ j, j < n → u j = x * a j + y * b j + z * c j) → dotF u v n = x * dotF a v n + y * dotF b v n + z * dotF c v n
  | 0, _ => by simp only [dotF]; grind
  | n + 1, h => by
    simp only [dotF]
    rw [dotF_lin n (fun j hj => h j (by lia)), h n (by lia)]; grind
theorem dotF_zero {u v : Nat → Rat} : ∀ n, (∀ j, j < n → u j = 0) → dotF u v n = 0
  | 0, _ => rfl
  | n + 1, h => by simp only [dotF]; rw [dotF_zero n (fun j hj => h j (by lia)), h n (by lia)]; grind
theorem dotF_zero2 {u v : Nat → Rat} : ∀ n, (∀ j, j < n → v j = 0) → dotF u v n = 0
  | 0, _ => rfl
  | n + 1, h => by simp only [dotF]; rw [dotF_zero2 n (fun j hj => h j (by lia)), h n (by lia)]; grind
theorem dotF_upd {u v v' : Nat → Rat} {c : Nat} {t : Rat} (h : ∀ j, v' j = if j = c then t else v j) : ∀ n, dotF u v' n = dotF u v n + if c < n then u c * (t - v c) else 0
  | 0 => by simp only [dotF]; rw [if_neg (by lia)]; grind
  | n + 1 => by
    simp only [dotF]
    rw [dotF_upd h n, h n]
    by_cases h1 : c < n
    · rw [if_pos h1, if_neg (by lia), if_pos (by lia)]; grind
    · by_cases h2 : n = c
      · subst h2; rw [if_neg h1, if_pos rfl, if_pos (by lia)]; grind
      · rw [if_neg h1, if_neg h2, if_neg (by lia)]; grind
theorem set_getD {l : List Rat} {c : Nat} {t : Rat} (hc : c < l.length) (j : Nat) : (l.set c t).getD j 0 = if j = c then t else l.getD j 0 := by
  rw [List.getD_eq_getElem?_getD, List.getD_eq_getElem?_getD, List.getElem?_set]
  by_cases h : c = j
  · subst h; simp [hc]
  · rw [if_neg h, if_neg (Ne.symm h)]
theorem rep_getD {w j : Nat} : (List.replicate w (0 : Rat)).getD j 0 = 0 := by
  rw [List.getD_eq_getElem?_getD, List.getElem?_replicate]
  split <;> rfl
/-- what the reduced matrix is -/
structure Red (h w n : Nat) (E : Mat) (piv : List Nat) : Prop where
  le : piv.length ≤ h
  lt : ∀ k, k < piv.length → piv.getD k 0 < w
  unit : ∀ k, k < piv.length → ∀ i, i < h → ent E i (piv.getD k 0) = if i = k then 1 else 0
theorem Red.ne {h w n : Nat} {E : Mat} {piv : List Nat} (R : Red h w n E piv) {k l : Nat} (hk : k < piv.length) (hl : l < piv.length) (e : k ≠ l) : piv.getD k 0 ≠ piv.getD l 0 := by
  intro h0
  have h1 := R.unit k hk k (by have := R.le; lia)
  have h2 := R.unit l hl k (by have := R.le; lia)
  rw [h0, h2, if_neg e, if_pos rfl] at h1
  exact absurd h1 (by decide)
theorem solV_get {h w n : Nat} {E : Mat} {piv : List Nat} (R : Red h w n E piv) : ∀ q, q ≤ piv.length → ∀ j, (∀ k, k < q → piv.getD k 0 ≠ j) → (solV E piv w q).getD j 0 = 0
  | 0, _, j, _ => rep_getD
  | q + 1, hq, j, hj => by
    rw [solV, set_getD (by rw [solV_len]; exact R.lt q hq), if_neg (Ne.symm (hj q (by lia)))]
    exact solV_get R q (by lia) j (fun k hk => hj k (by lia))
theorem solV_dot {h w n : Nat} {E : Mat} {piv : List Nat} (R : Red h w n E piv) {i : Nat} (hi : i < h) : ∀ q, q ≤ piv.length → dotF (ent E i) (fun j => (solV E piv w q).getD j 0) w = if i < q then ent E i w else 0
  | 0, _ => by rw [if_neg (by lia)]; exact dotF_zero2 w (fun j _ => rep_getD)
  | q + 1, hq => by
    rw [dotF_upd (v := fun j => (solV E piv w q).getD j 0) (c := piv.getD q 0) (t := ent E q w) (fun j => by rw [solV, set_getD (by rw [solV_len]; exact R.lt q hq)]),
      solV_dot R hi q (by lia), if_pos (R.lt q hq), R.unit q hq i hi]
    show (if i < q then ent E i w else 0) + (if i = q then 1 else 0) * (ent E q w - (solV E piv w q).getD (piv.getD q 0) 0) = _
    rw [solV_get R q (by lia) _ (fun k hk => R.ne (by lia) hq (by lia))]
    by_cases h1 : i < q
    · rw [if_pos h1, if_neg (by lia), if_pos (by lia)]; grind
    · by_cases h2 : i = q
      · subst h2; rw [if_neg h1, if_pos rfl, if_pos (by lia)]; grind
      · rw [if_neg h1, if_neg h2, if_neg (by lia)]; grind
theorem nullV_get {h w n c : Nat} {E : Mat} {piv : List Nat} (R : Red h w n E piv) (hc : c < w) : ∀ q, q ≤ piv.length → ∀ j, (∀ k, k < q → piv.getD k 0 ≠ j) → (nullV E piv w c q).getD j 0 = if j = c then 1 else 0
  | 0, _, j, _ => by rw [nullV, set_getD (by rw [List.length_replicate]; exact hc), rep_getD]
  | q + 1, hq, j, hj => by
    rw [nullV, set_getD (by rw [nullV_len]; exact R.lt q hq), if_neg (Ne.symm (hj q (by lia)))]
    exact nullV_get R hc q (by lia) j (fun k hk => hj k (by lia))
theorem nullV_dot {h w n c : Nat} {E : Mat} {piv : List Nat} (R : Red h w n E piv) (hc : c < w) (hp : ∀ k, k < piv.length → piv.getD k 0 ≠ c) {i : Nat} (hi : i < h) : ∀ q, q ≤ piv.length → dotF (ent E i) (fun j => (nullV E piv w c q).getD j 0) w = ent E i c - if i < q then ent E i c else 0
  | 0, _ => by
    rw [if_neg (by lia), dotF_upd (v := fun j => (List.replicate w (0 : Rat)).getD j 0) (c := c) (t := 1) (fun j => by rw [nullV, set_getD (by rw [List.length_replicate]; exact hc)]),
      dotF_zero2 w (fun j _ => rep_getD), if_pos hc]
    show (0 : Rat) + ent E i c * (1 - (List.replicate w (0 : Rat)).getD c 0) = _
    rw [rep_getD]; grind
  | q + 1, hq => by
    rw [dotF_upd (v := fun j => (nullV E piv w c q).getD j 0) (c := piv.getD q 0) (t := -(ent E q c)) (fun j => by rw [nullV, set_getD (by rw [nullV_len]; exact R.lt q hq)]),
      nullV_dot R hc hp hi q (by lia), if_pos (R.lt q hq), R.unit q hq i hi]
    show (ent E i c - if i < q then ent E i c else 0) + (if i = q then 1 else 0) * (-(ent E q c) - (nullV E piv w c q).getD (piv.getD q 0) 0) = _
    rw [nullV_get R hc q (by lia) _ (fun k hk => R.ne (by lia) hq (by lia)), if_neg (hp q hq)]
    by_cases h1 : i < q
    · rw [if_pos h1, if_neg (by lia), if_pos (by lia)]; grind
    · by_cases h2 : i = q
      · subst h2; rw [if_neg h1, if_pos rfl, if_pos (by lia)]; grind
      · rw [if_neg h1, if_neg h2, if_neg (by lia)]; grind
theorem mulM_col {h m : Nat} {a : Mat} {x : List Rat} (H : Rect h m a) (hx : x.length = m) (hm : 0 < m) : mulM a (colM x) = a.map fun r => [dotM r x m] := by
  have hw : wid (colM x) = 1 := by
    cases x with
    | nil => simp at hx; lia
    | cons q x => rfl
  have ht : trM (colM x) = [x] := by
    unfold trM
    rw [hw]
    show [(colM x).map fun r => r.getD 0 0] = [x]
    unfold colM
    rw [List.map_map]
    congr 1
    have : ((fun r : List Rat => r.getD 0 0) ∘ fun q : Rat => [q]) = id := rfl
    rw [this, List.map_id]
  unfold mulM
  rw [ht]
  apply List.map_congr_left
  intro r hr
  rw [H.2 r hr]; rfl
theorem red_of {h m n w : Nat} {A : Mat} {st : Mat × List Nat} (R : RInv h m n A st) (hw : ∀ c ∈ st.2, c < w) : Red h w n st.1 st.2 :=
  ⟨R.inv.le, fun k hk => hw _ (getD_mem hk), R.unit⟩
/-- the base goes to 0 -/
theorem null_zero {h m : Nat} {A : Mat} (H : EOk h m 10 A) (hh : 0 < h) (hh3 : h ≤ 3) (hm : 0 < m) : ∀ c ∈ nullM A, ∀ r ∈ mulM A (colM c), r = [0] := by
  intro v hv r hr
  have R := rinv H hh3 m (Nat.le_refl _)
  have hw := H.rect.wid hh
  have hech : ech A = echTo A m := by unfold ech; rw [hw]
  unfold nullM at hv
  rw [hw, hech] at hv
  obtain ⟨c, hc, rfl⟩ := List.mem_map.mp hv
  obtain ⟨hc1, hc2⟩ := List.mem_filter.mp hc
  have hcm := List.mem_range.mp hc1
  have RR := red_of R R.inv.lt
  have hcp : ∀ k, k < (echTo A m).2.length → (echTo A m).2.getD k 0 ≠ c := fun k hk e => by
    have := getD_mem hk
    rw [e] at this
    simp [this] at hc2
  rw [mulM_col H.rect (nullV_len _ _ _ _ _) hm] at hr
  obtain ⟨row, h1, rfl⟩ := List.mem_map.mp hr
  obtain ⟨i, hi, rfl⟩ := List.getElem_of_mem h1
  rw [H.rect.1] at hi
  rw [dotM_eq]
  have e : ∀ j, A[i].getD j 0 = ent A i j := fun j => by
    unfold ent mrow
    rw [List.getD_eq_getElem?_getD (l := A), List.getElem?_eq_getElem (by rw [H.rect.1]; exact hi)]; rfl
  obtain ⟨x, y, z, hg⟩ := R.g2 i
  rw [dotF_lin (a := ent (echTo A m).1 0) (b := ent (echTo A m).1 1) (c := ent (echTo A m).1 2) (x := x) (y := y) (z := z) m (fun j _ => by rw [e, hg])]
  have rowz : ∀ i, dotF (ent (echTo A m).1 i) (fun j => (nullV (echTo A m).1 (echTo A m).2 m c (echTo A m).2.length).getD j 0) m = 0 := fun i => by
    by_cases hi : i < (echTo A m).2.length
    · rw [nullV_dot RR hcm hcp (by have := RR.le; lia) _ (Nat.le_refl _), if_pos hi]; grind
    · exact dotF_zero m (fun j hj => R.zero i (by lia) j hj)
  rw [rowz, rowz, rowz]
  congr 1
  grind
/-- the widened matrix -/
theorem aug_ent {h m : Nat} {A : Mat} {b : List Rat} (H : Rect h m A) {i : Nat} (hi : i < h) : (∀ j, j < m → ent (augM A b) i j = ent A i j) ∧ ent (augM A b) i m = b.getD i 0 := by
  have e : mrow (augM A b) i = mrow A i ++ [b.getD i 0] := by
    unfold mrow augM
    rw [List.getD_eq_getElem?_getD, List.getElem?_map, List.getElem?_range (by rw [H.1]; exact hi)]; rfl
  have hl := (H.row hi).2.1
  constructor
  · intro j hj
    unfold ent
    rw [e, List.getD_eq_getElem?_getD, List.getElem?_append_left (by lia), ← List.getD_eq_getElem?_getD]
  · unfold ent
    rw [e, List.getD_eq_getElem?_getD, List.getElem?_append_right (by lia), hl]; simp
theorem sol_ok {h m : Nat} {A : Mat} {b x : List Rat} (H : EOk h m 10 A) (hh : 0 < h) (hh3 : h ≤ 3) (hm : 0 < m) (hb : b.length = h) (hs : ∀ q ∈ b, Sz 10 q) (e : solM A b = some x) : mulM A (colM x) = b.map fun q => [q] := by
  have HU := augM_ok H hb hs
  have R := rinv HU hh3 (m + 1) (Nat.le_refl _)
  have hw := H.rect.wid hh
  have hech : ech (augM A b) = echTo (augM A b) (m + 1) := by unfold ech; rw [HU.rect.wid hh]
  unfold solM at e
  rw [hw, hech] at e
  generalize echTo (augM A b) (m + 1) = st at *
  split at e
  · cases e
  · rename_i hnm
    cases e
    have RR := red_of R (w := m) (fun c hc => by
      have h1 := R.inv.lt c hc
      have h2 : c ≠ m := fun e => hnm (e ▸ hc)
      lia)
    rw [mulM_col H.rect (solV_len _ _ _ _) hm]
    apply List.ext_getElem?
    intro i
    rw [List.getElem?_map, List.getElem?_map]
    by_cases hi : i < h
    · have hia : i < A.length := by rw [H.rect.1]; exact hi
      have hib : i < b.length := by lia
      rw [List.getElem?_eq_getElem hia, List.getElem?_eq_getElem hib]
      show some [dotM A[i] _ m] = some [b[i]]
      congr 2
      rw [dotM_eq]
      have e : ∀ j, A[i].getD j 0 = ent A i j := fun j => by
        unfold ent mrow
        rw [List.getD_eq_getElem?_getD (l := A), List.getElem?_eq_getElem hia]; rfl
      obtain ⟨a1, a2⟩ := aug_ent (b := b) H.rect hi
      obtain ⟨p, q, t, hg⟩ := R.g2 i
      rw [dotF_lin (a := ent st.1 0) (b := ent st.1 1) (c := ent st.1 2) (x := p) (y := q) (z := t) m (fun j hj => by rw [e, ← a1 j hj, hg])]
      have rowz : ∀ i, dotF (ent st.1 i) (fun j => (solV st.1 st.2 m st.2.length).getD j 0) m = ent st.1 i m := fun i => by
        by_cases hi : i < st.2.length
        · rw [solV_dot RR (by have := RR.le; lia) _ (Nat.le_refl _), if_pos hi]
        · rw [R.zero i (by lia) m (by lia)]
          exact dotF_zero m (fun j hj => R.zero i (by lia) j (by lia))
      rw [rowz, rowz, rowz, ← hg m, a2, List.getD_eq_getElem?_getD, List.getElem?_eq_getElem hib]; rfl
    · rw [List.getElem?_eq_none (by rw [H.rect.1]; lia), List.getElem?_eq_none (by lia)]; rfl
end Mine

namespace Mine
theorem toQ_ent (g : IMat) (i j : Nat) : ent (toQ g) i j = gr g i j := by
  unfold ent mrow toQ gr gi
  rw [List.getD_eq_getElem?_getD (l := g.map _), List.getElem?_map, List.getD_eq_getElem?_getD (l := g)]
  cases g[i]? with
  | none => rfl
  | some r =>
    show (r.map i2q).getD j 0 = ((r.getD j 0 : Int) : Rat)
    rw [List.getD_eq_getElem?_getD, List.getElem?_map, List.getD_eq_getElem?_getD]
    cases r[j]? <;> rfl
theorem toQ_aug {g : IMat} {goal : List Int} (h : goal.length = g.length) : toQ (augI g goal) = augM (toQ g) (goal.map i2q) := by
  unfold augI augM toQ
  rw [List.map_map, List.length_map]
  apply List.map_congr_left
  intro i hi
  have hi' := List.mem_range.mp hi
  show (g.getD i [] ++ [goal.getD i 0]).map i2q = _
  rw [List.map_append, List.getD_eq_getElem?_getD, List.getD_eq_getElem?_getD (l := g.map _), List.getElem?_map, List.getElem?_eq_getElem hi', List.getD_eq_getElem?_getD (l := goal), List.getD_eq_getElem?_getD (l := goal.map _), List.getElem?_map, List.getElem?_eq_getElem (by lia)]
  rfl
theorem rank_of {g : IMat} {w p : Nat} (hg : g.length ≤ 3) (hp : p ≤ g.length) (hw : p ≤ w) (H : ∀ k, 0 < k → k ≤ 3 → (Zm (gr g) w k ↔ p < k)) : rankL g w = p :=
  rankT_eq H _ (by lia) (by lia)
theorem cnt_le {h m n : Nat} {A : Mat} {st : Mat × List Nat} (R : RInv h m n A st) : st.2.length ≤ n := by have := R.cnt; lia
theorem rank_ech {h m n w : Nat} {g : IMat} {U : Mat} {st : Mat × List Nat} (hg : g.length = h) (hh3 : h ≤ 3) (R : RInv h m n U st) (e : ∀ i j, j < n → gr g i j = ent U i j) : rankL g n = st.2.length := by
  refine rank_of (by lia) (by rw [hg]; exact R.inv.le) (cnt_le R) (fun k h0 h3 => ?_)
  rw [← piv_rank R h3 h0]
  exact ⟨Zm.congr (fun i j hj => (e i j hj).symm) k, Zm.congr e k⟩
theorem step_cases (st : Mat × List Nat) (c : Nat) : (estep st c).2 = st.2 ∨ (estep st c).2 = st.2 ++ [c] := by
  unfold estep
  split
  · exact .inl rfl
  · exact .inr rfl
theorem law_fine {h m : Nat} {g : IMat} {goal : List Int} (hg : Rect h m g) (hl : goal.length = h) (hh : 0 < h) (hh3 : h ≤ 3) (hgb : ∀ r ∈ g, ∀ x ∈ r, x.natAbs < 1024) (hlb : ∀ x ∈ goal, x.natAbs < 1024) :
    (solM (toQ g) (goal.map i2q) = none) ↔ rankL (augI g goal) (m + 1) ≠ rankL g m := by
  have HA := toQ_ok hg hgb
  have HU : EOk h (m + 1) 10 (augM (toQ g) (goal.map i2q)) := augM_ok HA (by rw [List.length_map]; exact hl) (fun x hx => by
    obtain ⟨z, h1, rfl⟩ := List.mem_map.mp hx
    exact sz_i2q (hlb z h1))
  have R1 := rinv HU hh3 (m + 1) (Nat.le_refl _)
  have R0 := rinv HU hh3 m (Nat.le_succ _)
  have hw := HA.rect.wid hh
  have e1 : rankL (augI g goal) (m + 1) = (echTo (augM (toQ g) (goal.map i2q)) (m + 1)).2.length := by
    refine rank_ech (w := 0) (by unfold augI; rw [List.length_map, List.length_range]; exact hg.1) hh3 R1 (fun i j _ => ?_)
    rw [← toQ_aug (by rw [hl, hg.1]), toQ_ent]
  have e0 : rankL g m = (echTo (augM (toQ g) (goal.map i2q)) m).2.length := by
    refine rank_ech (w := 0) hg.1 hh3 R0 (fun i j hj => ?_)
    rw [← toQ_ent]
    by_cases hi : i < h
    · exact ((aug_ent HA.rect hi).1 j hj).symm
    · rw [ent_out HA.rect (by lia), ent_out HU.rect (by lia)]
  rw [e1, e0]
  have hech : ech (augM (toQ g) (goal.map i2q)) = echTo (augM (toQ g) (goal.map i2q)) (m + 1) := by unfold ech; rw [HU.rect.wid hh]
  unfold solM
  rw [hw, hech]
  rw [echTo_succ] at R1 ⊢
  have lt0 := R0.inv.lt
  rcases step_cases (echTo (augM (toQ g) (goal.map i2q)) m) m with e | e
  · have hn : m ∉ (estep (echTo (augM (toQ g) (goal.map i2q)) m) m).2 := by rw [e]; exact fun hm => Nat.lt_irrefl _ (lt0 m hm)
    rw [if_neg hn, e]
    constructor
    · intro h; cases h
    · intro h; exact absurd rfl h
  · have hn : m ∈ (estep (echTo (augM (toQ g) (goal.map i2q)) m) m).2 := by rw [e]; simp
    rw [if_pos hn, e, List.length_append]
    constructor
    · intro _ h; simp at h
    · intro _; rfl
theorem law_base {h m : Nat} {g : IMat} (hg : Rect h m g) (hh : 0 < h) (hh3 : h ≤ 3) (hgb : ∀ r ∈ g, ∀ x ∈ r, x.natAbs < 1024) : (nullM (toQ g)).length + rankL g m = m := by
  have HA := toQ_ok hg hgb
  have R := rinv HA hh3 m (Nat.le_refl _)
  have hw := HA.rect.wid hh
  have hech : ech (toQ g) = echTo (toQ g) m := by unfold ech; rw [hw]
  rw [rank_ech (w := 0) hg.1 hh3 R (fun i j _ => (toQ_ent g i j).symm)]
  unfold nullM
  rw [hw, hech, List.length_map]
  exact R.cnt
/-- cleared rows -/
theorem manyN_pos (row : List Rat) : ∀ n, 0 < manyN row n
  | 0 => Nat.one_pos
  | n + 1 => Nat.mul_pos (manyN_pos row n) (Nat.pos_of_ne_zero (row.getD n 0).den_nz)
theorem den_dvd (row : List Rat) {j : Nat} : ∀ n, j < n → (row.getD j 0).den ∣ manyN row n
  | 0, h => absurd h (Nat.not_lt_zero _)
  | n + 1, h => by
    by_cases e : j = n
    · subst e; exact Nat.dvd_mul_left _ _
    · exact Nat.dvd_trans (den_dvd row n (by lia)) (Nat.dvd_mul_right _ _)
theorem mul_den (q : Rat) : ((q.num : Int) : Rat) = q * ((q.den : Nat) : Rat) := by
  have h := (Rat.divInt_eq_div q.num q.den).symm.trans (Rat.num_divInt_den q)
  have e : (((q.den : Nat) : Int) : Rat) = ((q.den : Nat) : Rat) := rfl
  rw [e] at h
  have h0 : ((q.den : Nat) : Rat) ≠ 0 := fun h => q.den_nz (Rat.natCast_inj.mp (h.trans rfl))
  grind
theorem clr_get {row : List Rat} {j : Nat} (hj : j < row.length) : (((clrRow row).getD j 0 : Int) : Rat) = row.getD j 0 * ((manyN row row.length : Nat) : Rat) := by
  have e : (clrRow row).getD j 0 = (row.getD j 0).num * ((manyN row row.length : Nat) : Int).fdiv ((row.getD j 0).den : Int) := by
    unfold clrRow
    rw [List.getD_eq_getElem?_getD, List.getElem?_map, List.getD_eq_getElem?_getD (l := row), List.getElem?_eq_getElem hj]; rfl
  rw [e, fdiv_nat]
  obtain ⟨t, ht⟩ := den_dvd row row.length hj
  have hd : 0 < (row.getD j 0).den := Nat.pos_of_ne_zero (row.getD j 0).den_nz
  rw [ht, Nat.mul_div_cancel_left _ hd, Rat.intCast_mul, Rat.natCast_mul, mul_den (row.getD j 0)]
  have : (((t : Nat) : Int) : Rat) = ((t : Nat) : Rat) := rfl
  rw [this]; grind
theorem zm_diag {M : RF} {w : Nat} {c : Nat → Nat} {μ : Nat → Rat} {k : Nat} (hμ : ∀ i, i < k → μ i ≠ 0) (u : ∀ i l, i < k → l < k → M i (c l) = if i = l then μ i else 0) (hc : ∀ l, l < k → c l < w) (hk : k ≤ 3) : ¬ Zm M w k := by
  intro z
  rcases k with _ | _ | _ | _ | k
  · exact z
  · have := z 0 (c 0) (hc 0 (by lia))
    rw [u 0 0 (by lia) (by lia)] at this
    exact hμ 0 (by lia) (by simpa using this)
  · have := z 0 1 (c 0) (c 1) (hc 0 (by lia)) (hc 1 (by lia))
    unfold d2 at this
    rw [u 0 0 (by lia) (by lia), u 0 1 (by lia) (by lia), u 1 0 (by lia) (by lia), u 1 1 (by lia) (by lia)] at this
    have h0 := hμ 0 (by lia)
    have h1 := hμ 1 (by lia)
    grind
  · have := z 0 1 2 (c 0) (c 1) (c 2) (hc 0 (by lia)) (hc 1 (by lia)) (hc 2 (by lia))
    unfold d3 d2 at this
    rw [u 0 0 (by lia) (by lia), u 0 1 (by lia) (by lia), u 0 2 (by lia) (by lia), u 1 0 (by lia) (by lia), u 1 1 (by lia) (by lia), u 1 2 (by lia) (by lia),
      u 2 0 (by lia) (by lia), u 2 1 (by lia) (by lia), u 2 2 (by lia) (by lia)] at this
    have h0 := hμ 0 (by lia)
    have h1 := hμ 1 (by lia)
    have h2 := hμ 2 (by lia)
    grind
  · lia
theorem law_free {h m : Nat} {A : Mat} (H : EOk h m 10 A) (hh : 0 < h) (hh3 : h ≤ 3) (hm3 : m ≤ 3) (hn : nullM A ≠ []) : rankL (clearedL (nullM A)) m = (nullM A).length := by
  have R := rinv H hh3 m (Nat.le_refl _)
  have hw := H.rect.wid hh
  have hech : ech A = echTo A m := by unfold ech; rw [hw]
  have hd : (nullM A).length ≤ m := nullM_len H.rect hh
  have hd0 : 0 < (nullM A).length := List.ne_nil_iff_length_pos.mp hn
  have hcl : (clearedL (nullM A)).length = (nullM A).length := by unfold clearedL; rw [List.length_map]
  have RR := red_of R R.inv.lt
  have key : ¬ Zm (gr (clearedL (nullM A))) m (nullM A).length := by
    have hN : nullM A = ((List.range m).filter fun c => !(echTo A m).2.contains c).map fun c => nullV (echTo A m).1 (echTo A m).2 m c (echTo A m).2.length := by unfold nullM; rw [hw, hech]
    have hfl : ((List.range m).filter fun c => !(echTo A m).2.contains c).length = (nullM A).length := by rw [hN, List.length_map]
    have hpw : ((List.range m).filter fun c => !(echTo A m).2.contains c).Pairwise (· < ·) := List.pairwise_lt_range.filter _
    have hmem : ∀ c ∈ (List.range m).filter fun c => !(echTo A m).2.contains c, c < m ∧ c ∉ (echTo A m).2 := fun c hc => by
      obtain ⟨h1, h2⟩ := List.mem_filter.mp hc
      exact ⟨List.mem_range.mp h1, by simpa using h2⟩
    generalize ((List.range m).filter fun c => !(echTo A m).2.contains c) = fl at *
    have hf : ∀ l, l < (nullM A).length → fl.getD l 0 < m ∧ fl.getD l 0 ∉ (echTo A m).2 := fun l hl => hmem _ (getD_mem (by lia))
    have hne : ∀ i l, i < (nullM A).length → l < (nullM A).length → fl.getD l 0 = fl.getD i 0 → i = l := fun i l hi hl e => by
      have hi' : i < fl.length := by lia
      have hl' : l < fl.length := by lia
      rw [List.getD_eq_getElem?_getD, List.getElem?_eq_getElem hl', List.getD_eq_getElem?_getD, List.getElem?_eq_getElem hi'] at e
      have e' : fl[l] = fl[i] := e
      rcases Nat.lt_trichotomy i l with q | q | q
      · have := List.pairwise_iff_getElem.mp hpw i l hi' hl' q; lia
      · exact q
      · have := List.pairwise_iff_getElem.mp hpw l i hl' hi' q; lia
    refine zm_diag (c := fun l => fl.getD l 0) (μ := fun i => ((manyN (nullV (echTo A m).1 (echTo A m).2 m (fl.getD i 0) (echTo A m).2.length) m : Nat) : Rat)) (fun i hi => ?_) (fun i l hi hl => ?_) (fun l hl => (hf l hl).1) (by lia)
    · have := manyN_pos (nullV (echTo A m).1 (echTo A m).2 m (fl.getD i 0) (echTo A m).2.length) m
      intro h0
      have h1 : ((manyN (nullV (echTo A m).1 (echTo A m).2 m (fl.getD i 0) (echTo A m).2.length) m : Nat) : Rat) = ((0 : Nat) : Rat) := h0
      have := Rat.natCast_inj.mp h1
      lia
    · have hrow : (clearedL (nullM A)).getD i [] = clrRow (nullV (echTo A m).1 (echTo A m).2 m (fl.getD i 0) (echTo A m).2.length) := by
        unfold clearedL
        have hi' : i < fl.length := by lia
        rw [hN, List.map_map, List.getD_eq_getElem?_getD, List.getElem?_map, List.getElem?_eq_getElem hi', List.getD_eq_getElem?_getD (l := fl), List.getElem?_eq_getElem hi']; rfl
      unfold gr gi
      rw [hrow, clr_get (by rw [nullV_len]; exact (hf l hl).1), nullV_len, nullV_get RR (hf i hi).1 _ (Nat.le_refl _) _ (fun k hk e => (hf l hl).2 (by rw [← e]; exact getD_mem hk))]
      by_cases e : i = l
      · subst e; rw [if_pos rfl, if_pos rfl]; grind
      · rw [if_neg e, if_neg (fun q => e (hne i l hi hl q))]; grind
  show rankT (clearedL (nullM A)) m (min (clearedL (nullM A)).length m) = _
  rw [hcl, Nat.min_eq_left hd]
  obtain ⟨d, hdd⟩ : ∃ d, (nullM A).length = d + 1 := ⟨(nullM A).length - 1, by lia⟩
  rw [hdd] at key ⊢
  rw [rankT, if_neg (fun hz => key ((nz_iff _ (by lia) (by lia)).mp hz))]
end Mine

namespace Mine
theorem tr_getD (b : Mat) (j s : Nat) : (b.map fun r => r.getD j 0).getD s 0 = ent b s j := by
  unfold ent mrow
  rw [List.getD_eq_getElem?_getD, List.getElem?_map, List.getD_eq_getElem?_getD (l := b)]
  cases b[s]? with
  | none => rfl
  | some r => rfl
theorem mulM_ent {h m n : Nat} {a b : Mat} (ha : Rect h m a) (hb : Rect m n b) (hm : 0 < m) : mulM a b = (List.range h).map fun i => (List.range n).map fun j => dotF (ent a i) (fun s => ent b s j) m := by
  unfold mulM trM
  rw [hb.wid hm]
  apply List.ext_getElem?
  intro i
  rw [List.getElem?_map, List.getElem?_map]
  by_cases hi : i < h
  · have hia : i < a.length := by rw [ha.1]; exact hi
    rw [List.getElem?_eq_getElem hia, List.getElem?_range hi]
    show some _ = some _
    congr 1
    show List.map (fun c => dotM a[i] c a[i].length) (List.map (fun j => List.map (fun r => r.getD j 0) b) (List.range n)) = _
    rw [List.map_map]
    apply List.map_congr_left
    intro j _
    show dotM a[i] (b.map fun r => r.getD j 0) a[i].length = _
    rw [dotM_eq, ha.2 _ (List.getElem_mem hia)]
    have e1 : (fun j => a[i].getD j 0) = ent a i := by
      funext j
      unfold ent mrow
      rw [List.getD_eq_getElem?_getD (l := a), List.getElem?_eq_getElem hia]; rfl
    have e2 : (fun s => (b.map fun r => r.getD j 0).getD s 0) = fun s => ent b s j := funext fun s => tr_getD b j s
    rw [e1, e2]
  · rw [List.getElem?_eq_none (by rw [ha.1]; lia), List.getElem?_eq_none (by simpa using hi)]; rfl
theorem id_ent {n i j : Nat} (hj : j < n) : ent (idM n) i j = if i = j then 1 else 0 := by
  by_cases hi : i < n
  · unfold ent mrow idM
    rw [List.getD_eq_getElem?_getD (l := List.map _ _), List.getElem?_map, List.getElem?_range hi]
    show ((List.range n).map fun j => if i = j then (1 : Rat) else 0).getD j 0 = _
    rw [List.getD_eq_getElem?_getD, List.getElem?_map, List.getElem?_range hj]; rfl
  · rw [ent_out idM_ok.1 (by lia), if_neg (by lia)]
theorem wide_ent {n : Nat} {A : Mat} (H : EOk n n 10 A) (i : Nat) : (∀ j, j < n → ent (wideM A) i j = ent A i j) ∧ ∀ j, j < n → ent (wideM A) i (n + j) = if i = j then 1 else 0 := by
  have W := wideM_ok H
  by_cases hi : i < n
  · have e : mrow (wideM A) i = mrow A i ++ mrow (idM n) i := by
      unfold mrow wideM
      rw [List.getD_eq_getElem?_getD, List.getElem?_map, List.getElem?_range (by rw [H.rect.1]; exact hi), H.rect.1]; rfl
    have hl := (H.rect.row hi).2.1
    refine ⟨fun j hj => ?_, fun j hj => ?_⟩
    · unfold ent
      rw [e, List.getD_eq_getElem?_getD, List.getElem?_append_left (by lia), ← List.getD_eq_getElem?_getD]
    · rw [← id_ent hj]
      unfold ent
      rw [e, List.getD_eq_getElem?_getD, List.getElem?_append_right (by lia), hl, Nat.add_sub_cancel_left, ← List.getD_eq_getElem?_getD]
  · exact ⟨fun j hj => by rw [ent_out W.rect (by lia), ent_out H.rect (by lia)], fun j hj => by rw [ent_out W.rect (by lia), if_neg (by lia)]⟩
theorem piv_more (U : Mat) (n : Nat) : ∀ q, ∃ rest, (echTo U (n + q)).2 = (echTo U n).2 ++ rest ∧ ∀ c ∈ rest, n ≤ c
  | 0 => ⟨[], by simp, fun c hc => nomatch hc⟩
  | q + 1 => by
    obtain ⟨rest, e, hr⟩ := piv_more U n q
    rw [show n + (q + 1) = (n + q) + 1 by lia, echTo_succ]
    rcases step_cases (echTo U (n + q)) (n + q) with h | h
    · exact ⟨rest, h.trans e, hr⟩
    · refine ⟨rest ++ [n + q], by rw [h, e, List.append_assoc], fun c hc => ?_⟩
      rcases List.mem_append.mp hc with hc | hc
      · exact hr c hc
      · have := List.mem_singleton.mp hc; lia
theorem sorted_range {l : List Nat} {n : Nat} (hn : n ≤ 3) (hl : l.length = n) (hs : l.Pairwise (· < ·)) (hb : ∀ c ∈ l, c < n) : l = List.range n := by
  rcases n with _ | _ | _ | _ | n
  · exact List.eq_nil_of_length_eq_zero hl
  · match l, hl with
    | [a], _ =>
      have := hb a (by simp)
      have e : a = 0 := by lia
      subst e; rfl
  · match l, hl with
    | [a, b], _ =>
      have h1 := hb b (by simp)
      simp at hs
      have e : a = 0 := by lia
      have e' : b = 1 := by lia
      subst e; subst e'; rfl
  · match l, hl with
    | [a, b, c], _ =>
      have h1 := hb c (by simp)
      simp at hs
      have e : a = 0 := by lia
      have e' : b = 1 := by lia
      have e'' : c = 2 := by lia
      subst e; subst e'; subst e''; rfl
  · lia
theorem take_range {piv : List Nat} {n : Nat} (h : (toZ piv).take n = (List.range n).map (fun i : Nat => (0 : Int) + (i : Int))) : n ≤ piv.length ∧ ∀ k, k < n → piv.getD k 0 = k := by
  have hl := congrArg List.length h
  rw [List.length_take, List.length_map, List.length_range] at hl
  unfold toZ at hl h
  rw [List.length_map] at hl
  refine ⟨by lia, fun k hk => ?_⟩
  have := congrArg (fun l : List Int => l[k]?) h
  simp only [List.getElem?_take, List.getElem?_map] at this
  rw [if_pos hk, List.getElem?_range hk, List.getElem?_eq_getElem (by lia)] at this
  rw [List.getD_eq_getElem?_getD, List.getElem?_eq_getElem (by lia)]
  simp at this
  show piv[k] = k
  lia
structure InvCase (n : Nat) (A : Mat) : Prop where
  iff : (toZ (ech (wideM A)).2).take n = (List.range n).map (fun i : Nat => (0 : Int) + (i : Int)) ↔ ¬ Zm (ent A) n n
theorem inv_case {n : Nat} {A : Mat} (H : EOk n n 10 A) (hn : 0 < n) (hn3 : n ≤ 3) : InvCase n A := by
  have HU := wideM_ok H
  have R := rinv HU hn3 (n + n) (Nat.le_refl _)
  have R0 := rinv HU hn3 n (by lia)
  have hech : ech (wideM A) = echTo (wideM A) (n + n) := by unfold ech; rw [HU.rect.wid hn]
  obtain ⟨rest, e, hr⟩ := piv_more (wideM A) n n
  have hz : Zm (ent A) n n ↔ (echTo (wideM A) n).2.length < n := by
    rw [← piv_rank R0 hn3 hn]
    exact ⟨Zm.congr (fun i j hj => (wide_ent H i).1 j hj) n, Zm.congr (fun i j hj => ((wide_ent H i).1 j hj).symm) n⟩
  rw [show InvCase n A ↔ _ from ⟨fun h => h.iff, fun h => ⟨h⟩⟩, hech, hz, Nat.not_lt]
  constructor
  · intro hC
    obtain ⟨c1, c2⟩ := take_range hC
    refine Nat.le_of_not_lt fun hlt => ?_
    have := c2 _ hlt
    rw [e, List.getD_eq_getElem?_getD, List.getElem?_append_right (Nat.le_refl _), Nat.sub_self] at this
    rw [e, List.length_append] at c1
    have hrl : 0 < rest.length := by lia
    rw [List.getElem?_eq_getElem hrl] at this
    have h2 := hr _ (List.getElem_mem hrl)
    have h3 : rest[0] = (echTo (wideM A) n).2.length := this
    lia
  · intro hle
    have h1 := R.inv.le
    rw [e, List.length_append] at h1
    have hr0 : rest = [] := List.eq_nil_of_length_eq_zero (by lia)
    rw [e, hr0, List.append_nil, sorted_range hn3 (by lia) R0.inc R0.inv.lt]
    unfold toZ
    rw [List.take_of_length_le (by rw [List.length_map, List.length_range]; exact Nat.le_refl _)]
    apply List.map_congr_left
    intro i _
    lia
theorem det_zm {n : Nat} {g : IMat} (hg : Rect n n g) (hn : 0 < n) (hn3 : n ≤ 3) : Zm (gr g) n n ↔ detL n g = 0 := by
  rw [← nz_iff n hn hn3, nz_iff0, hg.1]
  rcases n with _ | _ | _ | _ | n
  · lia
  · match g, hg with
    | [[a]], _ =>
      constructor
      · intro H; exact H _ (ch1.mpr ⟨0, by lia, rfl⟩) _ (ch1.mpr ⟨0, by lia, rfl⟩)
      · intro H l1 h1 l2 h2
        obtain ⟨i, hi, rfl⟩ := ch1.mp h1
        obtain ⟨j, hj, rfl⟩ := ch1.mp h2
        obtain rfl : i = 0 := by lia
        obtain rfl : j = 0 := by lia
        exact H
    | [], h => exact absurd h.1 (by decide)
    | [] :: _, h => exact absurd (h.2 [] (.head _)) (by decide)
    | (a :: b :: r) :: _, h => have := h.2 _ (.head _); simp at this
    | _ :: _ :: _, h => have := h.1; simp at this
  · obtain ⟨a, b, rfl⟩ : ∃ a b, g = [a, b] := by
      match g, hg.1 with
      | [a, b], _ => exact ⟨a, b, rfl⟩
    have ha := hg.2 a (by simp)
    have hb := hg.2 b (by simp)
    match a, ha, b, hb with
    | [a1, a2], _, [b1, b2], _ =>
      constructor
      · intro H; exact H _ (ch2.mpr ⟨0, 1, by lia, by lia, rfl⟩) _ (ch2.mpr ⟨0, 1, by lia, by lia, rfl⟩)
      · intro H l1 h1 l2 h2
        obtain ⟨i, i', hi, hi', rfl⟩ := ch2.mp h1
        obtain ⟨j, j', hj, hj', rfl⟩ := ch2.mp h2
        obtain rfl : i = 0 := by lia
        obtain rfl : j = 0 := by lia
        obtain rfl : i' = 1 := by lia
        obtain rfl : j' = 1 := by lia
        exact H
  · obtain ⟨a, b, c, rfl⟩ : ∃ a b c, g = [a, b, c] := by
      match g, hg.1 with
      | [a, b, c], _ => exact ⟨a, b, c, rfl⟩
    have ha := hg.2 a (by simp)
    have hb := hg.2 b (by simp)
    have hc := hg.2 c (by simp)
    match a, ha, b, hb, c, hc with
    | [a1, a2, a3], _, [b1, b2, b3], _, [c1, c2, c3], _ =>
      constructor
      · intro H; exact H _ (ch3.mpr ⟨0, 1, 2, by lia, by lia, by lia, rfl⟩) _ (ch3.mpr ⟨0, 1, 2, by lia, by lia, by lia, rfl⟩)
      · intro H l1 h1 l2 h2
        obtain ⟨i, i', i'', hi, hi', hi'', rfl⟩ := ch3.mp h1
        obtain ⟨j, j', j'', hj, hj', hj'', rfl⟩ := ch3.mp h2
        obtain rfl : i = 0 := by lia
        obtain rfl : j = 0 := by lia
        obtain rfl : i' = 1 := by lia
        obtain rfl : j' = 1 := by lia
        obtain rfl : i'' = 2 := by lia
        obtain rfl : j'' = 2 := by lia
        exact H
  · lia
theorem law_invN {n : Nat} {g : IMat} (hg : Rect n n g) (hn : 0 < n) (hn3 : n ≤ 3) (hgb : ∀ r ∈ g, ∀ x ∈ r, x.natAbs < 1024) : (invM (toQ g) = none) ↔ detL n g = 0 := by
  have HA := toQ_ok hg hgb
  have K := (inv_case HA hn hn3).iff
  rw [← det_zm hg hn hn3]
  have e : Zm (ent (toQ g)) n n ↔ Zm (gr g) n n := ⟨Zm.congr (fun i j _ => (toQ_ent g i j).symm) n, Zm.congr (fun i j _ => toQ_ent g i j) n⟩
  rw [← e]
  unfold invM
  rw [HA.rect.1]
  split
  · rename_i hC
    exact ⟨(fun h => nomatch h), fun h => absurd h (K.mp hC)⟩
  · rename_i hC
    refine ⟨fun _ => ?_, fun _ => rfl⟩
    exact Classical.byContradiction fun h => hC (K.mpr h)
theorem drop_ent {n : Nat} (E : Mat) (i j : Nat) : ent (E.map fun r => r.drop n) i j = ent E i (n + j) := by
  unfold ent mrow
  rw [List.getD_eq_getElem?_getD (l := E.map _), List.getElem?_map, List.getD_eq_getElem?_getD (l := E)]
  cases E[i]? with
  | none => rfl
  | some r =>
    show (r.drop n).getD j 0 = r.getD (n + j) 0
    rw [List.getD_eq_getElem?_getD, List.getElem?_drop, List.getD_eq_getElem?_getD]
theorem law_invS {n : Nat} {A : Mat} (H : EOk n n 10 A) (hn : 0 < n) (hn3 : n ≤ 3) : ∀ b, invM A = some b → mulM b A = idM n ∧ mulM A b = idM n := by
  intro b hb
  have hbk := (invM_ok H hn hn3 hb).1
  have HU := wideM_ok H
  have R := rinv HU hn3 (n + n) (Nat.le_refl _)
  have hech : ech (wideM A) = echTo (wideM A) (n + n) := by unfold ech; rw [HU.rect.wid hn]
  unfold invM at hb
  rw [H.rect.1, hech] at hb
  split at hb
  · rename_i hC
    obtain ⟨c1, c2⟩ := take_range hC
    have be : ∀ i j, ent b i j = ent (echTo (wideM A) (n + n)).1 i (n + j) := fun i j => by cases hb; exact drop_ent _ i j
    have unit : ∀ i k, k < n → ent (echTo (wideM A) (n + n)).1 i k = if i = k then 1 else 0 := fun i k hk => by
      by_cases hi : i < n
      · have := R.unit k (by lia) i hi
        rw [c2 k hk] at this; exact this
      · rw [ent_out R.inv.ok.rect (by lia), if_neg (by lia)]
    have eo : ∀ i j, n ≤ i → ent (echTo (wideM A) (n + n)).1 i j = 0 := fun i j hi => ent_out R.inv.ok.rect hi j
    have ao : ∀ i j, n ≤ i → ent A i j = 0 := fun i j hi => ent_out H.rect hi j
    have g1 := R.g1
    have g2 := R.g2
    have W := wide_ent H
    generalize (echTo (wideM A) (n + n)).1 = E at *
    constructor
    · rw [mulM_ent hbk H.rect hn]
      unfold idM
      apply List.map_congr_left
      intro i hi
      have hi' := List.mem_range.mp hi
      apply List.map_congr_left
      intro j hj
      have hj' := List.mem_range.mp hj
      rw [← unit i j hj']
      obtain ⟨x, y, z, hg⟩ := g1 i
      have hc : ∀ t, t < n → ent b i t = x * (if 0 = t then 1 else 0) + y * (if 1 = t then 1 else 0) + z * (if 2 = t then 1 else 0) := fun t ht => by
        rw [be, hg, (W 0).2 t ht, (W 1).2 t ht, (W 2).2 t ht]
      rw [hg, (W 0).1 j hj', (W 1).1 j hj', (W 2).1 j hj']
      rcases n with _ | _ | _ | _ | n
      · lia
      · simp only [dotF]
        rw [hc 0 (by lia), ao 1 j (by lia), ao 2 j (by lia)]
        simp; grind
      · simp only [dotF]
        rw [hc 0 (by lia), hc 1 (by lia), ao 2 j (by lia)]
        simp; grind
      · simp only [dotF]
        rw [hc 0 (by lia), hc 1 (by lia), hc 2 (by lia)]
        simp; grind
      · lia
    · rw [mulM_ent H.rect hbk hn]
      unfold idM
      apply List.map_congr_left
      intro i hi
      have hi' := List.mem_range.mp hi
      apply List.map_congr_left
      intro j hj
      have hj' := List.mem_range.mp hj
      rw [← (W i).2 j hj']
      obtain ⟨x, y, z, hg⟩ := g2 i
      have hc : ∀ t, t < n → ent A i t = x * (if 0 = t then 1 else 0) + y * (if 1 = t then 1 else 0) + z * (if 2 = t then 1 else 0) := fun t ht => by
        rw [← (W i).1 t ht, hg, unit 0 t ht, unit 1 t ht, unit 2 t ht]
      rw [hg]
      rcases n with _ | _ | _ | _ | n
      · lia
      · simp only [dotF]
        rw [hc 0 (by lia), be, eo 1 _ (by lia), eo 2 _ (by lia)]
        simp; grind
      · simp only [dotF]
        rw [hc 0 (by lia), hc 1 (by lia), be, be, eo 2 _ (by lia)]
        simp; grind
      · simp only [dotF]
        rw [hc 0 (by lia), hc 1 (by lia), hc 2 (by lia), be, be, be]
        simp; grind
      · lia
  · cases hb
theorem law_ok {h m : Nat} {g : IMat} {goal : List Int} (hg : Rect h m g) (hl : goal.length = h) (hh : 0 < h) (hh3 : h ≤ 3) (hm : 0 < m) (hm3 : m ≤ 3) (hgb : ∀ r ∈ g, ∀ x ∈ r, x.natAbs < 1024) (hlb : ∀ x ∈ goal, x.natAbs < 1024) : LawOk h m g goal := by
  have HA := toQ_ok hg hgb
  have hbl : (goal.map i2q).length = h := by rw [List.length_map]; exact hl
  have hbs : ∀ x ∈ goal.map i2q, Sz 10 x := fun x hx => by
    obtain ⟨z, h1, rfl⟩ := List.mem_map.mp hx
    exact sz_i2q (hlb z h1)
  exact {
    fine := law_fine hg hl hh hh3 hgb hlb
    base := law_base hg hh hh3 hgb
    sol := fun x e => by rw [sol_ok HA hh hh3 hm hbl hbs e, List.map_map]; rfl
    zero := null_zero HA hh hh3 hm
    free := law_free HA hh hh3 hm3
    invN := fun e => by subst e; exact law_invN hg hh hh3 hgb
    invS := fun e => by subst e; exact law_invS HA hh hh3 }
end Mine

namespace Mine
open PySem PySem.W PyProof.Rows PySem.Calls PySem.Spec
local macro_rules | `(tactic| f_look) => `(tactic| (with_reducible first | exact mHead | assumption | (refine mTail ?_; f_look)))
local macro_rules | `(tactic| dl_open) => `(tactic| (with_reducible first | exact Pick.head | (apply Pick.tail; dl_open)))
local macro_rules | `(tactic| acc_open) => `(tactic| (with_reducible first | exact PutM.head | (apply PutM.tail; acc_open)))
local macro_rules | `(tactic| accm_open) => `(tactic| (with_reducible first | exact Picks.nil | (refine' Picks.cons ?kpk ?kpr; (case kpk => dl_open); (case kpr => accm_open))))
local macro_rules | `(tactic| accj_open) => `(tactic| with_reducible first | exact Ev.int | assumption | (apply Ev.mem; f_look))
local macro_rules | `(tactic| obj_index) => `(tactic| (intro _ h9; with_reducible (repeat (first | exact h9 | refine mTail ?_))))
local macro_rules | `(tactic| sl_open) => `(tactic| with_reducible first | exact fun _ h9 => h9 | (refine List.forall_mem_cons.mpr ⟨?_, ?_⟩; (focus f_look); sl_open) | obj_index)
local macro_rules | `(tactic| obj_index2) => `(tactic| with_reducible first | exact Drops.refl | (refine Drops.skip ?_; obj_index2))
local macro_rules | `(tactic| acc_openK) => `(tactic| with_reducible first
  | (refine' ldL ?kS ?kE ?k1 ?k2 ?k3 ?_; (case kS => assumption); (case kE => assumption); (case k1 => f_look); (case k2 => f_look); (case k3 => f_look))
  | (refine' ldC ?kS ?kE ?k1 ?k2 ?k3 ?_; (case kS => assumption); (case kE => assumption); (case k1 => f_look); (case k2 => f_look); (case k3 => f_look))
  | (refine' ldG ?kS ?kB ?kE ?k1 ?k2 ?_; (case kS => assumption); (case kB => assumption); (case kE => assumption); (case k1 => f_look); (case k2 => f_look))
  | (refine' ldB ?kS ?kB ?kE ?k1 ?k2 ?_; (case kS => assumption); (case kB => assumption); (case kE => assumption); (case k1 => f_look); (case k2 => f_look)))
local macro_rules | `(tactic| dictfold_fit) => `(tactic| with_reducible first
  | (refine' wpAny_execs_cons ?_)
  | (refine' wpAny_execs_nil ?_)
  | acc_openK
  | (refine' stL ?kS ?kE ?k1 ?k2 ?k3 ?_; (case kS => assumption); (case kE => assumption); (case k1 => f_look); (case k2 => dl_open); (case k3 => acc_open); intro _ _)
  | (refine' stC ?kS ?kE ?k1 ?k2 ?k3 ?_; (case kS => assumption); (case kE => assumption); (case k1 => f_look); (case k2 => f_look); (case k3 => dl_open); intro _ _)
  | (refine' stCU ?kS ?kE ?k1 ?k2 ?k3 ?_; (case kS => assumption); (case kE => assumption); (case k1 => f_look); (case k2 => f_look); (case k3 => dl_open); intro _ _)
  | (refine' kInt ?kS ?_; (case kS => assumption); intro _ _ _)
  | (refine' wpAny_BinOp ?_)
  | (refine' UnaryOp_ ?_)
  | (refine' negI ?kS ?_; (case kS => assumption); intro _ _ _)
  | (refine' args_cons (he := ?he) ?_; (case he => with_unfolding_all rfl))
  | (refine' args_nil ?_)
  | ((fail_if_success show wpAny _ _ (eval (Expr.Subscript _ (Expr.Slice _ _ _ _) _) _) _ _ _); refine' Subscript_ ?_)
  | (refine' Call_ (he := ?he) ?_; (case he => with_unfolding_all rfl))
  | (refine' Tuple_ ?_)
  | (refine' List_ ?_)
  | (refine' wpAny_Compare1 ?_)
  | (refine' wpAny_isTrue_Compare1 ?_)
  | (refine' PyProof.Rows.isTrue_and_nil ?_)
  | (refine' PyProof.Rows.isTrue_and ?_)
  | (refine' wpAny_IfExp ?_)
  | (refine' wpAny_Assign_Name (hs := ?hs) ?_; (case hs => with_unfolding_all rfl))
  | (refine' wpAny_Assign_Subscript (hs := ?hs) ?_; (case hs => with_unfolding_all rfl))
  | (refine' exprS ?kE ?_ ?hs; (case hs => with_unfolding_all rfl); (case kE => assumption))
  | (refine' kNone ?_)
  | (refine' kBool ?_)
  | (refine' kStr ?kS ?_; (case kS => assumption); intro _ _ _)
  | (refine' wpAny_Return_some ?_)
  | (refine' wpAny_If ?_)
  | (refine' asgNm ?_)
  | (refine' wpAny_tests_nil ?_)
  | (refine' wpAny_tests_one ?_)
  | (refine' bindName_ ?_)
  | (refine' asgCons ?_)
  | (refine' asgNil ?_)
  | (refine' addI ?kS ?_; (case kS => assumption); intro _ _ _)
  | (refine' subI ?kS ?_; (case kS => assumption); intro _ _ _)
  | (refine' modI ?kS ?k1 ?_; (case kS => assumption); (case k1 => lia); intro _ _ _)
  | (refine' mulI ?kS ?k1 ?k2 ?_; (case kS => assumption); (case k1 => assumption); (case k2 => assumption); intro _ _ _)
  | (refine' divI ?kS ?k1 ?k2 ?_; (case kS => assumption); (case k1 => assumption); (case k2 => assumption); intro _ _ _)
  | (refine' itRl ?kS ?k1 ?k2 ?k3 ?k4 ?_ ?hs; (case hs => with_unfolding_all rfl); (case kS => assumption); (case k1 => f_look); (case k2 => with_unfolding_all decide); (case k3 => with_unfolding_all decide); (case k4 => with_unfolding_all rfl))
  | (refine' itNum ?kS ?k1 ?_ ?hs; (case hs => intro _; with_unfolding_all rfl); (case kS => assumption); (case k1 => accj_open); intro _)
  | (refine' itDen ?kS ?k1 ?_ ?hs; (case hs => intro _; with_unfolding_all rfl); (case kS => assumption); (case k1 => accj_open); intro _)
  | (refine' lenL ?kS ?k1 ?k2 ?_; (case kS => assumption); (case k1 => accj_open); (case k2 => assumption); intro _ _ _)
  | (refine' lenO ?kS ?k1 ?k2 ?_; (case kS => assumption); (case k1 => f_look); (case k2 => assumption); intro _ _ _)
  | (refine' lenP ?kS ?k1 ?k2 ?_; (case kS => assumption); (case k1 => f_look); (case k2 => assumption); intro _ _ _)
  | (refine' range1 ?kS ?_; (case kS => assumption); intro _ _ _)
  | (refine' range2 ?kS ?_; (case kS => assumption); intro _ _ _)
  | (refine' inInt ?kS ?kR ?k1 ?_; (case kS => assumption); (case kR => assumption); (case k1 => accj_open))
  | (refine' sumL ?kS ?kR ?k1 ?_; (case kS => assumption); (case kR => assumption); (case k1 => accj_open); intro _ _ _)
  | (refine' minI ?kS ?kR ?_; (case kS => assumption); (case kR => assumption); intro _ _ _)
  | (refine' eq_int ?_)
  | (refine' ne_int ?_)
  | (refine' gt_int ?_)
  | (refine' lt_int ?_)
  | (refine' wpAny_truthy_bool ?_)
  | (refine' PyProof.Rows.callWith_builtin1 (he := ?he) (hplain := ?hp) ?_; (case he => with_unfolding_all rfl); (case hp => with_unfolding_all rfl))
  | (refine' callTyp (he := ?he) (hplain := ?hp) ?_; (case he => with_unfolding_all rfl); (case hp => with_unfolding_all rfl))
  | (refine' callDef ?kX ?k1 ?_ ?he; (case kX => assumption); (case k1 => f_look); (case he => with_unfolding_all rfl))
  | (refine' Assign2 (he1 := ?he) (hd := ?hd) (hc := ?hc) (hs := ?hs) (hl := ?hl) (hxy := ?hxy) ?kE ?kR ?k1 ?k2 ?_; (case kE => assumption); (case kR => assumption); (case k1 => f_look); (case k2 => f_look); (case hxy => with_unfolding_all decide); (case hl => with_unfolding_all rfl); (case hs => with_unfolding_all rfl); (case hc => with_unfolding_all rfl); (case hd => with_unfolding_all rfl); (case he => with_unfolding_all rfl))
  | (refine ⟨⟨_, _, _, by assumption⟩, ?_⟩; intro _ sK9; (have SK9 := sK9 _ _ _ (by assumption)); clear sK9)
  | (refine ⟨⟨_, _, by assumption⟩, ?_⟩)
  | (refine' absI ?kS ?_; (case kS => assumption); intro _ _ _))

section
variable {ad : Nat → Addr} {B : Shared} {P : List Fact} {own own₀ : Own} {prog : Program} {w : World} {A : Around} {E : Value → Shared → Prop} {s : Shared}
variable (X : Fns B ad) (hB : Bas B (GT ad) BT)
include X hB
set_option maxHeartbeats 4000000 in
theorem gcd_spec {a b : Int} {t u : Tok} {Q : Value → Shared → Prop} (S : St B P own s) (hR : Room A 5) (k : ∀ t' s', St B P own s' → Q (.int (Int.gcd a b) t') s') :
    wpAny (model prog w) A (call (.ref (ad 0)) [.int a t, .int b u]) Q E s := by
  refine callFn0 (n := 4) [("a", some (.int a t)), ("b", some (.int b u))] X (by rfl) hB S hR (by rfl) (by rfl) (by decide +kernel) (by rfl) (by rfl) (by rfl) ⟨rfl, rfl, trivial⟩ ?_
  intro L env s₁ hE hR' S₁ E'
  repeat dictfold_fit
  rename St B _ _ _ => S2
  have ha : (if a < 0 then -a else a) = (a.natAbs : Int) := by split <;> lia
  have hb : (if b < 0 then -b else b) = (b.natAbs : Int) := by split <;> lia
  rw [ha, hb] at S2
  refine whileR (fun n s => ∃ (x y : Nat) (t u : Tok), St B P ((L, nsC [("a", some (.int x t)), ("b", some (.int y u))]) :: own) s ∧ Nat.gcd x y = Int.gcd a b ∧ n = y) b.natAbs ⟨_, _, _, _, S2, rfl, rfl⟩ ?_
  clear S2
  rintro n s2 ⟨x, y, t2, u2, S2, hg, rfl⟩ E2
  repeat dictfold_fit
  by_cases hy : n = 0
  · subst hy
    rw [if_neg (by simp)]
    repeat dictfold_fit
    rename St B _ _ _ => S3
    have e : Nat.gcd x 0 = x := by simp
    rw [e] at hg
    show Q (Value.int _ _) _
    rw [hg]
    exact k _ _ (S3.drop .head)
  · rw [if_pos (by simpa using hy)]
    repeat dictfold_fit
    rename St B _ _ _ => S3
    have e : ((x : Int).fmod (n : Int)) = ((x % n : Nat) : Int) := by
      rw [Int.fmod_eq_emod_of_nonneg _ (by lia)]; rfl
    rw [e] at S3
    refine ⟨.inl rfl, x % n, Nat.mod_lt _ (by lia), n, x % n, _, _, S3, ?_, rfl⟩
    rw [← hg, Nat.gcd_comm x n, Nat.gcd_rec n x, Nat.gcd_comm]
end

section
variable {ad : Nat → Addr} {B : Shared} {P : List Fact} {own own₀ : Own} {prog : Program} {w : World} {A : Around} {E : Value → Shared → Prop} {s : Shared}
variable (X : Fns B ad) (hB : Bas B (GT ad) BT)
include X hB
set_option maxHeartbeats 4000000 in
theorem rat_spec {a b : Int} {t u : Tok} {Q : Value → Shared → Prop} (S : St B P own s) (hR : Room A 6) (hb : b ≠ 0) (hs : b.natAbs < 2 ^ 8000) (k : ∀ v s', St B (Ty.rat.is v (Rat.divInt a b) :: P) own s' → Q v s') :
    wpAny (model prog w) A (call (.ref (ad 1)) [.int a t, .int b u]) Q E s := by
  refine callFn0 (n := 5) [("top", some (.int a t)), ("bottom", some (.int b u)), ("g", none)] X (by rfl) hB S hR (by rfl) (by rfl) (by decide +kernel) (by rfl) (by rfl) (by rfl) ⟨rfl, rfl, trivial⟩ ?_
  intro L env s₁ hE hR' S₁ E'
  repeat dictfold_fit
  rw [if_neg (by simpa using hb)]
  repeat dictfold_fit
  obtain ⟨p1, p2⟩ := rat_parts a b hb
  have hgs : (if 0 < b then (Int.gcd a b : Int) else 0 - (Int.gcd a b : Int)).natAbs < 2 ^ 8000 := by
    have h1 : Int.gcd a b ≤ b.natAbs := Nat.le_of_dvd (by lia) (Nat.gcd_dvd_right _ _)
    split <;> lia
  have hg0 : (if 0 < b then (Int.gcd a b : Int) else 0 - (Int.gcd a b : Int)) ≠ 0 := by
    have h1 : Int.gcd a b ≠ 0 := by
      intro h
      rw [Int.gcd_eq_zero_iff] at h
      exact hb h.2
    split <;> lia
  by_cases hp : 0 < b
  · rw [if_pos hp] at p1 p2 hgs hg0
    rw [if_pos (by simpa using hp)]
    repeat dictfold_fit
    refine gcd_spec X hB (by assumption) (hR'.mono (by decide)) ?_
    intro t2 s2 S2
    repeat dictfold_fit
    rename St B _ _ _ => S3
    dsimp only [List.nil_append, List.cons_append]
    rw [p1, p2]
    refine newTp2 S3 Ev.int Ev.int ?_
    intro a9 s9 S9
    exact k _ _ (S9.drop .head)
  · rw [if_neg hp] at p1 p2 hgs hg0
    rw [if_neg (by simpa using hp)]
    repeat dictfold_fit
    refine gcd_spec X hB (by assumption) (hR'.mono (by decide)) ?_
    intro t2 s2 S2
    repeat dictfold_fit
    rename St B _ _ _ => S3
    dsimp only [List.nil_append, List.cons_append]
    rw [p1, p2]
    refine newTp2 S3 Ev.int Ev.int ?_
    intro a9 s9 S9
    exact k _ _ (S9.drop .head)
end

section
variable {ad : Nat → Addr} {B : Shared} {P : List Fact} {own own₀ : Own} {prog : Program} {w : World} {A : Around} {E : Value → Shared → Prop} {s : Shared}
variable (X : Fns B ad) (hB : Bas B (GT ad) BT)
include X hB
omit X hB in
theorem szI {a : Rat} (h : Sz 3900 a) : a.num.natAbs < 2 ^ 8000 ∧ (a.den : Int).natAbs < 2 ^ 8000 ∧ (a.den : Int) ≠ 0 := by
  have h8 : (2 : Nat) ^ 3900 ≤ 2 ^ 8000 := Nat.pow_le_pow_right (by decide) (by decide)
  have h1 := h.1
  have h2 := h.2
  have h3 := a.den_nz
  refine ⟨Nat.lt_of_lt_of_le h1 h8, ?_, by lia⟩
  rw [Int.natAbs_natCast]; exact Nat.lt_of_lt_of_le h2 h8
omit X hB in
theorem szM {x y : Int} (hx : x.natAbs < 2 ^ 3900) (hy : y.natAbs < 2 ^ 3900) : (x * y).natAbs < 2 ^ 8000 := by
  rw [Int.natAbs_mul]
  exact Nat.lt_of_lt_of_le (lt_pow_mul hx hy) (Nat.pow_le_pow_right (by decide) (by decide))
set_option maxHeartbeats 4000000 in
theorem radd_spec {va vb : Value} {a b : Rat} {Q : Value → Shared → Prop} (S : St B P own s) (hR : Room A 7) (ha : Ev P Ty.rat va a) (hb : Ev P Ty.rat vb b) (sa : Sz 3900 a) (sb : Sz 3900 b)
    (k : ∀ v s', St B (Ty.rat.is v (a + b) :: P) own s' → Q v s') : wpAny (model prog w) A (call (.ref (ad 2)) [va, vb]) Q E s := by
  obtain ⟨a1, a2, a3⟩ := szI sa
  obtain ⟨b1, b2, b3⟩ := szI sb
  refine callFn0 (n := 6) [("a", some va), ("b", some vb)] X (by rfl) hB S hR (by rfl) (by rfl) (by decide +kernel) (by rfl) (by rfl) (by rfl) ⟨rfl, rfl, trivial⟩ ?_
  intro L env s₁ hE hR' S₁ E'
  repeat dictfold_fit
  dsimp only [List.nil_append, List.cons_append]
  refine rat_spec X hB (by assumption) (hR'.mono (by decide)) ?_ ?_ ?_
  · intro h; rcases Int.mul_eq_zero.mp h with h | h <;> contradiction
  · exact szM (by rw [Int.natAbs_natCast]; exact sa.2) (by rw [Int.natAbs_natCast]; exact sb.2)
  · intro v s' S'
    rw [add_eq_divInt] at S'
    exact k _ _ (S'.drop .head)
set_option maxHeartbeats 4000000 in
theorem rsub_spec {va vb : Value} {a b : Rat} {Q : Value → Shared → Prop} (S : St B P own s) (hR : Room A 7) (ha : Ev P Ty.rat va a) (hb : Ev P Ty.rat vb b) (sa : Sz 3900 a) (sb : Sz 3900 b)
    (k : ∀ v s', St B (Ty.rat.is v (a - b) :: P) own s' → Q v s') : wpAny (model prog w) A (call (.ref (ad 3)) [va, vb]) Q E s := by
  obtain ⟨a1, a2, a3⟩ := szI sa
  obtain ⟨b1, b2, b3⟩ := szI sb
  refine callFn0 (n := 6) [("a", some va), ("b", some vb)] X (by rfl) hB S hR (by rfl) (by rfl) (by decide +kernel) (by rfl) (by rfl) (by rfl) ⟨rfl, rfl, trivial⟩ ?_
  intro L env s₁ hE hR' S₁ E'
  repeat dictfold_fit
  dsimp only [List.nil_append, List.cons_append]
  refine rat_spec X hB (by assumption) (hR'.mono (by decide)) ?_ ?_ ?_
  · intro h; rcases Int.mul_eq_zero.mp h with h | h <;> contradiction
  · exact szM (by rw [Int.natAbs_natCast]; exact sa.2) (by rw [Int.natAbs_natCast]; exact sb.2)
  · intro v s' S'
    rw [sub_eq_divInt] at S'
    exact k _ _ (S'.drop .head)
set_option maxHeartbeats 4000000 in
theorem rmul_spec {va vb : Value} {a b : Rat} {Q : Value → Shared → Prop} (S : St B P own s) (hR : Room A 7) (ha : Ev P Ty.rat va a) (hb : Ev P Ty.rat vb b) (sa : Sz 3900 a) (sb : Sz 3900 b)
    (k : ∀ v s', St B (Ty.rat.is v (a * b) :: P) own s' → Q v s') : wpAny (model prog w) A (call (.ref (ad 4)) [va, vb]) Q E s := by
  obtain ⟨a1, a2, a3⟩ := szI sa
  obtain ⟨b1, b2, b3⟩ := szI sb
  refine callFn0 (n := 6) [("a", some va), ("b", some vb)] X (by rfl) hB S hR (by rfl) (by rfl) (by decide +kernel) (by rfl) (by rfl) (by rfl) ⟨rfl, rfl, trivial⟩ ?_
  intro L env s₁ hE hR' S₁ E'
  repeat dictfold_fit
  dsimp only [List.nil_append, List.cons_append]
  refine rat_spec X hB (by assumption) (hR'.mono (by decide)) ?_ ?_ ?_
  · intro h; rcases Int.mul_eq_zero.mp h with h | h <;> contradiction
  · exact szM (by rw [Int.natAbs_natCast]; exact sa.2) (by rw [Int.natAbs_natCast]; exact sb.2)
  · intro v s' S'
    rw [mul_eq_divInt] at S'
    exact k _ _ (S'.drop .head)
set_option maxHeartbeats 4000000 in
theorem rdiv_spec {va vb : Value} {a b : Rat} {Q : Value → Shared → Prop} (S : St B P own s) (hR : Room A 7) (ha : Ev P Ty.rat va a) (hb : Ev P Ty.rat vb b) (sa : Sz 3900 a) (sb : Sz 3900 b) (h0 : b ≠ 0)
    (k : ∀ v s', St B (Ty.rat.is v (a / b) :: P) own s' → Q v s') : wpAny (model prog w) A (call (.ref (ad 5)) [va, vb]) Q E s := by
  obtain ⟨a1, a2, a3⟩ := szI sa
  obtain ⟨b1, b2, b3⟩ := szI sb
  refine callFn0 (n := 6) [("a", some va), ("b", some vb)] X (by rfl) hB S hR (by rfl) (by rfl) (by decide +kernel) (by rfl) (by rfl) (by rfl) ⟨rfl, rfl, trivial⟩ ?_
  intro L env s₁ hE hR' S₁ E'
  repeat dictfold_fit
  dsimp only [List.nil_append, List.cons_append]
  refine rat_spec X hB (by assumption) (hR'.mono (by decide)) ?_ ?_ ?_
  · intro h
    rcases Int.mul_eq_zero.mp h with h | h
    · contradiction
    · exact h0 (Rat.num_eq_zero.mp h)
  · exact szM (by rw [Int.natAbs_natCast]; exact sa.2) sb.1
  · intro v s' S'
    rw [div_eq_divInt] at S'
    exact k _ _ (S'.drop .head)
set_option maxHeartbeats 4000000 in
theorem rneg_spec {va : Value} {a : Rat} {Q : Value → Shared → Prop} (S : St B P own s) (hR : Room A 7) (ha : Ev P Ty.rat va a)
    (k : ∀ v s', St B (Ty.rat.is v (-a) :: P) own s' → Q v s') : wpAny (model prog w) A (call (.ref (ad 6)) [va]) Q E s := by
  refine callFn0 (n := 6) [("a", some va)] X (by rfl) hB S hR (by rfl) (by rfl) (by decide +kernel) (by rfl) (by rfl) (by rfl) ⟨rfl, trivial⟩ ?_
  intro L env s₁ hE hR' S₁ E'
  repeat dictfold_fit
  dsimp only [List.nil_append, List.cons_append]
  rename St B _ _ _ => S3
  have e1 : 0 - a.num = (-a).num := by rw [Rat.neg_num]; lia
  have e2 : (a.den : Int) = ((-a).den : Int) := by rw [Rat.neg_den]
  rw [e1, e2]
  refine newTp2 S3 Ev.int Ev.int ?_
  intro a9 s9 S9
  exact k _ _ (S9.drop .head)
end

section
variable {ad : Nat → Addr} {B : Shared} {P : List Fact} {own own₀ : Own} {prog : Program} {w : World} {A : Around} {E : Value → Shared → Prop} {s : Shared}
variable (X : Fns B ad) (hB : Bas B (GT ad) BT)
include X hB
set_option maxHeartbeats 4000000 in
theorem shape_spec {va : Value} {rows : List (List Rat)} {Q : Value → Shared → Prop} (S : St B P own s) (hR : Room A 2) (ha : Ev P (Ty.list (Ty.list Ty.rat)) va rows) (hl : rows.length ≤ 1000) (hw : wid rows ≤ 1000)
    (k : ∀ v s', St B ((Ty.pair Ty.int Ty.int).is v ((rows.length : Int), (wid rows : Int)) :: P) own s' → Q v s') : wpAny (model prog w) A (call (.ref (ad 7)) [va]) Q E s := by
  refine callFn0 (n := 1) [("a", some va)] X (by rfl) hB S hR (by rfl) (by rfl) (by decide +kernel) (by rfl) (by rfl) (by rfl) ⟨rfl, trivial⟩ ?_
  intro L env s₁ hE hR' S₁ E'
  repeat dictfold_fit
  cases rows with
  | nil =>
    rw [if_neg (by simp)]
    repeat dictfold_fit
    dsimp only [List.nil_append, List.cons_append]
    rename St B _ _ _ => S3
    refine newTp2 S3 Ev.int Ev.int ?_
    intro a9 s9 S9
    exact k _ _ (S9.drop .head)
  | cons r rest =>
    rw [if_pos (by simp)]
    repeat dictfold_fit
    rename St B _ _ _ => S3
    have hr : r.length ≤ 1000 := hw
    refine itN 0 S3 ha rfl hl rfl ?_
    intro u S4
    repeat dictfold_fit
    dsimp only [List.nil_append, List.cons_append]
    rename St B _ _ _ => S5
    refine newTp2 S5 Ev.int Ev.int ?_
    intro a9 s9 S9
    exact k _ _ ((S9.drop .head).sub fun f hf => by
      rcases List.mem_cons.mp hf with rfl | hf
      · exact .head _
      · exact .tail _ (.tail _ hf))
set_option maxHeartbeats 4000000 in
theorem need_shape_spec {vb : Value} {Q : Value → Shared → Prop} (S : St B P own s) (hR : Room A 2) (k : ∀ s', St B P own s' → Q .none s') : wpAny (model prog w) A (call (.ref (ad 8)) [.bool true, vb]) Q E s := by
  refine callFn0 (n := 1) [("is_right", some (.bool true)), ("text", some vb)] X (by rfl) hB S hR (by rfl) (by rfl) (by decide +kernel) (by rfl) (by rfl) (by rfl) ⟨rfl, rfl, trivial⟩ ?_
  intro L env s₁ hE hR' S₁ E'
  repeat dictfold_fit
  refine isTrue_not ?_
  refine isTrue_plain ?_
  repeat dictfold_fit
  simp only [Bool.not_true, Bool.false_eq_true, if_false]
  repeat dictfold_fit
  rename St B _ _ _ => S3
  exact k _ (S3.drop .head)
end

section
variable {ad : Nat → Addr} {B : Shared} {P : List Fact} {own own₀ : Own} {prog : Program} {w : World} {A : Around} {E : Value → Shared → Prop} {s : Shared}
variable (X : Fns B ad) (hB : Bas B (GT ad) BT)
include X hB
set_option maxHeartbeats 4000000 in
theorem copied_spec {va : Value} {rows : List (List Rat)} {Q : Value → Shared → Prop} (S : St B P own s) (hR : Room A 2) (ha : Ev P (Ty.list (Ty.list Ty.rat)) va rows) (hl : rows.length ≤ 1000) (hw : ∀ r ∈ rows, r.length ≤ 1000)
    (k : ∀ a s', St B P ((a, lsC (Ty.list Ty.rat) rows) :: own) s' → Q (.ref a) s') : wpAny (model prog w) A (call (.ref (ad 9)) [va]) Q E s := by
  refine callFn0 (n := 1) [("a", some va)] X (by rfl) hB S hR (by rfl) (by rfl) (by decide +kernel) (by rfl) (by rfl) (by rfl) ⟨rfl, trivial⟩ ?_
  intro L env s₁ hE hR' S₁ E'
  repeat dictfold_fit
  refine compMap0 (B := B) (n := rows.length) (F := atF (Ty.list Ty.rat) rows) [(".0", .local), ("row", .local), ("list", .globalImplicit)] [] [(".0", none), ("row", none)] (Ty.list Ty.rat) (fun i => rows.getD i []) [] ((L, nsC [("a", some va)]) :: own) P hE hl
    ⟨rfl, by rfl, by rfl, by rfl, by rfl, by rfl, by rfl, by rfl, by rfl, by rfl⟩ ?_ ?_ ?_
  · repeat dictfold_fit
    exact ⟨_, enList hR'  S₁ ha .nil GoOk.name, fun f hf => hf⟩
  · intro Cn cenv hE2 i v fr s E hi S2
    dsimp only [List.nil_append, List.cons_append] at S2
    obtain ⟨x, hx, S3⟩ := S2.atF
    clear S2
    repeat dictfold_fit
    rename St B _ _ _ => S4
    refine copyLs S4 (.mem mHead) (hw _ (List.mem_of_getElem? hx)) ?_
    intro a9 s9 S9
    exact ⟨_, _, _, _, S9, by rw [get_of hx]; exact .mem mHead, by sl_open, by dl_open, by accm_open, by rfl⟩
  · intro D s2 S2
    rw [map_getD_id] at S2
    dsimp only [List.nil_append] at S2
    exact k _ _ (S2.out1 .head (by obj_index2) fun f hf => hf)
end

section
variable {ad : Nat → Addr} {B : Shared} {P : List Fact} {own own₀ : Own} {prog : Program} {w : World} {A : Around} {E : Value → Shared → Prop} {s : Shared}
variable (X : Fns B ad) (hB : Bas B (GT ad) BT)
include X hB
set_option maxHeartbeats 4000000 in
theorem from_whole_spec {va : Value} {rows : List (List Int)} {Q : Value → Shared → Prop} (S : St B P own s) (hR : Room A 2) (ha : Ev P (Ty.list (Ty.list Ty.int)) va rows) (hl : rows.length ≤ 1000) (hw : ∀ r ∈ rows, r.length ≤ 1000)
    (k : ∀ a s', St B ((Ty.list (Ty.list Ty.rat)).is (.ref a) (toQ rows) :: P) own s' → Q (.ref a) s') : wpAny (model prog w) A (call (.ref (ad 10)) [va]) Q E s := by
  refine callFn0 (n := 1) [("a", some va)] X (by rfl) hB S hR (by rfl) (by rfl) (by decide +kernel) (by rfl) (by rfl) (by rfl) ⟨rfl, trivial⟩ ?_
  intro L env s₁ hE hR' S₁ E'
  repeat dictfold_fit
  refine compMap0 (B := B) (n := rows.length) (F := atF (Ty.list Ty.int) rows) [(".0", .local), ("row", .local)] [] [(".0", none), ("row", none)] (Ty.list Ty.rat) (fun i => (rows.getD i []).map i2q) [] ((L, nsC [("a", some va)]) :: own) P hE hl
    ⟨rfl, by rfl, by rfl, by rfl, by rfl, by rfl, by rfl, by rfl, by rfl, by rfl⟩ ?_ ?_ ?_
  · repeat dictfold_fit
    exact ⟨_, enList hR'  S₁ ha .nil GoOk.name, fun f hf => hf⟩
  · intro Cn cenv hE2 i v fr s E hi S2
    dsimp only [List.nil_append, List.cons_append] at S2
    obtain ⟨x, hx, S3⟩ := S2.atF
    clear S2
    repeat dictfold_fit
    rename St B _ _ _ => S4
    have hxl : x.length ≤ 1000 := hw _ (List.mem_of_getElem? hx)
    refine compMap0 (B := B) (n := x.length) (F := atF Ty.int x) [(".0", .local), ("one", .local)] [] [(".0", none), ("one", none)] Ty.rat (fun i => i2q (x.getD i 0)) [] ((Cn, nsC [(".0", none), ("row", some v)]) :: fr) P hE2 hxl
      ⟨rfl, by rfl, by rfl, by rfl, by rfl, by rfl, by rfl, by rfl, by rfl, by rfl⟩ ?_ ?_ ?_
    · repeat dictfold_fit
      exact ⟨_, enList hR' S4 (.mem mHead) .nil GoOk.name, by sl_open⟩
    · intro Cn2 cenv2 hE3 i2 v2 fr2 s2 E2 hi2 S5
      dsimp only [List.nil_append, List.cons_append] at S5
      obtain ⟨y, hy, S6⟩ := S5.atF
      clear S5
      obtain ⟨t, rfl⟩ := S6.intV (.mem mHead)
      repeat dictfold_fit
      rename St B _ _ _ => S7
      refine newTp2 S7 Ev.int Ev.int ?_
      intro a9 s9 S9
      refine ⟨_, _, _, _, S9, ?_, by sl_open, by dl_open, by accm_open, by rfl⟩
      rw [get_of hy]
      exact Ev.rat (.mem mHead)
    · intro D s2 S2
      dsimp only [List.nil_append, List.cons_append] at S2
      rw [map_getD i2q x 0] at S2
      refine ⟨_, _, _, _, S2.fzLs .head, ?_, by sl_open, by dl_open, by accm_open, by rfl⟩
      rw [get_of hx]
      exact .mem mHead
  · intro D s2 S2
    rw [map_getD (fun r : List Int => r.map i2q) rows []] at S2
    dsimp only [List.nil_append] at S2
    have S3 : St B ((Ty.list (Ty.list Ty.rat)).is (.ref D) (toQ rows) :: P) _ _ := S2.fzLs .head
    exact k _ _ (S3.out0 (by obj_index2) (by sl_open))
end

section
variable {ad : Nat → Addr} {B : Shared} {P : List Fact} {own own₀ : Own} {prog : Program} {w : World} {A : Around} {E : Value → Shared → Prop} {s : Shared}
variable (X : Fns B ad) (hB : Bas B (GT ad) BT)
include X hB
set_option maxHeartbeats 4000000 in
theorem unit_matrix_spec {n : Nat} {t : Tok} {Q : Value → Shared → Prop} (S : St B P own s) (hR : Room A 2) (hn : n ≤ 100)
    (k : ∀ a s', St B ((Ty.list (Ty.list Ty.rat)).is (.ref a) (idM n) :: P) own s' → Q (.ref a) s') : wpAny (model prog w) A (call (.ref (ad 11)) [.int n t]) Q E s := by
  refine callFn1 (n := 1) "n" (some (.int n t)) [] X (by rfl) hB S hR (by rfl) (by rfl) (by decide +kernel) (by rfl) (by rfl) (by rfl) trivial ⟨rfl, trivial⟩ ?_
  intro L c env s₁ hE hR' S₁ E'
  replace S₁ := (S₁.R0 X).R1 X
  repeat dictfold_fit
  refine compMap1 (B := B) (n := n) (F := rgAt 0) [(".0", .local), ("row", .cell), ("range", .globalImplicit), ("n", .cell)] "row" [("n", c)] [(".0", none)] (Ty.list Ty.rat) (fun i => (List.range n).map fun j => if i = j then 1 else 0)
    [(c, ceC (some (.int n t)))] ((L, nsC []) :: own) (Ty.rat.is (.ref (ad 101)) 1 :: Ty.rat.is (.ref (ad 100)) 0 :: P) hE (by lia)
    ⟨rfl, by rfl, by rfl, by rfl, by rfl, by rfl, by rfl, by rfl, by rfl, by rfl⟩ ?_ ?_ ?_
  · repeat dictfold_fit
    rename St B _ _ _ => S4
    exact ⟨_, enRg hR' S4 mHead (by lia) (by accm_open), by sl_open⟩
  · intro Cn c2 cenv hE2 i v fr s E hi S2
    dsimp only [List.nil_append, List.cons_append] at S2
    obtain ⟨t2, rfl⟩ := S2.intV (.mem mHead)
    repeat dictfold_fit
    refine compMap0 (B := B) (n := n) (F := rgAt 0) [(".0", .local), ("column", .local), ("R1", .globalImplicit), ("R0", .globalImplicit), ("row", .cell)] [("row", c2)] [(".0", none), ("column", none)] Ty.rat (fun j => if i = j then 1 else 0)
      [(c2, ceC (some (.int (0 + (i : Int)) t2)))] ((Cn, nsC [(".0", none)]) :: (c, ceC (some (.int n t))) :: fr) (Ty.rat.is (.ref (ad 101)) 1 :: Ty.rat.is (.ref (ad 100)) 0 :: P) hE2 (by lia)
      ⟨rfl, by rfl, by rfl, by rfl, by rfl, by rfl, by rfl, by rfl, by rfl, by rfl⟩ ?_ ?_ ?_
    · repeat dictfold_fit
      rename St B _ _ _ => S4
      exact ⟨_, enRg hR' S4 mHead (by lia) (by accm_open), by sl_open⟩
    · intro Cn2 cenv2 hE3 j v2 fr2 s2 E2 hj S5
      dsimp only [List.nil_append, List.cons_append] at S5
      obtain ⟨t3, rfl⟩ := S5.intV (.mem mHead)
      repeat dictfold_fit
      by_cases hij : i = j
      · rw [if_pos (by simp [hij])]
        repeat dictfold_fit
        rename St B _ _ _ => S7
        exact ⟨_, _, _, _, S7, by rw [if_pos hij]; accj_open, by sl_open, by dl_open, by accm_open, by rfl⟩
      · rw [if_neg (by simp; lia)]
        repeat dictfold_fit
        rename St B _ _ _ => S7
        exact ⟨_, _, _, _, S7, by rw [if_neg hij]; accj_open, by sl_open, by dl_open, by accm_open, by rfl⟩
    · intro D s2 S2
      dsimp only [List.nil_append, List.cons_append] at S2
      exact ⟨_, _, _, _, _, _, S2.fzLs .head, .mem mHead, by sl_open, by dl_open, by dl_open, by accm_open, by rfl⟩
  · intro D s2 S2
    dsimp only [List.nil_append, List.cons_append] at S2
    have S3 : St B ((Ty.list (Ty.list Ty.rat)).is (.ref D) (idM n) :: _) _ _ := S2.fzLs .head
    exact k _ _ (S3.out0 (by obj_index2) (by sl_open))
end

section
variable {ad : Nat → Addr} {B : Shared} {P : List Fact} {own own₀ : Own} {prog : Program} {w : World} {A : Around} {E : Value → Shared → Prop} {s : Shared}
variable (X : Fns B ad) (hB : Bas B (GT ad) BT)
include X hB
set_option maxHeartbeats 4000000 in
theorem transposed_spec {va : Value} {rows : List (List Rat)} {h m : Nat} {Q : Value → Shared → Prop} (S : St B P own s) (hR : Room A 4) (ha : Ev P (Ty.list (Ty.list Ty.rat)) va rows) (hr : Rect h m rows) (hh : 0 < h) (hl : h ≤ 100) (hm : m ≤ 100)
    (k : ∀ a s', St B ((Ty.list (Ty.list Ty.rat)).is (.ref a) (trM rows) :: P) own s' → Q (.ref a) s') : wpAny (model prog w) A (call (.ref (ad 12)) [va]) Q E s := by
  have hw := hr.wid hh
  have hl1 : rows.length ≤ 1000 := by rw [hr.1]; lia
  refine callFn1 (n := 3) "a" (some va) [] X (by rfl) hB S hR (by rfl) (by rfl) (by decide +kernel) (by rfl) (by rfl) (by rfl) trivial ⟨rfl, trivial⟩ ?_
  intro L c env s₁ hE hR' S₁ E'
  repeat dictfold_fit
  refine compMap1 (B := B) (n := wid rows) (F := rgAt 0) [(".0", .local), ("column", .cell), ("a", .cell)] "column" [("a", c)] [(".0", none)] (Ty.list Ty.rat) (fun j => rows.map fun r => r.getD j 0)
    [(c, ceC (some va))] ((L, nsC []) :: own) P hE (by lia)
    ⟨rfl, by rfl, by rfl, by rfl, by rfl, by rfl, by rfl, by rfl, by rfl, by rfl⟩ ?_ ?_ ?_
  · repeat dictfold_fit
    refine shape_spec X hB (by assumption) (hR'.mono (by decide)) ha hl1 (by lia) ?_
    intro v s2 S2
    repeat dictfold_fit
    rename St B _ _ _ => S4
    refine itSnd S4 (.mem mHead) ?_
    intro u S5
    obtain ⟨t, rfl⟩ := S5.intV (.mem mHead)
    repeat dictfold_fit
    rename St B _ _ _ => S6
    exact ⟨_, enRg hR' S6 mHead (by dsimp only; lia) (by accm_open), by sl_open⟩
  · intro Cn c2 cenv hE2 j v fr s E hj S2
    dsimp only [List.nil_append, List.cons_append] at S2
    obtain ⟨t2, rfl⟩ := S2.intV (.mem mHead)
    repeat dictfold_fit
    refine compMap0 (B := B) (n := rows.length) (F := atF (Ty.list Ty.rat) rows) [(".0", .local), ("row", .local), ("column", .cell)] [("column", c2)] [(".0", none), ("row", none)] Ty.rat (fun i => (rows.getD i []).getD j 0)
      [(c2, ceC (some (.int (0 + (j : Int)) t2)))] ((Cn, nsC [(".0", none)]) :: (c, ceC (some va)) :: fr) P hE2 hl1
      ⟨rfl, by rfl, by rfl, by rfl, by rfl, by rfl, by rfl, by rfl, by rfl, by rfl⟩ ?_ ?_ ?_
    · repeat dictfold_fit
      rename St B _ _ _ => S4
      exact ⟨_, enList hR' S4 (ha.sub (by sl_open)) (by accm_open) GoOk.name, by sl_open⟩
    · intro Cn2 cenv2 hE3 i v2 fr2 s2 E2 hi S5
      dsimp only [List.nil_append, List.cons_append] at S5
      obtain ⟨x, hx, S6⟩ := S5.atF
      clear S5
      have hxl : x.length = m := hr.2 _ (List.mem_of_getElem? hx)
      repeat dictfold_fit
      rename St B _ _ _ => S7
      have hj2 : j < x.length := by lia
      refine itN j S7 (.mem mHead) (List.getElem?_eq_getElem hj2) (by lia) (by lia) ?_
      intro u S8
      refine ⟨_, _, _, _, S8, ?_, by sl_open, by dl_open, by accm_open, by rfl⟩
      rw [get_of hx, get_of (List.getElem?_eq_getElem hj2)]
      exact .mem mHead
    · intro D s2 S2
      dsimp only [List.nil_append, List.cons_append] at S2
      rw [map_getD (fun r : List Rat => r.getD j 0) rows []] at S2
      exact ⟨_, _, _, _, _, _, S2.fzLs .head, .mem mHead, by sl_open, by dl_open, by dl_open, by accm_open, by rfl⟩
  · intro D s2 S2
    dsimp only [List.nil_append, List.cons_append] at S2
    have S3 : St B ((Ty.list (Ty.list Ty.rat)).is (.ref D) (trM rows) :: _) _ _ := S2.fzLs .head
    exact k _ _ (S3.out0 (by obj_index2) (by sl_open))

omit X hB in
theorem dotM_succ (r c : List Rat) (n : Nat) : dotM r c (n + 1) = dotM r c n + r.getD n 0 * c.getD n 0 := by unfold dotM; rw [List.range_succ, List.foldl_append]; rfl
omit X hB in
theorem dotM_sz {r c : List Rat} (hr : ∀ x ∈ r, Sz 700 x) (hc : ∀ x ∈ c, Sz 700 x) : ∀ n, n ≤ r.length → n ≤ c.length → Sz (1 + 1401 * n) (dotM r c n)
  | 0, _, _ => (⟨by decide, by decide⟩ : Sz 1 (0 : Rat))
  | n + 1, h1, h2 => by
    rw [dotM_succ]
    have a1 : Sz 700 (r.getD n 0) := hr _ (by rw [List.getD_eq_getElem?_getD, List.getElem?_eq_getElem h1]; exact List.getElem_mem h1)
    have a2 : Sz 700 (c.getD n 0) := hc _ (by rw [List.getD_eq_getElem?_getD, List.getElem?_eq_getElem h2]; exact List.getElem_mem h2)
    exact (sz_add (dotM_sz hr hc n (by lia) (by lia)) (sz_mul a1 a2)).mono (by lia)

set_option maxHeartbeats 4000000 in
theorem dot_spec {va vb : Value} {r c : List Rat} {Q : Value → Shared → Prop} (S : St B P own s) (hR : Room A 9) (ha : Ev P (Ty.list Ty.rat) va r) (hb : Ev P (Ty.list Ty.rat) vb c) (hl : r.length ≤ c.length) (hl3 : r.length ≤ 3) (hc3 : c.length ≤ 1000)
    (sr : ∀ x ∈ r, Sz 700 x) (sc : ∀ x ∈ c, Sz 700 x) (k : ∀ v s', St B (Ty.rat.is v (dotM r c r.length) :: P) own s' → Q v s') : wpAny (model prog w) A (call (.ref (ad 13)) [va, vb]) Q E s := by
  refine callFn0 (n := 8) [("one", some va), ("other", some vb), ("found", none), ("at", none), ("left", none)] X (by rfl) hB S hR (by rfl) (by rfl) (by decide +kernel) (by rfl) (by rfl) (by rfl) ⟨rfl, rfl, trivial⟩ ?_
  intro L env s₁ hE hR' S₁ E'
  replace S₁ := S₁.R0 X
  repeat dictfold_fit
  refine forEn (B := B) hR' Ty.rat r (fun i P' pre => ∃ vf oa ol, Ty.rat.is vf (dotM r c i) ∈ P' ∧ (∀ f ∈ P, f ∈ P') ∧ pre = [(L, nsC [("one", some va), ("other", some vb), ("found", some vf), ("at", oa), ("left", ol)])])
    [(L, nsC [("one", some va), ("other", some vb), ("found", some (.ref (ad 100))), ("at", none), ("left", none)])] own ?_ ?_ ?_
  · repeat dictfold_fit
    rename St B _ _ _ => S2
    refine mkEnum S2 (ha.sub (by sl_open)) ?_
    intro e it l s3 S3
    exact ⟨_, _, _, _, _, rfl, S3, by accm_open, _, _, _, mHead, by sl_open, rfl⟩
  · rintro i x v P' pre fr s E hx ⟨vf, oa, ol, hvf, hsub, rfl⟩ S2
    dsimp only [List.nil_append, List.cons_append] at S2
    refine asgTp2 hR' S2 (.mem mHead) ?_
    intro u1 u2 s3 S3
    obtain ⟨t1, rfl⟩ := S3.intV (.mem mHead)
    dsimp only at S3
    repeat dictfold_fit
    rename St B _ _ _ => S4
    have hi : i < r.length := (List.getElem?_eq_some_iff.mp hx).1
    have hic : i < c.length := by lia
    refine itN i S4 (hb.sub fun f hf => mTail (mTail (mTail (hsub f hf)))) (List.getElem?_eq_getElem hic) hc3 rfl ?_
    intro u S5
    repeat dictfold_fit
    refine rmul_spec X hB (by assumption) (hR'.mono (by decide)) (a := x) (b := c[i]) (by accj_open) (by accj_open) ?_ ?_ ?_
    · exact (sr _ (List.mem_of_getElem? hx)).mono (by decide)
    · exact (sc _ (List.getElem_mem hic)).mono (by decide)
    intro v6 s6 S6
    repeat dictfold_fit
    rename St B _ _ _ => S7
    refine radd_spec X hB S7 (hR'.mono (by decide)) (a := dotM r c i) (b := x * c[i]) (.mem (mTail (mTail (mTail (mTail (mTail hvf)))))) (.mem mHead) ?_ ?_ ?_
    · exact (dotM_sz sr sc i (by lia) (by lia)).mono (by lia)
    · exact (sz_mul (sr _ (List.mem_of_getElem? hx)) (sc _ (List.getElem_mem hic))).mono (by decide)
    intro v8 s8 S8
    repeat dictfold_fit
    rename St B _ _ _ => S9
    refine ⟨.inl rfl, _, _, _, S9, by accm_open, _, _, _, ?_, ?_, rfl⟩
    · rw [dotM_succ, get_of hx, get_of (List.getElem?_eq_getElem hic)]
      exact mHead
    · exact fun f hf => mTail (mTail (mTail (mTail (mTail (mTail (hsub f hf))))))
  · rintro P' pre s ⟨vf, oa, ol, hvf, hsub, rfl⟩ S2
    dsimp only [List.nil_append, List.cons_append] at S2
    repeat dictfold_fit
    rename St B _ _ _ => S3
    exact k _ _ (S3.out0 (by obj_index2) (List.forall_mem_cons.mpr ⟨hvf, hsub⟩))
end

section
variable {ad : Nat → Addr} {B : Shared} {P : List Fact} {own own₀ : Own} {prog : Program} {w : World} {A : Around} {E : Value → Shared → Prop} {s : Shared}
variable (X : Fns B ad) (hB : Bas B (GT ad) BT)
include X hB
set_option maxHeartbeats 4000000 in
theorem mat_mul_spec {va vb : Value} {a b : List (List Rat)} {h m n : Nat} {Q : Value → Shared → Prop} (S : St B P own s) (hR : Room A 10) (ha : Ev P (Ty.list (Ty.list Ty.rat)) va a) (hb : Ev P (Ty.list (Ty.list Ty.rat)) vb b)
    (ra : Rect h m a) (rb : Rect m n b) (hh : 0 < h) (hm : 0 < m) (hl : h ≤ 100) (hm3 : m ≤ 3) (hn : n ≤ 100) (sa : AllE (Sz 700) a) (sb : AllE (Sz 700) b)
    (k : ∀ a' s', St B ((Ty.list (Ty.list Ty.rat)).is (.ref a') (mulM a b) :: P) own s' → Q (.ref a') s') : wpAny (model prog w) A (call (.ref (ad 14)) [va, vb]) Q E s := by
  have hwa := ra.wid hh
  have hwb := rb.wid hm
  have hla : a.length ≤ 1000 := by rw [ra.1]; lia
  have hlb : b.length ≤ 1000 := by rw [rb.1]; lia
  have htl : (trM b).length = n := by simp [trM, hwb]
  have htr : ∀ c ∈ trM b, c.length = m ∧ ∀ x ∈ c, Sz 700 x := fun c hc => by
    obtain ⟨j, hj, rfl⟩ := List.mem_map.mp hc
    refine ⟨by rw [List.length_map]; exact rb.1, fun x hx => ?_⟩
    obtain ⟨r, hr, rfl⟩ := List.mem_map.mp hx
    have hj2 : j < r.length := by rw [rb.2 r hr, ← hwb]; simpa using hj
    rw [List.getD_eq_getElem?_getD, List.getElem?_eq_getElem hj2]
    exact sb r hr _ (List.getElem_mem hj2)
  refine callFn1 (n := 9) "columns" none [("a", some va), ("b", some vb)] X (by rfl) hB S hR (by rfl) (by rfl) (by decide +kernel) (by rfl) (by rfl) (by rfl) ⟨rfl, rfl, trivial⟩ ⟨rfl, trivial⟩ ?_
  intro L c env s₁ hE hR' S₁ E'
  repeat dictfold_fit
  refine shape_spec X hB (by assumption) (hR'.mono (by decide)) ha hla (by lia) ?_
  intro v s2 S2
  repeat dictfold_fit
  rename St B _ _ _ => S4
  refine itSnd S4 (.mem mHead) ?_
  intro u S5
  obtain ⟨t, rfl⟩ := S5.intV (.mem mHead)
  have hb2 := hb.sub (P' := Ty.int.is (.int (wid a) t) (wid a) :: (Ty.pair Ty.int Ty.int).is v ((a.length : Int), (wid a : Int)) :: P) (by sl_open)
  repeat dictfold_fit
  have e1 : ((wid a : Int) == (b.length : Int)) = true := by rw [hwa, rb.1]; simp
  dsimp only
  rw [e1]
  refine need_shape_spec X hB (by assumption) (hR'.mono (by decide)) ?_
  intro s6 S6
  refine ⟨rfl, ?_⟩
  repeat dictfold_fit
  refine transposed_spec X hB (by assumption) (hR'.mono (by decide)) hb2 rb hm (by lia) hn ?_
  intro a7 s7 S7
  repeat dictfold_fit
  rename St B _ _ _ => S8
  refine compMap1 (B := B) (n := a.length) (F := atF (Ty.list Ty.rat) a) [(".0", .local), ("row", .cell), ("columns", .cell)] "row" [("columns", c)] [(".0", none)] (Ty.list Ty.rat) (fun i => (trM b).map fun c => dotM (a.getD i []) c (a.getD i []).length)
    [(c, ceC (some (.ref a7)))] ((L, nsC [("a", some va), ("b", some vb)]) :: own) ((Ty.list (Ty.list Ty.rat)).is (.ref a7) (trM b) :: P) hE hla
    ⟨rfl, by rfl, by rfl, by rfl, by rfl, by rfl, by rfl, by rfl, by rfl, by rfl⟩ ?_ ?_ ?_
  · repeat dictfold_fit
    exact ⟨_, enList hR' S8 (ha.sub (by sl_open)) (by accm_open) GoOk.name, by sl_open⟩
  · intro Cn c2 cenv hE2 i v fr s E hi S2
    dsimp only [List.nil_append, List.cons_append] at S2
    obtain ⟨x, hx, S3⟩ := S2.atF
    clear S2
    have hxm := List.mem_of_getElem? hx
    have hxl : x.length = m := ra.2 _ hxm
    repeat dictfold_fit
    rename St B _ _ _ => S9
    refine compMap0 (B := B) (n := (trM b).length) (F := atF (Ty.list Ty.rat) (trM b)) [(".0", .local), ("column", .local), ("dot", .globalImplicit), ("row", .cell)] [("row", c2)] [(".0", none), ("column", none)] Ty.rat
      (fun j => dotM x ((trM b).getD j []) x.length)
      [(c2, ceC (some v))] ((Cn, nsC [(".0", none)]) :: (c, ceC (some (.ref a7))) :: fr) ((Ty.list Ty.rat).is v x :: (Ty.list (Ty.list Ty.rat)).is (.ref a7) (trM b) :: P) hE2 (by lia)
      ⟨rfl, by rfl, by rfl, by rfl, by rfl, by rfl, by rfl, by rfl, by rfl, by rfl⟩ ?_ ?_ ?_
    · repeat dictfold_fit
      exact ⟨_, enList hR' S9 (.mem (mTail mHead)) (by accm_open) GoOk.name, by sl_open⟩
    · intro Cn2 cenv2 hE3 j v2 fr2 s2 E2 hj S5
      dsimp only [List.nil_append, List.cons_append] at S5
      obtain ⟨y, hy, S6⟩ := S5.atF
      clear S5
      obtain ⟨hyl, hys⟩ := htr y (List.mem_of_getElem? hy)
      repeat dictfold_fit
      rename St B _ _ _ => S10
      refine dot_spec X hB S10 (hR'.mono (by decide)) (r := x) (c := y) (.mem (mTail mHead)) (.mem mHead) (by lia) (by lia) (by lia) (sa x hxm) hys ?_
      intro v11 s11 S11
      refine ⟨_, _, _, _, S11, ?_, by sl_open, by dl_open, by accm_open, by rfl⟩
      rw [get_of hy]
      exact .mem mHead
    · intro D s2 S2
      dsimp only [List.nil_append, List.cons_append] at S2
      rw [map_getD (fun c : List Rat => dotM x c x.length) (trM b) []] at S2
      refine ⟨_, _, _, _, _, _, S2.fzLs .head, ?_, by sl_open, by dl_open, by dl_open, by accm_open, by rfl⟩
      rw [get_of hx]
      exact .mem mHead
  · intro D s2 S2
    dsimp only [List.nil_append, List.cons_append] at S2
    rw [map_getD (fun r : List Rat => (trM b).map fun c => dotM r c r.length) a []] at S2
    have S3 : St B ((Ty.list (Ty.list Ty.rat)).is (.ref D) (mulM a b) :: _) _ _ := S2.fzLs .head
    exact k _ _ (S3.out0 (by obj_index2) (by sl_open))
end

section
variable {ad : Nat → Addr} {B : Shared} {P : List Fact} {own own₀ : Own} {prog : Program} {w : World} {A : Around} {E : Value → Shared → Prop} {s : Shared}
variable (X : Fns B ad) (hB : Bas B (GT ad) BT)
include X hB
set_option maxHeartbeats 4000000 in
theorem swap_rows_spec {av : Addr} {rows : List (List Rat)} {i j : Nat} {t u : Tok} {Q : Value → Shared → Prop} (S : St B P own s) (hR : Room A 2) (p : Pick own (av, lsC (Ty.list Ty.rat) rows) own₀) (hi : i < rows.length) (hj : j < rows.length) (hl : rows.length ≤ 100)
    (k : ∀ s', St B P ((av, lsC (Ty.list Ty.rat) (swp rows i j)) :: own₀) s' → Q .none s') : wpAny (model prog w) A (call (.ref (ad 15)) [.ref av, .int i t, .int j u]) Q E s := by
  have S0 := S.perm p.perm
  refine callFn0 (n := 1) [("a", some (.ref av)), ("one", some (.int i t)), ("other", some (.int j u))] X (by rfl) hB S0 hR (by rfl) (by rfl) (by decide +kernel) (by rfl) (by rfl) (by rfl) ⟨rfl, rfl, rfl, trivial⟩ ?_
  intro L env s₁ hE hR' S₁ E'
  have ei : rows[i]? = some (mrow rows i) := by unfold mrow; rw [List.getD_eq_getElem?_getD, List.getElem?_eq_getElem hi]; rfl
  have ej : rows[j]? = some (mrow rows j) := by unfold mrow; rw [List.getD_eq_getElem?_getD, List.getElem?_eq_getElem hj]; rfl
  repeat dictfold_fit
  refine asgTwo ?_ (noSwapSub rfl)
  repeat dictfold_fit
  refine itO j S₁ (by f_look) ej (by lia) rfl ?_
  intro u1 S2
  repeat dictfold_fit
  refine itO i S2 (by f_look) ei (by lia) rfl ?_
  intro u2 S3
  repeat dictfold_fit
  refine newTpRaw S3 (by simp) ?_
  intro a4 s4 S4
  refine asgRaw2 hR' S4 mHead ?_
  intro s5 S5
  refine asgSub ?_
  repeat dictfold_fit
  refine putO i S5 (by dl_open) (x := mrow rows j) (.mem (by f_look)) hi (by lia) rfl ?_
  intro s6 S6
  refine asgSub ?_
  repeat dictfold_fit
  refine putO j S6 (by dl_open) (x := mrow rows i) (.mem (by f_look)) (by rw [List.length_set]; exact hj) (by rw [List.length_set]; lia) rfl ?_
  intro s7 S7
  repeat dictfold_fit
  exact k _ (S7.out1 .head (by obj_index2) (by sl_open))
set_option maxHeartbeats 4000000 in
theorem take_off_spec {av : Addr} {rows : List (List Rat)} {i j h m : Nat} {q : Rat} {vq : Value} {t u : Tok} {Q : Value → Shared → Prop} (S : St B P own s) (hR : Room A 9) (p : Pick own (av, lsC (Ty.list Ty.rat) rows) own₀)
    (hq : Ev P Ty.rat vq q) (hr : Rect h m rows) (hi : i < h) (hj : j < h) (hl : h ≤ 100) (hm : m ≤ 100) (sq : Sz 700 q) (sr : AllE (Sz 700) rows)
    (k : ∀ s', St B P ((av, lsC (Ty.list Ty.rat) (tkOff rows i j q)) :: own₀) s' → Q .none s') : wpAny (model prog w) A (call (.ref (ad 16)) [.ref av, .int i t, .int j u, vq]) Q E s := by
  have S0 := S.perm p.perm
  obtain ⟨ei, eil, eim⟩ := hr.row hi
  obtain ⟨ej, ejl, ejm⟩ := hr.row hj
  have hrl : rows.length = h := hr.1
  refine callFn3 (n := 8) "number" "source" "a" (some vq) (some (.int j u)) (some (.ref av)) [("row", some (.int i t))] X (by rfl) hB S0 hR (by rfl) (by rfl) (by decide +kernel) (by rfl) (by rfl) (by rfl) ⟨rfl, trivial⟩ ⟨rfl, rfl, rfl, trivial⟩ ?_
  intro L c1 c2 c3 env s₁ hE hR' S₁ E'
  repeat dictfold_fit
  refine compMap0 (B := B) (n := (mrow rows i).length) (F := atE Ty.rat (mrow rows i)) [(".0", .local), ("at", .local), ("one", .local), ("rsub", .globalImplicit), ("rmul", .globalImplicit), ("a", .cell), ("number", .cell), ("source", .cell)]
    [("source", c2), ("number", c1), ("a", c3)] [(".0", none), ("at", none), ("one", none)] Ty.rat (fun k => (mrow rows i).getD k 0 - q * (mrow rows j).getD k 0)
    [(c1, ceC (some vq)), (c2, ceC (some (.int j u))), (c3, ceC (some (.ref av))), (av, lsC (Ty.list Ty.rat) rows)] ((L, nsC [("row", some (.int i t))]) :: own₀) P hE (by lia)
    ⟨rfl, by rfl, by rfl, by rfl, by rfl, by rfl, by rfl, by rfl, by rfl, by rfl⟩ ?_ ?_ ?_
  · repeat dictfold_fit
    refine itO i S₁ (by f_look) ei (by lia) rfl ?_
    intro u1 S2
    repeat dictfold_fit
    refine mkEnum S2 (xs := mrow rows i) (.mem mHead) ?_
    intro e it l s3 S3
    exact ⟨_, enEn hR' S3 (by accm_open), by sl_open⟩
  · intro Cn cenv hE2 n v fr s E hn S2
    dsimp only [List.nil_append, List.cons_append] at S2
    obtain ⟨x, hx, S3⟩ := S2.atE
    clear S2
    have hxm := List.mem_of_getElem? hx
    refine asgTp2 hR' S3 (.mem mHead) ?_
    intro u1 u2 s4 S4
    obtain ⟨t1, rfl⟩ := S4.intV (.mem mHead)
    dsimp only at S4
    repeat dictfold_fit
    rename St B _ _ _ => S5
    refine itO j S5 (by f_look) ej (by lia) rfl ?_
    intro u5 S6
    have hn2 : n < (mrow rows j).length := by lia
    repeat dictfold_fit
    refine itN n S6 (.mem mHead) (List.getElem?_eq_getElem hn2) (by lia) rfl ?_
    intro u6 S7
    have s1 : Sz 700 x := sr _ eim _ hxm
    have s2 : Sz 700 (mrow rows j)[n] := sr _ ejm _ (List.getElem_mem hn2)
    repeat dictfold_fit
    refine rmul_spec X hB S7 (hR'.mono (by decide)) (a := q) (b := (mrow rows j)[n]) (hq.sub (by sl_open)) (by accj_open) (sq.mono (by decide)) (s2.mono (by decide)) ?_
    intro v8 s8 S8
    repeat dictfold_fit
    refine rsub_spec X hB S8 (hR'.mono (by decide)) (a := x) (b := q * (mrow rows j)[n]) (.mem (by f_look)) (.mem mHead) (s1.mono (by decide)) ((sz_mul sq s2).mono (by decide)) ?_
    intro v9 s9 S9
    refine ⟨_, _, _, _, S9, ?_, by sl_open, by dl_open, by accm_open, by rfl⟩
    rw [get_of hx, get_of (List.getElem?_eq_getElem hn2)]
    exact .mem mHead
  · intro D s2 S2
    dsimp only [List.nil_append, List.cons_append] at S2
    rw [offRow_range] at S2
    have S3 := S2.fzLs .head
    repeat dictfold_fit
    refine putO i S3 (by dl_open) (x := offRow (mrow rows i) (mrow rows j) q) (.mem mHead) (by lia) (by lia) rfl ?_
    intro s7 S7
    repeat dictfold_fit
    exact k _ (S7.out1 .head (by obj_index2) (by sl_open))
end

section
variable {ad : Nat → Addr} {B : Shared} {P : List Fact} {own own₀ : Own} {prog : Program} {w : World} {A : Around} {E : Value → Shared → Prop} {s : Shared}
variable (X : Fns B ad) (hB : Bas B (GT ad) BT)
include X hB
omit X hB in
theorem spots_range (a : Mat) (r c : Nat) (j : Nat) : ((List.range (j + 1)).map fun i => r + i).filter (fun i => decide (ent a i c ≠ 0)) = ((List.range j).map fun i => r + i).filter (fun i => decide (ent a i c ≠ 0)) ++ (if ent a (r + j) c ≠ 0 then [r + j] else []) := by
  rw [List.range_succ, List.map_append, List.filter_append]
  by_cases h : ent a (r + j) c = 0 <;> simp [h]
omit X hB in
def echJ (P0 : List Fact) (L c1 c2 c3 fa pa : Addr) (va : Value) (st : Mat × List Nat) (P' : List Fact) (pre : Own) : Prop :=
  ∃ o1 o2 o3 o4 o5, (∀ f ∈ P0, f ∈ P') ∧ pre = [(L, nsC [("a", some va), ("pivots", some (.ref pa)), ("row", o1), ("spots", o2), ("other", o3)]), (c1, ceC o4), (c2, ceC o5), (c3, ceC (some (.ref fa))),
      (fa, lsC (Ty.list Ty.rat) st.1), (pa, plC Ty.int (st.2.map fun n : Nat => (n : Int)))]
omit X hB in
theorem echJ_end {P0 P' : List Fact} {L c1 c2 c3 fa pa : Addr} {va : Value} {a : Mat} {i : Nat} {o' fr : Own} {o1 o2 o3 o4 o5 : Option Value} {st : Mat × List Nat} {M : Mat} {ps : List Int} (S : St B P' o' s) (he : echTo a (i + 1) = st) (hM : M = st.1) (hps : ps = st.2.map fun n : Nat => (n : Int)) (hsub : ∀ f ∈ P0, f ∈ P')
    (hp : Picks o' [(L, nsC [("a", some va), ("pivots", some (.ref pa)), ("row", o1), ("spots", o2), ("other", o3)]), (c1, ceC o4), (c2, ceC o5), (c3, ceC (some (.ref fa))), (fa, lsC (Ty.list Ty.rat) M), (pa, plC Ty.int ps)] fr) :
    TurnEnd B (fun i => echJ P0 L c1 c2 c3 fa pa va (echTo a i)) fr (i + 1) s :=
  ⟨P', o', _, S, hp, o1, o2, o3, o4, o5, hsub, by rw [he, ← hM, ← hps]⟩
set_option maxHeartbeats 8000000 in
theorem echelon_spec {va : Value} {a : List (List Rat)} {h m : Nat} {Q : Value → Shared → Prop} (S : St B P own s) (hR : Room A 10) (ha : Ev P (Ty.list (Ty.list Ty.rat)) va a) (H : EOk h m 10 a) (hh : 0 < h) (hh3 : h ≤ 3) (hm : m ≤ 6)
    (k : ∀ v s', St B ((Ty.pair (Ty.list (Ty.list Ty.rat)) (Ty.list Ty.int)).is v ((ech a).1, (ech a).2.map fun n : Nat => (n : Int)) :: P) own s' → Q v s') : wpAny (model prog w) A (call (.ref (ad 17)) [va]) Q E s := by
  have hw : wid a = m := H.rect.wid hh
  have hal : a.length ≤ 1000 := by rw [H.rect.1]; lia
  refine callFn3 (n := 9) "lead" "column" "found" none none none [("a", some va), ("pivots", none), ("row", none), ("spots", none), ("other", none)] X (by rfl) hB S hR (by rfl) (by rfl) (by decide +kernel) (by rfl) (by rfl) (by rfl) ⟨rfl, trivial⟩ ⟨rfl, rfl, rfl, trivial⟩ ?_
  intro L c1 c2 c3 env s₁ hE hR' S₁ E'
  replace S₁ := S₁.R0 X
  repeat dictfold_fit
  refine asgTwo ?_ (noSwapCell1 hE (by f_look) rfl)
  repeat dictfold_fit
  refine copied_spec X hB S₁ (hR'.mono (by decide)) (ha.sub (by sl_open)) hal (fun r hr => by rw [H.rect.2 r hr]; lia) ?_
  intro fa s2 S2
  repeat dictfold_fit
  refine newLsPl (τ := Ty.int) (xs := []) S2 .nil (by decide) ?_
  intro pa s3 S3
  repeat dictfold_fit
  refine newTpRaw S3 (by simp) ?_
  intro ta s4 S4
  refine asgRaw2 hR' S4 mHead ?_
  intro s5 S5
  repeat dictfold_fit
  rename St B _ _ _ => S6
  refine forRg (B := B) hR' 0 m m (by lia) (fun i => echJ (Ty.rat.is (.ref (ad 100)) 0 :: P) L c1 c2 c3 fa pa va (echTo a i))
    [(L, nsC [("a", some va), ("pivots", some (.ref pa)), ("row", none), ("spots", none), ("other", none)]), (c1, ceC none), (c2, ceC none), (c3, ceC (some (.ref fa))),
      (fa, lsC (Ty.list Ty.rat) a), (pa, plC Ty.int [])] own ?_ ?_ ?_
  · repeat dictfold_fit
    refine shape_spec X hB S6 (hR'.mono (by decide)) (ha.sub (by sl_open)) hal (by lia) ?_
    intro v s2 S2
    repeat dictfold_fit
    rename St B _ _ _ => S4
    refine itSnd S4 (.mem mHead) ?_
    intro u S5
    obtain ⟨t, rfl⟩ := S5.intV (.mem mHead)
    repeat dictfold_fit
    rename St B _ _ _ => S7
    dsimp only at S7
    rw [hw] at S7
    exact ⟨_, _, _, rfl, S7, mHead, by accm_open, _, _, _, _, _, by sl_open, rfl⟩
  · rintro i t P' pre fr s E hi ⟨o1, o2, o3, o4, o5, hsub, rfl⟩ S7
    dsimp only [List.nil_append, List.cons_append] at S7
    have I := ech_inv H i (by lia)
    generalize hst : echTo a i = st at *
    obtain ⟨M, pv⟩ := st
    dsimp only at S7 ⊢
    have hok : EOk h m (bits pv.length) M := I.ok
    have hMl : M.length = h := hok.rect.1
    have hpl : pv.length ≤ h := I.le
    have hP : (pv.map fun n : Nat => (n : Int)).length ≤ 1000 := by rw [List.length_map]; lia
    repeat dictfold_fit
    rename St B _ _ _ => S8
    rw [List.length_map] at S8
    have hPt : ∀ f ∈ Ty.rat.is (.ref (ad 100)) 0 :: P, f ∈ P' := hsub
    refine' compU0 (B := B) (n := h - pv.length) (F := rgAt pv.length) [(".0", .local), ("at", .local), ("R0", .globalImplicit), ("column", .cell), ("found", .cell)] [("found", c3), ("column", c2)] [(".0", none), ("at", none)] Ty.int
      (fun j zs P'' pre' => zs = (((List.range j).map fun i => pv.length + i).filter (fun o => decide (ent M o i ≠ 0))).map (fun n : Nat => (n : Int)) ∧ (∀ f ∈ P', f ∈ P'') ∧ pre' = [(c2, ceC (some (.int (0 + (i : Int)) t))), (c3, ceC (some (.ref fa))), (fa, lsC (Ty.list Ty.rat) M)])
      [(c2, ceC (some (.int (0 + (i : Int)) t))), (c3, ceC (some (.ref fa))), (fa, lsC (Ty.list Ty.rat) M)] _ hE (by lia)
      ⟨rfl, by rfl, by rfl, by rfl, by rfl, by rfl, by rfl, by rfl, by rfl, by rfl⟩ (by f_look) (by rfl) (by rfl) ?h1 ?h2 ?h3 (by intro _; rfl)
    case h1 =>
      have hMl1 : M.length ≤ 1000 := by lia
      repeat dictfold_fit
      rename St B _ _ _ => S9
      exact ⟨_, enRg hR' S9 mHead (by lia) (by accm_open), rfl, by sl_open, rfl⟩
    case h2 =>
      rintro Cn cenv hE2 j v zs P'' pre' fr2 s9 E9 hj hz ⟨rfl, hsub2, rfl⟩ S9
      dsimp only [List.nil_append, List.cons_append] at S9
      obtain ⟨t9, rfl⟩ := S9.intV (.mem mHead)
      repeat dictfold_fit
      rename St B _ _ _ => S10
      obtain ⟨e1, e2, e3⟩ := hok.rect.row (i := pv.length + j) (by lia)
      refine itO (pv.length + j) S10 (by f_look) e1 (by lia) (by lia) ?_
      intro u1 S11
      repeat dictfold_fit
      refine itN i S11 (.mem mHead) (hok.rect.ent (i := pv.length + j) (j := i) (by lia) (by lia)) (by lia) (by lia) ?_
      intro u2 S12
      repeat dictfold_fit
      refine neD Cod.rat S12 hR' (x := ent M (pv.length + j) i) (y := 0) (.mem mHead) (.mem (mTail (mTail (mTail (hsub2 _ (hPt _ mHead)))))) (by decide) ?_
      refine wpAny_truthy_bool ?_
      by_cases h0 : ent M (pv.length + j) i = 0
      · rw [if_neg (by simp [h0])]
        refine ⟨_, _, _, _, _, S12, by dl_open, by accm_open, by rfl, ?_, fun f hf => mTail (mTail (mTail (hsub2 f hf))), rfl⟩
        rw [spots_range, if_neg (by simpa using h0), List.append_nil]
      · rw [if_pos (by simp [h0])]
        repeat dictfold_fit
        refine ⟨_, _, _, _, _, ((pv.length + j : Nat) : Int), S12, ?_, by dl_open, by accm_open, by rfl, ?_, fun f hf => mTail (mTail (mTail (hsub2 f hf))), rfl⟩
        · exact Ev.int
        · rw [spots_range, if_pos h0, List.map_append]; rfl
    case h3 =>
      rintro P'' pre' zs D Cn s9 ⟨rfl, hsub2, rfl⟩ S9
      dsimp only [List.nil_append, List.cons_append] at S9
      have hzs : (((List.range (h - pv.length)).map fun i => pv.length + i).filter (fun o => decide (ent M o i ≠ 0))) = spots M pv.length i := by unfold spots; rw [hMl]
      rw [hzs] at S9
      repeat dictfold_fit
      rename St B _ _ _ => S10
      refine ⟨_, _, _, _, S10, by dl_open, ?_⟩
      intro s11 S11
      have hsl : ((spots M pv.length i).map fun n : Nat => (n : Int)).length ≤ 1000 := by
        rw [List.length_map, ← hzs]
        refine Nat.le_trans (List.length_filter_le _ _) ?_
        rw [List.length_map, List.length_range]; lia
      repeat dictfold_fit
      rename St B _ _ _ => S12
      cases hsp : spots M pv.length i with
      | nil =>
        rw [hsp] at S12
        rw [if_pos (by simp)]
        repeat dictfold_fit
        refine wpAny_Continue ?_
        refine ⟨.inr rfl, echJ_end (S12.drop (.tail .head)) (M := M) (st := (M, pv)) ?_ rfl rfl (fun f hf => hsub2 f (hsub f hf)) (by accm_open)⟩
        rw [echTo_succ, hst]
        unfold estep
        rw [hsp]
      | cons s0 rest =>
        have hsm : s0 ∈ spots M pv.length i := by rw [hsp]; exact .head _
        have PV := piv_ok hok (by lia) hsm
        have hk : bits pv.length ≤ 165 := bits_mono (p := pv.length) (q := 2) (by have := PV.lt; lia)
        have hlt := PV.lt
        have hls := PV.ls
        rw [hsp] at S12 hsl
        rw [if_neg (by simp [hsp]; try lia)]
        repeat dictfold_fit
        rename St B _ _ _ => S12b
        refine itO 0 S12b (by f_look) (x := (s0 : Int)) rfl hsl rfl ?_
        intro u13 S13
        obtain ⟨t13, rfl⟩ := S13.intV (.mem mHead)
        repeat dictfold_fit
        refine swap_rows_spec X hB S13 (hR'.mono (by decide)) (rows := M) (i := pv.length) (j := s0) (by dl_open) (by lia) (by lia) (by lia) ?_
        intro s14 S14
        refine ⟨rfl, ?_⟩
        have hsw := PV.sw
        generalize hM1 : swp M pv.length s0 = M1 at *
        obtain ⟨e1, e2, e3⟩ := hsw.rect.row (i := pv.length) (by lia)
        have hM1l : M1.length = h := hsw.rect.1
        repeat dictfold_fit
        refine itO pv.length S14 (by f_look) e1 (by lia) (by lia) ?_
        intro u15 S15
        repeat dictfold_fit
        refine itN i S15 (.mem mHead) (hsw.rect.ent (i := pv.length) (j := i) (by lia) (by lia)) (by rw [e2]; lia) (by lia) ?_
        intro vl S16
        have h0 : ent M1 pv.length i ≠ 0 := by rw [← hM1, ent_swp_self hok.rect hlt hls]; exact PV.ne
        have sl : Sz 165 (ent M1 pv.length i) := (AllE.ent hsw.rect hsw.sz hlt (by lia)).mono hk
        repeat dictfold_fit
        rename St B _ _ _ => S17
        refine' compMap0 (B := B) (n := (mrow M1 pv.length).length) (F := atF Ty.rat (mrow M1 pv.length)) [(".0", .local), ("one", .local), ("rdiv", .globalImplicit), ("lead", .cell)] [("lead", c1)] [(".0", none), ("one", none)] Ty.rat
          (fun j => (mrow M1 pv.length).getD j 0 / ent M1 pv.length i) [(c1, ceC (some vl))] _ (Ty.rat.is vl (ent M1 pv.length i) :: P'') hE (by lia)
          ⟨rfl, by rfl, by rfl, by rfl, by rfl, by rfl, by rfl, by rfl, by rfl, by rfl⟩ ?g1 ?g2 ?g3 (by intro _; rfl)
        case g1 =>
          repeat dictfold_fit
          refine itO pv.length S17 (by f_look) e1 (by lia) (by lia) ?_
          intro u18 S18
          exact ⟨_, enList hR' S18 (.mem mHead) (by accm_open) GoOk.name, by sl_open⟩
        case g2 =>
          intro Cn2 cenv2 hE3 j v2 fr2 s2 E2 hj S18
          dsimp only [List.nil_append, List.cons_append] at S18
          obtain ⟨x, hx, S19⟩ := S18.atF
          clear S18
          have hxs : Sz 165 x := (hsw.sz _ e3 x (List.mem_of_getElem? hx)).mono hk
          repeat dictfold_fit
          rename St B _ _ _ => S20
          refine rdiv_spec X hB S20 (hR'.mono (by decide)) (a := x) (b := ent M1 pv.length i) (.mem mHead) (.mem (mTail mHead)) (hxs.mono (by decide)) (sl.mono (by decide)) h0 ?_
          intro v21 s21 S21
          refine ⟨_, _, _, _, S21, ?_, by sl_open, by dl_open, by accm_open, by rfl⟩
          rw [get_of hx]
          exact .mem mHead
        case g3 =>
          intro D2 s18 S18
          dsimp only [List.nil_append, List.cons_append] at S18
          rw [map_getD (fun x : Rat => x / ent M1 pv.length i) (mrow M1 pv.length) 0] at S18
          have S19 := S18.fzLs .head
          clear S18
          repeat dictfold_fit
          refine putO pv.length S19 (by dl_open) (x := (mrow M1 pv.length).map fun x => x / ent M1 pv.length i) (.mem mHead) (by lia) (by lia) (by lia) ?_
          intro s20 S20
          have hscl : M1.set pv.length ((mrow M1 pv.length).map fun x => x / ent M1 pv.length i) = scl M1 pv.length i := rfl
          rw [hscl] at S20
          have hCL := PV.clr
          have hsc := PV.sc
          rw [hM1] at hCL hsc
          generalize hM2 : scl M1 pv.length i = M2 at *
          have hM2l : M2.length = h := hsc.rect.1
          have hM2l1 : M2.length ≤ 1000 := by lia
          repeat dictfold_fit
          refine' forRg (B := B) hR' 0 h h (by lia) (fun o P3 pre => ∃ o3 t9 R, (∀ f ∈ P', f ∈ P3) ∧ R = clrTo pv.length i M2 o ∧ pre = [(L, nsC [("a", some va), ("pivots", some (.ref pa)), ("row", some (.int pv.length t9)), ("spots", some (.ref D)), ("other", o3)]), (c2, ceC (some (.int (0 + (i : Int)) t))),
              (c3, ceC (some (.ref fa))), (fa, lsC (Ty.list Ty.rat) R)])
            [(L, nsC [("a", some va), ("pivots", some (.ref pa)), ("row", some (.int pv.length _)), ("spots", some (.ref D)), ("other", _)]), (c2, ceC (some (.int (0 + (i : Int)) t))), (c3, ceC (some (.ref fa))), (fa, lsC (Ty.list Ty.rat) M2)] _ ?g4 ?g5 ?g6
            (by intro _ _; rfl) (by intro _; rfl)
          case g4 =>
            repeat dictfold_fit
            rename St B _ _ _ => S21
            rw [hM2l] at S21
            exact ⟨_, _, _, rfl, S21, mHead, by accm_open, _, _, _, fun f hf => mTail (mTail (mTail (hsub2 f hf))), rfl, rfl⟩
          case g5 =>
            rintro o t22 P3 pre fr3 s22 E22 ho ⟨o3, t9, _, hsub3, rfl, rfl⟩ S22
            dsimp only [List.nil_append, List.cons_append] at S22
            have C1 := hCL o (by lia)
            have C2 := hCL (o + 1) (by lia)
            rw [clrTo_succ] at C2
            have hsucc := clrTo_succ pv.length i M2 o
            generalize hM3 : clrTo pv.length i M2 o = M3 at *
            have hk3 : 4 * bits pv.length + 1 ≤ 661 := by lia
            have hM3l : M3.length = h := C1.ok.rect.1
            obtain ⟨f1, f2, f3⟩ := C1.ok.rect.row (i := o) ho
            repeat dictfold_fit
            rename St B _ _ _ => S23
            by_cases hor : o = pv.length
            · rw [if_neg (by simp; lia)]
              simp only [Bool.false_eq_true, if_false]
              repeat dictfold_fit
              rename St B _ _ _ => S24
              refine ⟨.inl rfl, _, _, _, S24, by accm_open, _, _, _, hsub3, ?_, rfl⟩
              rw [hsucc, if_neg (by simp [hor])]
            · rw [if_pos (by simp; lia)]
              repeat dictfold_fit
              rename St B _ _ _ => S24
              refine itO o S24 (by f_look) f1 (by lia) (by lia) ?_
              intro u25 S25
              repeat dictfold_fit
              refine itN i S25 (.mem mHead) (C1.ok.rect.ent (i := o) (j := i) ho (by lia)) (by rw [f2]; lia) (by lia) ?_
              intro u26 S26
              repeat dictfold_fit
              refine neD Cod.rat S26 hR' (x := ent M3 o i) (y := 0) (.mem mHead) (.mem (mTail (mTail (hsub3 _ (hsub _ mHead))))) (by decide) ?_
              refine wpAny_truthy_bool ?_
              by_cases h9 : ent M3 o i = 0
              · rw [if_neg (by simp [h9])]
                simp only [Bool.false_eq_true, if_false]
                repeat dictfold_fit
                refine ⟨.inl rfl, _, _, _, S26, by accm_open, _, _, _, fun f hf => mTail (mTail (hsub3 f hf)), ?_, rfl⟩
                rw [hsucc, if_neg (by simp [h9])]
              · rw [if_pos (by simp [h9])]
                repeat dictfold_fit
                simp only [if_true]
                repeat dictfold_fit
                refine itO o S26 (by f_look) f1 (by lia) (by lia) ?_
                intro u27 S27
                repeat dictfold_fit
                refine itN i S27 (.mem mHead) (C1.ok.rect.ent (i := o) (j := i) ho (by lia)) (by rw [f2]; lia) (by lia) ?_
                intro u28 S28
                repeat dictfold_fit
                have eo : (0 : Int) + (o : Int) = ((o : Nat) : Int) := by lia
                rw [eo] at S28 ⊢
                have A3 := C1.ok.mono (l := 700) (by lia)
                refine take_off_spec X hB S28 (hR'.mono (by decide)) (i := o) (j := pv.length) (q := ent M3 o i) (by dl_open) (.mem mHead) A3.rect ho hlt (by lia) (by lia) (AllE.ent A3.rect A3.sz ho (by lia)) A3.sz ?_
                intro s29 S29
                refine ⟨rfl, ?_⟩
                repeat dictfold_fit
                refine ⟨.inl rfl, _, _, _, S29, by accm_open, _, _, _, fun f hf => mTail (mTail (mTail (mTail (hsub3 f hf)))), ?_, rfl⟩
                rw [hsucc, if_pos ⟨hor, h9⟩]
          case g6 =>
            rintro P3 pre s22 ⟨o3, t9, _, hsub3, rfl, rfl⟩ S22
            dsimp only [List.nil_append, List.cons_append] at S22
            repeat dictfold_fit
            refine callMeth (id := "list.append") ?_
            repeat dictfold_fit
            refine ⟨methAppend S22 (by f_look), ?_⟩
            repeat dictfold_fit
            have ei : (0 : Int) + (i : Int) = ((i : Nat) : Int) := by lia
            rw [ei]
            refine appendPl S22 (by dl_open) (x := ((i : Nat) : Int)) Ev.int hP ?_
            intro s30 S30
            refine ⟨rfl, ?_⟩
            repeat dictfold_fit
            have S31 := S30.drop (y := (D, lsC Ty.int _)) (by dl_open)
            refine ⟨.inl rfl, echJ_end S31 (st := (pivot M pv.length i s0, pv ++ [i])) ?_ ?_ ?_ (fun f hf => hsub3 f (hsub f hf)) (by accm_open)⟩
            · rw [echTo_succ, hst]
              unfold estep
              rw [hsp]
            · show _ = pivot M pv.length i s0
              unfold pivot
              rw [hM1, hM2, hMl]
            · show _ = (pv ++ [i]).map _
              rw [List.map_append]; rfl
  · rintro P' pre s ⟨o1, o2, o3, o4, o5, hsub, rfl⟩ S7
    dsimp only [List.nil_append, List.cons_append] at S7
    repeat dictfold_fit
    have hech : ech a = echTo a m := by unfold ech; rw [hw]
    rw [← hech] at S7
    have S8 := (S7.fzLs (a := fa) (by dl_open)).fzPl (a := pa) (by dl_open)
    refine newTp2 S8 (x := (ech a).1) (y := (ech a).2.map fun n : Nat => (n : Int)) (.mem (mTail mHead)) (.mem mHead) ?_
    intro a9 s9 S9
    exact k _ _ (S9.out0 (by obj_index2) (List.forall_mem_cons.mpr ⟨mHead, fun f hf => mTail (mTail (mTail (hsub f (mTail hf))))⟩))
end

section
variable {ad : Nat → Addr} {B : Shared} {P : List Fact} {own own₀ : Own} {prog : Program} {w : World} {A : Around} {E : Value → Shared → Prop} {s : Shared}
variable (X : Fns B ad) (hB : Bas B (GT ad) BT)
include X hB
set_option maxHeartbeats 8000000 in
theorem inverse_spec {va : Value} {a : List (List Rat)} {n : Nat} {Q : Value → Shared → Prop} (S : St B P own s) (hR : Room A 12) (ha : Ev P (Ty.list (Ty.list Ty.rat)) va a) (H : EOk n n 10 a) (hn : 0 < n) (hn3 : n ≤ 3)
    (k : ∀ v s', St B ((Ty.opt (Ty.list (Ty.list Ty.rat))).is v (invM a) :: P) own s' → Q v s') : wpAny (model prog w) A (call (.ref (ad 18)) [va]) Q E s := by
  have hal : a.length = n := H.rect.1
  have hal1 : a.length ≤ 1000 := by lia
  have hw : wid a = n := H.rect.wid hn
  have Hw := wideM_ok H
  refine callFn1 (n := 11) "n" none [("a", some va), ("wide", none), ("found", none), ("pivots", none)] X (by rfl) hB S hR (by rfl) (by rfl) (by decide +kernel) (by rfl) (by rfl) (by rfl) ⟨rfl, trivial⟩ ⟨rfl, trivial⟩ ?_
  intro L c env s₁ hE hR' S₁ E'
  repeat dictfold_fit
  rename St B _ _ _ => S2
  refine BoolOp_or ?_
  repeat dictfold_fit
  refine shape_spec X hB S2 (hR'.mono (by decide)) ha hal1 (by lia) ?_
  intro v s3 S3
  repeat dictfold_fit
  rename St B _ _ _ => S4
  refine itSnd S4 (.mem mHead) ?_
  intro u S5
  obtain ⟨t5, rfl⟩ := S5.intV (.mem mHead)
  repeat dictfold_fit
  dsimp only
  have e1 : ((a.length : Int) == (wid a : Int)) = true := by rw [hw, hal]; simp
  rw [e1]
  simp only [if_true]
  repeat dictfold_fit
  refine need_shape_spec X hB (by assumption) (hR'.mono (by decide)) ?_
  intro s6 S6
  refine ⟨rfl, ?_⟩
  repeat dictfold_fit
  have hid := (idM_ok (n := a.length)).1
  refine' compMapU (B := B) (n := a.length) (F := atE (Ty.list Ty.rat) a) [(".0", .local), ("at", .local), ("row", .local), ("list", .globalImplicit), ("unit_matrix", .globalImplicit), ("n", .cell)] [("n", c)] [(".0", none), ("at", none), ("row", none)] (Ty.list Ty.rat)
    (fun i => a.getD i [] ++ (idM a.length).getD i []) [(c, ceC (some (.int a.length _)))] _ P hE hal1
    ⟨rfl, by rfl, by rfl, by rfl, by rfl, by rfl, by rfl, by rfl, by rfl, by rfl⟩ (by f_look) (by rfl) (by rfl) ?g1 ?g2 ?g3 (by intro _; rfl)
  case g1 =>
    repeat dictfold_fit
    rename St B _ _ _ => S7
    refine mkEnum S7 (ha.sub (by sl_open)) ?_
    intro e it l s8 S8
    exact ⟨_, enEn hR' S8 (by accm_open), by sl_open⟩
  case g2 =>
    intro Cn cenv hE2 i v fr s E hi S7
    dsimp only [List.nil_append, List.cons_append] at S7
    obtain ⟨x, hx, S8⟩ := S7.atE
    clear S7
    have hxl : x.length = n := H.rect.2 _ (List.mem_of_getElem? hx)
    refine asgTp2 hR' S8 (.mem mHead) ?_
    intro u1 u2 s9 S9
    obtain ⟨t9, rfl⟩ := S9.intV (.mem mHead)
    dsimp only at S9
    repeat dictfold_fit
    rename St B _ _ _ => S10
    refine copyLs S10 (.mem (mTail mHead)) (by lia) ?_
    intro a11 s11 S11
    repeat dictfold_fit
    refine unit_matrix_spec X hB S11 (hR'.mono (by decide)) (n := a.length) (by lia) ?_
    intro a12 s12 S12
    repeat dictfold_fit
    rename St B _ _ _ => S13
    obtain ⟨e1, e2, e3⟩ := hid.row hi
    refine itN i S13 (.mem mHead) e1 (by rw [hid.1]; lia) rfl ?_
    intro u14 S14
    refine catLs S14 (xs := x) (ys := mrow (idM a.length) i) (.mem (by f_look)) (.mem mHead) (by lia) (by lia) ?_
    intro a15 s15 S15
    refine ⟨_, _, _, _, S15, ?_, by sl_open, by dl_open, by accm_open, by rfl⟩
    rw [get_of hx]
    exact .mem mHead
  case g3 =>
    intro D Cn s7 S7
    dsimp only [List.nil_append, List.cons_append] at S7
    have S8 : St B _ ((D, lsC (Ty.list Ty.rat) (wideM a)) :: _) s7 := S7.perm (List.Perm.swap _ _ _)
    have S9 := S8.fzLs .head
    repeat dictfold_fit
    rename St B _ _ _ => S10
    refine ⟨_, _, _, _, S10, by dl_open, ?_⟩
    intro s11 S11
    repeat dictfold_fit
    refine asgCall2 ?_
    repeat dictfold_fit
    refine echelon_spec X hB S11 (hR'.mono (by decide)) (a := wideM a) (.mem mHead) Hw hn hn3 (by lia) ?_
    intro v12 s12 S12
    repeat dictfold_fit
    have I := ech_inv Hw (n + n) (Nat.le_refl _)
    have hech : ech (wideM a) = echTo (wideM a) (n + n) := by unfold ech; rw [Hw.rect.wid hn]
    rw [← hech] at I
    refine asgTp2 hR' S12 (.mem mHead) ?_
    intro u1 u2 s13 S13
    dsimp only at S13
    repeat dictfold_fit
    refine sliceUpto B Ty.int ?_
    repeat dictfold_fit
    rename St B _ _ _ => S14
    have hple : ((ech (wideM a)).2.map fun n : Nat => (n : Int)).length ≤ 1000 := by rw [List.length_map]; have := I.le; lia
    refine ⟨_, _, _, a.length, _, S14, .mem (mTail mHead), rfl, hple, ?_⟩
    intro a15 s15 S15
    repeat dictfold_fit
    rename St B _ _ _ => S16
    refine listRange S16 (hR'.mono (by decide)) mHead (by lia) (by lia) ?_
    intro a17 s17 S17
    refine neD (Cod.list Cod.int) S17 hR' (x := ((ech (wideM a)).2.map fun n : Nat => (n : Int)).take a.length) (y := rangeL 0 (a.length : Int).toNat) (.mem (by f_look)) (.mem mHead) (by decide) ?_
    refine wpAny_truthy_bool ?_
    have einv : invM a = if ((ech (wideM a)).2.map fun n : Nat => (n : Int)).take a.length = rangeL 0 (a.length : Int).toNat then some ((ech (wideM a)).1.map fun r => r.drop a.length) else none := rfl
    by_cases hc : ((ech (wideM a)).2.map fun n : Nat => (n : Int)).take a.length = rangeL 0 (a.length : Int).toNat
    · rw [if_pos hc] at einv
      rw [if_neg (by simp [hc])]
      repeat dictfold_fit
      have hfl : (ech (wideM a)).1.length = n := I.ok.rect.1
      refine' compMap0 (B := B) (n := (ech (wideM a)).1.length) (F := atF (Ty.list Ty.rat) (ech (wideM a)).1) [(".0", .local), ("row", .local), ("n", .cell)] [("n", c)] [(".0", none), ("row", none)] (Ty.list Ty.rat)
        (fun i => ((ech (wideM a)).1.getD i []).drop a.length) [(c, ceC (some (.int a.length _)))] _ P hE (by lia)
        ⟨rfl, by rfl, by rfl, by rfl, by rfl, by rfl, by rfl, by rfl, by rfl, by rfl⟩ ?g4 ?g5 ?g6 (by intro _; rfl)
      case g4 =>
        repeat dictfold_fit
        exact ⟨_, enList hR' S17 (.mem (by f_look)) (by accm_open) GoOk.name, by sl_open⟩
      case g5 =>
        intro Cn2 cenv2 hE3 i v2 fr2 s2 E2 hi S18
        dsimp only [List.nil_append, List.cons_append] at S18
        obtain ⟨x, hx, S19⟩ := S18.atF
        clear S18
        have hxl : x.length = n + n := I.ok.rect.2 _ (List.mem_of_getElem? hx)
        repeat dictfold_fit
        refine sliceFrom B Ty.rat ?_
        repeat dictfold_fit
        rename St B _ _ _ => S20
        refine ⟨_, _, _, a.length, _, S20, .mem mHead, rfl, by lia, by lia, ?_⟩
        intro a21 s21 S21
        refine ⟨_, _, _, _, S21, ?_, by sl_open, by dl_open, by accm_open, by rfl⟩
        rw [get_of hx]
        exact .mem mHead
      case g6 =>
        intro D2 s18 S18
        dsimp only [List.nil_append, List.cons_append] at S18
        rw [map_getD (fun r : List Rat => r.drop a.length) (ech (wideM a)).1 []] at S18
        have S19 := S18.fzLs .head
        have S20 := S19.add (τ := Ty.opt (Ty.list (Ty.list Ty.rat))) (.osome (.mem mHead))
        rw [← einv] at S20
        exact k (.ref D2) _ (S20.out0 (by obj_index2) (by sl_open))
    · rw [if_neg hc] at einv
      rw [if_pos (by rw [decide_eq_false hc]; rfl)]
      repeat dictfold_fit
      have S18 := S17.add (τ := Ty.opt (Ty.list (Ty.list Ty.rat))) .onone
      rw [← einv] at S18
      exact k .none _ (S18.out0 (by obj_index2) (by sl_open))
end

section
variable {ad : Nat → Addr} {B : Shared} {P : List Fact} {own own₀ : Own} {prog : Program} {w : World} {A : Around} {E : Value → Shared → Prop} {s : Shared}
variable (X : Fns B ad) (hB : Bas B (GT ad) BT)
include X hB
set_option maxHeartbeats 8000000 in
theorem null_base_spec {va : Value} {a : List (List Rat)} {h m : Nat} {Q : Value → Shared → Prop} (S : St B P own s) (hR : Room A 12) (ha : Ev P (Ty.list (Ty.list Ty.rat)) va a) (H : EOk h m 10 a) (hh : 0 < h) (hh3 : h ≤ 3) (hm : m ≤ 6)
    (k : ∀ a' s', St B ((Ty.list (Ty.list Ty.rat)).is (.ref a') (nullM a) :: P) own s' → Q (.ref a') s') : wpAny (model prog w) A (call (.ref (ad 19)) [va]) Q E s := by
  have hal : a.length = h := H.rect.1
  have hal1 : a.length ≤ 1000 := by lia
  have hw : wid a = m := H.rect.wid hh
  have I := ech_inv H m (Nat.le_refl _)
  have hech : ech a = echTo a m := by unfold ech; rw [hw]
  rw [← hech] at I
  refine callFn0 (n := 11) [("a", some va), ("reduced", none), ("pivots", none), ("found", none), ("column", none), ("one", none), ("at", none), ("spot", none)] X (by rfl) hB S hR (by rfl) (by rfl) (by decide +kernel) (by rfl) (by rfl) (by rfl) ⟨rfl, trivial⟩ ?_
  intro L env s₁ hE hR' S₁ E'
  replace S₁ := (S₁.R0 X).R1 X
  have nullE : nullM a = ((List.range m).filter fun c => !(ech a).2.contains c).map fun c => nullV (ech a).1 (ech a).2 m c (ech a).2.length := by unfold nullM; rw [hw]
  repeat dictfold_fit
  refine asgCall2 ?_
  repeat dictfold_fit
  refine echelon_spec X hB S₁ (hR'.mono (by decide)) (ha.sub (by sl_open)) H hh hh3 hm ?_
  intro v2 s2 S2
  generalize ech a = e at *
  obtain ⟨M, piv⟩ := e
  have hok : EOk h m (bits piv.length) M := I.ok
  have hpl : piv.length ≤ h := I.le
  have hplt : ∀ c ∈ piv, c < m := I.lt
  dsimp only at S2 nullE
  have hz : (piv.map fun n : Nat => (n : Int)) = toZ piv := rfl
  rw [hz] at S2
  have hzl : (toZ piv).length = piv.length := by unfold toZ; rw [List.length_map]
  have hMl : M.length = h := hok.rect.1
  repeat dictfold_fit
  refine asgTp2 hR' S2 (.mem mHead) ?_
  intro u1 u2 s3 S3
  dsimp only at S3
  repeat dictfold_fit
  rename St B _ _ _ => S4
  refine newLsPl (τ := Ty.list Ty.rat) (xs := []) S4 .nil (by decide) ?_
  intro fa s5 S5
  have S6 := S5.sub (P' := (Ty.list (Ty.list Ty.rat)).is u1 M :: (Ty.list Ty.int).is u2 (toZ piv) :: Ty.rat.is (.ref (ad 101)) 1 :: Ty.rat.is (.ref (ad 100)) 0 :: P) (by sl_open)
  clear S5 S4 S3 S2 S₁
  repeat dictfold_fit
  generalize hP0 : (Ty.list (Ty.list Ty.rat)).is u1 M :: (Ty.list Ty.int).is u2 (toZ piv) :: Ty.rat.is (.ref (ad 101)) 1 :: Ty.rat.is (.ref (ad 100)) 0 :: P = P0 at *
  have q1 : (Ty.list (Ty.list Ty.rat)).is u1 M ∈ P0 := by rw [← hP0]; f_look
  have q2 : (Ty.list Ty.int).is u2 (toZ piv) ∈ P0 := by rw [← hP0]; f_look
  have q3 : Ty.rat.is (.ref (ad 101)) 1 ∈ P0 := by rw [← hP0]; f_look
  have q4 : Ty.rat.is (.ref (ad 100)) 0 ∈ P0 := by rw [← hP0]; f_look
  have q5 : ∀ f ∈ P, f ∈ P0 := by rw [← hP0]; sl_open
  clear hP0
  rename St B _ _ _ => S7
  refine' forRg (B := B) hR' 0 m m (by lia) (fun i P' pre => ∃ o1 o2 o3 o4 R, (∀ f ∈ P0, f ∈ P') ∧ R = (((List.range i).filter fun c => !piv.contains c).map fun c => nullV M piv m c piv.length) ∧
      pre = [(L, nsC [("a", some va), ("reduced", some u1), ("pivots", some u2), ("found", some (.ref fa)), ("column", o1), ("one", o2), ("at", o3), ("spot", o4)]), (fa, plC (Ty.list Ty.rat) R)])
    [(L, nsC [("a", some va), ("reduced", some u1), ("pivots", some u2), ("found", some (.ref fa)), ("column", none), ("one", none), ("at", none), ("spot", none)]), (fa, plC (Ty.list Ty.rat) [])] own ?g1 ?g2 ?g3 (by intro _ _; rfl) (by intro _; rfl)
  case g1 =>
    repeat dictfold_fit
    refine shape_spec X hB S7 (hR'.mono (by decide)) (ha.sub q5) hal1 (by lia) ?_
    intro v8 s8 S8
    repeat dictfold_fit
    rename St B _ _ _ => S9
    refine itSnd S9 (.mem mHead) ?_
    intro u S10
    obtain ⟨t, rfl⟩ := S10.intV (.mem mHead)
    repeat dictfold_fit
    rename St B _ _ _ => S11
    dsimp only at S11
    rw [hw] at S11
    exact ⟨_, _, _, rfl, S11, mHead, by accm_open, _, _, _, _, _, by sl_open, rfl, rfl⟩
  case g2 =>
    rintro i t P' pre fr s E hi ⟨o1, o2, o3, o4, _, hsub, rfl, rfl⟩ S8
    dsimp only [List.nil_append, List.cons_append] at S8
    have hq2 : Ev P' (Ty.list Ty.int) u2 (toZ piv) := .mem (hsub _ q2)
    have ei : (0 : Int) + (i : Int) = ((i : Nat) : Int) := by lia
    rw [ei]
    repeat dictfold_fit
    rename St B _ _ _ => S9
    by_cases hc : i ∈ piv
    · rw [if_pos (by rw [decide_eq_true (toZ_mem.mpr hc)])]
      repeat dictfold_fit
      refine wpAny_Continue ?_
      refine ⟨.inr rfl, _, _, _, S9, by accm_open, _, _, _, _, _, hsub, ?_, rfl⟩
      rw [List.range_succ, List.filter_append]
      simp [hc]
    · rw [if_neg (by rw [decide_eq_false (fun h => hc (toZ_mem.mp h))]; exact Bool.false_ne_true)]
      repeat dictfold_fit
      refine newLsPl (τ := Ty.rat) (xs := [0]) S9 (.cons (.mem (hsub _ q4)) .nil) (by simp) ?_
      intro la s10 S10
      repeat dictfold_fit
      refine shape_spec X hB S10 (hR'.mono (by decide)) (ha.sub (fun f hf => hsub f (q5 f hf))) hal1 (by lia) ?_
      intro v11 s11 S11
      repeat dictfold_fit
      rename St B _ _ _ => S12
      refine itSnd S12 (.mem mHead) ?_
      intro u13 S13
      obtain ⟨t13, rfl⟩ := S13.intV (.mem mHead)
      repeat dictfold_fit
      dsimp only at S13 ⊢
      rw [hw]
      refine mulLs S13 (by dl_open) (by lia) (by lia) ?_
      intro oa s14 S14
      rw [Int.toNat_natCast] at S14
      repeat dictfold_fit
      rename St B _ _ _ => S15
      refine putO i S15 (by dl_open) (x := 1) (.mem (mTail (mTail (hsub _ q3)))) (by rw [List.length_replicate]; exact hi) (by rw [List.length_replicate]; lia) rfl ?_
      intro s16 S16
      have S17 := S16.sub (P' := P') (by sl_open)
      clear S16 S15 S14 S13 S12 S11 S10 S9 S8
      repeat dictfold_fit
      refine' forEn (B := B) hR' Ty.int (toZ piv) (fun j P3 pre => ∃ o3 o4 t9 R, (∀ f ∈ P', f ∈ P3) ∧ R = nullV M piv m i j ∧ pre = [(L, nsC [("a", some va), ("reduced", some u1), ("pivots", some u2), ("found", some (.ref fa)), ("column", some (.int i t9)), ("one", some (.ref oa)), ("at", o3), ("spot", o4)]), (oa, lsC Ty.rat R)])
        [(L, nsC [("a", some va), ("reduced", some u1), ("pivots", some u2), ("found", some (.ref fa)), ("column", some (.int i _)), ("one", some (.ref oa)), ("at", _), ("spot", _)]), (oa, lsC Ty.rat ((List.replicate m 0).set i 1))] _ ?g4 ?g5 ?g6 (by intro _; rfl)
      case g4 =>
        repeat dictfold_fit
        refine mkEnum S17 (xs := toZ piv) (.mem (hsub _ q2)) ?_
        intro e it l s18 S18
        exact ⟨_, _, _, _, _, rfl, S18, by accm_open, _, _, _, _, fun f hf => hf, rfl, rfl⟩
      case g5 =>
        rintro j x v P3 pre fr3 s18 E18 hx ⟨o3, o4, t9, _, hsub3, rfl, rfl⟩ S18
        dsimp only [List.nil_append, List.cons_append] at S18
        obtain ⟨x1, x2, x3⟩ := toZ_get hx
        subst x1
        have hjh : j < h := by lia
        obtain ⟨f1, f2, f3⟩ := hok.rect.row (i := j) hjh
        refine asgTp2 hR' S18 (.mem mHead) ?_
        intro w1 w2 s19 S19
        obtain ⟨t19, rfl⟩ := S19.intV (.mem mHead)
        obtain ⟨t20, rfl⟩ := S19.intV (.mem (mTail mHead))
        dsimp only at S19
        repeat dictfold_fit
        rename St B _ _ _ => S20
        refine itN j S20 (xs := M) (.mem (mTail (mTail (mTail (hsub3 _ (hsub _ q1)))))) f1 (by lia) rfl ?_
        intro u21 S21
        repeat dictfold_fit
        refine itN i S21 (.mem mHead) (hok.rect.ent (i := j) (j := i) hjh hi) (by lia) rfl ?_
        intro u22 S22
        repeat dictfold_fit
        refine rneg_spec X hB S22 (hR'.mono (by decide)) (a := ent M j i) (.mem mHead) ?_
        intro v23 s23 S23
        repeat dictfold_fit
        have hlen := nullV_len M piv m i j
        refine putO (piv.getD j 0) S23 (by dl_open) (x := -(ent M j i)) (.mem mHead) (by rw [hlen]; exact hplt _ x3) (by lia) rfl ?_
        intro s24 S24
        repeat dictfold_fit
        refine ⟨.inl rfl, _, _, _, S24, by accm_open, _, _, _, _, ?_, ?_, rfl⟩
        · exact fun f hf => mTail (mTail (mTail (mTail (mTail (mTail (hsub3 f hf))))))
        · rfl
      case g6 =>
        rintro P3 pre s18 ⟨o3, o4, t9, _, hsub3, rfl, rfl⟩ S18
        dsimp only [List.nil_append, List.cons_append] at S18
        have S19 := S18.fzLs (a := oa) (by dl_open)
        clear S18
        rw [hzl] at S19
        repeat dictfold_fit
        refine callMeth (id := "list.append") ?_
        repeat dictfold_fit
        refine ⟨methAppend S19 (by f_look), ?_⟩
        repeat dictfold_fit
        refine appendPl S19 (by dl_open) (x := nullV M piv m i piv.length) (.mem mHead) ?_ ?_
        · rw [List.length_map]
          refine Nat.le_trans (List.length_filter_le _ _) ?_
          rw [List.length_range]; lia
        intro s20 S20
        refine ⟨rfl, ?_⟩
        repeat dictfold_fit
        refine ⟨.inl rfl, _, _, [(L, nsC [("a", some va), ("reduced", some u1), ("pivots", some u2), ("found", some (.ref fa)), ("column", _), ("one", _), ("at", _), ("spot", _)]), (fa, plC (Ty.list Ty.rat) _)], S20, by accm_open, _, _, _, _, _, ?_, ?_, rfl⟩
        · exact fun f hf => mTail (hsub3 f (hsub f hf))
        · rw [List.range_succ, List.filter_append, List.map_append]
          simp [hc]
  case g3 =>
    rintro P' pre s ⟨o1, o2, o3, o4, _, hsub, rfl, rfl⟩ S8
    dsimp only [List.nil_append, List.cons_append] at S8
    rw [← nullE] at S8
    repeat dictfold_fit
    have S9 := S8.fzPl (a := fa) (by dl_open)
    exact k fa _ (S9.out0 (by obj_index2) (List.forall_mem_cons.mpr ⟨mHead, fun f hf => mTail (hsub f (q5 f hf))⟩))
end

section
variable {ad : Nat → Addr} {B : Shared} {P : List Fact} {own own₀ : Own} {prog : Program} {w : World} {A : Around} {E : Value → Shared → Prop} {s : Shared}
variable (X : Fns B ad) (hB : Bas B (GT ad) BT)
include X hB
set_option maxHeartbeats 8000000 in
theorem solve_system_spec {va vb : Value} {a : List (List Rat)} {b : List Rat} {h m : Nat} {Q : Value → Shared → Prop} (S : St B P own s) (hR : Room A 14) (ha : Ev P (Ty.list (Ty.list Ty.rat)) va a) (hb : Ev P (Ty.list Ty.rat) vb b)
    (H : EOk h m 10 a) (hbl : b.length = h) (hbs : ∀ x ∈ b, Sz 10 x) (hh : 0 < h) (hh3 : h ≤ 3) (hm : m ≤ 3)
    (k : ∀ v s', St B ((Ty.pair (Ty.opt (Ty.list Ty.rat)) (Ty.list (Ty.list Ty.rat))).is v (solM a b, nullM a) :: P) own s' → Q v s') : wpAny (model prog w) A (call (.ref (ad 20)) [va, vb]) Q E s := by
  have hal : a.length = h := H.rect.1
  have hal1 : a.length ≤ 1000 := by lia
  have hbl1 : b.length ≤ 1000 := by lia
  have hw : wid a = m := H.rect.wid hh
  have Hu := augM_ok H hbl hbs
  have I := ech_inv Hu (m + 1) (Nat.le_refl _)
  have hech : ech (augM a b) = echTo (augM a b) (m + 1) := by unfold ech; rw [Hu.rect.wid hh]
  rw [← hech] at I
  refine callFn1 (n := 13) "b" (some vb) [("a", some va), ("width", none), ("at", none), ("reduced", none), ("pivots", none), ("found", none), ("column", none)] X (by rfl) hB S hR (by rfl) (by rfl) (by decide +kernel) (by rfl) (by rfl) (by rfl) ⟨rfl, trivial⟩ ⟨rfl, trivial⟩ ?_
  intro L c env s₁ hE hR' S₁ E'
  replace S₁ := S₁.R0 X
  have hb1 : Ev (Ty.rat.is (.ref (ad 100)) 0 :: P) (Ty.list Ty.rat) vb b := hb.sub (by sl_open)
  have ha1 : Ev (Ty.rat.is (.ref (ad 100)) 0 :: P) (Ty.list (Ty.list Ty.rat)) va a := ha.sub (by sl_open)
  repeat dictfold_fit
  have e1 : ((a.length : Int) == (b.length : Int)) = true := by rw [hbl, hal]; simp
  rw [e1]
  refine need_shape_spec X hB (by assumption) (hR'.mono (by decide)) ?_
  intro s6 S6
  refine ⟨rfl, ?_⟩
  repeat dictfold_fit
  refine shape_spec X hB S6 (hR'.mono (by decide)) ha1 hal1 (by lia) ?_
  intro v7 s7 S7
  repeat dictfold_fit
  rename St B _ _ _ => S8
  refine itSnd S8 (.mem mHead) ?_
  intro u9 S9
  obtain ⟨t9, rfl⟩ := S9.intV (.mem mHead)
  repeat dictfold_fit
  rename St B _ _ _ => S10
  have S11 := S10.sub (P' := Ty.rat.is (.ref (ad 100)) 0 :: P) (by sl_open)
  clear S10 S9 S8 S7 S6 S₁
  dsimp only at S11
  rw [hw] at S11
  refine asgCall2 ?_
  repeat dictfold_fit
  refine' compMap0 (B := B) (n := a.length) (F := atE (Ty.list Ty.rat) a) [(".0", .local), ("at", .local), ("row", .local), ("list", .globalImplicit), ("b", .cell)] [("b", c)] [(".0", none), ("at", none), ("row", none)] (Ty.list Ty.rat)
    (fun i => a.getD i [] ++ [b.getD i 0]) [(c, ceC (some vb))] _ (Ty.rat.is (.ref (ad 100)) 0 :: P) hE hal1
    ⟨rfl, by rfl, by rfl, by rfl, by rfl, by rfl, by rfl, by rfl, by rfl, by rfl⟩ ?g1 ?g2 ?g3 (by intro _; rfl)
  case g1 =>
    repeat dictfold_fit
    refine mkEnum S11 ha1 ?_
    intro e it l s8 S8
    exact ⟨_, enEn hR' S8 (by accm_open), by sl_open⟩
  case g2 =>
    intro Cn cenv hE2 i v fr s E hi S7
    dsimp only [List.nil_append, List.cons_append] at S7
    obtain ⟨x, hx, S8⟩ := S7.atE
    clear S7
    have hxl : x.length = m := H.rect.2 _ (List.mem_of_getElem? hx)
    have hib : i < b.length := by lia
    refine asgTp2 hR' S8 (.mem mHead) ?_
    intro u1 u2 s9 S9
    obtain ⟨t9, rfl⟩ := S9.intV (.mem mHead)
    dsimp only at S9
    repeat dictfold_fit
    rename St B _ _ _ => S10
    refine copyLs S10 (.mem (mTail mHead)) (by lia) ?_
    intro a11 s11 S11
    repeat dictfold_fit
    refine itN i S11 (hb.sub (by sl_open)) (List.getElem?_eq_getElem hib) hbl1 rfl ?_
    intro u12 S12
    repeat dictfold_fit
    refine newLsFz (τ := Ty.rat) (xs := [b[i]]) S12 (.cons (.mem mHead) .nil) (by simp) ?_
    intro a13 s13 S13
    refine catLs S13 (xs := x) (ys := [b[i]]) (.mem (by f_look)) (.mem mHead) (by lia) (by simp) ?_
    intro a15 s15 S15
    refine ⟨_, _, _, _, S15, ?_, by sl_open, by dl_open, by accm_open, by rfl⟩
    rw [get_of hx, get_of (List.getElem?_eq_getElem hib)]
    exact .mem mHead
  case g3 =>
    intro D s12 S12
    dsimp only [List.nil_append, List.cons_append] at S12
    have S13 : St B _ ((D, lsC (Ty.list Ty.rat) (augM a b)) :: _) s12 := S12
    have S14 := S13.fzLs .head
    clear S13 S12 S11
    repeat dictfold_fit
    refine echelon_spec X hB S14 (hR'.mono (by decide)) (a := augM a b) (.mem mHead) Hu hh hh3 (by lia) ?_
    intro v15 s15 S15
    have solE : solM a b = if m ∈ (ech (augM a b)).2 then none else some (solV (ech (augM a b)).1 (ech (augM a b)).2 m (ech (augM a b)).2.length) := by unfold solM; rw [hw]
    generalize ech (augM a b) = e at *
    obtain ⟨M, piv⟩ := e
    have hok : EOk h (m + 1) (bits piv.length) M := I.ok
    have hpl : piv.length ≤ h := I.le
    have hplt : ∀ c ∈ piv, c < m + 1 := I.lt
    dsimp only at S15 solE
    have hz : (piv.map fun n : Nat => (n : Int)) = toZ piv := rfl
    rw [hz] at S15
    have hzl : (toZ piv).length = piv.length := by unfold toZ; rw [List.length_map]
    have hMl : M.length = h := hok.rect.1
    repeat dictfold_fit
    refine asgTp2 hR' S15 (.mem mHead) ?_
    intro u1 u2 s16 S16
    dsimp only at S16
    have S17 := S16.sub (P' := (Ty.list (Ty.list Ty.rat)).is u1 M :: (Ty.list Ty.int).is u2 (toZ piv) :: Ty.rat.is (.ref (ad 100)) 0 :: P) (by sl_open)
    clear S16 S15 S14
    generalize hP0 : (Ty.list (Ty.list Ty.rat)).is u1 M :: (Ty.list Ty.int).is u2 (toZ piv) :: Ty.rat.is (.ref (ad 100)) 0 :: P = P0 at *
    have q1 : (Ty.list (Ty.list Ty.rat)).is u1 M ∈ P0 := by rw [← hP0]; f_look
    have q2 : (Ty.list Ty.int).is u2 (toZ piv) ∈ P0 := by rw [← hP0]; f_look
    have q4 : Ty.rat.is (.ref (ad 100)) 0 ∈ P0 := by rw [← hP0]; f_look
    have q5 : ∀ f ∈ P, f ∈ P0 := by rw [← hP0]; sl_open
    have ha2 : Ev P0 (Ty.list (Ty.list Ty.rat)) va a := ha.sub q5
    clear hP0
    repeat dictfold_fit
    rename St B _ _ _ => S18
    by_cases hc : m ∈ piv
    · rw [if_pos (by rw [decide_eq_true (toZ_mem.mpr hc)])]
      rw [if_pos hc] at solE
      repeat dictfold_fit
      refine null_base_spec X hB S18 (hR'.mono (by decide)) ha2 H hh hh3 (by lia) ?_
      intro a19 s19 S19
      repeat dictfold_fit
      refine newTp2 S19 (τ := Ty.opt (Ty.list Ty.rat)) (x := none) (y := nullM a) .onone (.mem mHead) ?_
      intro a20 s20 S20
      rw [← solE] at S20
      exact k (.ref a20) _ (S20.out0 (by obj_index2) (List.forall_mem_cons.mpr ⟨mHead, fun f hf => mTail (mTail (q5 f hf))⟩))
    · rw [if_neg (by rw [decide_eq_false (fun h => hc (toZ_mem.mp h))]; exact Bool.false_ne_true)]
      rw [if_neg hc] at solE
      repeat dictfold_fit
      refine newLsPl (τ := Ty.rat) (xs := [0]) S18 (.cons (.mem q4) .nil) (by simp) ?_
      intro la s19 S19
      repeat dictfold_fit
      refine mulLs S19 (by dl_open) (by lia) (by lia) ?_
      intro oa s20 S20
      rw [Int.toNat_natCast] at S20
      repeat dictfold_fit
      rename St B _ _ _ => S21
      refine' forEn (B := B) hR' Ty.int (toZ piv) (fun j P3 pre => ∃ o1 o2 t9 R, (∀ f ∈ P0, f ∈ P3) ∧ R = solV M piv m j ∧ pre = [(L, nsC [("a", some va), ("width", some (.int m t9)), ("at", o1), ("reduced", some u1), ("pivots", some u2), ("found", some (.ref oa)), ("column", o2)]), (oa, lsC Ty.rat R)])
        [(L, nsC [("a", some va), ("width", some (.int m _)), ("at", _), ("reduced", some u1), ("pivots", some u2), ("found", some (.ref oa)), ("column", _)]), (oa, lsC Ty.rat (List.replicate m 0))] _ ?g4 ?g5 ?g6 (by intro _; rfl)
      case g4 =>
        repeat dictfold_fit
        refine mkEnum S21 (xs := toZ piv) (.mem q2) ?_
        intro e it l s22 S22
        exact ⟨_, _, _, _, _, rfl, S22, by accm_open, _, _, _, _, fun f hf => hf, rfl, rfl⟩
      case g5 =>
        rintro j x v P3 pre fr3 s18 E18 hx ⟨o1, o2, t9, _, hsub3, rfl, rfl⟩ S18
        dsimp only [List.nil_append, List.cons_append] at S18
        obtain ⟨x1, x2, x3⟩ := toZ_get hx
        subst x1
        have hjh : j < h := by lia
        obtain ⟨f1, f2, f3⟩ := hok.rect.row (i := j) hjh
        refine asgTp2 hR' S18 (.mem mHead) ?_
        intro w1 w2 s19 S19
        obtain ⟨t19, rfl⟩ := S19.intV (.mem mHead)
        obtain ⟨t20, rfl⟩ := S19.intV (.mem (mTail mHead))
        dsimp only at S19
        repeat dictfold_fit
        rename St B _ _ _ => S20
        refine itN j S20 (xs := M) (.mem (mTail (mTail (mTail (hsub3 _ q1))))) f1 (by lia) rfl ?_
        intro u21 S21
        repeat dictfold_fit
        refine itN m S21 (.mem mHead) (hok.rect.ent (i := j) (j := m) hjh (by lia)) (by lia) rfl ?_
        intro u22 S22
        repeat dictfold_fit
        have hlen := solV_len M piv m j
        have hlt : piv.getD j 0 < m := by
          have h1 := hplt _ x3
          have h2 : piv.getD j 0 ≠ m := fun e => hc (e ▸ x3)
          lia
        refine putO (piv.getD j 0) S22 (by dl_open) (x := ent M j m) (.mem mHead) (by rw [hlen]; exact hlt) (by lia) rfl ?_
        intro s24 S24
        repeat dictfold_fit
        refine ⟨.inl rfl, _, _, _, S24, by accm_open, _, _, _, _, ?_, ?_, rfl⟩
        · exact fun f hf => mTail (mTail (mTail (mTail (mTail (hsub3 f hf)))))
        · rfl
      case g6 =>
        rintro P3 pre s18 ⟨o1, o2, t9, _, hsub3, rfl, rfl⟩ S18
        dsimp only [List.nil_append, List.cons_append] at S18
        rw [hzl] at S18
        have S19 := S18.fzLs (a := oa) (by dl_open)
        clear S18
        repeat dictfold_fit
        refine null_base_spec X hB S19 (hR'.mono (by decide)) (ha2.sub (fun f hf => mTail (hsub3 f hf))) H hh hh3 (by lia) ?_
        intro a20 s20 S20
        repeat dictfold_fit
        refine newTp2 S20 (τ := Ty.opt (Ty.list Ty.rat)) (x := some (solV M piv m piv.length)) (y := nullM a) (.osome (.mem (mTail mHead))) (.mem mHead) ?_
        intro a21 s21 S21
        rw [← solE] at S21
        exact k (.ref a21) _ (S21.out0 (by obj_index2) (List.forall_mem_cons.mpr ⟨mHead, fun f hf => mTail (mTail (mTail (hsub3 f (q5 f hf))))⟩))
end

section
variable {ad : Nat → Addr} {B : Shared} {P : List Fact} {own own₀ : Own} {prog : Program} {w : World} {A : Around} {E : Value → Shared → Prop} {s : Shared}
variable (X : Fns B ad) (hB : Bas B (GT ad) BT)
include X hB
set_option maxHeartbeats 8000000 in
theorem take_spec {bx l : Addr} {wd : Int} {t : Tok} {Q : Value → Shared → Prop} (S : St B P own s) (hR : Room A 2) (p : Picks own [(bx, bxC l), (l, blC)] own₀) (hw : 0 < wd) (hw2 : wd < 1000)
    (k : ∀ r t' s', 0 ≤ r → r < wd → St B P ((bx, bxC l) :: (l, blC) :: own₀) s' → Q (.int r t') s') : wpAny (model prog w) A (call (.ref (ad 21)) [.ref bx, .int wd t]) Q E s := by
  have S00 : St B P ((bx, bxC l) :: (l, blC) :: own₀) s := S.picks p
  obtain ⟨st, t1, hs, S0⟩ := S00.bxOut
  obtain ⟨xs, hx, S0⟩ := (S0.perm (List.Perm.swap _ _ _)).blOut
  have hx1 : xs.length ≤ 1000 := by lia
  have b1 : st.natAbs < 2 ^ 8000 := smallI (by have : (2 : Nat) ^ 31 ≤ 2 ^ 200 := Nat.pow_le_pow_right (by decide) (by decide); lia)
  have b2 : (48271 : Int).natAbs < 2 ^ 8000 := smallI (by decide)
  have b3 : (97 : Int).natAbs < 2 ^ 8000 := smallI (by decide)
  have b4 : (97 : Int) ≠ 0 := by decide
  refine callFn0 (n := 1) [("box", some (.ref bx)), ("wide", some (.int wd t))] X (by rfl) hB S0 hR (by rfl) (by rfl) (by decide +kernel) (by rfl) (by rfl) (by rfl) ⟨rfl, rfl, trivial⟩ ?_
  intro L env s₁ hE hR' S₁ E'
  repeat dictfold_fit
  cases xs with
  | nil =>
    rw [if_neg (by simp)]
    repeat dictfold_fit
    rename St B _ _ _ => S2
    refine putRl S2 (by dl_open) (by decide) (by decide) (by simp) ?_
    intro s3 S3
    have S4 : St B P ((bx, rlC [.ref l, .int ((st * 48271 + 11).fmod 2147483647) _]) :: _) s3 := S3
    repeat dictfold_fit
    rename St B _ _ _ => S5
    have hm : 0 ≤ (st * 48271 + 11).fmod 2147483647 ∧ (st * 48271 + 11).fmod 2147483647 < 2 ^ 31 := by
      rw [Int.fmod_eq_emod_of_nonneg _ (by decide)]
      have h1 := Int.emod_nonneg (st * 48271 + 11) (show (2147483647 : Int) ≠ 0 by decide)
      have h2 := Int.emod_lt_of_pos (st * 48271 + 11) (show (0 : Int) < 2147483647 by decide)
      lia
    have S6 := S5.drop (y := (L, nsC _)) (by dl_open)
    have S7 := S6.bxIn hm
    have S8 := (S7.perm (List.Perm.swap _ _ _)).blIn (by simp)
    have hr := Int.emod_nonneg (((st * 48271 + 11).fmod 2147483647).fdiv 97) (show wd ≠ 0 by lia)
    have hr2 := Int.emod_lt_of_pos (((st * 48271 + 11).fmod 2147483647).fdiv 97) hw
    rw [← Int.fmod_eq_emod_of_nonneg _ (by lia)] at hr hr2
    exact k _ _ _ hr hr2 (S8.perm (List.Perm.swap _ _ _))
  | cons x xs =>
    rw [if_pos (by simp)]
    repeat dictfold_fit
    refine callMeth (id := "list.pop") ?_
    repeat dictfold_fit
    rename St B _ _ _ => S2
    refine ⟨methPop S2 (by f_look), ?_⟩
    repeat dictfold_fit
    rename St B _ _ _ => S3
    refine popPl S3 (by dl_open) (by simp at hx1; lia) ?_
    intro u s4 S4
    obtain ⟨t4, rfl⟩ := S4.intV (.mem mHead)
    repeat dictfold_fit
    rename St B _ _ _ => S5
    have hm : 0 ≤ x.fmod wd ∧ x.fmod wd < wd := by
      rw [Int.fmod_eq_emod_of_nonneg _ (by lia)]
      exact ⟨Int.emod_nonneg _ (by lia), Int.emod_lt_of_pos _ hw⟩
    have S6 := ((S5.drop (y := (L, nsC _)) (by dl_open)).sub (P' := P) (by sl_open))
    have S7 := S6.blIn (by simp at hx; lia)
    exact k _ _ _ hm.1 hm.2 ((S7.perm (List.Perm.swap _ _ _)).bxIn hs)
end

section
variable {ad : Nat → Addr} {B : Shared} {P : List Fact} {own own₀ : Own} {prog : Program} {w : World} {A : Around} {E : Value → Shared → Prop} {s : Shared}
variable (X : Fns B ad) (hB : Bas B (GT ad) BT)
include X hB
set_option maxHeartbeats 8000000 in
theorem whole_spec {bx l : Addr} {Q : Value → Shared → Prop} (S : St B P own s) (hR : Room A 4) (p : Picks own [(bx, bxC l), (l, blC)] own₀)
    (k : ∀ r t' s', -5 ≤ r → r ≤ 6 → St B P ((bx, bxC l) :: (l, blC) :: own₀) s' → Q (.int r t') s') : wpAny (model prog w) A (call (.ref (ad 23)) [.ref bx]) Q E s := by
  have S00 : St B P ((bx, bxC l) :: (l, blC) :: own₀) s := S.picks p
  refine callFn0 (n := 3) [("box", some (.ref bx))] X (by rfl) hB S00 hR (by rfl) (by rfl) (by decide +kernel) (by rfl) (by rfl) (by rfl) ⟨rfl, trivial⟩ ?_
  intro L env s₁ hE hR' S₁ E'
  repeat dictfold_fit
  rename St B _ _ _ => S2
  refine newLsFz (τ := Ty.int) (xs := [0, 1, -1, 2, -2, 3, -3, 4, 0, 1, 6, -5]) S2 ?_ (by simp) ?_
  · repeat (first | exact EvAll.nil | refine EvAll.cons Ev.int ?_)
  intro a3 s3 S3
  repeat dictfold_fit
  rename St B _ _ _ => S4
  refine take_spec X hB S4 (hR'.mono (by decide)) (bx := bx) (l := l) (wd := 12) (own₀ := (L, nsC [("box", some (.ref bx))]) :: own₀) (by accm_open) (by decide) (by decide) ?_
  intro r t5 s5 h1 h2 S5
  repeat dictfold_fit
  have hr : r.toNat < 12 := by lia
  have hget : ∀ n, n < 12 → ∃ x : Int, ([0, 1, -1, 2, -2, 3, -3, 4, 0, 1, 6, -5] : List Int)[n]? = some x ∧ -5 ≤ x ∧ x ≤ 6 := by decide +kernel
  obtain ⟨x, hx, hx1, hx2⟩ := hget r.toNat hr
  refine itN r.toNat S5 (.mem mHead) hx (by simp) (by lia) ?_
  intro u S6
  obtain ⟨t6, rfl⟩ := S6.intV (.mem mHead)
  exact k _ _ _ hx1 hx2 ((S6.drop (y := (L, nsC _)) (by dl_open)).sub (by sl_open))
end

section
variable {ad : Nat → Addr} {B : Shared} {P : List Fact} {own own₀ : Own} {prog : Program} {w : World} {A : Around} {E : Value → Shared → Prop} {s : Shared}
variable (X : Fns B ad) (hB : Bas B (GT ad) BT)
include X hB
omit X hB in
def Sml (b : Nat) (x : Int) : Prop := x.natAbs ≤ b
omit X hB in
def GridOk (h m : Nat) (b : Nat) (g : List (List Int)) : Prop := Rect h m g ∧ AllE (Sml b) g
set_option maxHeartbeats 8000000 in
theorem grid_spec {bx l : Addr} {h m : Nat} {t u : Tok} {Q : Value → Shared → Prop} (S : St B P own s) (hR : Room A 6) (p : Picks own [(bx, bxC l), (l, blC)] own₀) (hh : 0 < h) (hh3 : h ≤ 3) (hm : 0 < m) (hm3 : m ≤ 3)
    (k : ∀ a g s', GridOk h m 36 g → St B ((Ty.list (Ty.list Ty.int)).is (.ref a) g :: P) ((bx, bxC l) :: (l, blC) :: own₀) s' → Q (.ref a) s') : wpAny (model prog w) A (call (.ref (ad 24)) [.ref bx, .int h t, .int m u]) Q E s := by
  have S00 : St B P ((bx, bxC l) :: (l, blC) :: own₀) s := S.picks p
  refine callFn3 (n := 5) "many" "wide" "box" none (some (.int m u)) (some (.ref bx)) [("high", some (.int h t)), ("grid", none)] X (by rfl) hB S00 hR (by rfl) (by rfl) (by decide +kernel) (by rfl) (by rfl) (by rfl) ⟨rfl, trivial⟩ ⟨rfl, rfl, rfl, trivial⟩ ?_
  intro L c1 c2 c3 env s₁ hE hR' S₁ E'
  repeat dictfold_fit
  refine' compU0 (B := B) (n := h) (F := rgAt 0) [(".0", .local), ("line", .local), ("range", .globalImplicit), ("box", .cell), ("wide", .cell)] [("wide", c2), ("box", c3)] [(".0", none), ("line", none)] (Ty.list Ty.int)
    (fun j zs P' pre' => zs.length = j ∧ (∀ r ∈ zs, r.length = m ∧ ∀ x ∈ r, Sml 6 x) ∧ (∀ f ∈ P, f ∈ P') ∧ pre' = [(c3, ceC (some (.ref bx))), (c2, ceC (some (.int m u))), (bx, bxC l), (l, blC)])
    [(c3, ceC (some (.ref bx))), (c2, ceC (some (.int m u))), (bx, bxC l), (l, blC)] ((L, nsC [("high", some (.int h t)), ("grid", none)]) :: (c1, ceC none) :: own₀) hE (by lia)
    ⟨rfl, by rfl, by rfl, by rfl, by rfl, by rfl, by rfl, by rfl, by rfl, by rfl⟩ (by f_look) (by rfl) (by rfl) ?g1 ?g2 ?g3 (by intro _; rfl)
  case g1 =>
    repeat dictfold_fit
    rename St B _ _ _ => S2
    exact ⟨_, enRg hR' S2 mHead (by lia) (by accm_open), rfl, (fun r hr => nomatch hr), by sl_open, rfl⟩
  case g2 =>
    rintro Cn cenv hE2 i v zs P' pre' fr s E hi hz ⟨hzl, hzs, hsub, rfl⟩ S2
    dsimp only [List.nil_append, List.cons_append] at S2
    obtain ⟨t2, rfl⟩ := S2.intV (.mem mHead)
    have S3 := S2.sub (P' := P') (by sl_open)
    clear S2
    repeat dictfold_fit
    simp only [if_true]
    rename St B _ _ _ => S4
    refine' comp0 (B := B) (n := m) (F := rgAt 0) [(".0", .local), ("spot", .local), ("_law_whole", .globalImplicit), ("box", .cell)] [("box", c3)] [(".0", none), ("spot", none)] Ty.int
      (fun j ys P3 pre' => ys.length = j ∧ (∀ x ∈ ys, Sml 6 x) ∧ (∀ f ∈ P', f ∈ P3) ∧ pre' = [(c3, ceC (some (.ref bx))), (bx, bxC l), (l, blC)])
      [(c3, ceC (some (.ref bx))), (bx, bxC l), (l, blC)] _ hE2 (by lia)
      ⟨rfl, by rfl, by rfl, by rfl, by rfl, by rfl, by rfl, by rfl, by rfl, by rfl⟩ ?g4 ?g5 ?g6 (by intro _; rfl)
    case g4 =>
      repeat dictfold_fit
      rename St B _ _ _ => S5
      exact ⟨_, enRg hR' S5 mHead (by lia) (by accm_open), rfl, (fun r hr => nomatch hr), by sl_open, rfl⟩
    case g5 =>
      rintro Cn3 cenv3 hE3 j v3 ys P3 pre' fr3 s3 E3 hj hy ⟨hyl, hys, hsub3, rfl⟩ S5
      dsimp only [List.nil_append, List.cons_append] at S5
      obtain ⟨t5, rfl⟩ := S5.intV (.mem mHead)
      repeat dictfold_fit
      simp only [if_true]
      repeat dictfold_fit
      rename St B _ _ _ => S6
      refine whole_spec X hB S6 (hR'.mono (by decide)) (bx := bx) (l := l) (own₀ := (Cn3, nsC [(".0", none), ("spot", _)]) :: (c3, ceC (some (.ref bx))) :: fr3) (by accm_open) ?_
      intro r t7 s7 h1 h2 S7
      refine ⟨_, _, _, _, [(c3, ceC (some (.ref bx))), (bx, bxC l), (l, blC)], r, S7, Ev.int, by dl_open, by accm_open, by rfl, ?_, ?_, ?_, rfl⟩
      · rw [List.length_append, hyl]; rfl
      · intro x hx
        rcases List.mem_append.mp hx with hx | hx
        · exact hys x hx
        · have := List.mem_singleton.mp hx; subst this; unfold Sml; lia
      · exact fun f hf => mTail (hsub3 f hf)
    case g6 =>
      rintro P3 pre' ys D s3 ⟨hyl, hys, hsub3, rfl⟩ S5
      dsimp only [List.nil_append, List.cons_append] at S5
      have S6 := S5.fzLs .head
      refine ⟨_, _, _, _, [(c3, ceC (some (.ref bx))), (c2, ceC (some (.int m u))), (bx, bxC l), (l, blC)], ys, S6, .mem mHead, by dl_open, by accm_open, by rfl, ?_, ?_, ?_, rfl⟩
      · rw [List.length_append, hzl]; rfl
      · intro r hr
        rcases List.mem_append.mp hr with hr | hr
        · exact hzs r hr
        · have := List.mem_singleton.mp hr; subst this; exact ⟨hyl, hys⟩
      · exact fun f hf => mTail (hsub3 f (hsub f hf))
  case g3 =>
    rintro P' pre' zs D Cn s2 ⟨hzl, hzs, hsub, rfl⟩ S2
    dsimp only [List.nil_append, List.cons_append] at S2
    repeat dictfold_fit
    rename St B _ _ _ => S3
    refine ⟨_, _, _, _, S3, by dl_open, ?_⟩
    intro s4 S4
    repeat dictfold_fit
    rename St B _ _ _ => S5
    have hg : GridOk h m 36 zs := ⟨⟨hzl, fun r hr => (hzs r hr).1⟩, fun r hr x hx => by have := (hzs r hr).2 x hx; unfold Sml at *; lia⟩
    have fin : ∀ {g : List (List Int)} {P3 : List Fact} {o3 o4 : Own} {s6 : Shared}, GridOk h m 36 g → (∀ f ∈ P, f ∈ P3) → St B P3 o3 s6 → Picks o3 [(D, lsC (Ty.list Ty.int) g), (bx, bxC l), (l, blC)] o4 → Drops o4 own₀ → Q (.ref D) s6 := by
      intro g P3 o3 o4 s6 hgok hsb SS hp hd
      have S7 : St B P3 ((D, lsC (Ty.list Ty.int) g) :: (bx, bxC l) :: (l, blC) :: o4) s6 := SS.picks hp
      have S8 := S7.fzLs .head
      have S9 : St B ((Ty.list (Ty.list Ty.int)).is (.ref D) g :: P3) (o4 ++ [(bx, bxC l), (l, blC)]) s6 := S8.perm (List.perm_append_comm (l₁ := [(bx, bxC l), (l, blC)]))
      have S10 : St B ((Ty.list (Ty.list Ty.int)).is (.ref D) g :: P3) (own₀ ++ [(bx, bxC l), (l, blC)]) s6 := by
        have : ∀ {l' r' : Own}, Drops l' r' → St B ((Ty.list (Ty.list Ty.int)).is (.ref D) g :: P3) (l' ++ [(bx, bxC l), (l, blC)]) s6 → St B ((Ty.list (Ty.list Ty.int)).is (.ref D) g :: P3) (r' ++ [(bx, bxC l), (l, blC)]) s6 := by
          intro l' r' hd
          induction hd with
          | refl => exact id
          | skip _ ih => exact fun S => ih (S.drop .head)
        exact this hd S9
      have S11 : St B ((Ty.list (Ty.list Ty.int)).is (.ref D) g :: P3) ([(bx, bxC l), (l, blC)] ++ own₀) s6 := S10.perm List.perm_append_comm
      exact k D g s6 hgok (S11.sub (List.forall_mem_cons.mpr ⟨mHead, fun f hf => mTail (hsb f hf)⟩))
    have hl3 : ∀ g : List (List Int), GridOk h m 36 g → g.length = h := fun g hg => hg.1.1
    by_cases h1 : 1 < h
    · rw [if_pos (by simp; lia)]
      repeat dictfold_fit
      rename St B _ _ _ => S6
      refine take_spec X hB S6 (hR'.mono (by decide)) (bx := bx) (l := l) (wd := 3) (by accm_open) (by decide) (by decide) ?_
      intro r t7 s7 r1 r2 S7
      repeat dictfold_fit
      rename St B _ _ _ => S8
      by_cases h2 : r = 0
      · rw [if_pos (by simp [h2])]
        repeat dictfold_fit
        simp only [if_true]
        repeat dictfold_fit
        refine whole_spec X hB S8 (hR'.mono (by decide)) (bx := bx) (l := l) (by accm_open) ?_
        intro mn t9 s9 m1 m2 S9
        repeat dictfold_fit
        rename St B _ _ _ => S10
        have hi2 : h - 2 < zs.length := by rw [hzl]; lia
        have hrow := hzs _ (List.getElem_mem hi2)
        generalize hrw : zs[h - 2] = row at hrow
        have hget : zs[h - 2]? = some row := by rw [← hrw]; exact List.getElem?_eq_getElem hi2
        refine' compMap0 (B := B) (n := row.length) (F := atF Ty.int row) [(".0", .local), ("one", .local), ("many", .cell)] [("many", c1)] [(".0", none), ("one", none)] Ty.int
          (fun j => mn * row.getD j 0) [(c1, ceC (some (.int mn t9)))] _ P hE (by lia)
          ⟨rfl, by rfl, by rfl, by rfl, by rfl, by rfl, by rfl, by rfl, by rfl, by rfl⟩ ?g7 ?g8 ?g9 (by intro _; rfl)
        case g7 =>
          repeat dictfold_fit
          rename St B _ _ _ => S11
          refine itO (h - 2) S11 (by f_look) hget (by lia) (by lia) ?_
          intro u12 S12
          exact ⟨_, enList hR' S12 (.mem mHead) (by accm_open) GoOk.name, fun f hf => mTail (hsub f hf)⟩
        case g8 =>
          intro Cn2 cenv2 hE3 j v2 fr2 s2 E2 hj S11
          dsimp only [List.nil_append, List.cons_append] at S11
          obtain ⟨x, hx, S12⟩ := S11.atF
          clear S11
          obtain ⟨t12, rfl⟩ := S12.intV (.mem mHead)
          have hxs : x.natAbs ≤ 6 := hrow.2 x (List.mem_of_getElem? hx)
          have b1 : mn.natAbs < 2 ^ 8000 := smallI (by have : (2 : Nat) ^ 10 ≤ 2 ^ 200 := Nat.pow_le_pow_right (by decide) (by decide); lia)
          have b2 : x.natAbs < 2 ^ 8000 := smallI (by have : (2 : Nat) ^ 10 ≤ 2 ^ 200 := Nat.pow_le_pow_right (by decide) (by decide); lia)
          repeat dictfold_fit
          rename St B _ _ _ => S13
          refine ⟨_, _, _, _, S13, ?_, by sl_open, by dl_open, by accm_open, by rfl⟩
          rw [get_of hx]
          exact Ev.int
        case g9 =>
          intro D2 s11 S11
          dsimp only [List.nil_append, List.cons_append] at S11
          rw [map_getD (fun x : Int => mn * x) row 0] at S11
          have S12 := S11.fzLs .head
          clear S11
          repeat dictfold_fit
          rename St B _ _ _ => S13
          refine putO (h - 1) S13 (by dl_open) (x := row.map fun x => mn * x) (.mem mHead) (by lia) (by lia) (by lia) ?_
          intro s14 S14
          repeat dictfold_fit
          refine fin (g := zs.set (h - 1) (row.map fun x => mn * x)) ⟨⟨by rw [List.length_set]; exact hzl, ?_⟩, ?_⟩ (by sl_open) S14 (by accm_open) (by obj_index2)
          · intro r hr
            rcases List.mem_or_eq_of_mem_set hr with h3 | h3
            · exact (hzs r h3).1
            · rw [h3, List.length_map]; exact hrow.1
          · intro r hr x hx
            rcases List.mem_or_eq_of_mem_set hr with h3 | h3
            · have := (hzs r h3).2 x hx; unfold Sml at *; lia
            · rw [h3] at hx
              obtain ⟨y, hy, rfl⟩ := List.mem_map.mp hx
              have hy6 : y.natAbs ≤ 6 := hrow.2 y hy
              have hm6 : mn.natAbs ≤ 6 := by lia
              show (mn * y).natAbs ≤ 36
              rw [Int.natAbs_mul]
              exact Nat.le_trans (Nat.mul_le_mul hm6 hy6) (by decide)
      · rw [if_neg (by simp [h2])]
        repeat dictfold_fit
        simp only [Bool.false_eq_true, if_false]
        repeat dictfold_fit
        exact fin hg hsub S8 (by accm_open) (by obj_index2)
    · rw [if_neg (by simp; lia)]
      simp only [Bool.false_eq_true, if_false]
      repeat dictfold_fit
      rename St B _ _ _ => S6
      exact fin hg hsub S6 (by accm_open) (by obj_index2)
end

section
variable {ad : Nat → Addr} {B : Shared} {P : List Fact} {own own₀ : Own} {prog : Program} {w : World} {A : Around} {E : Value → Shared → Prop} {s : Shared}
variable (X : Fns B ad) (hB : Bas B (GT ad) BT)
include X hB
set_option maxHeartbeats 8000000 in
theorem times_spec {va vb : Value} {a b : IMat} {h m n : Nat} {Q : Value → Shared → Prop} (S : St B P own s) (hR : Room A 4) (ha : Ev P (Ty.list (Ty.list Ty.int)) va a) (hb : Ev P (Ty.list (Ty.list Ty.int)) vb b)
    (ra : GridOk h m 36 a) (rb : GridOk m n 6 b) (hh : h ≤ 3) (hm : 0 < m) (hm3 : m ≤ 3) (hn : n ≤ 3)
    (k : ∀ a' s', St B ((Ty.list (Ty.list Ty.int)).is (.ref a') (timesL a b) :: P) own s' → Q (.ref a') s') : wpAny (model prog w) A (call (.ref (ad 26)) [va, vb]) Q E s := by
  have hal : a.length = h := ra.1.1
  have hbl : b.length = m := rb.1.1
  have hal1 : a.length ≤ 1000 := by lia
  have hbl1 : b.length ≤ 1000 := by lia
  have hw : wid b = n := rb.1.wid hm
  obtain ⟨b1, b2, b3⟩ := rb.1.irow (i := 0) hm
  have hb0l : (b.getD 0 []).length ≤ 1000 := by lia
  refine callFn2 (n := 3) "wide" "two" none (some vb) [("one", some va)] X (by rfl) hB S hR (by rfl) (by rfl) (by decide +kernel) (by rfl) (by rfl) (by rfl) ⟨rfl, trivial⟩ ⟨rfl, rfl, trivial⟩ ?_
  intro L c1 c2 env s₁ hE hR' S₁ E'
  repeat dictfold_fit
  refine newLsFz (τ := Ty.list Ty.int) (xs := []) S₁ .nil (by decide) ?_
  intro a2 s2 S2
  refine neD (Cod.list (Cod.list Cod.int)) S2 hR' (x := b) (y := []) (hb.sub (by sl_open)) (.mem mHead) (by decide) ?_
  refine wpAny_truthy_bool ?_
  have hne : b ≠ [] := by intro h; rw [h] at hbl; simp at hbl; lia
  rw [if_pos (by simp [hne])]
  have S3 := S2.sub (P' := P) (by sl_open)
  clear S2 S₁
  repeat dictfold_fit
  rename St B _ _ _ => S4
  refine itN 0 S4 hb b1 hbl1 rfl ?_
  intro u5 S5
  repeat dictfold_fit
  rename St B _ _ _ => S6
  have S7 := S6.sub (P' := P) (by sl_open)
  clear S6 S5 S4 S3
  rw [b2] at S7
  refine' compMap1 (B := B) (n := a.length) (F := atF (Ty.list Ty.int) a) [(".0", .local), ("line", .cell), ("range", .globalImplicit), ("two", .cell), ("wide", .cell)] "line" [("wide", c1), ("two", c2)] [(".0", none)] (Ty.list Ty.int)
    (fun i => (List.range n).map fun spot => ((List.range b.length).map fun at_ => (a.getD i []).getD at_ 0 * (b.getD at_ []).getD spot 0).sum) [(c1, ceC (some (.int n _))), (c2, ceC (some vb))] _ P hE hal1
    ⟨rfl, by rfl, by rfl, by rfl, by rfl, by rfl, by rfl, by rfl, by rfl, by rfl⟩ ?g1 ?g2 ?g3 (by intro _; rfl)
  case g1 =>
    repeat dictfold_fit
    exact ⟨_, enList hR' S7 ha (by accm_open) GoOk.name, by sl_open⟩
  case g2 =>
    intro Cn c3 cenv hE2 i v fr s E hi S8
    dsimp only [List.nil_append, List.cons_append] at S8
    obtain ⟨x, hx, S9⟩ := S8.atF
    clear S8
    have hxm := List.mem_of_getElem? hx
    have hxl : x.length = m := ra.1.2 _ hxm
    repeat dictfold_fit
    rename St B _ _ _ => S10
    refine' compMap1 (B := B) (n := n) (F := rgAt 0) [(".0", .local), ("spot", .cell), ("sum", .globalImplicit), ("range", .globalImplicit), ("len", .globalImplicit), ("line", .cell), ("two", .cell)] "spot" [("two", c2), ("line", c3)] [(".0", none)] Ty.int
      (fun spot => ((List.range b.length).map fun at_ => x.getD at_ 0 * (b.getD at_ []).getD spot 0).sum) [(c2, ceC (some vb)), (c3, ceC (some v))] _ ((Ty.list Ty.int).is v x :: P) hE2 (by lia)
      ⟨rfl, by rfl, by rfl, by rfl, by rfl, by rfl, by rfl, by rfl, by rfl, by rfl⟩ ?g4 ?g5 ?g6 (by intro _; rfl)
    case g4 =>
      repeat dictfold_fit
      rename St B _ _ _ => S11
      exact ⟨_, enRg hR' S11 mHead (by lia) (by accm_open), by sl_open⟩
    case g5 =>
      intro Cn2 c4 cenv2 hE3 sp v2 fr2 s2 E2 hsp S11
      dsimp only [List.nil_append, List.cons_append] at S11
      obtain ⟨t11, rfl⟩ := S11.intV (.mem mHead)
      have S12 := S11.sub (P' := (Ty.list Ty.int).is v x :: P) (by sl_open)
      clear S11
      repeat dictfold_fit
      rename St B _ _ _ => S13
      refine' compMap0 (B := B) (n := b.length) (F := rgAt 0) [(".0", .local), ("at", .local), ("line", .cell), ("spot", .cell), ("two", .cell)] [("two", c2), ("spot", c4), ("line", c3)] [(".0", none), ("at", none)] Ty.int
        (fun at_ => x.getD at_ 0 * (b.getD at_ []).getD sp 0) [(c2, ceC (some vb)), (c4, ceC (some (.int (0 + (sp : Int)) t11))), (c3, ceC (some v))] _ ((Ty.list Ty.int).is v x :: P) hE3 (by lia)
        ⟨rfl, by rfl, by rfl, by rfl, by rfl, by rfl, by rfl, by rfl, by rfl, by rfl⟩ ?g7 ?g8 ?g9 (by intro _; rfl)
      case g7 =>
        have hb2 : Ev ((Ty.list Ty.int).is v x :: P) (Ty.list (Ty.list Ty.int)) vb b := hb.sub (by sl_open)
        repeat dictfold_fit
        rename St B _ _ _ => S14
        exact ⟨_, enRg hR' S14 mHead (by lia) (by accm_open), by sl_open⟩
      case g8 =>
        intro Cn3 cenv3 hE4 at_ v3 fr3 s3 E3 hat S14
        dsimp only [List.nil_append, List.cons_append] at S14
        obtain ⟨t14, rfl⟩ := S14.intV (.mem mHead)
        have S15 := S14.sub (P' := (Ty.list Ty.int).is v x :: P) (by sl_open)
        clear S14
        obtain ⟨f1, f2, f3⟩ := rb.1.irow (i := at_) (by lia)
        have hax : at_ < x.length := by lia
        have hsb : sp < (b.getD at_ []).length := by lia
        have hy1 : x[at_].natAbs ≤ 36 := ra.2 _ hxm _ (List.getElem_mem hax)
        have hy2 : ((b.getD at_ [])[sp]).natAbs ≤ 6 := rb.2 _ f3 _ (List.getElem_mem hsb)
        have h200 : (100 : Nat) < 2 ^ 200 := by decide
        have q1 : (x[at_]).natAbs < 2 ^ 8000 := smallI (by lia)
        have q2 : ((b.getD at_ [])[sp]).natAbs < 2 ^ 8000 := smallI (by lia)
        repeat dictfold_fit
        rename St B _ _ _ => S16
        refine itN at_ S16 (.mem mHead) (List.getElem?_eq_getElem hax) (by lia) (by lia) ?_
        intro u17 S17
        obtain ⟨t17, rfl⟩ := S17.intV (.mem mHead)
        repeat dictfold_fit
        refine itN at_ S17 (hb.sub (by sl_open)) f1 hbl1 (by lia) ?_
        intro u18 S18
        repeat dictfold_fit
        refine itN sp S18 (.mem mHead) (List.getElem?_eq_getElem hsb) (by lia) (by lia) ?_
        intro u19 S19
        obtain ⟨t19, rfl⟩ := S19.intV (.mem mHead)
        repeat dictfold_fit
        rename St B _ _ _ => S20
        refine ⟨_, _, _, _, S20, ?_, by sl_open, by dl_open, by accm_open, by rfl⟩
        rw [get_of (List.getElem?_eq_getElem hax), get_of (List.getElem?_eq_getElem hsb)]
        exact Ev.int
      case g9 =>
        intro D2 s14 S14
        dsimp only [List.nil_append, List.cons_append] at S14
        have S15 := S14.fzLs .head
        clear S14
        repeat dictfold_fit
        rename St B _ _ _ => S16
        exact ⟨_, _, _, _, _, _, S16, Ev.int, by sl_open, by dl_open, by dl_open, by accm_open, by rfl⟩
    case g6 =>
      intro D2 s14 S14
      dsimp only [List.nil_append, List.cons_append] at S14
      refine ⟨_, _, _, _, _, _, S14.fzLs .head, ?_, by sl_open, by dl_open, by dl_open, by accm_open, by rfl⟩
      rw [get_of hx]
      exact .mem mHead
  case g3 =>
    intro D s8 S8
    dsimp only [List.nil_append, List.cons_append] at S8
    rw [map_getD (fun line : List Int => (List.range n).map fun spot => ((List.range b.length).map fun at_ => line.getD at_ 0 * (b.getD at_ []).getD spot 0).sum) a []] at S8
    rw [← hw] at S8
    have S9 : St B ((Ty.list (Ty.list Ty.int)).is (.ref D) (timesL a b) :: _) _ _ := S8.fzLs .head
    exact k D _ (S9.out0 (by obj_index2) (by sl_open))
end

section
variable {ad : Nat → Addr} {B : Shared} {P : List Fact} {own own₀ : Own} {prog : Program} {w : World} {A : Around} {E : Value → Shared → Prop} {s : Shared}
variable (X : Fns B ad) (hB : Bas B (GT ad) BT)
include X hB
omit X hB in
theorem fmod_in (x : Int) : 0 ≤ x.fmod 2147483647 ∧ x.fmod 2147483647 < 2 ^ 31 := by
  rw [Int.fmod_eq_emod_of_nonneg _ (by decide)]
  have h1 := Int.emod_nonneg x (show (2147483647 : Int) ≠ 0 by decide)
  have h2 := Int.emod_lt_of_pos x (show (0 : Int) < 2147483647 by decide)
  lia
set_option maxHeartbeats 8000000 in
theorem box_spec {vs : Value} {ns : List Int} {Q : Value → Shared → Prop} (S : St B P own s) (hR : Room A 4) (ha : Ev P (Ty.list Ty.int) vs ns) (hl : ns.length ≤ 100)
    (k : ∀ bx l s', St B P ((bx, bxC l) :: (l, blC) :: own) s' → Q (.ref bx) s') : wpAny (model prog w) A (call (.ref (ad 22)) [vs]) Q E s := by
  refine callFn0 (n := 3) [("script", some vs), ("stirred", none), ("one", none)] X (by rfl) hB S hR (by rfl) (by rfl) (by decide +kernel) (by rfl) (by rfl) (by rfl) ⟨rfl, trivial⟩ ?_
  intro L env s₁ hE hR' S₁ E'
  have b2 : (31 : Int).natAbs < 2 ^ 8000 := smallI (by decide)
  have htl : (ns.take 24).length ≤ 24 := List.length_take_le _ _
  repeat dictfold_fit
  rename St B _ _ _ => S2
  refine' forLs (B := B) hR' Ty.int (ns.take 24) (fun i P' pre => ∃ st t o, (0 ≤ st ∧ st < 2 ^ 31) ∧ (∀ f ∈ P, f ∈ P') ∧ pre = [(L, nsC [("script", some vs), ("stirred", some (.int st t)), ("one", o)])])
    [(L, nsC [("script", some vs), ("stirred", some (.int 83 _)), ("one", none)])] own ?g1 ?g2 ?g3 (by exact GoOk.name) (by intro _; rfl)
  case g1 =>
    refine sliceUpto B Ty.int ?_
    repeat dictfold_fit
    rename St B _ _ _ => S3
    refine ⟨_, _, _, 24, _, S3, ha, rfl, by lia, ?_⟩
    intro a4 s4 S4
    exact ⟨_, _, S4, .mem mHead, by accm_open, 83, _, _, by decide, by sl_open, rfl⟩
  case g2 =>
    rintro i x v P' pre fr s E hx ⟨st, t, o, hs, hsub, rfl⟩ S3
    dsimp only [List.nil_append, List.cons_append] at S3
    obtain ⟨t3, rfl⟩ := S3.intV (.mem mHead)
    have b1 : st.natAbs < 2 ^ 8000 := smallI (by have : (2 : Nat) ^ 31 ≤ 2 ^ 200 := Nat.pow_le_pow_right (by decide) (by decide); lia)
    repeat dictfold_fit
    rename St B _ _ _ => S4
    exact ⟨.inl rfl, _, _, _, S4, by accm_open, _, _, _, fmod_in _, fun f hf => mTail (hsub f hf), rfl⟩
  case g3 =>
    rintro P' pre s ⟨st, t, o, hs, hsub, rfl⟩ S3
    dsimp only [List.nil_append, List.cons_append] at S3
    repeat dictfold_fit
    refine sliceUpto B Ty.int ?_
    repeat dictfold_fit
    rename St B _ _ _ => S4
    refine ⟨_, _, _, 24, _, S4, ha.sub hsub, rfl, by lia, ?_⟩
    intro a5 s5 S5
    repeat dictfold_fit
    refine copyPl S5 (xs := ns.take 24) (.mem mHead) (by lia) ?_
    intro a6 s6 S6
    repeat dictfold_fit
    refine newLsRl S6 (by simp) ?_
    intro a7 s7 S7
    have S8 := (S7.drop (y := (L, nsC _)) (by dl_open)).sub (P' := P) (fun f hf => mTail (hsub f hf))
    have S9 := S8.bxIn hs
    have S10 := (S9.perm (List.Perm.swap _ _ _)).blIn htl
    exact k a7 a6 _ (S10.perm (List.Perm.swap _ _ _))
end

section
variable {ad : Nat → Addr} {B : Shared} {P : List Fact} {own own₀ : Own} {prog : Program} {w : World} {A : Around} {E : Value → Shared → Prop} {s : Shared}
variable (X : Fns B ad) (hB : Bas B (GT ad) BT)
include X hB
omit X hB in
theorem big8 {k : Nat} {x : Int} (h : Bnd k x) (hk : k ≤ 8000) : x.natAbs < 2 ^ 8000 := Nat.lt_of_lt_of_le h (Nat.pow_le_pow_right (by decide) hk)
set_option maxHeartbeats 8000000 in
theorem det_spec : ∀ (n : Nat) {P : List Fact} {own : Own} {A : Around} {E : Value → Shared → Prop} {s : Shared} {va : Value} {g : IMat} {Q : Value → Shared → Prop} (S : St B P own s) (hR : Room A (n + 2)) (ha : Ev P (Ty.list (Ty.list Ty.int)) va g)
    (hn : n ≤ 3) (hg : Rect n n g) (hb : AllE (Bnd 2650) g) (k : ∀ t' s', St B P own s' → Q (.int (detL n g) t') s'), wpAny (model prog w) A (call (.ref (ad 25)) [va]) Q E s := by
  intro n
  induction n with
  | zero =>
    intro P own A E s va g Q S hR ha hn hg hb k
    refine callFn1 (n := 1) "spot" none [("grid", some va), ("worth", none), ("one", none), ("rest", none)] X (by rfl) hB S hR (by rfl) (by rfl) (by decide +kernel) (by rfl) (by rfl) (by rfl) ⟨rfl, trivial⟩ ⟨rfl, trivial⟩ ?_
    intro L c env s₁ hE hR' S₁ E'
    have hg0 : g = [] := List.eq_nil_of_length_eq_zero hg.1
    subst hg0
    repeat dictfold_fit
    refine newLsFz (τ := Ty.list Ty.int) (xs := []) S₁ .nil (by decide) ?_
    intro a2 s2 S2
    refine eqD (Cod.list (Cod.list Cod.int)) S2 hR' (x := []) (y := []) (ha.sub (by sl_open)) (.mem mHead) (by decide) ?_
    refine wpAny_truthy_bool ?_
    rw [if_pos (by simp)]
    repeat dictfold_fit
    rename St B _ _ _ => S3
    exact k _ _ (S3.out0 (by obj_index2) (by sl_open))
  | succ n ih =>
    intro P own A E s va g Q S hR ha hn hg hb k
    obtain ⟨g1, g2, g3⟩ := hg.irow (i := 0) (by lia)
    have hgl : g.length = n + 1 := hg.1
    have hr0 : (hd0 g).length = n + 1 := g2
    have hgl1 : g.length ≤ 1000 := by lia
    refine callFn1 (n := n + 2) "spot" none [("grid", some va), ("worth", none), ("one", none), ("rest", none)] X (by rfl) hB S hR (by rfl) (by rfl) (by decide +kernel) (by rfl) (by rfl) (by rfl) ⟨rfl, trivial⟩ ⟨rfl, trivial⟩ ?_
    intro L c env s₁ hE hR' S₁ E'
    repeat dictfold_fit
    refine newLsFz (τ := Ty.list Ty.int) (xs := []) S₁ .nil (by decide) ?_
    intro a2 s2 S2
    refine eqD (Cod.list (Cod.list Cod.int)) S2 hR' (x := g) (y := []) (ha.sub (by sl_open)) (.mem mHead) (by decide) ?_
    refine wpAny_truthy_bool ?_
    have hne : g ≠ [] := by intro h; rw [h] at hgl; simp at hgl
    rw [if_neg (by simp [hne])]
    have S3 := S2.sub (P' := P) (by sl_open)
    clear S2 S₁
    repeat dictfold_fit
    rename St B _ _ _ => S4
    refine' forEn (B := B) hR' Ty.int (hd0 g) (fun j P' pre => ∃ t4 o1 o2 o3 W, W = detS (detL n) g j ∧ (∀ f ∈ P, f ∈ P') ∧ pre = [(L, nsC [("grid", some va), ("worth", some (.int W t4)), ("one", o1), ("rest", o2)]), (c, ceC o3)])
      [(L, nsC [("grid", some va), ("worth", some (.int 0 _)), ("one", none), ("rest", none)]), (c, ceC none)] own ?g1 ?g2 ?g3 (by intro _; rfl)
    case g1 =>
      repeat dictfold_fit
      rename St B _ _ _ => S5
      refine itN 0 S5 ha g1 hgl1 rfl ?_
      intro u6 S6
      repeat dictfold_fit
      refine mkEnum S6 (xs := hd0 g) (.mem mHead) ?_
      intro e it l s7 S7
      exact ⟨_, _, _, _, _, rfl, S7, by accm_open, _, _, _, _, _, rfl, by sl_open, rfl⟩
    case g2 =>
      rintro j x v P' pre fr s E hx ⟨t4, o1, o2, o3, _, rfl, hsub, rfl⟩ S5
      dsimp only [List.nil_append, List.cons_append] at S5
      have hj : j < n + 1 := by rw [← hr0]; exact (List.getElem?_eq_some_iff.mp hx).1
      have hxb : Bnd 2650 x := hb _ g3 _ (List.mem_of_getElem? hx)
      refine asgTp2 hR' S5 (.mem mHead) ?_
      intro w1 w2 s6 S6
      obtain ⟨t6, rfl⟩ := S6.intV (.mem mHead)
      obtain ⟨t7, rfl⟩ := S6.intV (.mem (mTail mHead))
      dsimp only at S6
      have S7 := S6.sub (P' := P') (by sl_open)
      clear S6 S5
      repeat dictfold_fit
      rename St B _ _ _ => S8
      have hgx : (hd0 g).getD j 0 = x := get_of hx
      by_cases hx0 : x = 0
      · rw [if_neg (by simp [hx0])]
        repeat dictfold_fit
        refine ⟨.inl rfl, _, _, _, S8, by accm_open, _, _, _, _, _, ?_, hsub, rfl⟩
        rw [detS_succ, hgx, if_neg (by simp [hx0])]
      · rw [if_pos (by simp [hx0])]
        repeat dictfold_fit
        refine' compMapU (B := B) (n := (g.drop 1).length) (F := atF (Ty.list Ty.int) (g.drop 1)) [(".0", .local), ("line", .local), ("spot", .cell)] [("spot", c)] [(".0", none), ("line", none)] (Ty.list Ty.int)
          (fun i => ((g.drop 1).getD i []).take j ++ ((g.drop 1).getD i []).drop (j + 1)) [(c, ceC (some (.int j t6)))] _ P' hE (by rw [List.length_drop]; lia)
          ⟨rfl, by rfl, by rfl, by rfl, by rfl, by rfl, by rfl, by rfl, by rfl, by rfl⟩ (by f_look) (by rfl) (by rfl) ?g4 ?g5 ?g6 (by intro _; rfl)
        case g4 =>
          refine sliceFrom B (Ty.list Ty.int) ?_
          repeat dictfold_fit
          rename St B _ _ _ => S9
          refine ⟨_, _, _, 1, _, S9, ha.sub hsub, rfl, by lia, hgl1, ?_⟩
          intro a10 s10 S10
          exact ⟨_, enList hR' S10 (.mem mHead) (by accm_open) GoOk.name, by sl_open⟩
        case g5 =>
          intro Cn cenv hE2 i v2 fr2 s2 E2 hi S9
          dsimp only [List.nil_append, List.cons_append] at S9
          obtain ⟨y, hy, S10⟩ := S9.atF
          clear S9
          have hyl : y.length = n + 1 := hg.2 _ (List.mem_of_mem_drop (List.mem_of_getElem? hy))
          repeat dictfold_fit
          refine sliceUpto B Ty.int ?_
          repeat dictfold_fit
          rename St B _ _ _ => S11
          refine ⟨_, _, _, j, _, S11, .mem mHead, rfl, by lia, ?_⟩
          intro a12 s12 S12
          refine sliceFrom B Ty.int ?_
          repeat dictfold_fit
          rename St B _ _ _ => S13
          refine ⟨_, _, _, j + 1, _, S13, .mem (mTail mHead), by push_cast; rfl, by lia, by lia, ?_⟩
          intro a14 s14 S14
          refine catLs S14 (xs := y.take j) (ys := y.drop (j + 1)) (.mem (by f_look)) (.mem mHead) (by rw [List.length_take]; lia) (by rw [List.length_drop]; lia) ?_
          intro a15 s15 S15
          refine ⟨_, _, _, _, S15, ?_, by sl_open, by dl_open, by accm_open, by rfl⟩
          rw [get_of hy]
          exact .mem mHead
        case g6 =>
          intro D Cn s9 S9
          dsimp only [List.nil_append, List.cons_append] at S9
          rw [map_getD (fun r : List Int => r.take j ++ r.drop (j + 1)) (g.drop 1) []] at S9
          have S10 : St B P' ((D, lsC (Ty.list Ty.int) (minorL g j)) :: (Cn, nsC _) :: _) s9 := S9.perm (List.Perm.swap _ _ _)
          have S11 := S10.fzLs .head
          clear S10 S9 S8 S7
          repeat dictfold_fit
          rename St B _ _ _ => S12
          refine ⟨_, _, _, _, S12, by dl_open, ?_⟩
          intro s13 S13
          have b1 : (2 : Int).natAbs < 2 ^ 8000 := smallI (by decide)
          have hsg := sgn_natAbs j
          have hfm : ((j : Int).fmod 2).natAbs ≤ 2 := by rw [Int.fmod_eq_emod_of_nonneg _ (by decide)]; lia
          have h200 : (4 : Nat) < 2 ^ 200 := by decide
          have b2 : ((j : Int).fmod 2).natAbs < 2 ^ 8000 := smallI (by lia)
          have b3 : (1 - 2 * ((j : Int).fmod 2)).natAbs < 2 ^ 8000 := smallI (by lia)
          have b4 : x.natAbs < 2 ^ 8000 := big8 hxb (by decide)
          have b5 : ((1 - 2 * ((j : Int).fmod 2)) * x).natAbs < 2 ^ 8000 := by rw [Int.natAbs_mul, hsg, Nat.one_mul]; exact b4
          have hmr : Rect n n (minorL g j) := minor_rect hg hj
          have hma : AllE (Bnd 2650) (minorL g j) := minor_all hb
          have b6 : (detL n (minorL g j)).natAbs < 2 ^ 8000 := big8 (detL_bound n _ (by lia) hmr hma) (by have : (2650 + 2) * n ≤ (2650 + 2) * 2 := Nat.mul_le_mul_left _ (by lia); lia)
          repeat dictfold_fit
          rename St B _ _ _ => S14
          refine ih S14 hR' (g := minorL g j) (.mem mHead) (by lia) hmr hma ?_
          intro t15 s15 S15
          repeat dictfold_fit
          rename St B _ _ _ => S16
          refine ⟨.inl rfl, _, _, _, S16, by accm_open, _, _, _, _, _, ?_, fun f hf => mTail (hsub f hf), rfl⟩
          rw [detS_succ, hgx, if_pos hx0]
    case g3 =>
      rintro P' pre s ⟨t4, o1, o2, o3, _, rfl, hsub, rfl⟩ S5
      dsimp only [List.nil_append, List.cons_append] at S5
      repeat dictfold_fit
      rename St B _ _ _ => S6
      exact k _ _ (S6.out0 (by obj_index2) hsub)
end

section
variable {ad : Nat → Addr} {B : Shared} {P : List Fact} {own own₀ : Own} {prog : Program} {w : World} {A : Around} {E : Value → Shared → Prop} {s : Shared}
variable (X : Fns B ad) (hB : Bas B (GT ad) BT)
include X hB
set_option maxHeartbeats 8000000 in
theorem choices_spec : ∀ (n : Nat) {P : List Fact} {own : Own} {A : Around} {E : Value → Shared → Prop} {s : Shared} {many : Nat} {t u : Tok} {Q : Value → Shared → Prop} (S : St B P own s) (hR : Room A (n + 2))
    (hn : n ≤ 4) (hm : many ≤ 4) (k : ∀ a s', St B ((Ty.list (Ty.list Ty.int)).is (.ref a) (chL n many) :: P) own s' → Q (.ref a) s'), wpAny (model prog w) A (call (.ref (ad 28)) [.int many t, .int n u]) Q E s := by
  intro n
  induction n with
  | zero =>
    intro P own A E s many t u Q S hR hn hm k
    refine callFn1 (n := 1) "last" none [("many", some (.int many t)), ("size", some (.int (0 : Nat) u)), ("ways", none)] X (by rfl) hB S hR (by rfl) (by rfl) (by decide +kernel) (by rfl) (by rfl) (by rfl) ⟨rfl, rfl, trivial⟩ ⟨rfl, trivial⟩ ?_
    intro L c env s₁ hE hR' S₁ E'
    repeat dictfold_fit
    rw [if_pos (by simp)]
    repeat dictfold_fit
    rename St B _ _ _ => S2
    refine newLsFz (τ := Ty.int) (xs := []) S2 .nil (by decide) ?_
    intro a3 s3 S3
    repeat dictfold_fit
    refine newLsFz (τ := Ty.list Ty.int) (xs := [[]]) S3 (.cons (.mem mHead) .nil) (by simp) ?_
    intro a4 s4 S4
    have S5 : St B ((Ty.list (Ty.list Ty.int)).is (.ref a4) (chL 0 many) :: _) _ _ := S4
    exact k a4 _ (S5.out0 (by obj_index2) (by sl_open))
  | succ n ih =>
    intro P own A E s many t u Q S hR hn hm k
    refine callFn1 (n := n + 2) "last" none [("many", some (.int many t)), ("size", some (.int ((n + 1 : Nat) : Int) u)), ("ways", none)] X (by rfl) hB S hR (by rfl) (by rfl) (by decide +kernel) (by rfl) (by rfl) (by rfl) ⟨rfl, rfl, trivial⟩ ⟨rfl, trivial⟩ ?_
    intro L c env s₁ hE hR' S₁ E'
    have e1 : (((n + 1 : Nat) : Int)) - 1 = (n : Int) := by lia
    repeat dictfold_fit
    rw [if_neg (by simp; lia)]
    repeat dictfold_fit
    rename St B _ _ _ => S2
    refine newLsFz (τ := Ty.list Ty.int) (xs := []) S2 .nil (by decide) ?_
    intro a3 s3 S3
    repeat dictfold_fit
    rename St B _ _ _ => S4
    refine' forRg (B := B) hR' (n : Int) (many : Int) (many - n) (by lia) (fun i P' pre => ∃ wv o1 W, W = chS (chL n) n i ∧ (Ty.list (Ty.list Ty.int)).is wv W ∈ P' ∧ (∀ f ∈ P, f ∈ P') ∧ pre = [(L, nsC [("many", some (.int many t)), ("size", some (.int ((n + 1 : Nat) : Int) u)), ("ways", some wv)]), (c, ceC o1)])
      [(L, nsC [("many", some (.int many t)), ("size", some (.int ((n + 1 : Nat) : Int) u)), ("ways", some (.ref a3))]), (c, ceC none)] own ?g1 ?g2 ?g3 (by intro _ _; rfl) (by intro _; rfl)
    case g1 =>
      repeat dictfold_fit
      rename St B _ _ _ => S5
      rw [e1] at S5
      exact ⟨_, _, _, rfl, S5, mHead, by accm_open, _, _, [], rfl, mTail mHead, by sl_open, rfl⟩
    case g2 =>
      rintro i t5 P' pre fr s E hi ⟨wv, o1, _, rfl, hwv, hsub, rfl⟩ S5
      dsimp only [List.nil_append, List.cons_append] at S5
      have hcl := chS_len (f := chL n) (k := n) (c := 4 ^ n) i (fun j hj => chL_len n (n + j) (by lia))
      have h4 : 4 ^ n ≤ 64 := Nat.le_trans (Nat.pow_le_pow_right (by decide) (show n ≤ 3 by lia)) (by decide)
      have hcl2 : (chS (chL n) n i).length ≤ 1000 := Nat.le_trans hcl (Nat.le_trans (Nat.mul_le_mul (show i ≤ 4 by lia) h4) (by decide))
      have hcl3 : (chL n (n + i)).length ≤ 1000 := Nat.le_trans (chL_len n (n + i) (by lia)) (by lia)
      have e2 : (n : Int) + (i : Int) = ((n + i : Nat) : Int) := by push_cast; rfl
      rw [e2]
      repeat dictfold_fit
      rename St B _ _ _ => S6
      refine' compMap0 (B := B) (n := (chL n (n + i)).length) (F := atF (Ty.list Ty.int) (chL n (n + i))) [(".0", .local), ("way", .local), ("last", .cell)] [("last", c)] [(".0", none), ("way", none)] (Ty.list Ty.int)
        (fun j => (chL n (n + i)).getD j [] ++ [((n + i : Nat) : Int)]) [(c, ceC (some (.int ((n + i : Nat) : Int) t5)))] _ P' hE hcl3
        ⟨rfl, by rfl, by rfl, by rfl, by rfl, by rfl, by rfl, by rfl, by rfl, by rfl⟩ ?g4 ?g5 ?g6 (by intro _; rfl)
      case g4 =>
        repeat dictfold_fit
        rename St B _ _ _ => S7
        rw [e1]
        refine ih S7 hR' (many := n + i) (by lia) (by lia) ?_
        intro a8 s8 S8
        exact ⟨_, enList hR' S8 (.mem mHead) (by accm_open) GoOk.name, by sl_open⟩
      case g5 =>
        intro Cn cenv hE2 j v2 fr2 s2 E2 hj S7
        dsimp only [List.nil_append, List.cons_append] at S7
        obtain ⟨x, hx, S8⟩ := S7.atF
        clear S7
        obtain ⟨hxl, _⟩ := chL_way n (n + i) x (List.mem_of_getElem? hx)
        repeat dictfold_fit
        rename St B _ _ _ => S9
        refine newLsFz (τ := Ty.int) (xs := [((n + i : Nat) : Int)]) S9 (.cons Ev.int .nil) (by simp) ?_
        intro a10 s10 S10
        refine catLs S10 (xs := x) (ys := [((n + i : Nat) : Int)]) (.mem (by f_look)) (.mem mHead) (by lia) (by simp) ?_
        intro a11 s11 S11
        refine ⟨_, _, _, _, S11, ?_, by sl_open, by dl_open, by accm_open, by rfl⟩
        rw [get_of hx]
        exact .mem mHead
      case g6 =>
        intro D s7 S7
        dsimp only [List.nil_append, List.cons_append] at S7
        rw [map_getD (fun way : List Int => way ++ [((n + i : Nat) : Int)]) (chL n (n + i)) []] at S7
        have S8 := S7.fzLs .head
        clear S7
        refine catLs S8 (xs := chS (chL n) n i) (ys := (chL n (n + i)).map fun way => way ++ [((n + i : Nat) : Int)]) (.mem (mTail hwv)) (.mem mHead) hcl2 (by rw [List.length_map]; exact hcl3) ?_
        intro a9 s9 S9
        repeat dictfold_fit
        rename St B _ _ _ => S10
        refine ⟨.inl rfl, _, _, _, S10, by accm_open, _, _, _, ?_, mHead, fun f hf => mTail (mTail (hsub f hf)), rfl⟩
        rw [chS_succ]
    case g3 =>
      rintro P' pre s ⟨wv, o1, _, rfl, hwv, hsub, rfl⟩ S5
      dsimp only [List.nil_append, List.cons_append] at S5
      repeat dictfold_fit
      have hwr : ∃ a, wv = .ref a := S5.refL (.mem hwv)
      obtain ⟨a, rfl⟩ := hwr
      exact k a _ (S5.out0 (by obj_index2) (List.forall_mem_cons.mpr ⟨hwv, hsub⟩))
end

section
variable {ad : Nat → Addr} {B : Shared} {P : List Fact} {own own₀ : Own} {prog : Program} {w : World} {A : Around} {E : Value → Shared → Prop} {s : Shared}
variable (X : Fns B ad) (hB : Bas B (GT ad) BT)
include X hB
set_option maxHeartbeats 8000000 in
theorem parts_spec {va : Value} {g : IMat} {h m size : Nat} {t u : Tok} {Q : Value → Shared → Prop} (S : St B P own s) (hR : Room A 8) (ha : Ev P (Ty.list (Ty.list Ty.int)) va g) (hg : Rect h m g) (hh : h ≤ 4) (hm : m ≤ 4) (hs : size ≤ 3)
    (k : ∀ a s', St B ((Ty.list (Ty.list (Ty.list Ty.int))).is (.ref a) (partsL g size m) :: P) own s' → Q (.ref a) s') : wpAny (model prog w) A (call (.ref (ad 27)) [va, .int size t, .int m u]) Q E s := by
  have hgl : g.length = h := hg.1
  have hgl1 : g.length ≤ 1000 := by lia
  have hA := chL_len6 (k := size) (m := g.length) hs (by lia)
  have hBl := chL_len6 (k := size) (m := m) hs hm
  refine callFn3 (n := 7) "wide" "size" "grid" (some (.int m u)) (some (.int size t)) (some va) [] X (by rfl) hB S hR (by rfl) (by rfl) (by decide +kernel) (by rfl) (by rfl) (by rfl) trivial ⟨rfl, rfl, rfl, trivial⟩ ?_
  intro L c1 c2 c3 env s₁ hE hR' S₁ E'
  repeat dictfold_fit
  refine' comp2 (B := B) (n1 := (chL size g.length).length) (n2 := (chL size m).length) (F1 := atF (Ty.list Ty.int) (chL size g.length)) (F2 := atF (Ty.list Ty.int) (chL size m))
    [(".0", .local), ("lines", .local), ("spots", .cell), ("_law_choices", .globalImplicit), ("grid", .cell), ("size", .cell), ("wide", .cell)] [("wide", c1), ("size", c2), ("grid", c3)] [(".0", none), ("lines", none)] (fun v => [(".0", none), ("lines", some v)]) (Ty.list (Ty.list Ty.int))
    (fun i j => subL g ((chL size g.length).getD i []) ((chL size m).getD j [])) [(c1, ceC (some (.int m u))), (c2, ceC (some (.int size t))), (c3, ceC (some va))] ((L, nsC []) :: own) P hE
    (Nat.le_trans (Nat.mul_le_mul hA hBl) (by decide)) ⟨rfl, by rfl, by rfl, by rfl, by rfl, by rfl, by rfl, by rfl, by rfl, by rfl⟩ (by f_look) (by f_look) (fun v => by acc_open) ?g1 ?g2 ?g3 ?g4 (by intro _; rfl) (by intro _ _; rfl)
  case g1 =>
    repeat dictfold_fit
    rename St B _ _ _ => S2
    refine choices_spec X hB size S2 (hR'.mono (by lia)) (many := g.length) (by lia) (by lia) ?_
    intro a3 s3 S3
    exact ⟨_, enList hR' S3 (.mem mHead) (by accm_open) GoOk.name, by sl_open⟩
  case g2 =>
    intro Cn c cenv hE2 i v fr s E hi S2
    dsimp only [List.nil_append, List.cons_append] at S2
    repeat dictfold_fit
    refine choices_spec X hB size S2 (hR'.mono (by lia)) (many := m) (by lia) (by lia) ?_
    intro a3 s3 S3
    exact ⟨_, enList hR' S3 (.mem mHead) (by accm_open) GoOk.name, by sl_open⟩
  case g3 =>
    intro Cn c cenv hE2 i v j u2 fr s E hi hj S2
    dsimp only [List.nil_append, List.cons_append] at S2
    obtain ⟨sp, hsp, S3⟩ := S2.atFm mHead
    obtain ⟨ln, hln, S4⟩ := S3.atFm (i := i) (v := v) (mTail (mTail mHead))
    obtain ⟨sp1, sp2⟩ := chL_way size m sp (List.mem_of_getElem? hsp)
    obtain ⟨ln1, ln2⟩ := chL_way size g.length ln (List.mem_of_getElem? hln)
    clear S3 S2
    have hga : Ev ((Ty.list Ty.int).is v ln :: (Ty.list Ty.int).is u2 sp :: atF (Ty.list Ty.int) (chL size m) j u2 :: atF (Ty.list Ty.int) (chL size g.length) i v :: P) (Ty.list (Ty.list Ty.int)) va g := ha.sub (by sl_open)
    generalize hP9 : ((Ty.list Ty.int).is v ln :: (Ty.list Ty.int).is u2 sp :: atF (Ty.list Ty.int) (chL size m) j u2 :: atF (Ty.list Ty.int) (chL size g.length) i v :: P) = P9 at *
    have q1 : (Ty.list Ty.int).is v ln ∈ P9 := by rw [← hP9]; f_look
    have q2 : (Ty.list Ty.int).is u2 sp ∈ P9 := by rw [← hP9]; f_look
    have q3 : ∀ f ∈ atF (Ty.list Ty.int) (chL size g.length) i v :: P, f ∈ P9 := by rw [← hP9]; exact fun f hf => mTail (mTail (mTail hf))
    clear hP9
    refine' compMap1 (B := B) (n := ln.length) (F := atF Ty.int ln) [(".0", .local), ("line", .cell), ("grid", .cell), ("spots", .cell)] "line" [("spots", c), ("grid", c3)] [(".0", none)] (Ty.list Ty.int)
      (fun a => sp.map fun spot => (g.getD (ln.getD a 0).toNat []).getD spot.toNat 0) [(c, ceC (some u2)), (c3, ceC (some va))] _ P9 hE2 (by lia)
      ⟨rfl, by rfl, by rfl, by rfl, by rfl, by rfl, by rfl, by rfl, by rfl, by rfl⟩ ?g5 ?g6 ?g7 (by intro _; rfl)
    case g5 =>
      repeat dictfold_fit
      exact ⟨_, enList hR' S4 (.mem q1) (by accm_open) GoOk.name, fun f hf => hf⟩
    case g6 =>
      intro Cn4 c4 cenv4 hE4 a v4 fr4 s4 E4 ha4 S5
      dsimp only [List.nil_append, List.cons_append] at S5
      obtain ⟨x, hx, S6⟩ := S5.atF
      clear S5
      obtain ⟨t6, rfl⟩ := S6.intV (.mem mHead)
      obtain ⟨xn, rfl, hxn⟩ := ln2 x (List.mem_of_getElem? hx)
      obtain ⟨f1, f2, f3⟩ := hg.irow (i := xn) (by lia)
      repeat dictfold_fit
      rename St B _ _ _ => S7
      refine' compMap0 (B := B) (n := sp.length) (F := atF Ty.int sp) [(".0", .local), ("spot", .local), ("grid", .cell), ("line", .cell)] [("line", c4), ("grid", c3)] [(".0", none), ("spot", none)] Ty.int
        (fun b => (g.getD xn []).getD (sp.getD b 0).toNat 0) [(c4, ceC (some (.int (xn : Int) t6))), (c3, ceC (some va))] _ P9 hE4 (by lia)
        ⟨rfl, by rfl, by rfl, by rfl, by rfl, by rfl, by rfl, by rfl, by rfl, by rfl⟩ ?g8 ?g9 ?g10 (by intro _; rfl)
      case g8 =>
        repeat dictfold_fit
        exact ⟨_, enList hR' S7 (.mem (mTail q2)) (by accm_open) GoOk.name, by sl_open⟩
      case g9 =>
        intro Cn5 cenv5 hE5 b v5 fr5 s5 E5 hb S8
        dsimp only [List.nil_append, List.cons_append] at S8
        obtain ⟨y, hy, S9⟩ := S8.atF
        clear S8
        obtain ⟨t9, rfl⟩ := S9.intV (.mem mHead)
        obtain ⟨yn, rfl, hyn⟩ := sp2 y (List.mem_of_getElem? hy)
        have hyl : yn < (g.getD xn []).length := by lia
        repeat dictfold_fit
        rename St B _ _ _ => S10
        refine itN xn S10 (hga.sub (by sl_open)) f1 hgl1 rfl ?_
        intro u11 S11
        repeat dictfold_fit
        refine itN yn S11 (.mem mHead) (List.getElem?_eq_getElem hyl) (by lia) rfl ?_
        intro u12 S12
        refine ⟨_, _, _, _, S12, ?_, by sl_open, by dl_open, by accm_open, by rfl⟩
        rw [get_of hy, Int.toNat_natCast, get_of (List.getElem?_eq_getElem hyl)]
        exact .mem mHead
      case g10 =>
        intro D5 s8 S8
        dsimp only [List.nil_append, List.cons_append] at S8
        rw [map_getD (fun spot : Int => (g.getD xn []).getD spot.toNat 0) sp 0] at S8
        refine ⟨_, _, _, _, _, _, S8.fzLs .head, ?_, by sl_open, by dl_open, by dl_open, by accm_open, by rfl⟩
        rw [get_of hx, Int.toNat_natCast]
        exact .mem mHead
    case g7 =>
      intro D4 s5 S5
      dsimp only [List.nil_append, List.cons_append] at S5
      rw [map_getD (fun line : Int => sp.map fun spot => (g.getD line.toNat []).getD spot.toNat 0) ln 0] at S5
      refine ⟨_, _, S5.fzLs .head, ?_, fun f hf => mTail (q3 f hf), by accm_open⟩
      rw [get_of hln, get_of hsp]
      exact .mem mHead
  case g4 =>
    intro D s2 S2
    dsimp only [List.nil_append, List.cons_append] at S2
    rw [flat_getD (chL size g.length) (chL size m) (fun a b => subL g a b) [] []] at S2
    have S3 : St B ((Ty.list (Ty.list (Ty.list Ty.int))).is (.ref D) (partsL g size m) :: _) _ _ := S2.fzLs .head
    exact k D _ (S3.out0 (by obj_index2) (by sl_open))
end

section
variable {ad : Nat → Addr} {B : Shared} {P : List Fact} {own own₀ : Own} {prog : Program} {w : World} {A : Around} {E : Value → Shared → Prop} {s : Shared}
variable (X : Fns B ad) (hB : Bas B (GT ad) BT)
include X hB
set_option maxHeartbeats 8000000 in
theorem rank_spec {va : Value} {g : IMat} {h m : Nat} {u : Tok} {Q : Value → Shared → Prop} (S : St B P own s) (hR : Room A 10) (ha : Ev P (Ty.list (Ty.list Ty.int)) va g) (hg : Rect h m g) (hb : AllE (Bnd 2650) g) (hh : h ≤ 3) (hm : m ≤ 4)
    (k : ∀ t' s', St B P own s' → Q (.int (rankL g m : Nat) t') s') : wpAny (model prog w) A (call (.ref (ad 29)) [va, .int m u]) Q E s := by
  have hgl : g.length = h := hg.1
  have hgl1 : g.length ≤ 1000 := by lia
  refine callFn0 (n := 9) [("grid", some va), ("wide", some (.int m u)), ("size", none)] X (by rfl) hB S hR (by rfl) (by rfl) (by decide +kernel) (by rfl) (by rfl) (by rfl) ⟨rfl, rfl, trivial⟩ ?_
  intro L env s₁ hE hR' S₁ E'
  repeat dictfold_fit
  rename St B _ _ _ => S2
  have emin : (if (m : Int) < (g.length : Int) then (m : Int) else (g.length : Int)) = ((min g.length m : Nat) : Int) := by split <;> lia
  rw [emin] at S2
  refine whileR (fun n s => ∃ t, St B P ((L, nsC [("grid", some va), ("wide", some (.int m u)), ("size", some (.int (n : Int) t))]) :: own) s ∧ rankT g m n = rankL g m ∧ n ≤ 3) (min g.length m) ⟨_, S2, rfl, by lia⟩ ?_
  clear S2
  rintro n s2 ⟨t2, S2, hr, hn3⟩ E2
  repeat dictfold_fit
  cases n with
  | zero =>
    rw [if_neg (by simp)]
    simp only [Bool.false_eq_true, if_false]
    repeat dictfold_fit
    rename St B _ _ _ => S3
    rw [← hr] at k
    exact k _ _ (S3.out0 (by obj_index2) (by sl_open))
  | succ n =>
    rw [if_pos (by simp)]
    repeat dictfold_fit
    rename St B _ _ _ => S3
    have hpl := partsL_len (g := g) (n := n + 1) (m := m) hn3 (by lia) hm
    have hpo := parts_ok (g := g) (n := n + 1) (m := m) hb
    refine' comp0 (B := B) (n := (partsL g (n + 1) m).length) (F := atF (Ty.list (Ty.list Ty.int)) (partsL g (n + 1) m)) [(".0", .local), ("part", .local), ("_law_det", .globalImplicit)] [] [(".0", none), ("part", none)] Ty.int
      (fun i zs P' pre' => zs = (((partsL g (n + 1) m).take i).filter fun p => decide (detL (n + 1) p ≠ 0)).map (fun _ => (1 : Int)) ∧ (∀ f ∈ P, f ∈ P') ∧ pre' = [])
      [] _ hE (by lia)
      ⟨rfl, by rfl, by rfl, by rfl, by rfl, by rfl, by rfl, by rfl, by rfl, by rfl⟩ ?g1 ?g2 ?g3 (by intro _; rfl)
    case g1 =>
      repeat dictfold_fit
      refine parts_spec X hB S3 (hR'.mono (by decide)) (g := g) (size := n + 1) (m := m) ha hg (by lia) hm hn3 ?_
      intro a4 s4 S4
      exact ⟨_, enList hR' S4 (.mem mHead) (by accm_open) GoOk.name, rfl, by sl_open, rfl⟩
    case g2 =>
      rintro Cn cenv hE2 i v zs P' pre' fr s E hi hz ⟨rfl, hsub, rfl⟩ S4
      dsimp only [List.nil_append, List.cons_append] at S4
      obtain ⟨x, hx, S5⟩ := S4.atF
      clear S4
      obtain ⟨o1, o2⟩ := hpo x (List.mem_of_getElem? hx)
      repeat dictfold_fit
      rename St B _ _ _ => S6
      refine det_spec X hB (n + 1) S6 (hR'.mono (by lia)) (g := x) (.mem mHead) hn3 o1 o2 ?_
      intro t7 s7 S7
      repeat dictfold_fit
      rename St B _ _ _ => S8
      by_cases h0 : detL (n + 1) x = 0
      · rw [if_neg (by simp [h0])]
        refine ⟨_, _, _, _, _, S8, by dl_open, by accm_open, by rfl, ?_, fun f hf => mTail (hsub f hf), rfl⟩
        rw [take_succ_filter hx, if_neg (by simp [h0]), List.append_nil]
      · rw [if_pos (by simp [h0])]
        repeat dictfold_fit
        rename St B _ _ _ => S9
        refine ⟨_, _, _, _, _, (1 : Int), S9, Ev.int, by dl_open, by accm_open, by rfl, ?_, fun f hf => mTail (hsub f hf), rfl⟩
        rw [take_succ_filter hx, if_pos (by simp [h0]), List.map_append]; rfl
    case g3 =>
      rintro P' pre' zs D s ⟨rfl, hsub, rfl⟩ S4
      dsimp only [List.nil_append, List.cons_append] at S4
      rw [List.take_length] at S4
      have S5 := S4.fzLs .head
      clear S4
      repeat dictfold_fit
      refine newLsFz (τ := Ty.int) (xs := []) S5 .nil (by decide) ?_
      intro a6 s6 S6
      refine eqD (Cod.list Cod.int) S6 hR' (x := (nzP g m (n + 1)).map (fun _ => (1 : Int))) (y := []) (.mem (mTail mHead)) (.mem mHead) (by decide) ?_
      have S7 := S6.sub (P' := P) (fun f hf => mTail (mTail (hsub f hf)))
      clear S6 S5 S3
      refine wpAny_truthy_bool ?_
      by_cases hz : nzP g m (n + 1) = []
      · rw [if_pos (by simp [hz])]
        repeat dictfold_fit
        simp only [if_true]
        repeat dictfold_fit
        rename St B _ _ _ => S8
        have e : ((n + 1 : Nat) : Int) - 1 = (n : Int) := by lia
        rw [e] at S8
        refine ⟨.inl rfl, n, by lia, _, S8, ?_, by lia⟩
        rw [← hr, rankT, if_pos hz]
      · rw [if_neg (by simp [hz])]
        simp only [Bool.false_eq_true, if_false]
        repeat dictfold_fit
        have e : rankT g m (n + 1) = n + 1 := by rw [rankT, if_neg hz]
        rw [← hr, e] at k
        exact k _ _ (S7.out0 (by obj_index2) (by sl_open))
end

section
variable {ad : Nat → Addr} {B : Shared} {P : List Fact} {own own₀ : Own} {prog : Program} {w : World} {A : Around} {E : Value → Shared → Prop} {s : Shared}
variable (X : Fns B ad) (hB : Bas B (GT ad) BT)
include X hB
set_option maxHeartbeats 8000000 in
theorem cleared_spec {va : Value} {rows : Mat} {d m : Nat} {Q : Value → Shared → Prop} (S : St B P own s) (hR : Room A 2) (ha : Ev P (Ty.list (Ty.list Ty.rat)) va rows) (hr : Rect d m rows) (hs : AllE (Sz 661) rows) (hd : d ≤ 3) (hm : m ≤ 3)
    (k : ∀ a' s', St B ((Ty.list (Ty.list Ty.int)).is (.ref a') (clearedL rows) :: P) own s' → Q (.ref a') s') : wpAny (model prog w) A (call (.ref (ad 30)) [va]) Q E s := by
  have hal : rows.length = d := hr.1
  have hal1 : rows.length ≤ 1000 := by lia
  refine callFn1 (n := 1) "many" none [("rows", some va), ("told", none), ("row", none), ("top", none), ("bottom", none)] X (by rfl) hB S hR (by rfl) (by rfl) (by decide +kernel) (by rfl) (by rfl) (by rfl) ⟨rfl, trivial⟩ ⟨rfl, trivial⟩ ?_
  intro L c env s₁ hE hR' S₁ E'
  repeat dictfold_fit
  refine newLsPl (τ := Ty.list Ty.int) (xs := []) S₁ .nil (by decide) ?_
  intro fa s2 S2
  repeat dictfold_fit
  rename St B _ _ _ => S3
  refine' forLs (B := B) hR' (Ty.list Ty.rat) rows (fun i P' pre => ∃ o1 o2 o3 o4 R, (∀ f ∈ P, f ∈ P') ∧ R = (rows.take i).map clrRow ∧
      pre = [(L, nsC [("rows", some va), ("told", some (.ref fa)), ("row", o1), ("top", o2), ("bottom", o3)]), (c, ceC o4), (fa, plC (Ty.list Ty.int) R)])
    [(L, nsC [("rows", some va), ("told", some (.ref fa)), ("row", none), ("top", none), ("bottom", none)]), (c, ceC none), (fa, plC (Ty.list Ty.int) [])] own ?g1 ?g2 ?g3 (by exact GoOk.name) (by intro _; rfl)
  case g1 =>
    repeat dictfold_fit
    exact ⟨_, _, S3, ha, by accm_open, _, _, _, _, _, fun f hf => hf, rfl, rfl⟩
  case g2 =>
    rintro i x v P' pre fr s E hx ⟨o1, o2, o3, o4, _, hsub, rfl, rfl⟩ S4
    dsimp only [List.nil_append, List.cons_append] at S4
    have hxm := List.mem_of_getElem? hx
    have hxl : x.length = m := hr.2 _ hxm
    have hxs := hs _ hxm
    have hil : i < rows.length := (List.getElem?_eq_some_iff.mp hx).1
    have hmany : ∀ j, j ≤ x.length → manyN x j < 2 ^ 1984 := fun j hj => Nat.lt_of_lt_of_le (manyN_lt hxs j hj) (Nat.pow_le_pow_right (by decide) (by have := Nat.mul_le_mul_left 661 (show j ≤ 3 by lia); lia))
    have big : ∀ {z : Int} {l : Nat}, z.natAbs < 2 ^ l → l ≤ 8000 → z.natAbs < 2 ^ 8000 := fun h hl => Nat.lt_of_lt_of_le h (Nat.pow_le_pow_right (by decide) hl)
    repeat dictfold_fit
    rename St B _ _ _ => S5
    refine' forLs (B := B) hR' Ty.rat x (fun j P3 pre => ∃ o2 o3 t W, (∀ f ∈ (Ty.list Ty.rat).is v x :: P', f ∈ P3) ∧ W = ((manyN x j : Nat) : Int) ∧
        pre = [(L, nsC [("rows", some va), ("told", some (.ref fa)), ("row", some v), ("top", o2), ("bottom", o3)]), (c, ceC (some (.int W t)))])
      [(L, nsC [("rows", some va), ("told", some (.ref fa)), ("row", some v), ("top", _), ("bottom", _)]), (c, ceC (some (.int 1 _)))] _ ?g4 ?g5 ?g6 (by exact GoOk.tup) (by intro _; rfl)
    case g4 =>
      repeat dictfold_fit
      exact ⟨_, _, S5, .mem mHead, by accm_open, _, _, _, _, fun f hf => hf, rfl, rfl⟩
    case g5 =>
      rintro j y v3 P3 pre fr3 s18 E18 hy ⟨o2, o3, t, _, hsub3, rfl, rfl⟩ S18
      dsimp only [List.nil_append, List.cons_append] at S18
      have hjl : j < x.length := (List.getElem?_eq_some_iff.mp hy).1
      have hys := hxs y (List.mem_of_getElem? hy)
      refine asgTp2 (τ := Ty.int) (σ := Ty.int) (p := (y.num, (y.den : Int))) hR' S18 (fun G hG => hG _ mHead) ?_
      intro w1 w2 s19 S19
      obtain ⟨t19, rfl⟩ := S19.intV (.mem mHead)
      obtain ⟨t20, rfl⟩ := S19.intV (.mem (mTail mHead))
      dsimp only at S19
      have q1 : (((manyN x j : Nat) : Int)).natAbs < 2 ^ 8000 := big (l := 1984) (hmany j (by lia)) (by decide)
      have q2 : ((y.den : Int)).natAbs < 2 ^ 8000 := big (l := 661) hys.2 (by decide)
      repeat dictfold_fit
      rename St B _ _ _ => S20
      refine ⟨.inl rfl, _, _, _, S20, by accm_open, _, _, _, _, fun f hf => mTail (mTail (mTail (hsub3 f hf))), ?_, rfl⟩
      rw [manyN, get_of hy]; push_cast; rfl
    case g6 =>
      rintro P3 pre s18 ⟨o2, o3, t, _, hsub3, rfl, rfl⟩ S18
      dsimp only [List.nil_append, List.cons_append] at S18
      repeat dictfold_fit
      refine callMeth (id := "list.append") ?_
      repeat dictfold_fit
      refine ⟨methAppend S18 (by f_look), ?_⟩
      refine' compMap0 (B := B) (n := x.length) (F := atF Ty.rat x) [(".0", .local), ("top", .local), ("bottom", .local), ("many", .cell)] [("many", c)] [(".0", none), ("top", none), ("bottom", none)] Ty.int
        (fun j => (x.getD j 0).num * ((manyN x x.length : Nat) : Int).fdiv ((x.getD j 0).den : Int)) [(c, ceC (some (.int ((manyN x x.length : Nat) : Int) t)))] _ P3 hE (by lia)
        ⟨rfl, by rfl, by rfl, by rfl, by rfl, by rfl, by rfl, by rfl, by rfl, by rfl⟩ ?g7 ?g8 ?g9 (by intro _; rfl)
      case g7 =>
        repeat dictfold_fit
        exact ⟨_, enList hR' S18 (.mem (hsub3 _ mHead)) (by accm_open) GoOk.tup, by sl_open⟩
      case g8 =>
        intro Cn cenv hE2 j v2 fr2 s2 E2 hj S9
        dsimp only [List.nil_append, List.cons_append] at S9
        obtain ⟨y, hy, S10⟩ := S9.atF
        clear S9
        have hys := hxs y (List.mem_of_getElem? hy)
        refine asgTp2 (τ := Ty.int) (σ := Ty.int) (p := (y.num, (y.den : Int))) hR' S10 (fun G hG => hG _ mHead) ?_
        intro w1 w2 s19 S19
        obtain ⟨t19, rfl⟩ := S19.intV (.mem mHead)
        obtain ⟨t20, rfl⟩ := S19.intV (.mem (mTail mHead))
        dsimp only at S19
        have q1 : ((y.den : Int)).natAbs < 2 ^ 8000 := big (l := 661) hys.2 (by decide)
        have q0 : (y.den : Int) ≠ 0 := by have := y.den_nz; lia
        have q2 : y.num.natAbs < 2 ^ 8000 := big (l := 661) hys.1 (by decide)
        have q3 : (((manyN x x.length : Nat) : Int).fdiv (y.den : Int)).natAbs < 2 ^ 8000 := by
          rw [fdiv_nat]
          exact big (l := 1984) (Nat.lt_of_le_of_lt (Nat.div_le_self _ _) (hmany _ (Nat.le_refl _))) (by decide)
        repeat dictfold_fit
        rename St B _ _ _ => S20
        refine ⟨_, _, _, _, S20, ?_, by sl_open, by dl_open, by accm_open, by rfl⟩
        rw [get_of hy]
        exact Ev.int
      case g9 =>
        intro D s9 S9
        dsimp only [List.nil_append, List.cons_append] at S9
        rw [map_getD (fun q : Rat => q.num * ((manyN x x.length : Nat) : Int).fdiv (q.den : Int)) x 0] at S9
        have S10 : St B _ ((D, lsC Ty.int (clrRow x)) :: _) s9 := S9
        have S11 := S10.fzLs .head
        clear S10 S9
        refine appendPl S11 (by dl_open) (x := clrRow x) (.mem mHead) ?_ ?_
        · rw [List.length_map, List.length_take]; lia
        intro s20 S20
        refine ⟨rfl, ?_⟩
        repeat dictfold_fit
        refine ⟨.inl rfl, _, _, [(L, nsC [("rows", some va), ("told", some (.ref fa)), ("row", _), ("top", _), ("bottom", _)]), (c, ceC _), (fa, plC (Ty.list Ty.int) _)], S20, by accm_open, _, _, _, _, _, ?_, ?_, rfl⟩
        · exact fun f hf => mTail (hsub3 f (mTail (hsub f hf)))
        · rw [List.take_add_one, hx, List.map_append]; rfl
  case g3 =>
    rintro P' pre s ⟨o1, o2, o3, o4, _, hsub, rfl, rfl⟩ S8
    dsimp only [List.nil_append, List.cons_append] at S8
    rw [List.take_length] at S8
    repeat dictfold_fit
    have S9 := S8.fzPl (a := fa) (by dl_open)
    have S10 : St B ((Ty.list (Ty.list Ty.int)).is (.ref fa) (clearedL rows) :: P') _ s := S9
    exact k fa _ (S10.out0 (by obj_index2) (List.forall_mem_cons.mpr ⟨mHead, fun f hf => mTail (hsub f hf)⟩))
end

section
variable {ad : Nat → Addr} {B : Shared} {P : List Fact} {own own₀ : Own} {prog : Program} {w : World} {A : Around} {E : Value → Shared → Prop} {s : Shared}
variable (X : Fns B ad) (hB : Bas B (GT ad) BT)
include X hB
omit X hB in
theorem cutS {env : Env} {st : Stmt} {rest : List Stmt} {Q : Flow → Shared → Prop} (J : Shared → Prop) (h1 : wpAny (model prog w) A (exec st env) (fun f s' => f = .next ∧ J s') E s)
    (h2 : ∀ s', J s' → wpAny (model prog w) A (execs rest env) Q E s') : wpAny (model prog w) A (execs (st :: rest) env) Q E s :=
  wpAny_execs_cons (wpAny_mono h1 (fun f s' h => by obtain ⟨rfl, h⟩ := h; exact h2 s' h) fun _ _ e => e)
omit X hB in
theorem optNone {α : Type} {τ : Ty α} {v : Value} (S : St B P own s) (h : Ev P (Ty.opt τ) v none) : v = .none := let ⟨G, hG⟩ := S; h G hG.fa
omit X hB in
theorem optSome {α : Type} {τ : Ty α} {v : Value} {x : α} (S : St B P own s) (h : Ev P (Ty.opt τ) v (some x)) : ∃ a, v = .ref a ∧ Ev P τ v x :=
  let ⟨G, hG⟩ := S; let ⟨_, a, e⟩ := h G hG.fa; ⟨a, e, fun G hG => (h G hG).1⟩
omit X hB in
theorem isNoneO {α : Type} {τ : Ty α} {v : Value} {x : Option α} {Q : Value → Shared → Prop} (S : St B P own s) (h : Ev P (Ty.opt τ) v x) (k : Q (.bool x.isNone) s) : wpAny (model prog w) A (compareOp .Is v .none) Q E s := by
  cases x with
  | none => rw [optNone S h]; exact isNone_none k
  | some x => obtain ⟨a, rfl, _⟩ := optSome S h; exact isNone_ref k
omit X hB in
theorem isNotO {α : Type} {τ : Ty α} {v : Value} {x : Option α} {Q : Value → Shared → Prop} (S : St B P own s) (h : Ev P (Ty.opt τ) v x) (k : Q (.bool x.isSome) s) : wpAny (model prog w) A (compareOp .IsNot v .none) Q E s := by
  cases x with
  | none => rw [optNone S h]; exact isNot_none k
  | some x => obtain ⟨a, rfl, _⟩ := optSome S h; exact isNot_ref k
omit X hB in
structure AllOk (P P' : List Fact) (ga gv u1 u2 : Value) (g : IMat) (goal : List Int) : Prop where
  hgrid : (Ty.list (Ty.list Ty.int)).is ga g ∈ P'
  hgoal : (Ty.list Ty.int).is gv goal ∈ P'
  hsol : (Ty.opt (Ty.list Ty.rat)).is u1 (solM (toQ g) (goal.map i2q)) ∈ P'
  hnull : (Ty.list (Ty.list Ty.rat)).is u2 (nullM (toQ g)) ∈ P'
  sub : ∀ f ∈ P, f ∈ P'
omit X hB in
theorem AllOk.mono {P P' P'' : List Fact} {ga gv u1 u2 : Value} {g : IMat} {goal : List Int} (h : AllOk P P' ga gv u1 u2 g goal) (k : ∀ f ∈ P', f ∈ P'') : AllOk P P'' ga gv u1 u2 g goal :=
  ⟨k _ h.hgrid, k _ h.hgoal, k _ h.hsol, k _ h.hnull, fun f hf => k f (h.sub f hf)⟩
omit X hB in
/-- what is known once the goal stands -/
structure GoalOk (P P' : List Fact) (h : Nat) (ga gv : Value) (g : IMat) (goal : List Int) : Prop where
  hgrid : (Ty.list (Ty.list Ty.int)).is ga g ∈ P'
  hgoal : (Ty.list Ty.int).is gv goal ∈ P'
  len : goal.length = h
  small : ∀ x ∈ goal, x.natAbs < 1024
  sub : ∀ f ∈ P, f ∈ P'
omit X hB in
abbrev lawL (vs : Value) (h m : Nat) (ga : Value) (t1 t2 : Tok) (o1 o2 o3 o4 o5 o6 o7 : Option Value) : List (Str × Option Value) :=
  [("script", some vs), ("high", some (.int h t1)), ("wide", some (.int m t2)), ("grid", some ga), ("planted", o1), ("found", o2), ("free", o3), ("size", o4), ("is_fine", o5), ("column", o6), ("back", o7)]
omit X hB in
abbrev lawN : List (Str × NameKind) := [("script", .local), ("box", .cell), ("high", .local), ("wide", .local), ("grid", .local), ("goal", .cell), ("planted", .local), ("found", .local), ("free", .local), ("size", .local), ("is_fine", .local), ("column", .local), ("back", .local), ("_law_box", .globalImplicit), ("_law_take", .globalImplicit), ("_law_grid", .globalImplicit), ("range", .globalImplicit), ("_law_times", .globalImplicit), ("solve_system", .globalImplicit), ("from_whole", .globalImplicit), ("_law_rank", .globalImplicit), ("enumerate", .globalImplicit), ("len", .globalImplicit), ("mat_mul", .globalImplicit), ("_law_cleared", .globalImplicit), ("inverse", .globalImplicit), ("_law_det", .globalImplicit), ("unit_matrix", .globalImplicit)]
omit X hB in
def lawRest (n : Nat) : List Stmt := match dr 31 with
  | some d => d.body.drop n
  | none => []
omit X hB in
structure Ctx (h m : Nat) (g : IMat) (goal : List Int) : Prop where
  gok : GridOk h m 36 g
  hh : 0 < h
  hh3 : h ≤ 3
  hm : 0 < m
  hm3 : m ≤ 3
  len : goal.length = h
  small : ∀ x ∈ goal, x.natAbs < 1024
set_option maxHeartbeats 16000000 in
theorem law_tail3 {vs gv u1 u2 : Value} {ga L cg cb : Addr} {h m : Nat} {g : IMat} {goal : List Int} {t1 t2 t27 : Tok} {o o6 : Option Value} {fine : Bool} {env : Env} {P7 : List Fact} {Q : Value → Shared → Prop} (hE : EnvIs env lawN L [("goal", cg), ("box", cb)]) (hR' : Room A 17) (C : Ctx h m g goal)
    (aok7 : AllOk P P7 (.ref ga) gv u1 u2 g goal) (S40 : St B P7 ((L, nsC (lawL vs h m (.ref ga) t1 t2 o (some u1) (some u2) (some (.int (rankL g m : Nat) t27)) (some (.bool fine)) o6 none)) :: (cg, ceC (some gv)) :: own) s) (k : ∀ s', St B P own s' → Q (.bool true) s') :
    wpAny (model prog w) A (execs (lawRest 12) env) (fun fl s'' => Q (retV fl) s'') E s := by
  delta lawN at hE
  obtain ⟨gok, hh, hh3, hm, hm3, hgol, go_small⟩ := C
  have gb : ∀ r ∈ g, ∀ x ∈ r, x.natAbs < 1024 := fun r hr x hx => by have := gok.2 r hr x hx; unfold Sml at this; lia
  have He := toQ_ok gok.1 gb
  have gB : AllE (Bnd 2650) g := fun r hr x hx => Nat.lt_of_lt_of_le (gb r hr x hx) (show 2 ^ 10 ≤ 2 ^ 2650 from Nat.pow_le_pow_right (by decide) (by decide))
  have LO := law_ok gok.1 hgol hh hh3 hm hm3 gb go_small
  have hgl : g.length = h := gok.1.1
  refine wpAny_execs_cons ?_
  have rn : ∀ r ∈ g, r.length ≤ 1000 := fun r hr => by rw [gok.1.2 r hr]; lia
  by_cases hmm : h = m
  · obtain rfl := hmm
    repeat dictfold_fit
    rename St B _ _ _ => S2
    rw [if_neg (by simp)]
    repeat dictfold_fit
    refine from_whole_spec X hB S2 (hR'.mono (by decide)) (rows := g) (.mem aok7.hgrid) (by lia) rn ?_
    intro a3 s3 S3
    repeat dictfold_fit
    refine inverse_spec X hB S3 (hR'.mono (by decide)) (a := toQ g) (n := h) (.mem mHead) He hh hh3 ?_
    intro v4 s4 S4
    have hiN := LO.invN rfl
    have hiS := LO.invS rfl
    have hiO : ∀ b, invM (toQ g) = some b → Rect h h b ∧ AllE (Sz 661) b := fun b e => invM_ok He hh hh3 e
    generalize invM (toQ g) = bk at S4 hiN hiS hiO
    repeat dictfold_fit
    rename St B _ _ _ => S5
    refine isNoneO S5 (.mem mHead) ?_
    repeat dictfold_fit
    refine det_spec X hB h S5 (hR'.mono (by lia)) (g := g) (.mem (mTail (mTail aok7.hgrid))) hh3 gok.1 gB ?_
    intro t6 s6 S6
    repeat dictfold_fit
    rename St B _ _ _ => S7
    refine neBB hR' ?_
    repeat dictfold_fit
    have hb1 : (bk.isNone == (detL h g == 0)) = true := by
      by_cases hd : detL h g = 0
      · rw [hiN.mpr hd, hd]; rfl
      · have h1 : bk ≠ none := fun e => hd (hiN.mp e)
        cases bk with
        | none => exact absurd rfl h1
        | some b => simp [hd]
    rw [hb1]
    rw [if_neg (by simp)]
    repeat dictfold_fit
    refine PyProof.Rows.BoolOp_or ?_
    repeat dictfold_fit
    refine isNoneO S7 (.mem mHead) ?_
    repeat dictfold_fit
    cases bk with
    | none =>
      simp only [Option.isNone_none, if_true]
      exact k _ (S7.out0 (by obj_index2) (fun f hf => mTail (mTail (aok7.sub f hf))))
    | some b =>
      obtain ⟨b1, b2⟩ := hiO b rfl
      obtain ⟨b3, b4⟩ := hiS b rfl
      obtain ⟨ua, rfl, hux⟩ := optSome S7 (x := b) (.mem mHead)
      simp only [Option.isNone_some, Bool.false_eq_true, if_false]
      refine PyProof.Rows.BoolOp_one ?_
      refine PyProof.Rows.Compare_chain ?_
      repeat dictfold_fit
      have sA : AllE (Sz 700) (toQ g) := (He.mono (l := 700) (by decide)).sz
      have sB : AllE (Sz 700) b := b2.imp fun q hq => hq.mono (by decide)
      refine from_whole_spec X hB S7 (hR'.mono (by decide)) (rows := g) (.mem (mTail (mTail aok7.hgrid))) (by lia) rn ?_
      intro a8 s8 S8
      repeat dictfold_fit
      refine mat_mul_spec X hB S8 (hR'.mono (by decide)) (a := b) (b := toQ g) (hux.sub (by sl_open)) (.mem mHead) b1 He.rect hh hh (by lia) hh3 (by lia) sB sA ?_
      intro a9 s9 S9
      rw [b3] at S9
      refine PyProof.Rows.chain_link ?_
      repeat dictfold_fit
      refine unit_matrix_spec X hB S9 (hR'.mono (by decide)) (n := h) (by lia) ?_
      intro a10 s10 S10
      refine eqD (Cod.list (Cod.list Cod.rat)) S10 hR' (x := idM h) (y := idM h) (.mem (mTail mHead)) (.mem mHead) (by decide) ?_
      repeat dictfold_fit
      rw [if_pos (by simp)]
      refine PyProof.Rows.chain_last ?_
      repeat dictfold_fit
      refine from_whole_spec X hB S10 (hR'.mono (by decide)) (rows := g) (.mem (mTail (mTail (mTail (mTail (mTail aok7.hgrid)))))) (by lia) rn ?_
      intro a11 s11 S11
      repeat dictfold_fit
      refine mat_mul_spec X hB S11 (hR'.mono (by decide)) (a := toQ g) (b := b) (.mem mHead) (hux.sub (by sl_open)) He.rect b1 hh hh (by lia) hh3 (by lia) sA sB ?_
      intro a12 s12 S12
      rw [b4] at S12
      refine eqD (Cod.list (Cod.list Cod.rat)) S12 hR' (x := idM h) (y := idM h) (.mem (mTail (mTail mHead))) (.mem mHead) (by decide) ?_
      simp only [decide_true]
      exact k _ (S12.out0 (by obj_index2) (fun f hf => mTail (mTail (mTail (mTail (mTail (mTail (mTail (aok7.sub f hf)))))))))
  · repeat dictfold_fit
    rename St B _ _ _ => S2
    rw [if_pos (by simp; lia)]
    repeat dictfold_fit
    exact k _ (S2.out0 (by obj_index2) aok7.sub)
end

section
variable {ad : Nat → Addr} {B : Shared} {P : List Fact} {own own₀ : Own} {prog : Program} {w : World} {A : Around} {E : Value → Shared → Prop} {s : Shared}
variable (X : Fns B ad) (hB : Bas B (GT ad) BT)
include X hB
set_option maxHeartbeats 16000000 in
theorem law_tail2 {vs gv u1 u2 : Value} {ga L cg cb : Addr} {h m : Nat} {g : IMat} {goal : List Int} {t1 t2 t27 : Tok} {o o6 : Option Value} {fine : Bool} {env : Env} {P7 : List Fact} {Q : Value → Shared → Prop} (hE : EnvIs env lawN L [("goal", cg), ("box", cb)]) (hR' : Room A 17) (C : Ctx h m g goal)
    (aok7 : AllOk P P7 (.ref ga) gv u1 u2 g goal) (S40 : St B P7 ((L, nsC (lawL vs h m (.ref ga) t1 t2 o (some u1) (some u2) (some (.int (rankL g m : Nat) t27)) (some (.bool fine)) none none)) :: (cg, ceC (some gv)) :: own) s) (k : ∀ s', St B P own s' → Q (.bool true) s') :
    wpAny (model prog w) A (execs (lawRest 9) env) (fun fl s'' => Q (retV fl) s'') E s := by
  have hE0 := hE
  have C0 := C
  delta lawN at hE
  obtain ⟨gok, hh, hh3, hm, hm3, hgol, go_small⟩ := C
  have gb : ∀ r ∈ g, ∀ x ∈ r, x.natAbs < 1024 := fun r hr x hx => by have := gok.2 r hr x hx; unfold Sml at this; lia
  have He := toQ_ok gok.1 gb
  have gB : AllE (Bnd 2650) g := fun r hr x hx => Nat.lt_of_lt_of_le (gb r hr x hx) (show 2 ^ 10 ≤ 2 ^ 2650 from Nat.pow_le_pow_right (by decide) (by decide))
  have LO := law_ok gok.1 hgol hh hh3 hm hm3 gb go_small
  have hgl : g.length = h := gok.1.1
  have hb0 := LO.base
  have nlen : (nullM (toQ g)).length ≤ 1000 := by lia
  obtain ⟨nr, nz⟩ := nullM_ok He hh hh3
  have bl : (goal.map i2q).length = h := by rw [List.length_map]; exact hgol
  have bs : ∀ x ∈ goal.map i2q, Sz 10 x := fun x hx => by
    obtain ⟨z, h1, rfl⟩ := List.mem_map.mp hx
    exact sz_i2q (go_small z h1)
  refine cutS (fun s' => ∃ P7, AllOk P P7 (.ref ga) gv u1 u2 g goal ∧ St B P7 ((L, nsC (lawL vs h m (.ref ga) t1 t2 o (some u1) (some u2) (some (.int (rankL g m : Nat) t27)) (some (.bool fine)) none none)) :: (cg, ceC (some gv)) :: own) s') ?_ ?_
  · repeat dictfold_fit
    refine isNotO S40 (.mem aok7.hsol) ?_
    repeat dictfold_fit
    cases hx : solM (toQ g) (goal.map i2q) with
    | none =>
      simp only [Option.isSome_none, Bool.false_eq_true, if_false]
      repeat dictfold_fit
      exact ⟨rfl, _, aok7, S40⟩
    | some x =>
      obtain ⟨xl, xs⟩ := solM_ok He hh hh3 bl bs hx
      obtain ⟨cr, cz⟩ := colM_ok xs
      rw [xl] at cr
      have hsx := LO.sol x hx
      obtain ⟨ua, rfl, hux⟩ := optSome S40 (x := x) (.mem (hx ▸ aok7.hsol))
      simp only [Option.isSome_some, if_true]
      repeat dictfold_fit
      refine from_whole_spec X hB S40 (hR'.mono (by decide)) (rows := g) (.mem aok7.hgrid) (by lia) (fun r hr => by rw [gok.1.2 r hr]; lia) ?_
      intro a41 s41 S41
      repeat dictfold_fit
      refine' compMap0 (B := B) (n := x.length) (F := atF Ty.rat x) [(".0", .local), ("one", .local)] [] [(".0", none), ("one", none)] (Ty.list Ty.rat)
        (fun i => [x.getD i 0]) [] _ ((Ty.list (Ty.list Ty.rat)).is (.ref a41) (toQ g) :: P7) hE (by lia)
        ⟨rfl, by rfl, by rfl, by rfl, by rfl, by rfl, by rfl, by rfl, by rfl, by rfl⟩ ?g16 ?g17 ?g18 (by intro _; rfl)
      case g16 =>
        repeat dictfold_fit
        exact ⟨_, enList hR' S41 (hux.sub (by sl_open)) (by accm_open) GoOk.name, by sl_open⟩
      case g17 =>
        intro Cn2 cenv2 hE3 i2 v2 fr2 s2 E2 hi2 S5
        dsimp only [List.nil_append, List.cons_append] at S5
        obtain ⟨y, hy, S6⟩ := S5.atF
        clear S5
        repeat dictfold_fit
        rename St B _ _ _ => S7
        refine newLsFz (τ := Ty.rat) (xs := [y]) S7 (.cons (.mem mHead) .nil) (by simp) ?_
        intro a9 s9 S9
        refine ⟨_, _, _, _, S9, ?_, by sl_open, by dl_open, by accm_open, by rfl⟩
        rw [get_of hy]
        exact .mem mHead
      case g18 =>
        intro D7 s42 S42
        dsimp only [List.nil_append, List.cons_append] at S42
        rw [map_getD (fun q : Rat => [q]) x 0] at S42
        have S43 : St B _ ((D7, lsC (Ty.list Ty.rat) (colM x)) :: _) s42 := S42
        have S44 := S43.fzLs .head
        clear S43 S42 S41
        repeat dictfold_fit
        refine mat_mul_spec X hB S44 (hR'.mono (by decide)) (a := toQ g) (b := colM x) (.mem (mTail mHead)) (.mem mHead) He.rect cr hh hm (by lia) hm3 (by decide) ((He.mono (l := 700) (by decide)).sz) (cz.imp fun q hq => hq.mono (by decide)) ?_
        intro a45 s45 S45
        rw [hsx] at S45
        have S46 := S45.sub (P' := (Ty.list (Ty.list Ty.rat)).is (.ref a45) (goal.map fun z => [i2q z]) :: P7) (by sl_open)
        clear S45 S44
        repeat dictfold_fit
        refine' compMap0 (B := B) (n := goal.length) (F := atF Ty.int goal) [(".0", .local), ("one", .local)] [] [(".0", none), ("one", none)] (Ty.list Ty.rat)
          (fun i => [i2q (goal.getD i 0)]) [] _ ((Ty.list (Ty.list Ty.rat)).is (.ref a45) (goal.map fun z => [i2q z]) :: P7) hE (by lia)
          ⟨rfl, by rfl, by rfl, by rfl, by rfl, by rfl, by rfl, by rfl, by rfl, by rfl⟩ ?g19 ?g20 ?g21 (by intro _; rfl)
        case g19 =>
          repeat dictfold_fit
          exact ⟨_, enList hR' S46 (.mem (mTail aok7.hgoal)) (by accm_open) GoOk.name, by sl_open⟩
        case g20 =>
          intro Cn2 cenv2 hE3 i2 v2 fr2 s2 E2 hi2 S5
          dsimp only [List.nil_append, List.cons_append] at S5
          obtain ⟨y, hy, S6⟩ := S5.atF
          clear S5
          obtain ⟨t, rfl⟩ := S6.intV (.mem mHead)
          repeat dictfold_fit
          rename St B _ _ _ => S7
          refine newTp2 S7 Ev.int Ev.int ?_
          intro a9 s9 S9
          have S10 := S9.add (τ := Ty.rat) (v := .ref a9) (x := i2q y) (Ev.rat (.mem mHead))
          repeat dictfold_fit
          refine newLsFz (τ := Ty.rat) (xs := [i2q y]) S10 (.cons (.mem mHead) .nil) (by simp) ?_
          intro a11 s11 S11
          refine ⟨_, _, _, _, S11, ?_, by sl_open, by dl_open, by accm_open, by rfl⟩
          rw [get_of hy]
          exact .mem mHead
        case g21 =>
          intro D8 s47 S47
          dsimp only [List.nil_append, List.cons_append] at S47
          rw [map_getD (fun z : Int => [i2q z]) goal 0] at S47
          have S48 := S47.fzLs .head
          clear S47 S46
          refine neD (Cod.list (Cod.list Cod.rat)) S48 hR' (x := goal.map fun z => [i2q z]) (y := goal.map fun z => [i2q z]) (.mem (mTail mHead)) (.mem mHead) (by decide) ?_
          repeat dictfold_fit
          rw [if_neg (by simp)]
          simp only [Bool.false_eq_true, if_false]
          repeat dictfold_fit
          exact ⟨rfl, P7, aok7, (S48.sub (P' := P7) (by sl_open)).picks (pre := [(L, _), (cg, _)]) (by accm_open)⟩
  · rintro s50 ⟨P8, aok8, S50⟩
    clear S40 aok7
    refine cutS (fun s' => ∃ P7 o6, AllOk P P7 (.ref ga) gv u1 u2 g goal ∧ St B P7 ((L, nsC (lawL vs h m (.ref ga) t1 t2 o (some u1) (some u2) (some (.int (rankL g m : Nat) t27)) (some (.bool fine)) o6 none)) :: (cg, ceC (some gv)) :: own) s') ?_ ?_
    · refine' forLs (B := B) hR' (Ty.list Ty.rat) (nullM (toQ g)) (fun i P' pre => ∃ o6, AllOk P P' (.ref ga) gv u1 u2 g goal ∧ pre = [(L, nsC (lawL vs h m (.ref ga) t1 t2 o (some u1) (some u2) (some (.int (rankL g m : Nat) t27)) (some (.bool fine)) o6 none)), (cg, ceC (some gv))]) [(L, nsC (lawL vs h m (.ref ga) t1 t2 o (some u1) (some u2) (some (.int (rankL g m : Nat) t27)) (some (.bool fine)) none none)), (cg, ceC (some gv))] own ?g22 ?g23 ?g24 (by exact GoOk.name) (by intro _; rfl)
      case g22 =>
        repeat dictfold_fit
        exact ⟨_, _, S50, .mem aok8.hnull, by accm_open, none, aok8, rfl⟩
      case g23 =>
        rintro i x v P9 pre fr s E hx ⟨o6, aok9, rfl⟩ S51
        dsimp only [List.nil_append, List.cons_append] at S51
        have hxm := List.mem_of_getElem? hx
        have xl : x.length = m := nr.2 _ hxm
        have hzr := LO.zero x hxm
        obtain ⟨cr, cz⟩ := colM_ok (k := 661) (x := x) (fun q hq => nz _ hxm q hq)
        rw [xl] at cr
        repeat dictfold_fit
        rename St B _ _ _ => S52
        clear S51
        have hml : (mulM (toQ g) (colM x)).length = h := by unfold mulM; rw [List.length_map]; exact He.rect.1
        refine' comp0 (B := B) (n := (mulM (toQ g) (colM x)).length) (F := atF (Ty.list Ty.rat) (mulM (toQ g) (colM x))) [(".0", .local), ("row", .local)] [] [(".0", none), ("row", none)] (Ty.list Ty.rat)
          (fun j zs P' pre' => zs = [] ∧ (∀ f ∈ (Ty.list Ty.rat).is v x :: P9, f ∈ P') ∧ pre' = [])
          [] _ hE (by lia)
          ⟨rfl, by rfl, by rfl, by rfl, by rfl, by rfl, by rfl, by rfl, by rfl, by rfl⟩ ?g25 ?g26 ?g27 (by intro _; rfl)
        case g25 =>
          repeat dictfold_fit
          refine from_whole_spec X hB S52 (hR'.mono (by decide)) (rows := g) (.mem (mTail aok9.hgrid)) (by lia) (fun r hr => by rw [gok.1.2 r hr]; lia) ?_
          intro a53 s53 S53
          repeat dictfold_fit
          refine' compMap0 (B := B) (n := x.length) (F := atF Ty.rat x) [(".0", .local), ("one", .local)] [] [(".0", none), ("one", none)] (Ty.list Ty.rat)
            (fun i => [x.getD i 0]) [] _ ((Ty.list (Ty.list Ty.rat)).is (.ref a53) (toQ g) :: (Ty.list Ty.rat).is v x :: P9) hE (by lia)
            ⟨rfl, by rfl, by rfl, by rfl, by rfl, by rfl, by rfl, by rfl, by rfl, by rfl⟩ ?g28 ?g29 ?g30 (by intro _; rfl)
          case g28 =>
            repeat dictfold_fit
            exact ⟨_, enList hR' S53 (.mem (mTail mHead)) (by accm_open) GoOk.name, by sl_open⟩
          case g29 =>
            intro Cn2 cenv2 hE3 i2 v2 fr2 s2 E2 hi2 S5
            dsimp only [List.nil_append, List.cons_append] at S5
            obtain ⟨y, hy, S6⟩ := S5.atF
            clear S5
            repeat dictfold_fit
            rename St B _ _ _ => S7
            refine newLsFz (τ := Ty.rat) (xs := [y]) S7 (.cons (.mem mHead) .nil) (by simp) ?_
            intro a9 s9 S9
            refine ⟨_, _, _, _, S9, ?_, by sl_open, by dl_open, by accm_open, by rfl⟩
            rw [get_of hy]
            exact .mem mHead
          case g30 =>
            intro D7 s42 S42
            dsimp only [List.nil_append, List.cons_append] at S42
            rw [map_getD (fun q : Rat => [q]) x 0] at S42
            have S43 : St B _ ((D7, lsC (Ty.list Ty.rat) (colM x)) :: _) s42 := S42
            have S44 := S43.fzLs .head
            clear S43 S42 S53
            repeat dictfold_fit
            refine mat_mul_spec X hB S44 (hR'.mono (by decide)) (a := toQ g) (b := colM x) (.mem (mTail mHead)) (.mem mHead) He.rect cr hh hm (by lia) hm3 (by decide) ((He.mono (l := 700) (by decide)).sz) (cz.imp fun q hq => hq.mono (by decide)) ?_
            intro a45 s45 S45
            exact ⟨_, enList hR' S45 (.mem mHead) (by accm_open) GoOk.name, rfl, by sl_open, rfl⟩
        case g26 =>
          rintro Cn cenv hE2 j v2 zs P' pre' fr2 s2 E2 hj hz ⟨rfl, hsub2, rfl⟩ S53
          dsimp only [List.nil_append, List.cons_append] at S53
          obtain ⟨y, hy, S54⟩ := S53.atF
          clear S53
          have hy0 : y = [0] := hzr y (List.mem_of_getElem? hy)
          subst hy0
          repeat dictfold_fit
          rename St B _ _ _ => S55
          refine newTp2 S55 (x := (0 : Int)) (y := (1 : Int)) Ev.int Ev.int ?_
          intro a9 s9 S9
          have S10 := S9.add (τ := Ty.rat) (v := .ref a9) (x := (0 : Rat)) (Ev.rat (.mem mHead))
          repeat dictfold_fit
          refine newLsFz (τ := Ty.rat) (xs := [(0 : Rat)]) S10 (.cons (.mem mHead) .nil) (by simp) ?_
          intro a11 s11 S11
          refine neD (Cod.list Cod.rat) S11 hR' (x := [(0 : Rat)]) (y := [(0 : Rat)]) (.mem (mTail (mTail (mTail mHead)))) (.mem mHead) (by decide) ?_
          repeat dictfold_fit
          rw [if_neg (by simp)]
          exact ⟨_, _, _, _, _, S11, by dl_open, by accm_open, by rfl, rfl, fun f hf => mTail (mTail (mTail (mTail (hsub2 f hf)))), rfl⟩
        case g27 =>
          rintro P' pre' zs D s2 ⟨rfl, hsub2, rfl⟩ S53
          dsimp only [List.nil_append, List.cons_append] at S53
          have S54 := S53.fzLs .head
          clear S53 S52
          repeat dictfold_fit
          refine newLsFz (τ := Ty.list Ty.rat) (xs := []) S54 .nil (by simp) ?_
          intro a11 s11 S11
          refine neD (Cod.list (Cod.list Cod.rat)) S11 hR' (x := []) (y := []) (.mem (mTail mHead)) (.mem mHead) (by decide) ?_
          repeat dictfold_fit
          rw [if_neg (by simp)]
          repeat dictfold_fit
          exact ⟨.inl rfl, _, _, _, S11, by accm_open, _, aok9.mono (fun f hf => mTail (mTail (hsub2 f (mTail hf)))), rfl⟩
      case g24 =>
        rintro P' pre' s2 ⟨o6, aok9, rfl⟩ S51
        dsimp only [List.nil_append, List.cons_append] at S51
        exact ⟨rfl, _, _, aok9, S51⟩
    · rintro s60 ⟨P9, o6, aok9, S60⟩
      clear S50 aok8
      have hnl := aok9.hnull
      refine cutS (fun s' => ∃ P7 o6, AllOk P P7 (.ref ga) gv u1 u2 g goal ∧ St B P7 ((L, nsC (lawL vs h m (.ref ga) t1 t2 o (some u1) (some u2) (some (.int (rankL g m : Nat) t27)) (some (.bool fine)) o6 none)) :: (cg, ceC (some gv)) :: own) s') ?_ ?_
      · repeat dictfold_fit
        refine newLsFz (τ := Ty.list Ty.rat) (xs := []) S60 .nil (by simp) ?_
        intro a61 s61 S61
        refine neD (Cod.list (Cod.list Cod.rat)) S61 hR' (x := nullM (toQ g)) (y := []) (.mem (mTail hnl)) (.mem mHead) (by decide) ?_
        repeat dictfold_fit
        by_cases hn0 : nullM (toQ g) = []
        · rw [if_neg (by simp [hn0])]
          simp only [Bool.false_eq_true, if_false]
          repeat dictfold_fit
          exact ⟨rfl, _, _, aok9.mono (fun f hf => mTail hf), S61⟩
        · rw [if_pos (by simp [hn0])]
          repeat dictfold_fit
          refine cleared_spec X hB S61 (hR'.mono (by decide)) (rows := nullM (toQ g)) (.mem (mTail hnl)) nr nz (by lia) hm3 ?_
          intro a62 s62 S62
          obtain ⟨q1, q2⟩ := cleared_bnd nr hm3 nz
          repeat dictfold_fit
          refine rank_spec X hB S62 (hR'.mono (by decide)) (g := clearedL (nullM (toQ g))) (h := (nullM (toQ g)).length) (m := m) (.mem mHead) q1 q2 (by lia) (by lia) ?_
          intro t63 s63 S63
          rw [LO.free hn0]
          have hnl2 : (Ty.list (Ty.list Ty.rat)).is u2 (nullM (toQ g)) ∈ (Ty.list (Ty.list Ty.int)).is (.ref a62) (clearedL (nullM (toQ g))) :: (Ty.list (Ty.list Ty.rat)).is (.ref a61) [] :: P9 := mTail (mTail hnl)
          repeat dictfold_fit
          rename St B _ _ _ => S64
          rw [if_neg (by simp)]
          simp only [Bool.false_eq_true, if_false]
          repeat dictfold_fit
          exact ⟨rfl, _, _, aok9.mono (fun f hf => mTail (mTail hf)), S64⟩
      · rintro s70 ⟨P10, o7, aok10, S70⟩
        exact law_tail3 X hB hE0 hR' C0 aok10 S70 k
end

section
variable {ad : Nat → Addr} {B : Shared} {P : List Fact} {own own₀ : Own} {prog : Program} {w : World} {A : Around} {E : Value → Shared → Prop} {s : Shared}
variable (X : Fns B ad) (hB : Bas B (GT ad) BT)
include X hB
set_option maxHeartbeats 16000000 in
theorem law_tail1 {vs gv : Value} {ga L cg cb : Addr} {h m : Nat} {g : IMat} {goal : List Int} {t1 t2 : Tok} {o : Option Value} {env : Env} {P' : List Fact} {Q : Value → Shared → Prop} (hE : EnvIs env lawN L [("goal", cg), ("box", cb)]) (hR' : Room A 17)
    (gok : GridOk h m 36 g) (hh : 0 < h) (hh3 : h ≤ 3) (hm : 0 < m) (hm3 : m ≤ 3) (go : GoalOk P P' h (.ref ga) gv g goal)
    (S20 : St B P' ((L, nsC (lawL vs h m (.ref ga) t1 t2 o none none none none none none)) :: (cg, ceC (some gv)) :: own) s) (k : ∀ s', St B P own s' → Q (.bool true) s') :
    wpAny (model prog w) A (execs (lawRest 5) env) (fun fl s'' => Q (retV fl) s'') E s := by
  have hE0 := hE
  delta lawN at hE
  have C0 : Ctx h m g goal := ⟨gok, hh, hh3, hm, hm3, go.len, go.small⟩
  have gb : ∀ r ∈ g, ∀ x ∈ r, x.natAbs < 1024 := fun r hr x hx => by have := gok.2 r hr x hx; unfold Sml at this; lia
  have He := toQ_ok gok.1 gb
  have gB : AllE (Bnd 2650) g := fun r hr x hx => Nat.lt_of_lt_of_le (gb r hr x hx) (show 2 ^ 10 ≤ 2 ^ 2650 from Nat.pow_le_pow_right (by decide) (by decide))
  have LO := law_ok gok.1 go.len hh hh3 hm hm3 gb go.small
  have hgl : g.length = h := gok.1.1
  have hgol := go.len
  have go_small := go.small
  have bl : (goal.map i2q).length = h := by rw [List.length_map]; exact go.len
  have bs : ∀ x ∈ goal.map i2q, Sz 10 x := fun x hx => by
    obtain ⟨z, h1, rfl⟩ := List.mem_map.mp hx
    exact sz_i2q (go.small z h1)
  refine wpAny_execs_cons ?_
  refine asgCall2 ?_
  repeat dictfold_fit
  refine from_whole_spec X hB S20 (hR'.mono (by decide)) (rows := g) (.mem go.hgrid) (by lia) (fun r hr => by rw [gok.1.2 r hr]; lia) ?_
  intro a21 s21 S21
  repeat dictfold_fit
  refine' compMap0 (B := B) (n := goal.length) (F := atF Ty.int goal) [(".0", .local), ("one", .local)] [] [(".0", none), ("one", none)] Ty.rat
    (fun i => i2q (goal.getD i 0)) [] _ ((Ty.list (Ty.list Ty.rat)).is (.ref a21) (toQ g) :: P') hE (by lia)
    ⟨rfl, by rfl, by rfl, by rfl, by rfl, by rfl, by rfl, by rfl, by rfl, by rfl⟩ ?g10 ?g11 ?g12 (by intro _; rfl)
  case g10 =>
    repeat dictfold_fit
    exact ⟨_, enList hR' S21 (.mem (mTail go.hgoal)) (by accm_open) GoOk.name, by sl_open⟩
  case g11 =>
    intro Cn2 cenv2 hE3 i2 v2 fr2 s2 E2 hi2 S5
    dsimp only [List.nil_append, List.cons_append] at S5
    obtain ⟨y, hy, S6⟩ := S5.atF
    clear S5
    obtain ⟨t, rfl⟩ := S6.intV (.mem mHead)
    repeat dictfold_fit
    rename St B _ _ _ => S7
    refine newTp2 S7 Ev.int Ev.int ?_
    intro a9 s9 S9
    refine ⟨_, _, _, _, S9, ?_, by sl_open, by dl_open, by accm_open, by rfl⟩
    rw [get_of hy]
    exact Ev.rat (.mem mHead)
  case g12 =>
    intro D5 s22 S22
    dsimp only [List.nil_append, List.cons_append] at S22
    rw [map_getD i2q goal 0] at S22
    have S23 := S22.fzLs (a := D5) .head
    clear S22 S21 S20
    repeat dictfold_fit
    refine solve_system_spec X hB S23 (hR'.mono (by decide)) (a := toQ g) (b := goal.map i2q) (.mem (mTail mHead)) (.mem mHead) He bl bs hh hh3 hm3 ?_
    intro v24 s24 S24
    refine asgTp2 hR' S24 (.mem mHead) ?_
    intro u1 u2 s25 S25
    dsimp only at S25
    repeat dictfold_fit
    rename St B _ _ _ => S26
    clear S25 S24 S23
    refine rank_spec X hB S26 (hR'.mono (by decide)) (g := g) (h := h) (.mem (mTail (mTail (mTail (mTail (mTail go.hgrid)))))) gok.1 gB hh3 (by lia) ?_
    intro t27 s27 S27
    repeat dictfold_fit
    rename St B _ _ _ => S28
    clear S27 S26
    have aok : AllOk P ((Ty.opt (Ty.list Ty.rat)).is u1 (solM (toQ g) (goal.map i2q)) :: (Ty.list (Ty.list Ty.rat)).is u2 (nullM (toQ g)) :: (Ty.pair (Ty.opt (Ty.list Ty.rat)) (Ty.list (Ty.list Ty.rat))).is v24 (solM (toQ g) (goal.map i2q), nullM (toQ g)) :: (Ty.list Ty.rat).is (.ref D5) (goal.map i2q) :: (Ty.list (Ty.list Ty.rat)).is (.ref a21) (toQ g) :: P') (.ref ga) gv u1 u2 g goal := {
      hgrid := mTail (mTail (mTail (mTail (mTail go.hgrid))))
      hgoal := mTail (mTail (mTail (mTail (mTail go.hgoal))))
      hsol := mHead
      hnull := mTail mHead
      sub := fun f hf => mTail (mTail (mTail (mTail (mTail (go.sub f hf))))) }
    generalize ((Ty.opt (Ty.list Ty.rat)).is u1 (solM (toQ g) (goal.map i2q)) :: (Ty.list (Ty.list Ty.rat)).is u2 (nullM (toQ g)) :: (Ty.pair (Ty.opt (Ty.list Ty.rat)) (Ty.list (Ty.list Ty.rat))).is v24 (solM (toQ g) (goal.map i2q), nullM (toQ g)) :: (Ty.list Ty.rat).is (.ref D5) (goal.map i2q) :: (Ty.list (Ty.list Ty.rat)).is (.ref a21) (toQ g) :: P') = P5 at S28 aok
    clear go
    refine' compMap0 (B := B) (n := g.length) (F := atE (Ty.list Ty.int) g) [(".0", .local), ("line", .local), ("row", .local), ("goal", .cell)] [("goal", cg)] [(".0", none), ("line", none), ("row", none)] (Ty.list Ty.int)
      (fun i => g.getD i [] ++ [goal.getD i 0]) [(cg, ceC (some gv))] _ P5 hE (by lia)
      ⟨rfl, by rfl, by rfl, by rfl, by rfl, by rfl, by rfl, by rfl, by rfl, by rfl⟩ ?g13 ?g14 ?g15 (by intro _; rfl)
    case g13 =>
      repeat dictfold_fit
      refine mkEnum S28 (.mem aok.hgrid) ?_
      intro e it l s8 S8
      exact ⟨_, enEn hR' S8 (by accm_open), by sl_open⟩
    case g14 =>
      intro Cn cenv hE2 i v fr s E hi S7
      dsimp only [List.nil_append, List.cons_append] at S7
      obtain ⟨x, hx, S8⟩ := S7.atE
      clear S7
      have hxl : x.length = m := gok.1.2 _ (List.mem_of_getElem? hx)
      have hib : i < goal.length := by lia
      refine asgTp2 hR' S8 (.mem mHead) ?_
      intro w1 w2 s9 S9
      obtain ⟨t9, rfl⟩ := S9.intV (.mem mHead)
      dsimp only at S9
      repeat dictfold_fit
      rename St B _ _ _ => S10
      refine itN i S10 (.mem (mTail (mTail (mTail aok.hgoal)))) (List.getElem?_eq_getElem hib) (by lia) rfl ?_
      intro u12 S12
      repeat dictfold_fit
      refine newLsFz (τ := Ty.int) (xs := [goal[i]]) S12 (.cons (.mem mHead) .nil) (by simp) ?_
      intro a13 s13 S13
      refine catLs S13 (xs := x) (ys := [goal[i]]) (.mem (by f_look)) (.mem mHead) (by lia) (by simp) ?_
      intro a15 s15 S15
      refine ⟨_, _, _, _, S15, ?_, by sl_open, by dl_open, by accm_open, by rfl⟩
      rw [get_of hx, get_of (List.getElem?_eq_getElem hib)]
      exact .mem mHead
    case g15 =>
      intro D6 s29 S29
      dsimp only [List.nil_append, List.cons_append] at S29
      have S30 : St B _ ((D6, lsC (Ty.list Ty.int) (augI g goal)) :: _) s29 := S29
      have S31 := S30.fzLs .head
      clear S30 S29 S28
      have ar : Rect h (m + 1) (augI g goal) := by
        refine ⟨by unfold augI; rw [List.length_map, List.length_range]; exact hgl, fun r hr => ?_⟩
        obtain ⟨i, hi, rfl⟩ := List.mem_map.mp hr
        have hi' := List.mem_range.mp hi
        rw [List.length_append, (gok.1.irow (i := i) (by lia)).2.1]; rfl
      have ab : AllE (Bnd 2650) (augI g goal) := by
        intro r hr x hx
        obtain ⟨i, hi, rfl⟩ := List.mem_map.mp hr
        have hi' := List.mem_range.mp hi
        rcases List.mem_append.mp hx with hx | hx
        · exact gB _ (gok.1.irow (i := i) (by lia)).2.2 x hx
        · have := List.mem_singleton.mp hx; subst this
          exact getD_all (p := Bnd 2650) (fun z hz => Nat.lt_of_lt_of_le (go_small z hz) (show 2 ^ 10 ≤ 2 ^ 2650 from Nat.pow_le_pow_right (by decide) (by decide))) (show (0 : Int).natAbs < 2 ^ 2650 from Nat.two_pow_pos _)
      repeat dictfold_fit
      have em : (m : Int) + 1 = ((m + 1 : Nat) : Int) := by push_cast; rfl
      rw [em]
      rename St B _ _ _ => S32
      refine rank_spec X hB S32 (hR'.mono (by decide)) (g := augI g goal) (h := h) (m := m + 1) (.mem mHead) ar ab hh3 (by lia) ?_
      intro t33 s33 S33
      repeat ((fail_if_success (with_reducible show wpAny _ _ (execs (Stmt.If _ _ _ _ :: _) _) _ _ _)); dictfold_fit)
      rename St B _ _ _ => S34
      clear S33 S32 S31
      replace aok := aok.mono (P'' := (Ty.list (Ty.list Ty.int)).is (.ref D6) (augI g goal) :: P5) (fun f hf => mTail hf)
      generalize (Ty.list (Ty.list Ty.int)).is (.ref D6) (augI g goal) :: P5 = P6 at S34 aok
      have hf : ((solM (toQ g) (goal.map i2q)).isNone == (((rankL (augI g goal) (m + 1) : Nat) : Int) == ((rankL g m : Nat) : Int))) = false := by
        by_cases hr : rankL (augI g goal) (m + 1) = rankL g m
        · have h1 : solM (toQ g) (goal.map i2q) ≠ none := fun e => (LO.fine.mp e) hr
          cases e : solM (toQ g) (goal.map i2q) with
          | none => exact absurd e h1
          | some x => rw [hr]; simp
        · rw [LO.fine.mpr hr]; simp; lia
      generalize (((rankL (augI g goal) (m + 1) : Nat) : Int) == ((rankL g m : Nat) : Int)) = fine at S34 hf
      have hb0 := LO.base
      have nlen : (nullM (toQ g)).length ≤ 1000 := by lia
      obtain ⟨nr, nz⟩ := nullM_ok He hh hh3
      refine cutS (fun s' => ∃ P7, AllOk P P7 (.ref ga) gv u1 u2 g goal ∧ St B P7 ((L, nsC (lawL vs h m (.ref ga) t1 t2 o (some u1) (some u2) (some (.int (rankL g m : Nat) t27)) (some (.bool fine)) none none)) :: (cg, ceC (some gv)) :: own) s') ?_ ?_
      · have hnl := aok.hnull
        repeat dictfold_fit
        refine PyProof.Rows.isTrue_or ?_
        repeat dictfold_fit
        refine isNoneO S34 (.mem aok.hsol) ?_
        repeat dictfold_fit
        refine eqBB ?_
        repeat dictfold_fit
        rw [hf]
        simp only [Bool.false_eq_true, if_false]
        refine PyProof.Rows.isTrue_or ?_
        repeat dictfold_fit
        rw [if_neg (by simp; lia)]
        refine PyProof.Rows.isTrue_or_nil ?_
        simp only [Bool.false_eq_true, if_false]
        repeat dictfold_fit
        rename St B _ _ _ => S35
        exact ⟨rfl, _, aok, S35.picks (pre := [(L, _), (cg, _)]) (by accm_open)⟩
      · rintro s40 ⟨P7, aok7, S40⟩
        exact law_tail2 X hB (o6 := none) hE0 hR' C0 aok7 S40 k
end

section
variable {ad : Nat → Addr} {B : Shared} {P : List Fact} {own own₀ : Own} {prog : Program} {w : World} {A : Around} {E : Value → Shared → Prop} {s : Shared}
variable (X : Fns B ad) (hB : Bas B (GT ad) BT)
include X hB
set_option maxHeartbeats 16000000 in
theorem law_spec {vs : Value} {ns : List Int} {Q : Value → Shared → Prop} (S : St B P own s) (hR : Room A 18) (ha : Ev P (Ty.list Ty.int) vs ns) (hl : ns.length ≤ 100)
    (k : ∀ s', St B P own s' → Q (.bool true) s') : wpAny (model prog w) A (call (.ref (ad 31)) [vs]) Q E s := by
  refine callFn2 (n := 17) "goal" "box" none none [("script", some vs), ("high", none), ("wide", none), ("grid", none), ("planted", none), ("found", none), ("free", none), ("size", none), ("is_fine", none), ("column", none), ("back", none)] X (by rfl) hB S hR (by rfl) (by rfl) (by decide +kernel) (by rfl) (by rfl) (by rfl) ⟨rfl, trivial⟩ ⟨rfl, rfl, trivial⟩ ?_
  intro L cg cb env s₁ hE hR' S₁ E'
  repeat dictfold_fit
  refine box_spec X hB S₁ (hR'.mono (by decide)) ha hl ?_
  intro bx l s2 S2
  repeat dictfold_fit
  rename St B _ _ _ => S3
  refine take_spec X hB S3 (hR'.mono (by decide)) (bx := bx) (l := l) (wd := 3) (by accm_open) (by decide) (by decide) ?_
  intro r1 t4 s4 a1 a2 S4
  repeat dictfold_fit
  rename St B _ _ _ => S5
  refine take_spec X hB S5 (hR'.mono (by decide)) (bx := bx) (l := l) (wd := 3) (by accm_open) (by decide) (by decide) ?_
  intro r2 t6 s6 a3 a4 S6
  obtain ⟨h, eh⟩ : ∃ h : Nat, 1 + r1 = (h : Int) := ⟨(1 + r1).toNat, by lia⟩
  obtain ⟨m, em⟩ : ∃ m : Nat, 1 + r2 = (m : Int) := ⟨(1 + r2).toNat, by lia⟩
  have hh : 0 < h := by lia
  have hh3 : h ≤ 3 := by lia
  have hm : 0 < m := by lia
  have hm3 : m ≤ 3 := by lia
  repeat dictfold_fit
  rename St B _ _ _ => S7
  simp only [eh, em] at S7 ⊢
  clear eh em a1 a2 a3 a4
  clear S6 S5 S4 S3 S2 S₁
  refine grid_spec X hB S7 (hR'.mono (by decide)) (bx := bx) (l := l) (by accm_open) hh hh3 hm hm3 ?_
  intro ga g s8 gok S8
  repeat dictfold_fit
  rename St B _ _ _ => S9
  clear S8 S7
  refine asgCell hE (by f_look) ?_
  refine' comp0 (B := B) (n := h) (F := rgAt 0) [(".0", .local), ("line", .local), ("_law_whole", .globalImplicit), ("box", .cell)] [("box", cb)] [(".0", none), ("line", none)] Ty.int
    (fun j zs P' pre' => zs.length = j ∧ (∀ x ∈ zs, Sml 6 x) ∧ (∀ f ∈ (Ty.list (Ty.list Ty.int)).is (.ref ga) g :: P, f ∈ P') ∧ pre' = [(cb, ceC (some (.ref bx))), (bx, bxC l), (l, blC)])
    [(cb, ceC (some (.ref bx))), (bx, bxC l), (l, blC)] _ hE (by lia)
    ⟨rfl, by rfl, by rfl, by rfl, by rfl, by rfl, by rfl, by rfl, by rfl, by rfl⟩ ?g1 ?g2 ?g3 (by intro _; rfl)
  case g1 =>
    repeat dictfold_fit
    rename St B _ _ _ => S10
    exact ⟨_, enRg hR' S10 mHead (by lia) (by accm_open), rfl, (fun r hr => nomatch hr), by sl_open, rfl⟩
  case g2 =>
    rintro Cn cenv hE2 j v ys P3 pre' fr3 s3 E3 hj hy ⟨hyl, hys, hsub3, rfl⟩ S5
    dsimp only [List.nil_append, List.cons_append] at S5
    obtain ⟨t5, rfl⟩ := S5.intV (.mem mHead)
    repeat dictfold_fit
    simp only [if_true]
    repeat dictfold_fit
    rename St B _ _ _ => S6
    refine whole_spec X hB S6 (hR'.mono (by decide)) (bx := bx) (l := l) (own₀ := (Cn, nsC [(".0", none), ("line", _)]) :: (cb, ceC (some (.ref bx))) :: fr3) (by accm_open) ?_
    intro r t7 s7 h1 h2 S7
    refine ⟨_, _, _, _, [(cb, ceC (some (.ref bx))), (bx, bxC l), (l, blC)], r, S7, Ev.int, by dl_open, by accm_open, by rfl, ?_, ?_, ?_, rfl⟩
    · rw [List.length_append, hyl]; rfl
    · intro x hx
      rcases List.mem_append.mp hx with hx | hx
      · exact hys x hx
      · have := List.mem_singleton.mp hx; subst this; unfold Sml; lia
    · exact fun f hf => mTail (hsub3 f hf)
  case g3 =>
    rintro P3 pre' goal0 D s10 ⟨gl0, gs0, hsub3, rfl⟩ S10
    dsimp only [List.nil_append, List.cons_append] at S10
    have S11 := S10.fzLs .head
    clear S10 S9
    repeat ((fail_if_success (with_reducible show wpAny _ _ (execs (Stmt.If _ _ _ _ :: _) _) _ _ _)); dictfold_fit)
    rename St B _ _ _ => S12
    clear S11
    have go0 : GoalOk P ((Ty.list Ty.int).is (.ref D) goal0 :: P3) h (.ref ga) (.ref D) g goal0 := {
      hgrid := mTail (hsub3 _ mHead)
      hgoal := mHead
      len := gl0
      small := fun x hx => by have := gs0 x hx; unfold Sml at this; lia
      sub := fun f hf => mTail (hsub3 f (mTail hf)) }
    generalize (Ty.list Ty.int).is (.ref D) goal0 :: P3 = P4 at S12 go0
    clear hsub3
    refine cutS (fun s' => ∃ P' gv goal t1 t2 o, GoalOk P P' h (.ref ga) gv g goal ∧ St B P' ((L, nsC (lawL vs h m (.ref ga) t1 t2 o none none none none none none)) :: (cg, ceC (some gv)) :: own) s') ?_ ?_
    · repeat dictfold_fit
      rename St B _ _ _ => S13
      refine take_spec X hB S13 (hR'.mono (by decide)) (bx := bx) (l := l) (wd := 2) (by accm_open) (by decide) (by decide) ?_
      intro r3 t14 s14 a1 a2 S14
      repeat dictfold_fit
      rename St B _ _ _ => S15
      clear S14 S13 S12
      by_cases hr : r3 = 0
      · rw [if_pos (by simp [hr])]
        repeat dictfold_fit
        refine' compU0 (B := B) (n := m) (F := rgAt 0) [(".0", .local), ("spot", .local), ("_law_whole", .globalImplicit), ("box", .cell)] [("box", cb)] [(".0", none), ("spot", none)] (Ty.list Ty.int)
          (fun j zs P' pre' => zs.length = j ∧ (∀ r ∈ zs, r.length = 1 ∧ ∀ x ∈ r, Sml 6 x) ∧ (∀ f ∈ P4, f ∈ P') ∧ pre' = [(cb, ceC (some (.ref bx))), (bx, bxC l), (l, blC)])
          [(cb, ceC (some (.ref bx))), (bx, bxC l), (l, blC)] _ hE (by lia)
          ⟨rfl, by rfl, by rfl, by rfl, by rfl, by rfl, by rfl, by rfl, by rfl, by rfl⟩ (by f_look) (by rfl) (by rfl) ?g4 ?g5 ?g6 (by intro _; rfl)
        case g4 =>
          repeat dictfold_fit
          rename St B _ _ _ => S16
          exact ⟨_, enRg hR' S16 mHead (by lia) (by accm_open), rfl, (fun r hr => nomatch hr), by sl_open, rfl⟩
        case g5 =>
          rintro Cn cenv hE2 j v ys P3 pre' fr3 s3 E3 hj hy ⟨hyl, hys, hsub3, rfl⟩ S5
          dsimp only [List.nil_append, List.cons_append] at S5
          obtain ⟨t5, rfl⟩ := S5.intV (.mem mHead)
          repeat dictfold_fit
          simp only [if_true]
          repeat dictfold_fit
          rename St B _ _ _ => S6
          refine whole_spec X hB S6 (hR'.mono (by decide)) (bx := bx) (l := l) (own₀ := (Cn, nsC [(".0", none), ("spot", _)]) :: (cb, ceC (some (.ref bx))) :: fr3) (by accm_open) ?_
          intro r t7 s7 h1 h2 S7
          repeat dictfold_fit
          refine newLsFz (τ := Ty.int) (xs := [r]) S7 (.cons Ev.int .nil) (by simp) ?_
          intro a8 s8 S8
          refine ⟨_, _, _, _, [(cb, ceC (some (.ref bx))), (bx, bxC l), (l, blC)], [r], S8, .mem mHead, by dl_open, by accm_open, by rfl, ?_, ?_, ?_, rfl⟩
          · rw [List.length_append, hyl]; rfl
          · intro x hx
            rcases List.mem_append.mp hx with hx | hx
            · exact hys x hx
            · have := List.mem_singleton.mp hx; subst this
              exact ⟨rfl, fun y hy => by have := List.mem_singleton.mp hy; subst this; unfold Sml; lia⟩
          · exact fun f hf => mTail (mTail (hsub3 f hf))
        case g6 =>
          rintro P3 pre' pl D2 Cn s16 ⟨pl1, pl2, hsub3, rfl⟩ S16
          dsimp only [List.nil_append, List.cons_append] at S16
          have S17 := S16.fzLs (a := D2) (by dl_open)
          clear S16
          repeat dictfold_fit
          rename St B _ _ _ => S18
          refine ⟨_, _, _, _, S18, by dl_open, ?_⟩
          clear S18 S17 S15
          intro s19 S19
          repeat dictfold_fit
          refine asgCell hE (by f_look) ?_
          have rpl : GridOk m 1 6 pl := ⟨⟨pl1, fun r hr => (pl2 r hr).1⟩, fun r hr => (pl2 r hr).2⟩
          obtain ⟨tr, tb⟩ := times_ok gok.1 gok.2 rpl.1 rpl.2 hm hm3
          refine' compMap0 (B := B) (n := (timesL g pl).length) (F := atF (Ty.list Ty.int) (timesL g pl)) [(".0", .local), ("row", .local)] [] [(".0", none), ("row", none)] Ty.int
            (fun i => ((timesL g pl).getD i []).getD 0 0) [] _ ((Ty.list (Ty.list Ty.int)).is (.ref D2) pl :: P3) hE (by rw [tr.1]; lia)
            ⟨rfl, by rfl, by rfl, by rfl, by rfl, by rfl, by rfl, by rfl, by rfl, by rfl⟩ ?g7 ?g8 ?g9 (by intro _; rfl)
          case g7 =>
            repeat dictfold_fit
            refine times_spec X hB S19 (hR'.mono (by decide)) (a := g) (b := pl) (.mem (mTail (hsub3 _ go0.hgrid))) (.mem mHead) gok rpl hh3 hm hm3 (by decide) ?_
            intro a20 s20 S20
            exact ⟨_, enList hR' S20 (.mem mHead) (by accm_open) GoOk.name, by sl_open⟩
          case g8 =>
            intro Cn cenv hE2 i v fr s E hi S5
            dsimp only [List.nil_append, List.cons_append] at S5
            obtain ⟨x, hx, S6⟩ := S5.atF
            clear S5
            have hxl : x.length = 1 := tr.2 _ (List.mem_of_getElem? hx)
            have hx0 : x[0]? = some (x.getD 0 0) := by rw [List.getD_eq_getElem?_getD, List.getElem?_eq_getElem (by lia)]; rfl
            repeat dictfold_fit
            rename St B _ _ _ => S7
            refine itN 0 S7 (.mem mHead) hx0 (by lia) rfl ?_
            intro u8 S8
            refine ⟨_, _, _, _, S8, ?_, by sl_open, by dl_open, by accm_open, by rfl⟩
            rw [get_of hx]
            exact .mem mHead
          case g9 =>
            intro D3 s20 S20
            dsimp only [List.nil_append, List.cons_append] at S20
            rw [map_getD (fun r : List Int => r.getD 0 0) (timesL g pl) []] at S20
            have S21 := S20.fzLs (a := D3) .head
            clear S20 S19
            repeat dictfold_fit
            rename St B _ _ _ => S22
            clear S21
            refine ⟨rfl, _, _, (timesL g pl).map fun r => r.getD 0 0, _, _, _, ?_, (((S22.drop (y := (cb, ceC _)) (by dl_open)).drop (y := (bx, _)) (by dl_open)).drop (y := (l, _)) (by dl_open)).picks (pre := [(L, _), (cg, _)]) (by accm_open)⟩
            exact {
              hgrid := mTail (mTail (hsub3 _ go0.hgrid))
              hgoal := mHead
              len := by rw [List.length_map]; exact tr.1
              small := fun x hx => by
                obtain ⟨r, h1, rfl⟩ := List.mem_map.mp hx
                exact getD_all (p := fun x : Int => x.natAbs < 1024) (tb _ h1) (by decide)
              sub := fun f hf => mTail (mTail (hsub3 f (go0.sub f hf))) }
      · rw [if_neg (by simp [hr])]
        repeat dictfold_fit
        exact ⟨rfl, P4, _, goal0, _, _, _, go0, (((S15.drop (y := (cb, ceC _)) (by dl_open)).drop (y := (bx, _)) (by dl_open)).drop (y := (l, _)) (by dl_open)).picks (pre := [(L, _), (cg, _)]) (by accm_open)⟩
    · rintro s20 ⟨P', gv, goal, t1, t2, o, go, S20⟩
      exact law_tail1 X hB hE hR' gok hh hh3 hm hm3 go S20 k
end

end Mine

namespace Mine
open PySem PySem.W PyProof.Rows PySem.Calls PySem.Spec
theorem all2_of {G : Gh} : ∀ {vs : List Value} {ns : List Int}, IntsAre vs ns → All2 (Ty.int.R G) vs ns
  | _, _, .nil => .nil
  | _, _, .cons n t r => .cons ⟨t, rfl⟩ (all2_of r)
/-- what the head looks at: the two tuples at the top, the builtins not hidden -/
def tupAt (h : Heap) (x : Str) (i j : Int) : Bool := match h.nsMap mainGlobals x with
  | some (.ref a) => (match h.get? a with
    | some ⟨.type c, _, .seq vs _, _⟩ => c == "tuple" && (match vs.toList with
      | [.int p _, .int q _] => p == i && q == j
      | _ => false)
    | _ => false)
  | _ => false
def TupIs (h : Heap) (mg : Str → Option Value) (x : Str) (i j : Int) : Prop := ∃ a o t u, mg x = some (.ref a) ∧ h.get? a = some o ∧ IsTp o [.int i t, .int j u]
theorem tupAt_is {h : Heap} {x : Str} {i j : Int} (e : tupAt h x i j = true) : TupIs h (h.nsMap mainGlobals) x i j := by
  unfold tupAt at e
  split at e
  · rename_i a e1
    split at e
    · rename_i c d vs n sl e2
      rw [Bool.and_eq_true] at e
      obtain ⟨e3, e4⟩ := e
      split at e4
      · rename_i p t q u e5
        rw [Bool.and_eq_true] at e4
        obtain ⟨rfl, rfl⟩ : p = i ∧ q = j := ⟨eq_of_beq e4.1, eq_of_beq e4.2⟩
        obtain rfl : c = "tuple" := eq_of_beq e3
        refine ⟨a, _, t, u, e1, e2, rfl, n, ?_⟩
        show Data.seq vs n = Data.seq [.int p t, .int q u].toArray n
        rw [← e5, Array.toArray_toList]
      · cases e4
    · cases e
  · cases e
def bNames : List Str := ["abs", "len", "range", "enumerate", "list", "sum", "min"]
def topSeen (h : Heap) : Bool := h.isNs mainGlobals && (tupAt h "R0" 0 1 && (tupAt h "R1" 1 1 && bNames.all fun x => (h.nsMap mainGlobals x).isNone))
def TopIs (h : Heap) : Prop := ∃ mg, h.Ns mainGlobals mg ∧ TupIs h mg "R0" 0 1 ∧ TupIs h mg "R1" 1 1 ∧ ∀ x ∈ bNames, mg x = none
def tHook : Hook where
  α := Bool
  obs := fun s => topSeen s.heap
  val := fun _ => true
  says := fun _ h => TopIs h
  of := fun w s e => by
    unfold topSeen at e
    simp only [Bool.and_eq_true] at e
    refine ⟨_, .of_isNs e.1, tupAt_is e.2.1, tupAt_is e.2.2.1, fun x hx => ?_⟩
    have := List.all_eq_true.mp e.2.2.2 x hx
    exact Option.isNone_iff_eq_none.mp this
  keeps := fun w h h' ⟨mg, h1, ⟨a, o, t, u, q1, q2, q3⟩, ⟨a', o', t', u', r1, r2, r3⟩, h4⟩ k => ⟨mg, h1.keeps k, ⟨a, o, t, u, q1, k _ _ q2, q3⟩, ⟨a', o', t', u', r1, k _ _ r2, r3⟩, h4⟩
theorem ns_one {h : Heap} {a : Addr} {m m' : Str → Option Value} (h1 : h.Ns a m) (h2 : h.Ns a m') (x : Str) : m x = m' x := by
  obtain ⟨o, es, ep, e1, e2, _, e3⟩ := h1
  obtain ⟨o', es', ep', f1, f2, _, f3⟩ := h2
  rw [e1] at f1; cases f1
  rw [e2] at f2; cases f2
  exact (e3 x).symm.trans (f3 x)
def drL : List DefRec := (List.range 32).filterMap dr
def nmT : List Str := ["gcd", "rat", "radd", "rsub", "rmul", "rdiv", "rneg", "shape", "need_shape", "copied", "from_whole", "unit_matrix", "transposed", "dot", "mat_mul", "swap_rows", "take_off", "echelon", "inverse", "null_base", "solve_system", "_law_take", "_law_box", "_law_whole", "_law_grid", "_law_det", "_law_times", "_law_parts", "_law_choices", "_law_rank", "_law_cleared", "law"]
def nmOf (i : Nat) : Str := if i = 100 then "R0" else if i = 101 then "R1" else nmT.getD i ""
theorem nm_ok : ((List.range 32).all fun i => match dr i with | some d => d.name == nmOf i | none => true) = true := by decide +kernel
theorem dr_lt {i : Nat} {d : DefRec} (h : dr i = some d) : i < 32 := by
  unfold dr at h
  split at h
  · rename_i j hj
    exact (List.getElem?_eq_some_iff.mp hj).1
  · cases h
theorem dr_nm {i : Nat} {d : DefRec} (h : dr i = some d) : d.name = nmOf i := by
  have := List.all_eq_true.mp nm_ok i (List.mem_range.mpr (dr_lt h))
  rw [h] at this
  exact eq_of_beq this
def adOf (mg : Str → Option Value) (i : Nat) : Addr := match mg (nmOf i) with
  | some (.ref a) => a
  | _ => 0
theorem adOf_eq {mg : Str → Option Value} {i : Nat} {a : Addr} (h : mg (nmOf i) = some (.ref a)) : adOf mg i = a := by unfold adOf; rw [h]
theorem fns_of {p : Program} {loose : List Str} {w : World} {s : Shared} {mean : ExcName → Option Value} {mg mb : Str → Option Value} (T : Top p loose mean mg mb s.heap) (e : recsOf p = drL) (Y : tHook.says w s.heap) :
    ∃ ad, Fns s ad ∧ Bas s (GT ad) BT ∧ mg "law" = some (.ref (ad 31)) := by
  obtain ⟨mg', h1, ⟨a0, o0, t0, u0, q1, q2, q3⟩, ⟨a1, o1, t1, u1, r1, r2, r3⟩, h4⟩ := Y
  have eq : ∀ x, mg x = mg' x := ns_one T.g h1
  have z0 : mg (nmOf 100) = some (.ref a0) := (eq _).trans q1
  have z1 : mg (nmOf 101) = some (.ref a1) := (eq _).trans r1
  have F : ∀ i d, dr i = some d → ∃ o pm cd doc, mg (nmOf i) = some (.ref (adOf mg i)) ∧ s.heap.get? (adOf mg i) = some o ∧ o.data = .func (docDef d.name d.params d.body d.scope pm cd doc) ∧ s.heap.CodeRec cd d.name := fun i d hd => by
    have hm : d ∈ recsOf p := by rw [e]; exact List.mem_filterMap.mpr ⟨i, List.mem_range.mpr (dr_lt hd), hd⟩
    obtain ⟨a, o, pm, cd, doc, f1, f2, f3, f4⟩ := T.fn d hm
    have f1' : mg (nmOf i) = some (.ref a) := (dr_nm hd) ▸ f1
    rw [adOf_eq f1']
    exact ⟨o, pm, cd, doc, f1', f2, f3, f4⟩
  have M : ∀ i, (dr i).isSome = true → mg (nmOf i) = some (.ref (adOf mg i)) := fun i hi => by
    obtain ⟨d, hd⟩ := Option.isSome_iff_exists.mp hi
    obtain ⟨_, _, _, _, m, _⟩ := F i d hd
    exact m
  refine ⟨adOf mg, ⟨fun i d hd => ?_, ?_, ?_⟩, ⟨⟨mg, mb, T.g, T.b, ?_, ?_⟩, T.nolimit⟩, M 31 (by rfl)⟩
  · obtain ⟨o, pm, cd, doc, _, f2, f3, f4⟩ := F i d hd
    exact ⟨o, pm, cd, doc, f2, f3, f4⟩
  · rw [adOf_eq z0]; exact ⟨o0, t0, u0, q2, q3⟩
  · rw [adOf_eq z1]; exact ⟨o1, t1, u1, r2, r3⟩
  · refine List.forall_mem_cons.mpr ⟨M 0 (by rfl), List.forall_mem_cons.mpr ⟨?_, List.forall_mem_cons.mpr ⟨?_, ?_⟩⟩⟩
    · show mg (nmOf 100) = some (.ref (adOf mg 100))
      rw [adOf_eq z0]; exact z0
    · show mg (nmOf 101) = some (.ref (adOf mg 101))
      rw [adOf_eq z1]; exact z1
    · refine List.forall_mem_cons.mpr ⟨M 1 (by rfl), ?_⟩
      refine List.forall_mem_cons.mpr ⟨M 2 (by rfl), ?_⟩
      refine List.forall_mem_cons.mpr ⟨M 3 (by rfl), ?_⟩
      refine List.forall_mem_cons.mpr ⟨M 4 (by rfl), ?_⟩
      refine List.forall_mem_cons.mpr ⟨M 5 (by rfl), ?_⟩
      refine List.forall_mem_cons.mpr ⟨M 6 (by rfl), ?_⟩
      refine List.forall_mem_cons.mpr ⟨M 7 (by rfl), ?_⟩
      refine List.forall_mem_cons.mpr ⟨M 8 (by rfl), ?_⟩
      refine List.forall_mem_cons.mpr ⟨M 9 (by rfl), ?_⟩
      refine List.forall_mem_cons.mpr ⟨M 10 (by rfl), ?_⟩
      refine List.forall_mem_cons.mpr ⟨M 11 (by rfl), ?_⟩
      refine List.forall_mem_cons.mpr ⟨M 12 (by rfl), ?_⟩
      refine List.forall_mem_cons.mpr ⟨M 13 (by rfl), ?_⟩
      refine List.forall_mem_cons.mpr ⟨M 14 (by rfl), ?_⟩
      refine List.forall_mem_cons.mpr ⟨M 15 (by rfl), ?_⟩
      refine List.forall_mem_cons.mpr ⟨M 16 (by rfl), ?_⟩
      refine List.forall_mem_cons.mpr ⟨M 17 (by rfl), ?_⟩
      refine List.forall_mem_cons.mpr ⟨M 18 (by rfl), ?_⟩
      refine List.forall_mem_cons.mpr ⟨M 19 (by rfl), ?_⟩
      refine List.forall_mem_cons.mpr ⟨M 20 (by rfl), ?_⟩
      refine List.forall_mem_cons.mpr ⟨M 21 (by rfl), ?_⟩
      refine List.forall_mem_cons.mpr ⟨M 22 (by rfl), ?_⟩
      refine List.forall_mem_cons.mpr ⟨M 23 (by rfl), ?_⟩
      refine List.forall_mem_cons.mpr ⟨M 24 (by rfl), ?_⟩
      refine List.forall_mem_cons.mpr ⟨M 25 (by rfl), ?_⟩
      refine List.forall_mem_cons.mpr ⟨M 26 (by rfl), ?_⟩
      refine List.forall_mem_cons.mpr ⟨M 27 (by rfl), ?_⟩
      refine List.forall_mem_cons.mpr ⟨M 28 (by rfl), ?_⟩
      refine List.forall_mem_cons.mpr ⟨M 29 (by rfl), ?_⟩
      refine List.forall_mem_cons.mpr ⟨M 30 (by rfl), ?_⟩
      exact fun _ h => absurd h List.not_mem_nil
  · have h5 : ∀ x ∈ bNames, mg x = none := fun x hx => (eq x).trans (h4 x hx)
    refine List.forall_mem_cons.mpr ⟨⟨h5 "abs" (.head _), (T.builtins _ (by decide)).trans (by rfl)⟩, ?_⟩
    refine List.forall_mem_cons.mpr ⟨⟨h5 "len" (.tail _ (.head _)), (T.builtins _ (by decide)).trans (by rfl)⟩, ?_⟩
    refine List.forall_mem_cons.mpr ⟨⟨h5 "range" (.tail _ (.tail _ (.head _))), (T.builtins _ (by decide)).trans (by rfl)⟩, ?_⟩
    refine List.forall_mem_cons.mpr ⟨⟨h5 "enumerate" (.tail _ (.tail _ (.tail _ (.head _)))), (T.builtins _ (by decide)).trans (by rfl)⟩, ?_⟩
    refine List.forall_mem_cons.mpr ⟨⟨h5 "list" (.tail _ (.tail _ (.tail _ (.tail _ (.head _))))), (T.builtins _ (by decide)).trans (by rfl)⟩, ?_⟩
    refine List.forall_mem_cons.mpr ⟨⟨h5 "sum" (.tail _ (.tail _ (.tail _ (.tail _ (.tail _ (.head _)))))), (T.builtins _ (by decide)).trans (by rfl)⟩, ?_⟩
    refine List.forall_mem_cons.mpr ⟨⟨h5 "min" (.tail _ (.tail _ (.tail _ (.tail _ (.tail _ (.tail _ (.head _))))))), (T.builtins _ (by decide)).trans (by rfl)⟩, ?_⟩
    exact fun _ h => absurd h List.not_mem_nil
theorem st_start {s : Shared} {l : Addr} {vs : List Value} {ns : List Int} (hL : s.heap.IsList l vs.toArray) (hI : IntsAre vs ns) : St s [(Ty.list Ty.int).is (.ref l) ns] [] s := by
  obtain ⟨o, ho, hc, n, hd⟩ := hL
  refine ⟨fun a => s.heap.get? a, ?_⟩
  exact {
    fr := fun _ _ e => e
    ba := fun _ _ e => e
    fa := fun f hf => by
      obtain rfl := List.mem_singleton.mp hf
      exact ⟨l, o, vs, rfl, ho, ⟨hc, n, hd⟩, all2_of hI⟩
    ow := fun _ h => nomatch h
    nd := .nil
    di := fun _ h => nomatch h
    ge := rfl
    dr := rfl
    os := rfl }
end Mine

end

open PySem PySem.W PyProof.Rows
set_option maxHeartbeats 16000000 in
theorem PySem.Challenge.cw_nn0255_01_holds : PySem.Challenge.rw_nn0255_01.Holds := by
  w_on; o_law; o_head (Mine.tHook); (case hw => w_witness2)
  intro w s₀ s₁ mg mb G Y fa o pm cd doc dV kV ho hd' hcd hD hmg hg args vals as hpre hlay hrd hwl hlo
  refine Ground.open G ?_
  intro T B D TE TW
  obtain ⟨ad, X, hB, e31⟩ := Mine.fns_of T (by kernel_rfl) Y
  have hfa : some (Value.ref fa) = some (Value.ref (ad 31)) := hmg.symm.trans e31
  cases hfa
  clear hd' hcd hmg e31
  wrow_args hpre hlay hrd hwl hlo
  clear hD
  rename_i ns hs hlay0 hLl hr1 hl2 as1 as2 l vs as3 hL ra w1 r0 hI hr hcond' hcond
  have S := Mine.st_start hL hI
  have hR : Mine.Room callerA 18 := ⟨rfl, by decide, by decide⟩
  refine Mine.law_spec (B := s₁) (P := _) (own := []) X hB S hR (.mem (List.Mem.head _)) (by lia) ?_
  intro s' S'
  obtain ⟨G', hG'⟩ := S'
  refine ⟨.inl ⟨.bool true, .bool true, [], rfl, fun _ => rfl, .bool true, (by first | kernel_rfl | with_unfolding_all rfl), fun _ => ⟨.nil, fun _ h => nomatch h⟩⟩, .of_keep fun b o e => hG'.fr _ _ (hG'.ba _ _ e), hG'.os, .of_eq ?_⟩
  rw [hG'.ge, hg]
