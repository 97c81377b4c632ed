import PyProof.Rows.All
import Wide.All
import OpenK.AllK
import Wide.FinOn
import PySem.Challenge.RW_ov0061_01
open PySem PySem.Calls PySem.W PyProof.Rows
set_option Elab.async false
set_option maxRecDepth 100000
set_option maxHeartbeats 8000000
set_option linter.unusedVariables false
namespace Mine
abbrev hStr (x : String) : Str := Str.ofString x
abbrev hArr {α : Type} (l : List α) : Array α := Array.mk l
abbrev hPg : Program := PySem.Challenge.pw_ov0061_01
noncomputable def stm (i : Nat) : Stmt := hPg.main.body.getD i (Stmt.Pass default)
noncomputable def fnN (i : Nat) : Str := match stm i with | .FunctionDef n _ _ _ _ _ _ _ _ _ => n | _ => ""
noncomputable def fnA (i : Nat) : Arguments := match stm i with | .FunctionDef _ a _ _ _ _ _ _ _ _ => a | _ => ⟨[], [], none, [], [], none, []⟩
noncomputable def fnB (i : Nat) : List Stmt := match stm i with | .FunctionDef _ _ b _ _ _ _ _ _ _ => b | _ => []
noncomputable def fnS (i : Nat) : Scope := match stm i with | .FunctionDef _ _ _ _ _ _ s _ _ _ => s | _ => { kind := .module, names := [], isGenerator := false, isCoroutine := false, more := [] }
noncomputable def clB (i : Nat) : List Stmt := match stm i with | .ClassDef _ _ _ b _ _ _ _ _ _ _ => b | _ => []
noncomputable def meA (i : Nat) : Arguments := match (clB i).head? with | some (.FunctionDef _ a _ _ _ _ _ _ _ _) => a | _ => ⟨[], [], none, [], [], none, []⟩
noncomputable def meB (i : Nat) : List Stmt := match (clB i).head? with | some (.FunctionDef _ _ b _ _ _ _ _ _ _) => b | _ => []
noncomputable def meS (i : Nat) : Scope := match (clB i).head? with | some (.FunctionDef _ _ _ _ _ _ s _ _ _) => s | _ => { kind := .module, names := [], isGenerator := false, isCoroutine := false, more := [] }
noncomputable def cpA (i : Nat) : Arguments := match (clB i).getD 1 (Stmt.Pass default) with | .FunctionDef _ a _ _ _ _ _ _ _ _ => a | _ => ⟨[], [], none, [], [], none, []⟩
noncomputable def cpB (i : Nat) : List Stmt := match (clB i).getD 1 (Stmt.Pass default) with | .FunctionDef _ _ b _ _ _ _ _ _ _ => b | _ => []
noncomputable def cpS (i : Nat) : Scope := match (clB i).getD 1 (Stmt.Pass default) with | .FunctionDef _ _ _ _ _ _ s _ _ _ => s | _ => { kind := .module, names := [], isGenerator := false, isCoroutine := false, more := [] }

abbrev Hp := Addr → Option Obj
def Sub (a b : Hp) : Prop := ∀ x o, a x = some o → b x = some o
theorem Sub.refl (a : Hp) : Sub a a := fun _ _ e => e
theorem Sub.trans {a b c : Hp} (h : Sub a b) (k : Sub b c) : Sub a c := fun x o e => k x o (h x o e)

/-- the ground of the whole law -/
structure Gd where
  prog : Program
  w : World
  K : Frag
  p : Program
  loose : List Str
  mg : Str → Option Value
  mb : Str → Option Value
  base : Heap
  X : K.In base
  T : TopRead p loose mg mb base

/-- a frame at work -/
structure Cx where
  g : Gd
  A : Around
  env : Env
  Z : Hp
  s₀ : Shared
  G₀ : Hp
  N : List Addr

/-- what is known of the state: locals, passed-in mutables, own mutables, frozen objects -/
structure Sg where
  m : Str → Option Value
  P : List (Addr × Obj)
  M : List (Addr × Obj)
  G : Hp

def Sg.all (σ : Sg) : List (Addr × Obj) := σ.P ++ σ.M

structure St (c : Cx) (σ : Sg) (s : Shared) : Prop where
  sg : s.gens = c.s₀.gens
  sd : s.drawn = c.s₀.drawn
  so : s.os = c.s₀.os
  base : ∀ a o, c.g.base.get? a = some o → s.heap.get? a = some o
  keep : ∀ a o, c.Z a = some o → s.heap.get? a = some o
  ns : s.heap.Ns c.env.locals σ.m
  gg : ∀ a o, σ.G a = some o → s.heap.get? a = some o
  mm : ∀ p ∈ σ.all, s.heap.get? p.1 = some p.2
  zL : c.Z c.env.locals = none
  gL : σ.G c.env.locals = none
  bL : c.g.base.objs.size ≤ c.env.locals
  nM : ∀ p ∈ σ.all, p.1 ≠ c.env.locals ∧ c.g.base.get? p.1 = none ∧ c.Z p.1 = none ∧ σ.G p.1 = none
  nd : (σ.all.map (·.1)).Nodup
  live : ∀ a o, c.s₀.heap.get? a = some o → ∃ o', s.heap.get? a = some o'
  own : ∀ p ∈ σ.M, c.s₀.heap.get? p.1 = none
  gf : ∀ a o, σ.G a = some o → c.G₀ a = some o ∨ c.s₀.heap.get? a = none
  nn : ∀ a ∈ c.N, (∃ o, s.heap.get? a = some o) ∧ σ.G a = none ∧ ∀ p ∈ σ.all, p.1 ≠ a

def run {α : Type} (c : Cx) (t : Sem α) (Q : α → Sg → Prop) (σ : Sg) : Prop :=
  ∀ s, St c σ s → wpAny (model c.g.prog c.g.w) c.A t (fun v s' => ∃ σ', St c σ' s' ∧ Q v σ') (fun _ _ => False) s

theorem nodup_mid {α : Type} {a b : List α} {x : α} : (a ++ x :: b).Nodup ↔ (x :: (a ++ b)).Nodup := List.perm_middle.nodup_iff

section
variable {α β : Type} {c : Cx} {σ : Sg} {s : Shared}

theorem run_pure {a : α} {Q : α → Sg → Prop} (h : Q a σ) : run c (pure a) Q σ := fun _ hs => wpAny_pure ⟨σ, hs, h⟩
theorem run_bind {m : Sem α} {f : α → Sem β} {Q : β → Sg → Prop} (h : run c m (fun a σ' => run c (f a) Q σ') σ) : run c (m >>= f) Q σ :=
  fun s hs => wpAny_bind (wpAny_mono (h s hs) (fun _ s' ⟨_, h', q⟩ => q s' h') fun _ _ x => x)
theorem run_mono {t : Sem α} {Q Q' : α → Sg → Prop} (h : run c t Q σ) (k : ∀ a σ', Q a σ' → Q' a σ') : run c t Q' σ :=
  fun s hs => wpAny_mono (h s hs) (fun _ _ ⟨σ', h', q⟩ => ⟨σ', h', k _ _ q⟩) fun _ _ x => x
/-- a tree's rule whose premise is a run of one part -/
theorem run_of1 {t : Sem α} {u : Sem β} {Q : α → Sg → Prop} {Q₁ : β → Sg → Prop} (h : run c u Q₁ σ)
    (rule : ∀ s, wpAny (model c.g.prog c.g.w) c.A u (fun b s' => ∃ σ', St c σ' s' ∧ Q₁ b σ') (fun _ _ => False) s →
      wpAny (model c.g.prog c.g.w) c.A t (fun v s' => ∃ σ', St c σ' s' ∧ Q v σ') (fun _ _ => False) s) : run c t Q σ := fun s hs => rule s (h s hs)
theorem run_weak {t : Sem α} {Q : α → Sg → Prop} {σ' : Sg} (k : ∀ s, St c σ s → St c σ' s) (h : run c t Q σ') : run c t Q σ := fun s hs => h s (k s hs)
theorem run_false {t : Sem α} {Q : α → Sg → Prop} (k : ∀ s, St c σ s → False) : run c t Q σ := fun s hs => (k s hs).elim
theorem run_prop {t : Sem α} {Q : α → Sg → Prop} {P : Prop} (k : ∀ s, St c σ s → P) (h : P → run c t Q σ) : run c t Q σ := fun s hs => h (k s hs) s hs

theorem St.lt (H : St c σ s) : c.env.locals < s.heap.objs.size := H.ns.lt
theorem St.bne (H : St c σ s) : c.g.base.get? c.env.locals = none := by
  cases q : c.g.base.get? c.env.locals with
  | none => rfl
  | some o => exact absurd (Nat.lt_of_lt_of_le (Heap.lt_size q) H.bL) (Nat.lt_irrefl _)
theorem get_size {h : Heap} : h.get? h.objs.size = none := by
  cases q : h.get? h.objs.size with
  | none => rfl
  | some o => exact absurd (Heap.lt_size q) (Nat.lt_irrefl _)

/-- the heap has grown, all stands -/
theorem St.grow (H : St c σ s) {h' : Heap} {tk : Nat} (k : ∀ a o, s.heap.get? a = some o → h'.get? a = some o) : St c σ { s with heap := h', toks := tk } where
  sg := H.sg
  sd := H.sd
  so := H.so
  base := fun a o e => k _ _ (H.base a o e)
  keep := fun a o e => k _ _ (H.keep a o e)
  ns := H.ns.keeps k
  gg := fun a o e => k _ _ (H.gg a o e)
  mm := fun p hp => k _ _ (H.mm p hp)
  zL := H.zL
  gL := H.gL
  bL := H.bL
  nM := H.nM
  nd := H.nd
  live := fun a o e => let ⟨o', h⟩ := H.live a o e; ⟨o', k _ _ h⟩
  own := H.own
  gf := H.gf
  nn := fun a ha => let ⟨⟨o, h⟩, r⟩ := H.nn a ha; ⟨⟨o, k _ _ h⟩, r⟩
theorem St.tok (H : St c σ s) {tk : Nat} : St c σ { s with toks := tk } := H.grow fun _ _ e => e

/-- the locals have changed, all else stands -/
theorem St.locals (H : St c σ s) {h' : Heap} {tk : Nat} {m' : Str → Option Value} (n : h'.Ns c.env.locals m') (k : ∀ a o, a ≠ c.env.locals → s.heap.get? a = some o → h'.get? a = some o) :
    St c { σ with m := m' } { s with heap := h', toks := tk } where
  sg := H.sg
  sd := H.sd
  so := H.so
  base := fun a o e => k _ _ (fun q => by rw [q, H.bne] at e; cases e) (H.base a o e)
  keep := fun a o e => k _ _ (fun q => by rw [q, H.zL] at e; cases e) (H.keep a o e)
  ns := n
  gg := fun a o e => k _ _ (fun q => by rw [q, H.gL] at e; cases e) (H.gg a o e)
  mm := fun p hp => k _ _ (H.nM p hp).1 (H.mm p hp)
  zL := H.zL
  gL := H.gL
  bL := H.bL
  nM := H.nM
  nd := H.nd
  live := fun a o e => by
    obtain ⟨o', h⟩ := H.live a o e
    by_cases q : a = c.env.locals
    · obtain ⟨oL, _, _, hL, _⟩ := n
      exact ⟨oL, q ▸ hL⟩
    · exact ⟨o', k _ _ q h⟩
  own := H.own
  gf := H.gf
  nn := fun a ha => by
    obtain ⟨⟨o', h⟩, r⟩ := H.nn a ha
    refine ⟨?_, r⟩
    by_cases q : a = c.env.locals
    · obtain ⟨oL, _, _, hL, _⟩ := n
      exact ⟨oL, q ▸ hL⟩
    · exact ⟨o', k _ _ q h⟩

/-- a new object, own and mutable -/
theorem St.new (H : St c σ s) {h' : Heap} {tk : Nat} {d : Addr} {o : Obj} (hd : s.heap.get? d = none) (ho : h'.get? d = some o) (k : ∀ a o, s.heap.get? a = some o → h'.get? a = some o) :
    St c { σ with M := (d, o) :: σ.M } { s with heap := h', toks := tk } := by
  have H' := H.grow (tk := tk) k
  have off : ∀ p ∈ σ.all, p.1 ≠ d := fun p hp q => by have := H.mm p hp; rw [q, hd] at this; cases this
  have hmem : ∀ p, p ∈ σ.P ++ (d, o) :: σ.M → p = (d, o) ∨ p ∈ σ.all := fun p hp => by
    rcases List.mem_append.mp hp with h | h
    · exact .inr (List.mem_append_left _ h)
    · rcases List.mem_cons.mp h with h | h
      · exact .inl h
      · exact .inr (List.mem_append_right _ h)
  refine { sg := H.sg, sd := H.sd, so := H.so, base := H'.base, keep := H'.keep, ns := H'.ns, gg := H'.gg, mm := ?_, zL := H.zL, gL := H.gL, bL := H.bL, nM := ?_, nd := ?_, live := H'.live, own := ?_, gf := H.gf, nn := ?_ }
  rotate_right
  · intro a ha
    obtain ⟨h1, h2, h3⟩ := H'.nn a ha
    refine ⟨h1, h2, fun p hp => ?_⟩
    rcases hmem p hp with rfl | h
    · intro q
      obtain ⟨⟨o', h⟩, _⟩ := H.nn a ha
      dsimp only at q
      rw [← q, hd] at h; cases h
    · exact h3 p h
  · intro p hp
    rcases hmem p hp with rfl | h
    · exact ho
    · exact H'.mm p h
  · intro p hp
    rcases hmem p hp with rfl | h
    · refine ⟨fun q => ?_, ?_, ?_, ?_⟩
      · obtain ⟨oL, _, _, hL, _⟩ := H.ns
        dsimp only at q
        rw [← q, hd] at hL; cases hL
      · cases q : c.g.base.get? d with
        | none => rfl
        | some o' => rw [H.base _ _ q] at hd; cases hd
      · cases q : c.Z d with
        | none => rfl
        | some o' => rw [H.keep _ _ q] at hd; cases hd
      · cases q : σ.G d with
        | none => rfl
        | some o' => rw [H.gg _ _ q] at hd; cases hd
    · exact H.nM p h
  · show ((σ.P ++ (d, o) :: σ.M).map (·.1)).Nodup
    have := H.nd
    unfold Sg.all at this off
    rw [List.map_append, List.map_cons]
    rw [List.map_append] at this
    refine nodup_mid.mpr (List.nodup_cons.mpr ⟨?_, this⟩)
    intro hm
    rw [← List.map_append] at hm
    obtain ⟨p, hp, e⟩ := List.mem_map.mp hm
    exact off p hp e
  · intro p hp
    rcases List.mem_cons.mp hp with rfl | h
    · cases q : c.s₀.heap.get? d with
      | none => rfl
      | some o' => obtain ⟨o'', h⟩ := H.live _ _ q; rw [hd] at h; cases h
    · exact H.own p h

/-- a mutable object has changed -/
theorem St.upd (H : St c σ s) {h' : Heap} {tk : Nat} {d : Addr} {o o' : Obj} {P' M' : List (Addr × Obj)} {pre post : List (Addr × Obj)} (e1 : σ.all = pre ++ (d, o) :: post)
    (e2 : P' ++ M' = pre ++ (d, o') :: post) (eM : M'.map (·.1) = σ.M.map (·.1)) (ho : h'.get? d = some o') (k : ∀ a o, a ≠ d → s.heap.get? a = some o → h'.get? a = some o) :
    St c { σ with P := P', M := M' } { s with heap := h', toks := tk } := by
  have hmem : ∀ p ∈ P' ++ M', p = (d, o') ∨ (p ∈ σ.all ∧ p.1 ≠ d) := by
    intro p hp
    rw [e2] at hp
    have nd := H.nd
    rw [e1, List.map_append, List.map_cons] at nd
    have nd2 := List.nodup_cons.mp (nodup_mid.mp nd)
    rw [← List.map_append] at nd2
    rcases List.mem_append.mp hp with h | h
    · exact .inr ⟨by rw [e1]; exact List.mem_append_left _ h, fun q => nd2.1 (List.mem_map.mpr ⟨p, List.mem_append_left _ h, q⟩)⟩
    · rcases List.mem_cons.mp h with h | h
      · exact .inl h
      · exact .inr ⟨by rw [e1]; exact List.mem_append_right _ (.tail _ h), fun q => nd2.1 (List.mem_map.mpr ⟨p, List.mem_append_right _ h, q⟩)⟩
  have hd : (d, o) ∈ σ.all := by rw [e1]; exact List.mem_append_right _ (.head _)
  have nm := H.nM _ hd
  dsimp only at nm
  refine { sg := H.sg, sd := H.sd, so := H.so, base := ?_, keep := ?_, ns := ?_, gg := ?_, mm := ?_, zL := H.zL, gL := H.gL, bL := H.bL, nM := ?_, nd := ?_, live := ?_, own := ?_, gf := H.gf, nn := ?_ }
  rotate_right
  · intro a ha
    obtain ⟨⟨x, h1⟩, h2, h3⟩ := H.nn a ha
    refine ⟨⟨x, k _ _ (fun q => h3 _ hd q.symm) h1⟩, h2, fun p hp => ?_⟩
    rcases hmem p hp with rfl | h
    · exact (h3 (d, o) hd : d ≠ a)
    · exact h3 p h.1
  · intro a x e; exact k _ _ (fun q => by rw [q, nm.2.1] at e; cases e) (H.base _ _ e)
  · intro a x e; exact k _ _ (fun q => by rw [q, nm.2.2.1] at e; cases e) (H.keep _ _ e)
  · obtain ⟨oL, es, ep, hL, r⟩ := H.ns
    exact ⟨oL, es, ep, k _ _ (Ne.symm nm.1) hL, r⟩
  · intro a x e; exact k _ _ (fun q => by rw [q, nm.2.2.2] at e; cases e) (H.gg _ _ e)
  · intro p hp
    rcases hmem p hp with rfl | h
    · exact ho
    · exact k _ _ h.2 (H.mm p h.1)
  · intro p hp
    rcases hmem p hp with rfl | h
    · exact nm
    · exact H.nM p h.1
  · show ((P' ++ M').map (·.1)).Nodup
    have nd := H.nd
    rw [e1] at nd
    rw [e2]
    simpa using nd
  · intro a x e
    obtain ⟨x', h⟩ := H.live a x e
    by_cases q : a = d
    · exact ⟨o', q ▸ ho⟩
    · exact ⟨x', k _ _ q h⟩
  · intro p hp
    have : p.1 ∈ M'.map (·.1) := List.mem_map.mpr ⟨p, hp, rfl⟩
    rw [eM] at this
    obtain ⟨q, hq, e⟩ := List.mem_map.mp this
    have := H.own q hq
    rw [e] at this; exact this

/-- own objects may be frozen, dropped, put in another order -/
theorem St.freeze {m : Str → Option Value} {P M : List (Addr × Obj)} {G : Hp} {d : Addr} {o : Obj} (H : St c ⟨m, P, (d, o) :: M, G⟩ s) :
    ∃ G', Sub G G' ∧ G' d = some o ∧ St c ⟨m, P, M, G'⟩ s := by
  have hd : (d, o) ∈ (⟨m, P, (d, o) :: M, G⟩ : Sg).all := List.mem_append_right _ (.head _)
  have nm := H.nM _ hd
  dsimp only at nm
  have sub : ∀ p ∈ (⟨m, P, M, G⟩ : Sg).all, p ∈ (⟨m, P, (d, o) :: M, G⟩ : Sg).all := fun p hp => by
    rcases List.mem_append.mp hp with h | h
    · exact List.mem_append_left _ h
    · exact List.mem_append_right _ (.tail _ h)
  have nd : ((d, o) :: (P ++ M)).map (·.1) |>.Nodup := by
    have := H.nd
    unfold Sg.all at this
    rw [List.map_append, List.map_cons] at this
    rw [List.map_cons, List.map_append]
    exact nodup_mid.mp this
  refine ⟨fun a => if a = d then some o else G a, fun a x e => ?_, by simp, ?_⟩
  · by_cases q : a = d
    · rw [q] at e
      rw [nm.2.2.2] at e; cases e
    · simp [q, e]
  · refine { sg := H.sg, sd := H.sd, so := H.so, base := H.base, keep := H.keep, ns := H.ns, gg := ?_, mm := fun p hp => H.mm p (sub p hp), zL := H.zL, gL := ?_, bL := H.bL, nM := ?_, nd := ?_, live := H.live, own := fun p hp => H.own p (.tail _ hp), gf := ?_, nn := ?_ }
    rotate_right
    · intro a ha
      obtain ⟨h1, h2, h3⟩ := H.nn a ha
      refine ⟨h1, ?_, fun p hp => h3 p (sub p hp)⟩
      dsimp only
      rw [if_neg (fun q => h3 _ hd q.symm)]
      exact h2
    · intro a x e
      dsimp only at e
      by_cases q : a = d
      · rw [if_pos q] at e; cases e; rw [q]; exact H.mm _ hd
      · rw [if_neg q] at e; exact H.gg a x e
    · dsimp only
      rw [if_neg (Ne.symm nm.1)]; exact H.gL
    · intro p hp
      have h := H.nM p (sub p hp)
      refine ⟨h.1, h.2.1, h.2.2.1, ?_⟩
      dsimp only
      rw [if_neg ?_]
      · exact h.2.2.2
      · intro q
        have nd' := (List.nodup_cons.mp (by rw [List.map_cons] at nd; exact nd)).1
        exact nd' (q ▸ List.mem_map.mpr ⟨p, hp, rfl⟩)
    · rw [List.map_cons] at nd
      exact (List.nodup_cons.mp nd).2
    · intro a x e
      dsimp only at e
      by_cases q : a = d
      · exact .inr (q ▸ H.own (d, o) (.head _))
      · rw [if_neg q] at e; exact H.gf a x e

theorem St.sub {m : Str → Option Value} {P M M' : List (Addr × Obj)} {G : Hp} (H : St c ⟨m, P, M, G⟩ s) (hs : ∀ p ∈ M', p ∈ M) (hn : (M'.map (·.1)).Nodup) : St c ⟨m, P, M', G⟩ s := by
  have sub : ∀ p ∈ (⟨m, P, M', G⟩ : Sg).all, p ∈ (⟨m, P, M, G⟩ : Sg).all := fun p hp => by
    rcases List.mem_append.mp hp with h | h
    · exact List.mem_append_left _ h
    · exact List.mem_append_right _ (hs p h)
  refine { H with mm := fun p hp => H.mm p (sub p hp), nM := fun p hp => H.nM p (sub p hp), nd := ?_, own := fun p hp => H.own p (hs p hp), nn := fun a ha => ⟨(H.nn a ha).1, (H.nn a ha).2.1, fun p hp => (H.nn a ha).2.2 p (sub p hp)⟩ }
  have nd := H.nd
  unfold Sg.all at nd ⊢
  rw [List.map_append, List.nodup_append] at nd ⊢
  refine ⟨nd.1, hn, fun a ha b hb => ?_⟩
  obtain ⟨p, hp, e⟩ := List.mem_map.mp hb
  exact nd.2.2 a ha b (List.mem_map.mpr ⟨p, hs p hp, e⟩)
end

section
variable {α : Type} {c : Cx} {m : Str → Option Value} {P M : List (Addr × Obj)} {G : Hp} {t : Sem α} {Q : α → Sg → Prop} {d : Addr} {o : Obj}
theorem run_freeze (h : ∀ G', Sub G G' → G' d = some o → run c t Q ⟨m, P, M, G'⟩) : run c t Q ⟨m, P, (d, o) :: M, G⟩ := fun s hs =>
  let ⟨G', h1, h2, h3⟩ := hs.freeze; h G' h1 h2 s h3
theorem run_drop (h : run c t Q ⟨m, P, M, G⟩) : run c t Q ⟨m, P, (d, o) :: M, G⟩ := fun s hs => h s (hs.sub (fun _ hp => .tail _ hp) (by
  have := hs.nd
  unfold Sg.all at this
  rw [List.map_append, List.nodup_append] at this
  exact (List.nodup_cons.mp this.2.1).2))
theorem run_swap {d' : Addr} {o' : Obj} (h : run c t Q ⟨m, P, (d', o') :: (d, o) :: M, G⟩) : run c t Q ⟨m, P, (d, o) :: (d', o') :: M, G⟩ := fun s hs =>
  h s (hs.sub (fun p hp => by simp only [List.mem_cons] at hp ⊢; rcases hp with h | h | h <;> simp [h]) (by
    have := hs.nd
    unfold Sg.all at this
    rw [List.map_append, List.nodup_append] at this
    have := this.2.1
    simp only [List.map_cons, List.nodup_cons, List.mem_cons, not_or] at this ⊢
    exact ⟨⟨fun e => this.1.1 e.symm, this.2.1⟩, this.1.2, this.2.2⟩))
end

section
variable {c : Cx} {σ : Sg} {pos np : Pos} {Q : Value → Sg → Prop} {F : Flow → Sg → Prop} {B : Bool → Sg → Prop} {x : Str} {v : Value}

/-- one part, then the rest -/
theorem two {α β : Type} {u : Sem α} {q : α → Sg → Prop} {k : α → Sem β} {Q : β → Sg → Prop} {s : Shared} (h : run c u (fun a σ' => run c (k a) Q σ') σ) (hs : St c σ s) :
    wpAny (model c.g.prog c.g.w) c.A u (fun a s₁ => wpAny (model c.g.prog c.g.w) c.A (k a) (fun v s' => ∃ σ', St c σ' s' ∧ Q v σ') (fun _ _ => False) s₁) (fun _ _ => False) s :=
  wpAny_mono (h s hs) (fun _ s₁ ⟨_, h₁, q⟩ => q s₁ h₁) fun _ _ x => x
theorem mono' {α : Type} {t : Sem α} {q : α → Sg → Prop} {Q : α → Shared → Prop} {s : Shared} (h : run c t q σ) (hs : St c σ s) (k : ∀ a s' σ', St c σ' s' → q a σ' → Q a s') :
    wpAny (model c.g.prog c.g.w) c.A t Q (fun _ _ => False) s := wpAny_mono (h s hs) (fun _ s₁ ⟨_, h₁, q⟩ => k _ s₁ _ h₁ q) fun _ _ x => x

theorem run_local (hv : σ.m x = some v) (h : Q v σ) (hk : c.env.scope.kind = .function := by kernel_rfl) (hl : c.env.kindOf x = some .local := by kernel_rfl) (hd : (x == ("__debug__" : Str)) = false := by kernel_rfl) :
    run c (eval (.Name x pos) c.env) Q σ := fun _ hs => wpAny_Name (wpAny_loadName_local hk hl hs.ns hv ⟨σ, hs, h⟩) hd
theorem run_global (hn : nsIn c.g.K mainGlobals x = some (some v)) (h : Q v σ) (hg : c.env.globals = mainGlobals := by kernel_rfl) (hk : c.env.scope.kind = .function := by kernel_rfl) (hl : c.env.kindOf x = some .globalImplicit := by kernel_rfl) (hd : (x == ("__debug__" : Str)) = false := by kernel_rfl) :
    run c (eval (.Name x pos) c.env) Q σ := fun s hs => by
  have G : s.heap.Ns mainGlobals c.g.mg := c.g.T.g.keeps hs.base
  exact Name_function_global hk hl (loadGlobal_global (env := c.env) (hg ▸ G) (mg_of c.g.X c.g.T.g hn) ⟨σ, hs, h⟩) hd
theorem run_builtin (hn : nsIn c.g.K mainGlobals x = some none) (hv : bootBuiltins x = some v) (hx : x ≠ "__name__") (h : Q v σ) (hg : c.env.globals = mainGlobals := by kernel_rfl) (hb : c.env.builtins = builtinsNs := by kernel_rfl) (hk : c.env.scope.kind = .function := by kernel_rfl) (hl : c.env.kindOf x = some .globalImplicit := by kernel_rfl) (hd : (x == ("__debug__" : Str)) = false := by kernel_rfl) :
    run c (eval (.Name x pos) c.env) Q σ := fun s hs => by
  have G : s.heap.Ns mainGlobals c.g.mg := c.g.T.g.keeps hs.base
  have Bn : s.heap.Ns builtinsNs c.g.mb := c.g.T.b.keeps hs.base
  exact Name_function_global hk hl (loadGlobal_builtin (env := c.env) (hg ▸ G) (mg_none_of c.g.X c.g.T.g hn) (hb ▸ Bn) ((c.g.T.builtins x hx).trans hv) ⟨σ, hs, h⟩) hd
theorem run_cell {a : Addr} {o : Obj} (hc : c.env.cells.lookup x = some a) (hm : (a, o) ∈ σ.all) (ho : o.data = .cell (some v)) (h : Q v σ) (hk : c.env.scope.kind = .function := by kernel_rfl) (hl : c.env.kindOf x = some .cell := by kernel_rfl) (hd : (x == ("__debug__" : Str)) = false := by kernel_rfl) :
    run c (eval (.Name x pos) c.env) Q σ := fun _ hs => wpAny_Name (wpAny_loadName_cell hk hl hc ⟨o, hs.mm _ hm, ho⟩ ⟨σ, hs, h⟩) hd

theorem run_int {i : Int} {k : Nat} (h : ∀ t, Q (.int i t) σ) : run c (eval (.Constant (.int i) k pos) c.env) Q σ := fun _ hs => wpAny_Constant_int ⟨σ, hs.tok, h _⟩
theorem run_str {k : Nat} (h : ∀ t, Q (.str x t) σ) : run c (eval (.Constant (.str x) k pos) c.env) Q σ := fun _ hs => wpAny_Constant_str ⟨σ, hs.tok, h _⟩
theorem run_none {k : Nat} (h : Q .none σ) : run c (eval (.Constant .none k pos) c.env) Q σ := fun _ hs => wpAny_Constant_none ⟨σ, hs, h⟩
theorem run_boolC {k : Nat} {b : Bool} (h : Q (.bool b) σ) : run c (eval (.Constant (.bool b) k pos) c.env) Q σ := fun _ hs => wpAny_Constant_bool ⟨σ, hs, h⟩

theorem run_BinOp {l r : Expr} {op : Operator} (h : run c (eval l c.env) (fun a σ₁ => run c (eval r c.env) (fun b σ₂ => run c (binaryOp op a b) Q σ₂) σ₁) σ) : run c (eval (.BinOp l op r pos) c.env) Q σ :=
  fun _ hs => wpAny_BinOp (mono' h hs fun _ _ _ h₁ q => mono' q h₁ fun _ s₂ _ h₂ q₂ => q₂ s₂ h₂)
theorem run_Compare {l r : Expr} {op : CmpOp} (h : run c (eval l c.env) (fun a σ₁ => run c (eval r c.env) (fun b σ₂ => run c (compareOp op a b) Q σ₂) σ₁) σ) (hm : behindInMarks op r = false := by kernel_rfl) : run c (eval (.Compare l [op] [r] pos) c.env) Q σ :=
  fun _ hs => wpAny_Compare1 (mono' h hs fun _ _ _ h₁ q => mono' q h₁ fun _ s₂ _ h₂ q₂ => q₂ s₂ h₂) hm
theorem run_UnaryOp {e : Expr} {op : UnaryOp} (h : run c (eval e c.env) (fun a σ₁ => run c (unaryOp op a) Q σ₁) σ) : run c (eval (.UnaryOp op e pos) c.env) Q σ := fun _ hs => wpAny_UnaryOp (mono' h hs fun _ s₁ _ h₁ q => q s₁ h₁)
theorem run_IfExp {t a b : Expr} (h : run c (isTrue t c.env (eval t c.env)) (fun r σ₁ => if r then run c (eval a c.env) Q σ₁ else run c (eval b c.env) Q σ₁) σ) : run c (eval (.IfExp t a b pos) c.env) Q σ :=
  fun _ hs => wpAny_IfExp (mono' h hs fun r s₁ _ h₁ q => by cases r <;> exact q s₁ h₁)
theorem run_And2 {a b : Expr} (h : run c (eval a c.env) (fun v σ₁ => run c (truthy v) (fun t σ₂ => if t then run c (eval b c.env) Q σ₂ else Q v σ₂) σ₁) σ) : run c (eval (.BoolOp .And [a, b] pos) c.env) Q σ :=
  fun _ hs => wpAny_And2 (mono' h hs fun v _ _ h₁ q => mono' q h₁ fun t s₂ σ₂ h₂ q₂ => by cases t <;> first | exact q₂ s₂ h₂ | exact ⟨σ₂, h₂, q₂⟩)

theorem isTrue_Compare {l r : Expr} {op : CmpOp} {w : Sem Value} (h : run c (eval l c.env) (fun a σ₁ => run c (eval r c.env) (fun b σ₂ => run c (compareOp op a b) (fun v σ₃ => run c (truthy v) B σ₃) σ₂) σ₁) σ) (hm : behindInMarks op r = false := by kernel_rfl) :
    run c (isTrue (.Compare l [op] [r] pos) c.env w) B σ :=
  fun _ hs => wpAny_isTrue_Compare1 (mono' h hs fun _ _ _ h₁ q => mono' q h₁ fun _ _ _ h₂ q₂ => mono' q₂ h₂ fun _ s₃ _ h₃ q₃ => q₃ s₃ h₃) hm
theorem isTrue_Not {e : Expr} {w : Sem Value} (h : run c (isTrue e c.env (eval e c.env)) (fun b σ₁ => B (!b) σ₁) σ) : run c (isTrue (.UnaryOp .Not e pos) c.env w) B σ :=
  fun _ hs => wpAny_isTrue_Not (mono' h hs fun _ _ σ₁ h₁ q => ⟨σ₁, h₁, q⟩)
theorem isTrue_BoolOp {op : BoolOp} {es : List Expr} {w : Sem Value} (h : run c (allTrue op es c.env) B σ) : run c (isTrue (.BoolOp op es pos) c.env w) B σ := fun s hs => wpAny_isTrue_BoolOp (h s hs)
theorem all_nil (h : B true σ) : run c (allTrue .And [] c.env) B σ := fun _ hs => wpAny_allTrue_And_nil ⟨σ, hs, h⟩
theorem any_nil (h : B false σ) : run c (allTrue .Or [] c.env) B σ := fun _ hs => wpAny_allTrue_Or_nil ⟨σ, hs, h⟩
theorem all_cons {e : Expr} {r : List Expr} (h : run c (isTrue e c.env (eval e c.env)) (fun b σ₁ => if b then run c (allTrue .And r c.env) B σ₁ else B false σ₁) σ) : run c (allTrue .And (e :: r) c.env) B σ :=
  fun _ hs => wpAny_allTrue_And_cons (mono' h hs fun b s₁ σ₁ h₁ q => by cases b <;> first | exact q s₁ h₁ | exact ⟨σ₁, h₁, q⟩)
theorem any_cons {e : Expr} {r : List Expr} (h : run c (isTrue e c.env (eval e c.env)) (fun b σ₁ => if b then B true σ₁ else run c (allTrue .Or r c.env) B σ₁) σ) : run c (allTrue .Or (e :: r) c.env) B σ :=
  fun _ hs => wpAny_allTrue_Or_cons (mono' h hs fun b s₁ σ₁ h₁ q => by cases b <;> first | exact q s₁ h₁ | exact ⟨σ₁, h₁, q⟩)
theorem isTrue_value {e : Expr} {w : Sem Value} (h : run c w (fun v σ₁ => run c (truthy v) B σ₁) σ) (he : isTrue e c.env w = (do let v ← w; standAt e.pos; holding [v] (truthy v)) := by kernel_rfl) : run c (isTrue e c.env w) B σ :=
  fun _ hs => wpAny_isTrue_value (mono' h hs fun _ s₁ _ h₁ q => q s₁ h₁) he

theorem truthy_bool {b : Bool} (h : B b σ) : run c (truthy (.bool b)) B σ := fun _ hs => wpAny_truthy_bool ⟨σ, hs, h⟩
theorem is_noneR (h : Q (.bool (v == .none)) σ) : run c (compareOp .Is v .none) Q σ := fun _ hs => is_none ⟨σ, hs, h⟩
theorem isNot_noneR (h : Q (.bool (!(v == .none))) σ) : run c (compareOp .IsNot v .none) Q σ := fun _ hs => isNot_none ⟨σ, hs, h⟩
theorem not_valueR (h : run c (truthy v) (fun b σ₁ => Q (.bool (!b)) σ₁) σ) : run c (unaryOp .Not v) Q σ := fun _ hs => not_value (mono' h hs fun _ _ σ₁ h₁ q => ⟨σ₁, h₁, q⟩)

/-- the arguments, from left to right -/
theorem args_nil {W : List Value → Sg → Prop} (h : W [] σ) : run c (spliced (backTo pos (starEach [] c.env))) W σ := fun _ hs => spliced_none ⟨σ, hs, h⟩
theorem args_cons {W : List Value → Sg → Prop} {e : Expr} {r : List Expr} (h : run c (eval e c.env) (fun v σ₁ => run c (spliced (backTo pos (starEach r c.env))) (fun vs σ₂ => W (v :: vs) σ₂) σ₁) σ)
    (he : starEach (e :: r) c.env = (false, eval e c.env) :: starEach r c.env := by kernel_rfl) : run c (spliced (backTo pos (starEach (e :: r) c.env))) W σ :=
  fun _ hs => spliced_more (mono' h hs fun _ _ _ h₁ q => mono' q h₁ fun _ _ σ₂ h₂ q₂ => ⟨σ₂, h₂, q₂⟩) he

def Kp (c : Cx) (f : Value) : Prop := ∀ h, c.g.K.In h → ∃ k, (k = Keeper.frame ∨ k = Keeper.machine ∨ k = Keeper.boundFrame) ∧ Looks (model c.g.prog c.g.w) h (keeperOf f) k
theorem kp_builtin {n : String} : Kp c (.builtin n) := fun _ _ => ⟨.machine, .inr (.inl rfl), .of_pure rfl⟩
theorem kp_type {n : String} : Kp c (.type n) := fun _ _ => ⟨.machine, .inr (.inl rfl), .of_pure rfl⟩
theorem kp_K {f : Value} (hk : keepIn c.g.K f = true) : Kp c f := fun h X => keeps_K hk h X

theorem evalArgs_nil4 {M : Model} {A : Around} {E : Value → Shared → Prop} {s : Shared} {f : Value} {Q : Args → Shared → Prop} (h : Q ⟨[], []⟩ s) : wpAny M A (evalArgs f true [] []) Q E s := evalArgs_nil3 h
theorem run_callWith {f : Value} {first : List Value} {es : List Expr} (hk : Kp c f) (h : run c (spliced (backTo pos (starEach es c.env))) (fun vs σ₁ => run c (call f (first ++ vs)) Q σ₁) σ)
    (he : (starEach es c.env).all (fun a => !a.1) = true := by kernel_rfl) : run c (callWith pos f first (backTo pos (starEach es c.env)) []) Q σ := by
  intro s hs
  have hp : (backTo pos (starEach es c.env)).any (·.1) = false := by
    unfold backTo
    rw [List.any_map]
    rw [List.all_eq_true] at he
    rw [List.any_eq_false]
    intro a ha
    simpa using he a ha
  refine callWith_of (P := fun h => c.g.K.In h) (by rw [hp]; rfl) (fun h X => hk h X) ?_
  have h' := h s hs
  revert h' hp
  generalize backTo pos (starEach es c.env) = as
  intro hp h'
  have fin : ∀ vs s₁, (∃ σ', St c σ' s₁ ∧ run c (call f (first ++ vs)) Q σ') → c.g.K.In s₁.heap ∧ wpAny (model c.g.prog c.g.w) c.A (call f (first ++ vs)) (fun v s' => ∃ σ', St c σ' s' ∧ Q v σ') (fun _ _ => False) s₁ := by
    rintro vs s₁ ⟨σ₁, h₁, q⟩
    exact ⟨c.g.X.keeps h₁.base, q s₁ h₁⟩
  cases as with
  | nil =>
    have h0 : wpAny (model c.g.prog c.g.w) c.A (spliced []) (fun vs s₁ => ∃ σ', St c σ' s₁ ∧ run c (call f (first ++ vs)) Q σ') (fun _ _ => False) s := h'
    unfold evalArgs
    show wpAny _ _ (spliced [] >>= _) _ _ s
    refine wpAny_bind (wpAny_mono h0 (fun vs s' h' => ?_) fun _ _ x => x)
    refine wpAny_bind (wpAny_pure ?_)
    refine wpAny_holding ?_
    exact wpAny_bind (wpAny_pure (wpAny_bind (wpAny_pure (wpAny_pure (fin _ _ h')))))
  | cons a r =>
    obtain ⟨b, x⟩ := a
    cases b with
    | true => simp at hp
    | false => exact evalArgs_plain (wpAny_mono h' (fun vs s₁ h₁ => fin vs s₁ h₁) fun _ _ x => x)
theorem run_Call {f : Expr} {es : List Expr} (h : run c (eval f c.env) (fun f σ₁ => Kp c f ∧ run c (spliced (backTo pos (starEach es c.env))) (fun vs σ₂ => run c (call f vs) Q σ₂) σ₁) σ)
    (he : (starEach es c.env).all (fun a => !a.1) = true := by kernel_rfl)
    (hc : eval (.Call f es [] pos) c.env = (do callWith pos (← eval f c.env) [] (backTo pos (starEach es c.env)) (backToKw pos (keywordEach [] c.env))) := by kernel_rfl) : run c (eval (.Call f es [] pos) c.env) Q σ :=
  fun _ hs => Call_ (mono' h hs fun _ s₁ _ h₁ q => run_callWith q.1 q.2 he s₁ h₁) hc

theorem run_Tuple {es : List Expr} {k : Nat} (h : run c (spliced (backTo pos (starEach es c.env))) (fun vs σ₁ => vs.length ≤ sizeLine ∧ ∀ d, Q (.ref d) { σ₁ with M := (d, { cls := .type "tuple", data := .seq vs.toArray }) :: σ₁.M }) σ) : run c (eval (.Tuple es k pos) c.env) Q σ :=
  fun _ hs => wpAny_Tuple (mono' h hs fun _ s₁ σ₁ h₁ q => ⟨q.1, _, h₁.new (tk := s₁.toks) get_size (Heap.get?_push_size _ rfl) (fun _ _ e => Heap.get?_push_of_some _ e), q.2 _⟩)
theorem run_List {es : List Expr} (h : run c (spliced (backTo pos (starEach es c.env))) (fun vs σ₁ => vs.length ≤ sizeLine ∧ ∀ d, Q (.ref d) { σ₁ with M := (d, listOf vs.toArray 0) :: σ₁.M }) σ) : run c (eval (.List es pos) c.env) Q σ :=
  fun _ hs => wpAny_List (mono' h hs fun _ s₁ σ₁ h₁ q => ⟨q.1, _, h₁.new (tk := s₁.toks) get_size (Heap.get?_push_size _ rfl) (fun _ _ e => Heap.get?_push_of_some _ e), q.2 _⟩)
end

def upd (m : Str → Option Value) (x : Str) (v : Value) : Str → Option Value := fun y => if y = x then some v else m y
theorem upd_same {m : Str → Option Value} {x : Str} {v : Value} : upd m x v x = some v := by simp [upd]
theorem upd_ne {m : Str → Option Value} {x y : Str} {v : Value} (h : (y == x) = false) : upd m x v y = m y := by
  have : y ≠ x := fun e => by rw [e] at h; simp at h
  simp [upd, this]

inductive UpdL (d : Addr) (o o' : Obj) : List (Addr × Obj) → List (Addr × Obj) → Prop
  | head {r} : UpdL d o o' ((d, o) :: r) ((d, o') :: r)
  | tail {p r r'} : UpdL d o o' r r' → UpdL d o o' (p :: r) (p :: r')
theorem UpdL.split {d : Addr} {o o' : Obj} : ∀ {l l' : List (Addr × Obj)}, UpdL d o o' l l' → ∃ pre post, l = pre ++ (d, o) :: post ∧ l' = pre ++ (d, o') :: post
  | _, _, .head => ⟨[], _, rfl, rfl⟩
  | _, _, .tail (p := p) r => let ⟨pre, post, a, b⟩ := r.split; ⟨p :: pre, post, by rw [a]; rfl, by rw [b]; rfl⟩
theorem UpdL.keys {d : Addr} {o o' : Obj} {l l' : List (Addr × Obj)} (h : UpdL d o o' l l') : l'.map (·.1) = l.map (·.1) := by
  obtain ⟨pre, post, rfl, rfl⟩ := h.split; simp
theorem UpdL.mem {d : Addr} {o o' : Obj} {l l' : List (Addr × Obj)} (h : UpdL d o o' l l') : (d, o) ∈ l := by
  obtain ⟨pre, post, rfl, rfl⟩ := h.split; simp

/-- a change of a mutable object, own or passed in -/
def Chg (σ : Sg) (d : Addr) (o o' : Obj) (P' M' : List (Addr × Obj)) : Prop := (UpdL d o o' σ.M M' ∧ P' = σ.P) ∨ (UpdL d o o' σ.P P' ∧ M' = σ.M)
theorem Chg.own {σ : Sg} {d : Addr} {o o' : Obj} {M' : List (Addr × Obj)} (h : UpdL d o o' σ.M M') : Chg σ d o o' σ.P M' := .inl ⟨h, rfl⟩
theorem Chg.passed {σ : Sg} {d : Addr} {o o' : Obj} {P' : List (Addr × Obj)} (h : UpdL d o o' σ.P P') : Chg σ d o o' P' σ.M := .inr ⟨h, rfl⟩

section
variable {c : Cx} {σ : Sg} {s : Shared}
theorem St.chg (H : St c σ s) {h' : Heap} {tk : Nat} {d : Addr} {o o' : Obj} {P' M' : List (Addr × Obj)} (U : Chg σ d o o' P' M') (ho : h'.get? d = some o') (k : ∀ a x, a ≠ d → s.heap.get? a = some x → h'.get? a = some x) :
    St c { σ with P := P', M := M' } { s with heap := h', toks := tk } := by
  rcases U with ⟨U, rfl⟩ | ⟨U, rfl⟩
  · obtain ⟨pre, post, e1, e2⟩ := U.split
    exact H.upd (o := o) (pre := σ.P ++ pre) (post := post) (by unfold Sg.all; rw [e1]; simp) (by rw [e2]; simp) U.keys ho k
  · obtain ⟨pre, post, e1, e2⟩ := U.split
    exact H.upd (o := o) (pre := pre) (post := post ++ σ.M) (by unfold Sg.all; rw [e1]; simp) (by rw [e2]; simp) rfl ho k
theorem Chg.mem {d : Addr} {o o' : Obj} {P' M' : List (Addr × Obj)} (U : Chg σ d o o' P' M') : (d, o) ∈ σ.all := by
  rcases U with ⟨U, _⟩ | ⟨U, _⟩
  · exact List.mem_append_right _ U.mem
  · exact List.mem_append_left _ U.mem

/-- where an object stands -/
def At (σ : Sg) (a : Addr) (o : Obj) : Prop := σ.G a = some o ∨ (a, o) ∈ σ.M ∨ (a, o) ∈ σ.P
theorem St.at (H : St c σ s) {a : Addr} {o : Obj} (h : At σ a o) : s.heap.get? a = some o := by
  rcases h with h | h | h
  · exact H.gg _ _ h
  · exact H.mm _ (List.mem_append_right _ h)
  · exact H.mm _ (List.mem_append_left _ h)

/-- all objects that stand beside the ground and the locals -/
def allNew (base : Heap) (L : Addr) (h : Heap) : List (Addr × Obj) :=
  (List.range h.objs.size).filterMap fun a => if a = L ∨ (base.get? a).isSome = true then none else (h.get? a).map fun o => (a, o)
theorem mem_allNew {base h : Heap} {L : Addr} {p : Addr × Obj} : p ∈ allNew base L h ↔ h.get? p.1 = some p.2 ∧ p.1 ≠ L ∧ base.get? p.1 = none := by
  unfold allNew
  rw [List.mem_filterMap]
  constructor
  · rintro ⟨a, _, e⟩
    by_cases q : a = L ∨ (base.get? a).isSome = true
    · rw [if_pos q] at e; cases e
    · rw [if_neg q] at e
      rw [not_or] at q
      obtain ⟨o, ho, rfl⟩ := Option.map_eq_some_iff.mp e
      exact ⟨ho, q.1, by simpa using q.2⟩
  · rintro ⟨h1, h2, h3⟩
    refine ⟨p.1, List.mem_range.mpr (Heap.lt_size h1), ?_⟩
    rw [if_neg (by rw [h3]; simpa using h2), h1]; rfl
theorem St.fr (H : St c σ s) : Fr c.g.base c.env.locals s.heap σ.m := ⟨H.ns, H.base, H.bL⟩
theorem St.news (H : St c σ s) : News c.g.base c.env.locals s.heap (allNew c.g.base c.env.locals s.heap) := fun p hp => mem_allNew.mp hp
theorem allNew_split {base h : Heap} {L d : Addr} {o : Obj} (hd : h.get? d = some o) (hL : d ≠ L) (hb : base.get? d = none) :
    ∃ pre post, allNew base L h = pre ++ (d, o) :: post ∧ (∀ p ∈ pre, p.1 ≠ d) ∧ ∀ p ∈ post, p.1 ≠ d := by
  obtain ⟨pre, post, e⟩ := List.append_of_mem ((mem_allNew (p := (d, o))).mpr ⟨hd, hL, hb⟩)
  have nd : ((allNew base L h).map (·.1)).Nodup := by
    unfold allNew
    have : ∀ (l : List Nat), l.Nodup → ((l.filterMap fun a => if a = L ∨ (base.get? a).isSome = true then none else (h.get? a).map fun o => (a, o)).map (·.1)).Nodup ∧
        ∀ b ∈ (l.filterMap fun a => if a = L ∨ (base.get? a).isSome = true then none else (h.get? a).map fun o => (a, o)).map (·.1), b ∈ l := by
      intro l
      induction l with
      | nil => intro _; simp
      | cons a r ih =>
        intro hn
        obtain ⟨h1, h2⟩ := List.nodup_cons.mp hn
        obtain ⟨i1, i2⟩ := ih h2
        cases hf : (if a = L ∨ (base.get? a).isSome = true then none else (h.get? a).map fun o => (a, o)) with
        | none =>
          simp only [List.filterMap_cons, hf]
          exact ⟨i1, fun b hb => .tail _ (i2 b hb)⟩
        | some p =>
          have hp : p.1 = a := by
            by_cases q : a = L ∨ (base.get? a).isSome = true
            · rw [if_pos q] at hf; cases hf
            · rw [if_neg q] at hf
              obtain ⟨_, _, rfl⟩ := Option.map_eq_some_iff.mp hf
              rfl
          simp only [List.filterMap_cons, hf, List.map_cons]
          refine ⟨List.nodup_cons.mpr ⟨fun hm => h1 (hp ▸ i2 _ hm), i1⟩, fun b hb => ?_⟩
          rcases List.mem_cons.mp hb with rfl | hb
          · rw [hp]; exact .head _
          · exact .tail _ (i2 b hb)
    exact (this _ List.nodup_range).1
  rw [e, List.map_append, List.map_cons] at nd
  have nd2 := (List.nodup_cons.mp (nodup_mid.mp nd)).1
  rw [← List.map_append] at nd2
  exact ⟨pre, post, e, fun p hp q => nd2 (List.mem_map.mpr ⟨p, List.mem_append_left _ hp, q⟩), fun p hp q => nd2 (List.mem_map.mpr ⟨p, List.mem_append_right _ hp, q⟩)⟩

/-- the frame and the ledger say: all stands but the locals -/
theorem stands (H : St c σ s) {h' : Heap} {m' : Str → Option Value} {news : List (Addr × Obj)} (F : Fr c.g.base c.env.locals h' m') (N : News c.g.base c.env.locals h' news) {d : Option Addr}
    (hs : ∀ p ∈ allNew c.g.base c.env.locals s.heap, some p.1 ≠ d → p ∈ news) : ∀ a o, a ≠ c.env.locals → some a ≠ d → s.heap.get? a = some o → h'.get? a = some o := by
  intro a o ha hd e
  cases q : c.g.base.get? a with
  | some o' =>
    have := H.base _ _ q
    rw [e] at this
    cases this
    exact F.keep _ _ q
  | none => exact (N _ (hs (a, o) (mem_allNew.mpr ⟨e, ha, q⟩) hd)).1
theorem St.back (H : St c σ s) {h' : Heap} {tk : Nat} {m' : Str → Option Value} {news : List (Addr × Obj)} (F : Fr c.g.base c.env.locals h' m') (N : News c.g.base c.env.locals h' news)
    (hs : ∀ p ∈ allNew c.g.base c.env.locals s.heap, p ∈ news) : St c { σ with m := m' } { s with heap := h', toks := tk } :=
  H.locals F.ns fun a o ha e => stands H F N (d := none) (fun p hp _ => hs p hp) a o ha (fun q => by cases q) e
theorem St.backChg (H : St c σ s) {h' : Heap} {tk : Nat} {pre post : List (Addr × Obj)} {d : Addr} {o o' : Obj} {P' M' : List (Addr × Obj)} (U : Chg σ d o o' P' M')
    (F : Fr c.g.base c.env.locals h' σ.m) (N : News c.g.base c.env.locals h' (pre ++ (d, o') :: post)) (hs : allNew c.g.base c.env.locals s.heap = pre ++ (d, o) :: post) :
    St c { σ with P := P', M := M' } { s with heap := h', toks := tk } := by
  have nm := H.nM _ U.mem
  dsimp only at nm
  have hs' : ∀ p ∈ allNew c.g.base c.env.locals s.heap, some p.1 ≠ some d → p ∈ pre ++ (d, o') :: post := fun p hp hn => by
    rw [hs] at hp
    rcases List.mem_append.mp hp with h | h
    · exact List.mem_append_left _ h
    · rcases List.mem_cons.mp h with h | h
      · exact absurd (by rw [h]) hn
      · exact List.mem_append_right _ (.tail _ h)
  have st := stands H F N hs'
  -- the change, and the locals' object anew
  have k1 : ∀ a x, a ≠ d → a ≠ c.env.locals → s.heap.get? a = some x → h'.get? a = some x := fun a x ha hL e => st a x hL (fun q => ha (Option.some.inj q)) e
  have ho : h'.get? d = some o' := (N _ (List.mem_append_right _ (.head _))).1
  have hmem : ∀ p ∈ P' ++ M', p = (d, o') ∨ (p ∈ σ.all ∧ p.1 ≠ d) := by
    intro p hp
    have nd := H.nd
    rcases U with ⟨U, rfl⟩ | ⟨U, rfl⟩
    · obtain ⟨pr, po, e1, e2⟩ := U.split
      unfold Sg.all at nd ⊢
      rw [e1, ← List.append_assoc, List.map_append, List.map_cons] at nd
      have nd2 := (List.nodup_cons.mp (nodup_mid.mp nd)).1
      rw [← List.map_append] at nd2
      rw [e2, ← List.append_assoc] at hp
      rw [e1, ← List.append_assoc]
      rcases List.mem_append.mp hp with h | h
      · exact .inr ⟨List.mem_append_left _ h, fun q => nd2 (List.mem_map.mpr ⟨p, List.mem_append_left _ h, q⟩)⟩
      · rcases List.mem_cons.mp h with h | h
        · exact .inl h
        · exact .inr ⟨List.mem_append_right _ (.tail _ h), fun q => nd2 (List.mem_map.mpr ⟨p, List.mem_append_right _ h, q⟩)⟩
    · obtain ⟨pr, po, e1, e2⟩ := U.split
      unfold Sg.all at nd ⊢
      rw [e1, List.append_assoc, List.cons_append, List.map_append, List.map_cons] at nd
      have nd2 := (List.nodup_cons.mp (nodup_mid.mp nd)).1
      rw [← List.map_append] at nd2
      rw [e2, List.append_assoc, List.cons_append] at hp
      rw [e1, List.append_assoc, List.cons_append]
      rcases List.mem_append.mp hp with h | h
      · exact .inr ⟨List.mem_append_left _ h, fun q => nd2 (List.mem_map.mpr ⟨p, List.mem_append_left _ h, q⟩)⟩
      · rcases List.mem_cons.mp h with h | h
        · exact .inl h
        · exact .inr ⟨List.mem_append_right _ (.tail _ h), fun q => nd2 (List.mem_map.mpr ⟨p, List.mem_append_right _ h, q⟩)⟩
  have hkeys : (P' ++ M').map (·.1) = σ.all.map (·.1) := by
    rcases U with ⟨U, rfl⟩ | ⟨U, rfl⟩
    · simp [Sg.all, U.keys]
    · simp [Sg.all, U.keys]
  refine { sg := H.sg, sd := H.sd, so := H.so, base := F.keep, keep := ?_, ns := F.ns, gg := ?_, mm := ?_, zL := H.zL, gL := H.gL, bL := H.bL, nM := ?_, nd := ?_, live := ?_, own := ?_, gf := H.gf, nn := ?_ }
  rotate_right
  · intro a ha
    obtain ⟨⟨x, h1⟩, h2, h3⟩ := H.nn a ha
    refine ⟨?_, h2, fun p hp => ?_⟩
    · by_cases q2 : a = c.env.locals
      · obtain ⟨oL, _, _, hL, _⟩ := F.ns
        exact ⟨oL, q2 ▸ hL⟩
      · exact ⟨x, k1 _ _ (fun q => h3 _ U.mem q.symm) q2 h1⟩
    · rcases hmem p hp with rfl | h
      · exact (h3 (d, o) U.mem : d ≠ a)
      · exact h3 p h.1
  · intro a x e; exact k1 _ _ (fun q => by rw [q, nm.2.2.1] at e; cases e) (fun q => by rw [q, H.zL] at e; cases e) (H.keep _ _ e)
  · intro a x e; exact k1 _ _ (fun q => by rw [q, nm.2.2.2] at e; cases e) (fun q => by rw [q, H.gL] at e; cases e) (H.gg _ _ e)
  · intro p hp
    rcases hmem p hp with rfl | h
    · exact ho
    · exact k1 _ _ h.2 (H.nM p h.1).1 (H.mm p h.1)
  · intro p hp
    rcases hmem p hp with rfl | h
    · exact nm
    · exact H.nM p h.1
  · show ((P' ++ M').map (·.1)).Nodup
    rw [hkeys]; exact H.nd
  · intro a x e
    obtain ⟨x', h⟩ := H.live a x e
    by_cases q : a = d
    · exact ⟨o', q ▸ ho⟩
    · by_cases q2 : a = c.env.locals
      · obtain ⟨oL, _, _, hL, _⟩ := F.ns
        exact ⟨oL, q2 ▸ hL⟩
      · exact ⟨x', k1 _ _ q q2 h⟩
  · intro p hp
    rcases U with ⟨U, rfl⟩ | ⟨U, rfl⟩
    · have : p.1 ∈ M'.map (·.1) := List.mem_map.mpr ⟨p, hp, rfl⟩
      rw [U.keys] at this
      obtain ⟨q, hq, e⟩ := List.mem_map.mp this
      have := H.own q hq
      rw [e] at this; exact this
    · exact H.own p hp
/-- a new object of the ledger -/
theorem St.backNew (H : St c σ s) {h' : Heap} {tk : Nat} {news : List (Addr × Obj)} {d : Addr} {o : Obj} (F : Fr c.g.base c.env.locals h' σ.m) (N : News c.g.base c.env.locals h' news)
    (hs : ∀ p ∈ allNew c.g.base c.env.locals s.heap, p ∈ news) (hd : (d, o) ∈ news) (hf : ∀ p ∈ allNew c.g.base c.env.locals s.heap, p.1 ≠ d) : St c { σ with M := (d, o) :: σ.M } { s with heap := h', toks := tk } := by
  have n := N _ hd
  dsimp only at n
  have hn : s.heap.get? d = none := by
    cases q : s.heap.get? d with
    | none => rfl
    | some x => exact absurd rfl (hf (d, x) (mem_allNew.mpr ⟨q, n.2.1, n.2.2⟩))
  have H1 : St c σ { s with heap := h', toks := tk } := H.back F N hs
  have off : ∀ p ∈ σ.all, p.1 ≠ d := fun p hp q => by have := H.mm p hp; rw [q, hn] at this; cases this
  have hmem : ∀ p, p ∈ σ.P ++ (d, o) :: σ.M → p = (d, o) ∨ p ∈ σ.all := fun p hp => by
    rcases List.mem_append.mp hp with h | h
    · exact .inr (List.mem_append_left _ h)
    · rcases List.mem_cons.mp h with h | h
      · exact .inl h
      · exact .inr (List.mem_append_right _ h)
  refine { H1 with mm := ?_, nM := ?_, nd := ?_, own := ?_, nn := ?_ }
  rotate_right
  · intro a ha
    obtain ⟨h1, h2, h3⟩ := H1.nn a ha
    refine ⟨h1, h2, fun p hp => ?_⟩
    rcases hmem p hp with rfl | h
    · intro q
      obtain ⟨⟨o', h⟩, _⟩ := H.nn a ha
      dsimp only at q
      rw [← q, hn] at h; cases h
    · exact h3 p h
  · intro p hp
    rcases hmem p hp with rfl | h
    · exact n.1
    · exact H1.mm p h
  · intro p hp
    rcases hmem p hp with rfl | h
    · refine ⟨n.2.1, n.2.2, ?_, ?_⟩
      · cases q : c.Z d with
        | none => rfl
        | some o' => rw [H.keep _ _ q] at hn; cases hn
      · cases q : σ.G d with
        | none => rfl
        | some o' => rw [H.gg _ _ q] at hn; cases hn
    · exact H.nM p h
  · show ((σ.P ++ (d, o) :: σ.M).map (·.1)).Nodup
    have nd := H.nd
    unfold Sg.all at nd off
    rw [List.map_append, List.map_cons]
    rw [List.map_append] at nd
    refine nodup_mid.mpr (List.nodup_cons.mpr ⟨?_, nd⟩)
    intro hm
    rw [← List.map_append] at hm
    obtain ⟨p, hp, e⟩ := List.mem_map.mp hm
    exact off p hp e
  · intro p hp
    rcases List.mem_cons.mp hp with rfl | h
    · cases q : c.s₀.heap.get? d with
      | none => rfl
      | some o' => obtain ⟨o'', h⟩ := H.live _ _ q; rw [hn] at h; cases h
    · exact H.own p h
end

inductive UpdG (d : Addr) (o : Obj) : List (Addr × Obj) → (Obj → List (Addr × Obj)) → Prop
  | head {r} : UpdG d o ((d, o) :: r) (fun o' => (d, o') :: r)
  | tail {p r g} : UpdG d o r g → UpdG d o (p :: r) (fun o' => p :: g o')
theorem UpdG.upd {d : Addr} {o o' : Obj} : ∀ {l g}, UpdG d o l g → UpdL d o o' l (g o')
  | _, _, .head => .head
  | _, _, .tail h => .tail h.upd
def ChgG (σ : Sg) (d : Addr) (o : Obj) (gP gM : Obj → List (Addr × Obj)) : Prop := (UpdG d o σ.M gM ∧ gP = fun _ => σ.P) ∨ (UpdG d o σ.P gP ∧ gM = fun _ => σ.M)
theorem ChgG.own {σ : Sg} {d : Addr} {o : Obj} {gM : Obj → List (Addr × Obj)} (h : UpdG d o σ.M gM) : ChgG σ d o (fun _ => σ.P) gM := .inl ⟨h, rfl⟩
theorem ChgG.passed {σ : Sg} {d : Addr} {o : Obj} {gP : Obj → List (Addr × Obj)} (h : UpdG d o σ.P gP) : ChgG σ d o gP (fun _ => σ.M) := .inr ⟨h, rfl⟩
theorem ChgG.chg {σ : Sg} {d : Addr} {o : Obj} {gP gM : Obj → List (Addr × Obj)} (h : ChgG σ d o gP gM) (o' : Obj) : Chg σ d o o' (gP o') (gM o') := by
  rcases h with ⟨h, rfl⟩ | ⟨h, rfl⟩
  · exact .own h.upd
  · exact .passed h.upd
theorem ChgG.at {σ : Sg} {d : Addr} {o : Obj} {gP gM : Obj → List (Addr × Obj)} (h : ChgG σ d o gP gM) : At σ d o := by
  rcases h with ⟨h, rfl⟩ | ⟨h, rfl⟩
  · exact .inr (.inl (h.upd (o' := o)).mem)
  · exact .inr (.inr (h.upd (o' := o)).mem)

section
variable {c : Cx} {σ : Sg} {pos np : Pos} {F : Flow → Sg → Prop} {x : Str} {v : Value} {rest : List Stmt}

theorem st_nil (h : F .next σ) : run c (execs [] c.env) F σ := fun _ hs => wpAny_execs_nil ⟨σ, hs, h⟩
theorem st_cons {st : Stmt} (h : run c (exec st c.env) (fun f σ₁ => match f with | .next => run c (execs rest c.env) F σ₁ | f => F f σ₁) σ) : run c (execs (st :: rest) c.env) F σ :=
  fun _ hs => wpAny_execs_cons (mono' h hs fun f s₁ σ₁ h₁ q => by cases f <;> first | exact q s₁ h₁ | exact ⟨σ₁, h₁, q⟩)
theorem st_return {e : Expr} (h : run c (eval e c.env) (fun v σ₁ => F (.ret v) σ₁) σ) : run c (execs (.Return (some e) pos :: rest) c.env) F σ :=
  st_cons (fun _ hs => wpAny_Return_some (mono' h hs fun _ _ σ₁ h₁ q => ⟨σ₁, h₁, q⟩))
theorem st_break (h : F .brk σ) : run c (execs (.Break pos :: rest) c.env) F σ := st_cons fun _ hs => wpAny_Break ⟨σ, hs, h⟩
theorem st_continue (h : F .cont σ) : run c (execs (.Continue pos :: rest) c.env) F σ := st_cons fun _ hs => wpAny_Continue ⟨σ, hs, h⟩
theorem run_store {Q : Unit → Sg → Prop} (h : Q () { σ with m := upd σ.m x v }) (hl : c.env.kindOf x = some .local := by kernel_rfl) (hp : (c.env.scope.kind == .class || (c.env.scope.kind == .module && c.env.locals != c.env.globals)) = false := by kernel_rfl) : run c (storeName c.env x v) Q σ :=
  fun s hs => wpAny_storeName_local hl hs.ns (fun h' hn hb => ⟨_, hs.locals (m' := upd σ.m x v) hn (fun a o ha e => (hb.2 a ha).trans e), h⟩) hp
theorem run_storeCell {Q : Unit → Sg → Prop} {a : Addr} {o : Obj} {v₀ : Option Value} {gP gM : Obj → List (Addr × Obj)} (hc : c.env.cells.lookup x = some a) (U : ChgG σ a o gP gM) (ho : o.data = .cell v₀)
    (h : ∀ o', o'.data = .cell (some v) → Q () { σ with P := gP o', M := gM o' }) (hk : c.env.scope.kind = .function := by kernel_rfl) (hl : c.env.kindOf x = some .cell := by kernel_rfl) : run c (storeName c.env x v) Q σ :=
  fun s hs => wpAny_storeName_cell hk hl hc ⟨o, hs.at U.at, ho⟩ fun h' hv hb => by
    obtain ⟨o', ho', hd⟩ := hv
    exact ⟨_, hs.chg (tk := s.toks) (U.chg o') ho' (fun b y hb' e => (hb.2 b hb').trans e), h o' hd⟩
theorem st_assign {e : Expr} (h : run c (eval e c.env) (fun v σ₁ => run c (storeName c.env x v) (fun _ σ₂ => run c (execs rest c.env) F σ₂) σ₁) σ)
    (hs : swapsWith e (some (.Name x np)) pos.line c.env = pure false := by kernel_rfl) : run c (execs (.Assign [.Name x np] e pos :: rest) c.env) F σ :=
  st_cons fun _ H => wpAny_Assign_Name (mono' h H fun _ _ _ h₁ q => mono' q h₁ fun _ _ σ₂ h₂ q₂ => ⟨σ₂, h₂, q₂⟩) hs
theorem st_setattr {e o : Expr} {a : Str} (h : run c (eval e c.env) (fun v σ₁ => run c (eval o c.env) (fun ov σ₂ => run c (setAttr ov a v) (fun _ σ₃ => run c (execs rest c.env) F σ₃) σ₂) σ₁) σ)
    (hs : swapsWith e (some (.Attribute o a np)) pos.line c.env = pure false := by kernel_rfl) : run c (execs (.Assign [.Attribute o a np] e pos :: rest) c.env) F σ :=
  st_cons fun _ H => plainObj_wpAny_Assign_Attribute (mono' h H fun _ _ _ h₁ q => mono' q h₁ fun _ _ _ h₂ q₂ => mono' q₂ h₂ fun _ _ σ₃ h₃ q₃ => ⟨σ₃, h₃, q₃⟩) hs
theorem st_setitem {e o i : Expr} (h : run c (eval e c.env) (fun v σ₁ => run c (eval o c.env) (fun ov σ₂ => run c (eval i c.env) (fun iv σ₃ => run c (setItem ov iv v) (fun _ σ₄ => run c (execs rest c.env) F σ₄) σ₃) σ₂) σ₁) σ)
    (hs : swapsWith e (some (.Subscript o i np)) pos.line c.env = pure false := by kernel_rfl) : run c (execs (.Assign [.Subscript o i np] e pos :: rest) c.env) F σ :=
  st_cons fun _ H => wpAny_Assign_Subscript (mono' h H fun _ _ _ h₁ q => mono' q h₁ fun _ _ _ h₂ q₂ => mono' q₂ h₂ fun _ _ _ h₃ q₃ => mono' q₃ h₃ fun _ _ σ₄ h₄ q₄ => ⟨σ₄, h₄, q₄⟩) hs
theorem st_if {t : Expr} {a b : List Stmt} (h : run c (isTrue t c.env (eval t c.env)) (fun r σ₁ => if r then run c (execs a c.env) (fun f σ₂ => match f with | .next => run c (execs rest c.env) F σ₂ | f => F f σ₂) σ₁
      else run c (execs b c.env) (fun f σ₂ => match f with | .next => run c (execs rest c.env) F σ₂ | f => F f σ₂) σ₁) σ) : run c (execs (.If t a b pos :: rest) c.env) F σ :=
  st_cons fun _ H => wpAny_If (mono' h H fun r s₁ _ h₁ q => by cases r <;> exact q s₁ h₁)
theorem st_expr {e : Expr} (h : run c (eval e c.env) (fun _ σ₁ => run c (execs rest c.env) F σ₁) σ) (hi : interactive c.env = false := by kernel_rfl) (hs : swapsWith e none pos.line c.env = pure false := by kernel_rfl) :
    run c (execs (.Expr e pos :: rest) c.env) F σ :=
  st_cons fun _ H => wpAny_Expr_any (mono' h H fun _ _ σ₁ h₁ q => ⟨σ₁, h₁, q⟩) hi hs
end

/-! ### instances -/
/-- a dict of str keys, as a map -/
def FO (o : Obj) (k : Nat) (f : Str → Option Value) : Prop := ∃ es n, o = dictOf es n ∧ es.length ≤ k ∧ (∀ e ∈ es, e.refKey = false) ∧ ∀ x, getL x es = some (f x)
theorem FO.nil : FO (dictOf [] 0) 0 (fun _ => none) := ⟨[], 0, rfl, Nat.le_refl _, (fun _ h => nomatch h), fun _ => rfl⟩
theorem putL_length (x : Str) (h : Int) (key v : Value) : ∀ es : List DictEntry, (putL x h key v es).length ≤ es.length + 1
  | [] => Nat.le_refl _
  | e :: r => by
    unfold putL
    split
    · simp
    · have := putL_length x h key v r
      simp only [List.length_cons]; omega
theorem putL_ref (x : Str) (h : Int) (t : Tok) (v : Value) : ∀ es : List DictEntry, (∀ e ∈ es, e.refKey = false) → ∀ e ∈ putL x h (.str x t) v es, e.refKey = false
  | [], _, e, he => by
    unfold putL at he
    rw [List.mem_singleton.mp he]; rfl
  | e0 :: r, hr, e, he => by
    unfold putL at he
    split at he
    · rcases List.mem_cons.mp he with rfl | he
      · exact hr e0 (.head _)
      · exact hr e (.tail _ he)
    · rcases List.mem_cons.mp he with rfl | he
      · exact hr _ (.head _)
      · exact putL_ref x h t v r (fun e he => hr e (.tail _ he)) e he
theorem putL_findSame (x : Str) (h : Int) (t : Tok) (v : Value) : ∀ es : List DictEntry, ((putL x h (.str x t) v es).find? (·.key.isStr x)).map (·.val) = some v
  | [] => by simp [putL, Value.isStr]
  | e0 :: r => by
    unfold putL
    split
    · rename_i q; simp [q]
    · rename_i q; simp [q, putL_findSame x h t v r]
theorem putL_findNe (x y : Str) (h : Int) (t : Tok) (v : Value) (hy : y ≠ x) : ∀ es : List DictEntry, ((putL x h (.str x t) v es).find? (·.key.isStr y)).map (·.val) = (es.find? (·.key.isStr y)).map (·.val)
  | [] => by
    have : (Value.str x t).isStr y = false := by
      cases q : (Value.str x t).isStr y with
      | false => rfl
      | true => exact absurd (Value.isStr_inj (Value.str x t) y x q (by simp [Value.isStr])) hy
    simp [putL, this]
  | e0 :: r => by
    unfold putL
    split
    · rename_i q
      have : e0.key.isStr y = false := by
        cases q' : e0.key.isStr y with
        | false => rfl
        | true => exact absurd (Value.isStr_inj _ y x q' q) hy
      simp [this]
    · rename_i q
      rw [List.find?_cons, List.find?_cons]
      cases e0.key.isStr y with
      | true => rfl
      | false => exact putL_findNe x y h t v hy r
theorem getL_eq {x : Str} {es : List DictEntry} (hr : ∀ e ∈ es, e.refKey = false) : getL x es = some ((es.find? (·.key.isStr x)).map (·.val)) := by
  unfold getL
  split
  · rename_i q; rw [q]; rfl
  · rename_i q
    rw [q, if_neg]; rfl
    simp only [List.any_eq_true, not_exists, not_and, Bool.not_eq_true]
    exact hr
theorem FO.put {es : List DictEntry} {n n' k : Nat} {f : Str → Option Value} {x : Str} {h : Int} {t : Tok} {v : Value} (hl : es.length ≤ k) (hr : ∀ e ∈ es, e.refKey = false) (hf : ∀ y, getL y es = some (f y)) :
    FO (dictOf (putL x h (.str x t) v es) n') (k + 1) (upd f x v) := by
  refine ⟨_, _, rfl, Nat.le_trans (putL_length ..) (by omega), putL_ref x h t v es hr, fun y => ?_⟩
  rw [getL_eq (putL_ref x h t v es hr)]
  by_cases q : y = x
  · subst q; rw [putL_findSame, upd_same]
  · rw [putL_findNe x y h t v q, upd_ne (by simpa using q)]
    have := hf y
    rw [getL_eq hr] at this; exact this

structure IsCls (K : Frag) (x : Str) (C : Addr) (names : List Str) : Prop where
  ns : nsIn K mainGlobals x = some (some (.ref C))
  kp : keepIn K (.ref C) = true
  makes : makesIn K C = true
  get : plainGet K C "" = true
  dict : hasDictIn K C = true
  set : findIn K (.ref C) "__setattr__" = some (some (.builtin "object.__setattr__"))
  plain : plainOver K C = true
  fld : ∀ n ∈ names, findIn K (.ref C) n = some none ∧ takerIn K C n = some none

section
variable {c : Cx} {σ : Sg} {pos : Pos} {Q : Value → Sg → Prop} {U : Unit → Sg → Prop} {cn a : Str} {v : Value} {x C d : Addr} {o : Obj} {names : List Str} {f : Str → Option Value} {k : Nat}
theorem run_Attribute {e : Expr} (h : run c (eval e c.env) (fun ov σ₁ => run c (getAttr ov a true) Q σ₁) σ)
    (he : eval (.Attribute e a pos) c.env = (do
      let o ← eval e c.env
      standAt pos.atName
      let r ← holding [o] (getAttr o a true)
      letTemporaryGo e o r
      pure r) := by kernel_rfl) : run c (eval (.Attribute e a pos) c.env) Q σ := fun _ H => Attribute_any_ (mono' h H fun _ s₁ _ h₁ q => q s₁ h₁) he
theorem getAttr_inst {b : Bool} (I : IsCls c.g.K cn C names) (hx : At σ x (instObj C d)) (hd : At σ d o) (hf : FO o k f) (hm : a ∈ names) (hv : f a = some v) (hh : handedIn v = true) (h : Q v σ) : run c (getAttr (.ref x) a b) Q σ := by
  intro s H
  obtain ⟨es, n, rfl, _, _, hg⟩ := hf
  have Ii : PySem.W.InstAt s.heap x (instObj C d) C (some (dictOf es n)) := ⟨H.at hx, rfl, rfl, H.at hd⟩
  exact get_own H.fr c.g.X Ii I.get I.dict (I.fld a hm).1 rfl (by rw [hg a, hv]) hh ⟨σ, H.tok, h⟩
theorem setAttr_inst {gP gM : Obj → List (Addr × Obj)} (I : IsCls c.g.K cn C names) (hx : At σ x (instObj C d)) (hU : ChgG σ d o gP gM) (hf : FO o k f) (hm : a ∈ names) (hk : k < 900)
    (h : ∀ o', FO o' (k + 1) (upd f a v) → U () { σ with P := gP o', M := gM o' }) : run c (setAttr (.ref x) a v) U σ := by
  intro s H
  obtain ⟨es, n, rfl, hl, hr, hg⟩ := hf
  have hd := H.at hU.at
  have Ii : PySem.W.InstAt s.heap x (instObj C d) C (some (dictOf es n)) := ⟨H.at hx, rfl, rfl, hd⟩
  have nm := H.nM _ (hU.chg (dictOf es n)).mem
  dsimp only at nm
  obtain ⟨pre, post, e, h1, h2⟩ := allNew_split hd nm.1 nm.2.1
  have up : Upd d (dictOf es n) (dictOf (putL a (PyData.keyHash c.g.w.params a) (.str a (s.toks + 1)) v es) (putN a es n)) (pre ++ (d, dictOf es n) :: post) (pre ++ (d, dictOf (putL a (PyData.keyHash c.g.w.params a) (.str a (s.toks + 1)) v es) (putN a es n)) :: post) := by
    clear e
    induction pre with
    | nil => exact .head h2
    | cons p r ih => exact .tail (h1 p (.head _)) (ih fun q hq => h1 q (.tail _ hq))
  refine set_dict H.fr c.g.X (e ▸ H.news) Ii rfl I.set I.plain (I.fld a hm).2 I.dict (by rw [hg a]; rfl) rfl up (Nat.le_trans (putL_length ..) (by omega)) fun h' F' N' => ?_
  refine ⟨_, H.backChg (tk := s.toks + 2) (hU.chg _) F' N' e, h _ (FO.put (n := n) hl hr hg)⟩
end

theorem envOf_eq (name : Str) (scope : Scope) (L a : Addr) (cd : Value) (params : Arguments) (body : List Stmt) (dV kV doc pm ct : Value) (an : Option Addr) (n : Str) :
    callEnv (fnOf n name params body scope dV kV doc pm an cd ct) L a = envOf name scope L a cd := rfl

def keysZ (s : Shared) (ks : List Addr) : Hp := fun a => if a ∈ ks then none else s.heap.get? a

/-- the callee's first state -/
theorem St.enter {c : Cx} {σ : Sg} {s : Shared} (H : St c σ s) {passed cells : List (Addr × Obj)} {A' : Around} {env' : Env} {h₁ : Heap} {tk : Nat} {m' : Str → Option Value}
    (hp : passed.Sublist σ.all) (hL : env'.locals = s.heap.objs.size) (hn : h₁.Ns env'.locals m') (hk : ∀ b o, s.heap.get? b = some o → h₁.get? b = some o)
    (hc : ∀ p ∈ cells, h₁.get? p.1 = some p.2 ∧ p.1 ≠ env'.locals ∧ s.heap.get? p.1 = none) (hcn : (cells.map (·.1)).Nodup) :
    St ⟨c.g, A', env', keysZ s (passed.map (·.1)), s, σ.G, []⟩ ⟨m', passed, cells, σ.G⟩ { s with heap := h₁, toks := tk } := by
  have nL : s.heap.get? env'.locals = none := by rw [hL]; exact get_size
  have sub : ∀ p ∈ passed, p ∈ σ.all := fun p h => hp.subset h
  have nz : ∀ a, s.heap.get? a = none → c.g.base.get? a = none ∧ keysZ s (passed.map (·.1)) a = none ∧ σ.G a = none := fun a ha => by
    refine ⟨?_, ?_, ?_⟩
    · cases q : c.g.base.get? a with
      | none => rfl
      | some o => rw [H.base _ _ q] at ha; cases ha
    · unfold keysZ; split
      · rfl
      · exact ha
    · cases q : σ.G a with
      | none => rfl
      | some o => rw [H.gg _ _ q] at ha; cases ha
  refine { sg := rfl, sd := rfl, so := rfl, base := fun a o e => hk _ _ (H.base a o e), keep := ?_, ns := hn, gg := fun a o e => hk _ _ (H.gg a o e), mm := ?_, zL := (nz _ nL).2.1, gL := (nz _ nL).2.2, bL := ?_, nM := ?_, nd := ?_, live := fun a o e => ⟨o, hk _ _ e⟩, own := fun p h => (hc p h).2.2, gf := fun a o e => .inl e, nn := fun _ h => nomatch h }
  · intro a o e
    dsimp only [keysZ] at e
    split at e
    · cases e
    · exact hk _ _ e
  · intro p hp'
    rcases List.mem_append.mp hp' with h | h
    · exact hk _ _ (H.mm p (sub p h))
    · exact (hc p h).1
  · show c.g.base.objs.size ≤ env'.locals
    rw [hL]; exact Nat.le_trans H.bL (Nat.le_of_lt H.lt)
  · intro p hp'
    rcases List.mem_append.mp hp' with h | h
    · have n := H.nM p (sub p h)
      refine ⟨fun q => ?_, n.2.1, ?_, n.2.2.2⟩
      · have := H.mm p (sub p h)
        rw [q, nL] at this; cases this
      · show keysZ _ _ _ = none
        unfold keysZ
        rw [if_pos (List.mem_map.mpr ⟨p, h, rfl⟩)]
    · have q := hc p h
      exact ⟨q.2.1, nz _ q.2.2⟩
  · show ((passed ++ cells).map (·.1)).Nodup
    rw [List.map_append, List.nodup_append]
    refine ⟨H.nd.sublist (hp.map _), hcn, fun a ha b hb e => ?_⟩
    obtain ⟨p, hp', rfl⟩ := List.mem_map.mp ha
    obtain ⟨q, hq, rfl⟩ := List.mem_map.mp hb
    have := H.mm p (sub p hp')
    rw [e, (hc q hq).2.2] at this; cases this

/-- back in the caller -/
theorem St.ret {c : Cx} {σ σ' : Sg} {s s' : Shared} {passed others P₂ M₂ : List (Addr × Obj)} {A' : Around} {env' : Env} (H : St c σ s) (H' : St ⟨c.g, A', env', keysZ s (passed.map (·.1)), s, σ.G, []⟩ σ' s')
    (hperm : σ.all.Perm (passed ++ others)) (hk : σ'.P.map (·.1) = passed.map (·.1)) (h2 : (P₂ ++ M₂).Perm (σ'.M ++ (σ'.P ++ others))) (hM : ∀ p ∈ M₂, p ∈ σ'.M ∨ p.1 ∈ σ.M.map (·.1)) : St c ⟨σ.m, P₂, M₂, σ'.G⟩ s' := by
  have kept : ∀ a o, a ∉ passed.map (·.1) → s.heap.get? a = some o → s'.heap.get? a = some o := fun a o ha e => H'.keep a o (by
    show keysZ s _ a = some o
    unfold keysZ; rw [if_neg ha]; exact e)
  have pin : ∀ p ∈ passed, p ∈ σ.all := fun p h => hperm.mem_iff.mpr (List.mem_append_left _ h)
  have oin : ∀ p ∈ others, p ∈ σ.all := fun p h => hperm.mem_iff.mpr (List.mem_append_right _ h)
  have nd : ((passed ++ others).map (·.1)).Nodup := (hperm.map _).nodup_iff.mp H.nd
  rw [List.map_append, List.nodup_append] at nd
  have ooff : ∀ p ∈ others, p.1 ∉ passed.map (·.1) := fun p hp hm => nd.2.2 _ hm _ (List.mem_map.mpr ⟨p, hp, rfl⟩) rfl
  have off : ∀ a, (∀ p ∈ σ.all, p.1 ≠ a) → a ∉ passed.map (·.1) := fun a h hm => by
    obtain ⟨p, hp, e⟩ := List.mem_map.mp hm
    exact h p (pin p hp) e
  have gnew : ∀ a o, σ'.G a = some o → σ.G a = some o ∨ s.heap.get? a = none := H'.gf
  have key : ∀ p ∈ σ'.P, ∃ q ∈ σ.all, q ∈ passed ∧ q.1 = p.1 := fun p hp => by
    have : p.1 ∈ σ'.P.map (·.1) := List.mem_map.mpr ⟨p, hp, rfl⟩
    rw [hk] at this
    obtain ⟨q, hq, e⟩ := List.mem_map.mp this
    exact ⟨q, pin q hq, hq, e⟩
  have Lk : env'.locals ≠ c.env.locals ∨ True := .inr trivial
  obtain ⟨oL, es, ep, hL, rL⟩ := H.ns
  have mem2 : ∀ p ∈ P₂ ++ M₂, p ∈ σ'.M ∨ p ∈ σ'.P ∨ p ∈ others := fun p hp => by
    have := h2.mem_iff.mp hp
    rcases List.mem_append.mp this with h | h
    · exact .inl h
    · exact .inr (List.mem_append.mp h)
  have nLp : c.env.locals ∉ passed.map (·.1) := off _ fun p hp => (H.nM p hp).1
  refine { sg := H'.sg.trans H.sg, sd := H'.sd.trans H.sd, so := H'.so.trans H.so, base := H'.base, keep := ?_, ns := ⟨oL, es, ep, kept _ _ nLp hL, rL⟩, gg := H'.gg, mm := ?_, zL := H.zL, gL := ?_, bL := H.bL, nM := ?_, nd := ?_, live := ?_, own := ?_, gf := ?_, nn := ?_ }
  rotate_right
  · intro a ha
    obtain ⟨⟨o, h1⟩, h2, h3⟩ := H.nn a ha
    refine ⟨H'.live a o h1, ?_, fun p hp => ?_⟩
    · show σ'.G a = none
      cases q : σ'.G a with
      | none => rfl
      | some o' =>
        rcases gnew _ _ q with h | h
        · rw [h2] at h; cases h
        · rw [h1] at h; cases h
    · rcases mem2 p hp with h | h | h
      · intro q
        have w := H'.own p h
        dsimp only at w
        rw [q, h1] at w; cases w
      · obtain ⟨q, hq, _, e⟩ := key p h
        rw [← e]; exact h3 q hq
      · exact h3 p (oin p h)
  · intro a o e
    exact kept a o (off a fun p hp q => by rw [← q, (H.nM p hp).2.2.1] at e; cases e) (H.keep _ _ e)
  · intro p hp
    rcases mem2 p hp with h | h | h
    · exact H'.mm p (List.mem_append_right _ h)
    · exact H'.mm p (List.mem_append_left _ h)
    · exact kept _ _ (ooff p h) (H.mm p (oin p h))
  · show σ'.G c.env.locals = none
    cases q : σ'.G c.env.locals with
    | none => rfl
    | some o =>
      rcases gnew _ _ q with h | h
      · rw [H.gL] at h; cases h
      · rw [hL] at h; cases h
  · intro p hp
    rcases mem2 p hp with h | h | h
    · have n := H'.nM p (List.mem_append_right _ h)
      have w := H'.own p h
      dsimp only at w
      refine ⟨fun q => (by rw [q, hL] at w; cases w), n.2.1, ?_, n.2.2.2⟩
      cases q : c.Z p.1 with
      | none => rfl
      | some o => rw [H.keep _ _ q] at w; cases w
    · obtain ⟨q, hq, _, e⟩ := key p h
      have n := H.nM q hq
      rw [e] at n
      exact ⟨n.1, n.2.1, n.2.2.1, (H'.nM p (List.mem_append_left _ h)).2.2.2⟩
    · have n := H.nM p (oin p h)
      refine ⟨n.1, n.2.1, n.2.2.1, ?_⟩
      show σ'.G p.1 = none
      cases q : σ'.G p.1 with
      | none => rfl
      | some o =>
        rcases gnew _ _ q with h' | h'
        · rw [n.2.2.2] at h'; cases h'
        · rw [H.mm p (oin p h)] at h'; cases h'
  · show ((P₂ ++ M₂).map (·.1)).Nodup
    refine (h2.map _).nodup_iff.mpr ?_
    have n1 := H'.nd
    unfold Sg.all at n1
    rw [List.map_append, List.nodup_append] at n1
    rw [List.map_append, List.nodup_append]
    refine ⟨n1.2.1, ?_, ?_⟩
    · rw [List.map_append, hk, List.nodup_append]; exact nd
    · intro a ha b hb e
      obtain ⟨p, hp, rfl⟩ := List.mem_map.mp ha
      have w := H'.own p hp
      dsimp only at w
      obtain ⟨q, hq, rfl⟩ := List.mem_map.mp hb
      rcases List.mem_append.mp hq with h | h
      · obtain ⟨r, hr, _, e'⟩ := key q h
        have := H.mm r hr
        rw [e', ← e, w] at this; cases this
      · have := H.mm q (oin q h)
        rw [← e, w] at this; cases this
  · intro a o e
    obtain ⟨o', h⟩ := H.live a o e
    exact H'.live a o' h
  · intro p hp
    rcases hM p hp with h | h
    · have w := H'.own p h
      dsimp only at w
      cases q : c.s₀.heap.get? p.1 with
      | none => rfl
      | some o => obtain ⟨o', h'⟩ := H.live _ _ q; rw [w] at h'; cases h'
    · obtain ⟨q, hq, e⟩ := List.mem_map.mp h
      have := H.own q hq
      rw [e] at this; exact this
  · intro a o e
    rcases gnew _ _ e with h | h
    · exact H.gf _ _ h
    · refine .inr ?_
      cases q : c.s₀.heap.get? a with
      | none => rfl
      | some o' => obtain ⟨o'', h'⟩ := H.live _ _ q; rw [h] at h'; cases h'

theorem cells_keys {cm : Str → Option Value} : ∀ {cs : List (Str × Addr)} {cells : List (Addr × Obj)}, CellsAre cm cs cells → cells.map (·.1) = cs.map (·.2)
  | _, _, .nil => rfl
  | _, _, .cons _ r => by simp [cells_keys r]

/-- a def of the text's, as it stands -/
structure IsFn (K : Frag) (x : Str) (f : Addr) (params : Arguments) (body : List Stmt) (scope : Scope) : Prop where
  ns : nsIn K mainGlobals x = some (some (.ref f))
  ob : ∃ oc od doc pm an cdv ct osl, K.lookup f = some ⟨oc, od, .func (fnOf x x params body scope .none .none doc pm an cdv ct), osl⟩ ∧ codeIn K cdv x = true
theorem IsFn.kp {c : Cx} {x : Str} {f : Addr} {params : Arguments} {body : List Stmt} {scope : Scope} (h : IsFn c.g.K x f params body scope) : Kp c (.ref f) := by
  obtain ⟨oc, od, doc, pm, an, cdv, ct, osl, ho, _⟩ := h.ob
  exact kp_K (by unfold keepIn; dsimp only; rw [ho])

/-- a code's run: it hands back a value -/
def runC (c : Cx) (code : Code) (Q : Value → Sg → Prop) (σ : Sg) : Prop :=
  ∀ s, St c σ s → codeAny (model c.g.prog c.g.w) c.A code (fun r s' => match r with | .ok (.ret v) => ∃ σ', St c σ' s' ∧ Q v σ' | _ => False) s
theorem run_call {c : Cx} {f : Value} {args : List Value} {Q : Value → Sg → Prop} {σ : Sg} (h : runC c (.call f ⟨args, []⟩) Q σ) : run c (call f args) Q σ := fun s H =>
  wpAny_call (codeAny_mono (h s H) fun r s' hr => by
    cases r with
    | error e => exact hr.elim
    | ok f => cases f <;> first | exact hr | exact hr.elim)

def retOf (fl : Flow) : Value := match fl with | .ret v => v | _ => .none

section
variable {c : Cx} {σ : Sg} {Q : Value → Sg → Prop} {name qual : Str} {params : Arguments} {body : List Stmt} {scope : Scope} {dV kV doc pm cdv ct oc : Value} {an od : Option Addr} {osl : Array (Option Value)} {f : Addr} {args : List Value} {binds : List (Str × Value)} {passed others : List (Addr × Obj)}

theorem runC_enter_gen (hp : passed.Sublist σ.all) (hperm : σ.all.Perm (passed ++ others))
    (ho : c.g.K.lookup f = some ⟨oc, od, .func (fnOf name qual params body scope dV kV doc pm an cdv ct), osl⟩) (hcd : codeIn c.g.K cdv qual = true) (hroom : c.A.depth < recursionLimit)
    (hbind : ∀ s, c.g.K.In s.heap → BindsTo s (fnOf name qual params body scope dV kV doc pm an cdv ct) ⟨args, []⟩ binds) (hloc : ∀ y ∈ binds, scope.names.lookup y.1 = some .local)
    (h : ∀ L Z s₀, run ⟨c.g, c.A.deeper (envOf qual scope L f cdv), envOf qual scope L f cdv, Z, s₀, σ.G, []⟩ (execs body (envOf qual scope L f cdv))
      (fun fl σ' => ∃ P₂ M₂, σ'.P.map (·.1) = passed.map (·.1) ∧ (P₂ ++ M₂).Perm (σ'.M ++ (σ'.P ++ others)) ∧ (∀ p ∈ M₂, p ∈ σ'.M ∨ p.1 ∈ σ.M.map (·.1)) ∧ Q (retOf fl) ⟨σ.m, P₂, M₂, σ'.G⟩) ⟨fun y => binds.reverse.lookup y, passed, [], σ.G⟩)
    (hcell : ∀ x ∈ scope.names, x.2 ≠ .cell) (hco : scope.isCoroutine = false) (hgen : scope.isGenerator = false) (hk : scope.kind = .function) : runC c (.call (.ref f) ⟨args, []⟩) Q σ := by
  intro s H
  refine (codeAny_call_def (fd := fnOf name qual params body scope dV kV doc pm an cdv ct) (body := body) (binds := binds) hroom (H.base _ _ (c.g.X _ _ ho)) rfl (c.g.T.nolimit.keeps H.base) (codeRec_of (c.g.X.keeps H.base) hcd) rfl (hbind s (c.g.X.keeps H.base)) hcell hloc (fun h₁ hns hk₁ => ?_) hco hgen hk)
  have H₁ := H.enter (A' := c.A.deeper (envOf qual scope s.heap.objs.size f cdv)) (env' := envOf qual scope s.heap.objs.size f cdv) (cells := []) (tk := s.toks + binds.length) hp rfl hns hk₁ (fun _ h => nomatch h) .nil
  refine wpAny_mono (h _ _ s _ H₁) (fun fl s' ⟨σ', h', P₂, M₂, h1, h2, h3, q⟩ => ⟨_, H.ret h' hperm h1 h2 h3, ?_⟩) fun _ _ e => e.elim
  cases fl <;> exact q

theorem runC_enterC_gen (hp : passed.Sublist σ.all) (hperm : σ.all.Perm (passed ++ others))
    (ho : c.g.K.lookup f = some ⟨oc, od, .func (fnOf name qual params body scope dV kV doc pm an cdv ct), osl⟩) (hcd : codeIn c.g.K cdv qual = true) (hroom : c.A.depth < recursionLimit)
    (hbind : ∀ s, c.g.K.In s.heap → BindsTo s (fnOf name qual params body scope dV kV doc pm an cdv ct) ⟨args, []⟩ binds) (hkind : (binds.all fun y => scope.names.lookup y.1 == some .local || scope.names.lookup y.1 == some .cell) = true)
    (hnd : ((cellsFrom 0 scope.names []).map (·.1)).Nodup)
    (h : ∀ L Z s₀ cells, CellsAre (bindC (envOfC qual scope L f cdv).kindOf binds fun _ => none) (cellsFrom (L + 1) scope.names []) cells → run ⟨c.g, c.A.deeper (envOfC qual scope L f cdv), envOfC qual scope L f cdv, Z, s₀, σ.G, []⟩ (execs body (envOfC qual scope L f cdv))
      (fun fl σ' => ∃ P₂ M₂, σ'.P.map (·.1) = passed.map (·.1) ∧ (P₂ ++ M₂).Perm (σ'.M ++ (σ'.P ++ others)) ∧ (∀ p ∈ M₂, p ∈ σ'.M ∨ p.1 ∈ σ.M.map (·.1)) ∧ Q (retOf fl) ⟨σ.m, P₂, M₂, σ'.G⟩) ⟨bindL (envOfC qual scope L f cdv).kindOf binds fun _ => none, passed, cells, σ.G⟩)
    (hco : scope.isCoroutine = false) (hgen : scope.isGenerator = false) (hk : scope.kind = .function) : runC c (.call (.ref f) ⟨args, []⟩) Q σ := by
  intro s H
  refine (codeAny_call_function hroom (H.base _ _ (c.g.X _ _ ho)) rfl hco hgen rfl (codeRec_of (c.g.X.keeps H.base) hcd) (hbind s (c.g.X.keeps H.base) _ _ _ _ ?_))
  refine wpAny_newFunctionEnv_cells hk (kindsX hkind _) fun env' he s' x => ?_
  subst he
  refine ⟨(c.g.T.nolimit.keeps H.base).keeps x.toInCall.keep, codeAny_func ?_⟩
  obtain ⟨h₁, tk, rfl, _⟩ := x.done
  have hk₁ := x.toInCall.keep
  have hap := x.apart
  obtain ⟨cells, NC, Y⟩ := Cl.news (h₀ := s.heap) (Nat.le_refl _) fun n c hm => ⟨x.cell n c (lookup_of_mem_nodup (cellsFrom_names scope.names 0 (s.heap.objs.size + 1) [] [] rfl ▸ hnd) hm), x.above n c hm⟩
  have hcn : (cells.map (·.1)).Nodup := by
    rw [cells_keys Y]
    exact List.pairwise_map.mpr hap
  have H₁ := H.enter (A' := c.A.deeper (envOfC qual scope s.heap.objs.size f cdv)) (env' := envOfC qual scope s.heap.objs.size f cdv) (cells := cells) (tk := tk) hp rfl x.toInCall.ns hk₁
    (fun p hp => NC p hp) hcn
  refine wpAny_mono (h _ _ s cells Y _ H₁) (fun fl s' ⟨σ', h', P₂, M₂, h1, h2, h3, q⟩ => ⟨_, H.ret h' hperm h1 h2 h3, ?_⟩) fun _ _ e => e.elim
  cases fl <;> exact q
end

theorem run_tail {α : Type} {c : Cx} {t : Sem α} {Q : α → Sg → Prop} {σ : Sg} (h : run c t (fun a σ' => run c (pure a) Q σ') σ) : run c t Q σ := by
  have := run_bind (f := fun a => pure a) h
  rwa [bind_pure] at this

section
variable {g : Gd} {A : Around} {env : Env} {Z Z' : Hp} {s₀ s : Shared} {G₀ : Hp} {N N' : List Addr} {σ : Sg}
theorem St.narrow (H : St ⟨g, A, env, Z, s₀, G₀, N⟩ σ s) (hZ : ∀ a o, Z' a = some o → s.heap.get? a = some o ∧ a ≠ env.locals ∧ ∀ p ∈ σ.all, p.1 ≠ a)
    (hN : ∀ a ∈ N', (∃ o, s.heap.get? a = some o) ∧ σ.G a = none ∧ ∀ p ∈ σ.all, p.1 ≠ a) : St ⟨g, A, env, Z', s₀, G₀, N'⟩ σ s where
  sg := H.sg
  sd := H.sd
  so := H.so
  base := H.base
  keep := fun a o e => (hZ a o e).1
  ns := H.ns
  gg := H.gg
  mm := H.mm
  zL := by
    show Z' env.locals = none
    cases q : Z' env.locals with
    | none => rfl
    | some o => exact absurd rfl (hZ _ _ q).2.1
  gL := H.gL
  bL := H.bL
  nM := fun p hp => by
    have n := H.nM p hp
    refine ⟨n.1, n.2.1, ?_, n.2.2.2⟩
    show Z' p.1 = none
    cases q : Z' p.1 with
    | none => rfl
    | some o => exact absurd rfl ((hZ _ _ q).2.2 p hp)
  nd := H.nd
  live := H.live
  own := H.own
  gf := H.gf
  nn := hN
theorem St.widen (H : St ⟨g, A, env, Z', s₀, G₀, N'⟩ σ s) (hZ : Sub Z Z') (hN : ∀ a ∈ N, a ∈ N') : St ⟨g, A, env, Z, s₀, G₀, N⟩ σ s where
  sg := H.sg
  sd := H.sd
  so := H.so
  base := H.base
  keep := fun a o e => H.keep a o (hZ a o e)
  ns := H.ns
  gg := H.gg
  mm := H.mm
  zL := by
    show Z env.locals = none
    cases q : Z env.locals with
    | none => rfl
    | some o => have := H.zL; dsimp only at this; rw [hZ _ _ q] at this; cases this
  gL := H.gL
  bL := H.bL
  nM := fun p hp => by
    have n := H.nM p hp
    refine ⟨n.1, n.2.1, ?_, n.2.2.2⟩
    show Z p.1 = none
    cases q : Z p.1 with
    | none => rfl
    | some o => have := n.2.2.1; dsimp only at this; rw [hZ _ _ q] at this; cases this
  nd := H.nd
  live := H.live
  own := H.own
  gf := H.gf
  nn := fun a ha => H.nn a (hN a ha)
end

/-- what is iterated: n items, the i-th is P i -/
def Iter (c : Cx) (σ : Sg) (v : Value) (n : Nat) (P : Nat → Value → Prop) : Prop :=
  ∀ s, St c σ s → ∀ Q : Value → Shared → Prop,
    (∀ s₂ I fp Sx, St c σ s₂ → Walks c.g.prog c.g.w c.A I fp [I] n P Sx → Sx 0 s₂.heap → (∀ i h, Sx i h → ∃ o, h.get? I = some o) → I ∈ fp → s.heap.get? I = none → (∀ b ∈ fp, (∃ o, s₂.heap.get? b = some o) ∧ b ≠ c.env.locals ∧ ∀ p ∈ σ.all, p.1 ≠ b) →
      (∀ b o, s.heap.get? b = some o → s₂.heap.get? b = some o) → Q (.ref I) s₂) →
    wpAny (model c.g.prog c.g.w) c.A (pyIter v) Q (fun _ _ => False) s

section
variable {c : Cx} {σ : Sg} {l : Addr} {vs : List Value}
theorem iter_list_of (hh : c.A.handled = none) (hl : ∀ s, St c σ s → s.heap.IsList l vs.toArray ∧ l ≠ c.env.locals ∧ ∀ p ∈ σ.all, p.1 ≠ l) : Iter c σ (.ref l) vs.length (fun i v => vs[i]? = some v) := by
  intro s H Q hQ
  obtain ⟨h1, h2, h3⟩ := hl s H
  obtain ⟨ol, hol, hc, n, hd⟩ := id h1
  have hne : l ≠ s.heap.objs.size := Nat.ne_of_lt (Heap.lt_size hol)
  refine wpAny_pyIter_list h1 ?_
  have W := Walks.list (prog := c.g.prog) (w := c.g.w) hh s.heap.objs.size l hne vs.toArray
  have hs : vs.toArray.size = vs.length := by simp
  rw [hs] at W
  have e : (fun (i : Nat) (v : Value) => vs.toArray[i]? = some v) = fun i v => vs[i]? = some v := by funext i v; simp
  rw [e] at W
  have up : ∀ b o, s.heap.get? b = some o → (s.heap.push { cls := .type "list_iterator", data := .fields #[.ref l, .int 0 0] }).get? b = some o := fun b o e => Heap.get?_push_of_some _ e
  refine hQ _ _ _ _ (H.grow (tk := s.toks) up) W ⟨⟨_, Heap.get?_push_size _ rfl, rfl, rfl⟩, h1.at fun o e => up _ _ e⟩ (fun i h q => let ⟨o, ho, _⟩ := q.1; ⟨o, ho⟩) (by simp) get_size ?_ up
  intro b hb
  rcases List.mem_cons.mp hb with rfl | hb
  · refine ⟨⟨_, Heap.get?_push_size _ rfl⟩, Ne.symm (Nat.ne_of_lt H.lt), fun p hp => Nat.ne_of_lt (Heap.lt_size (H.mm p hp))⟩
  · rw [List.mem_singleton.mp hb]
    exact ⟨⟨ol, up _ _ hol⟩, h2, h3⟩
theorem iter_frozen {o : Obj} (hh : c.A.handled = none) (hl : σ.G l = some o) (ho : ∃ n, o = listOf vs.toArray n) : Iter c σ (.ref l) vs.length (fun i v => vs[i]? = some v) :=
  iter_list_of hh fun s H => by
    obtain ⟨n, rfl⟩ := ho
    exact ⟨⟨_, H.gg _ _ hl, rfl, n, rfl⟩, fun q => by (have := H.gL; rw [← q, hl] at this; cases this), fun p hp q => by (have := (H.nM p hp).2.2.2; rw [q, hl] at this; cases this)⟩
theorem iter_base (hh : c.A.handled = none) (hl : c.g.base.IsList l vs.toArray) : Iter c σ (.ref l) vs.length (fun i v => vs[i]? = some v) :=
  iter_list_of hh fun s H => by
    obtain ⟨o, ho, r⟩ := hl
    exact ⟨⟨o, H.base _ _ ho, r⟩, fun q => by (have := H.bne; rw [← q, ho] at this; cases this), fun p hp q => by (have := (H.nM p hp).2.1; rw [q, ho] at this; cases this)⟩
def rangeObj (a b : Int) (t u v : Tok) : Obj := { cls := .type "range", dict := none, data := .fields #[.int a t, .int b u, .int 1 v], slots := #[] }
theorem iter_range {r : Addr} {a b : Int} {t u v : Tok} {n : Nat} (hh : c.A.handled = none) (hr : ∀ s, St c σ s → s.heap.get? r = some (rangeObj a b t u v)) (hsm : Builtin.Range.small a b 1 = true) (hn : Builtin.Range.rangeSize a b 1 = (n : Int)) :
    Iter c σ (.ref r) n (fun i v => ∃ t, v = .int (a + i) t) := by
  intro s H Q hQ
  refine wpAny_pyIter_range (hr s H) hsm ?_
  have W := Walks.range (prog := c.g.prog) (w := c.g.w) hh s.heap.objs.size a 1 n
  have e : (fun (i : Nat) (v : Value) => ∃ t, v = .int (a + i * 1) t) = fun i v => ∃ t, v = .int (a + i) t := by funext i v; simp
  rw [e] at W
  have up : ∀ (o' : Obj) b o, s.heap.get? b = some o → (s.heap.push o').get? b = some o := fun o' b o e => Heap.get?_push_of_some _ e
  refine hQ _ _ _ _ (H.grow (tk := s.toks) (up _)) W ?_ (fun i h q => ⟨_, q⟩) (by simp) get_size ?_ (up _)
  · show IsRangeIter _ _ _ _ _
    rw [hn]; simpa using Heap.get?_push_size _ rfl
  · intro b hb
    rw [List.mem_singleton.mp hb]
    exact ⟨⟨_, Heap.get?_push_size _ rfl⟩, Ne.symm (Nat.ne_of_lt H.lt), fun p hp => Nat.ne_of_lt (Heap.lt_size (H.mm p hp))⟩
end

def fpZ (Z : Hp) (h : Heap) (fp : List Addr) : Hp := fun a => if a ∈ fp then h.get? a else Z a

section
variable {g : Gd} {A : Around} {env : Env} {Z : Hp} {s₀ : Shared} {G₀ : Hp} {N : List Addr} {σ : Sg} {x : Str} {px pos : Pos} {iter : Expr} {body rest : List Stmt} {F : Flow → Sg → Prop}

theorem St.moved {I : Addr} {s : Shared} {h' : Heap} {tk : Nat} (H : St ⟨g, A, env, Z, s₀, G₀, N⟩ σ s) (k : ∀ b o, b ∉ [I] → s.heap.get? b = some o → h'.get? b = some o)
    (hL : I ≠ env.locals) (hM : ∀ p ∈ σ.all, p.1 ≠ I) (hzI : Z I = none) (hgI : σ.G I = none) (hbI : g.base.get? I = none) (hnI : I ∉ N) (hsI : s₀.heap.get? I = none) : St ⟨g, A, env, Z, s₀, G₀, N⟩ σ { s with heap := h', toks := tk } := by
  have k' : ∀ b o, b ≠ I → s.heap.get? b = some o → h'.get? b = some o := fun b o hb e => k b o (by simpa using hb) e
  refine { sg := H.sg, sd := H.sd, so := H.so, base := ?_, keep := ?_, ns := ?_, gg := ?_, mm := ?_, zL := H.zL, gL := H.gL, bL := H.bL, nM := H.nM, nd := H.nd, live := ?_, own := H.own, gf := H.gf, nn := ?_ }
  · intro a o e; exact k' _ _ (fun q => by rw [q] at e; have e' : g.base.get? I = some o := e; rw [hbI] at e'; cases e') (H.base _ _ e)
  · intro a o e; exact k' _ _ (fun q => by rw [q] at e; have e' : Z I = some o := e; rw [hzI] at e'; cases e') (H.keep _ _ e)
  · obtain ⟨oL, es, ep, hL', r⟩ := H.ns
    exact ⟨oL, es, ep, k' _ _ (Ne.symm hL) hL', r⟩
  · intro a o e; exact k' _ _ (fun q => by rw [q, hgI] at e; cases e) (H.gg _ _ e)
  · intro p hp; exact k' _ _ (hM p hp) (H.mm p hp)
  · intro a o e
    obtain ⟨o', h⟩ := H.live a o e
    exact ⟨o', k' _ _ (fun q => by rw [q] at e; have e' : s₀.heap.get? I = some o := e; rw [hsI] at e'; cases e') h⟩
  · intro a ha
    obtain ⟨⟨o, h⟩, r⟩ := H.nn a ha
    exact ⟨⟨o, k' _ _ (fun q => hnI (q ▸ ha)) h⟩, r⟩

theorem sub_fpZ {h : Heap} {fp : List Addr} {Z : Hp} (k : ∀ a o, Z a = some o → h.get? a = some o) : Sub Z (fpZ Z h fp) := fun a o e => by
  unfold fpZ; split
  · exact k a o e
  · exact e

/-- a turn's context: the iterator and what it walks stand -/
theorem St.inTurn {I : Addr} {fp : List Addr} {s : Shared} (H : St ⟨g, A, env, Z, s₀, G₀, N⟩ σ s) (hfp : ∀ b ∈ fp, (∃ o, s.heap.get? b = some o) ∧ b ≠ env.locals ∧ ∀ p ∈ σ.all, p.1 ≠ b) (hI : I ∈ fp) (hgI : σ.G I = none) :
    St ⟨g, A, env, fpZ Z s.heap fp, s₀, G₀, I :: N⟩ σ s := by
  refine H.narrow (fun a o e => ?_) (fun a ha => ?_)
  · unfold fpZ at e
    split at e
    · rename_i hm; exact ⟨e, (hfp a hm).2⟩
    · exact ⟨H.keep _ _ e, fun q => (by have := H.zL; dsimp only at this; rw [← q, e] at this; cases this), fun p hp q => (by have := (H.nM p hp).2.2.1; dsimp only at this; rw [q, e] at this; cases this)⟩
  · rcases List.mem_cons.mp ha with rfl | ha
    · exact ⟨(hfp _ hI).1, hgI, (hfp _ hI).2.2⟩
    · exact H.nn a ha

theorem loop_run (Inv : Nat → Sg → Prop) {I : Addr} {fp : List Addr} {n : Nat} {P : Nat → Value → Prop} {Sx : Nat → Heap → Prop} {D : Sg → Prop} {V : Value → Sg → Prop} {s : Shared}
    (W : Walks g.prog g.w A I fp [I] n P Sx) (hlv : ∀ i h, Sx i h → ∃ o, h.get? I = some o) (hI : I ∈ fp)
    (H : St ⟨g, A, env, Z, s₀, G₀, N⟩ σ s) (hst : Sx 0 s.heap) (hfp : ∀ b ∈ fp, (∃ o, s.heap.get? b = some o) ∧ b ≠ env.locals ∧ ∀ p ∈ σ.all, p.1 ≠ b) (hzI : Z I = none) (hgI : σ.G I = none) (hbI : g.base.get? I = none) (hnI : I ∉ N) (hsI : s₀.heap.get? I = none) (h0 : Inv 0 σ)
    (turn : ∀ i v σ Z' N', i < n → P i v → Inv i σ → Sub Z Z' → run ⟨g, A, env, Z', s₀, G₀, N'⟩ (execs body env)
      (fun f σ' => match f with | .next | .cont => Inv (i + 1) σ' | .brk => D σ' | .ret v => V v σ') { σ with m := upd σ.m x v })
    (done : ∀ σ, Inv n σ → D σ)
    (hl : env.kindOf x = some .local) (hp : (env.scope.kind == .class || (env.scope.kind == .module && env.locals != env.globals)) = false) :
    codeAny (model g.prog g.w) A (.forLoop (.Name x px) (.ref I) body [] env) (fun r s' => match r with
      | .ok .next => ∃ σ', St ⟨g, A, env, Z, s₀, G₀, N⟩ σ' s' ∧ D σ' | .ok (.ret v) => ∃ σ', St ⟨g, A, env, Z, s₀, G₀, N⟩ σ' s' ∧ V v σ' | _ => False) s := by
  let J : Nat → Shared → Prop := fun m s => ∃ i σ, i + m = n ∧ St ⟨g, A, env, Z, s₀, G₀, N⟩ σ s ∧ Sx i s.heap ∧ (∀ b ∈ fp, (∃ o, s.heap.get? b = some o) ∧ b ≠ env.locals ∧ ∀ p ∈ σ.all, p.1 ≠ b) ∧ σ.G I = none ∧ Inv i σ
  refine codeAny_forLoop_any J ?_ n ⟨0, σ, by omega, H, hst, hfp, hgI, h0⟩
  rintro m s ⟨i, σ, him, H, hst, hfp, hgI, hinv⟩
  have hIf := hfp I hI
  by_cases hlt : i < n
  · refine W.item i s _ _ hlt hst fun v h' tk hP hst' hk => ?_
    have H' := H.moved (tk := tk) hk hIf.2.1 hIf.2.2 hzI hgI hbI hnI hsI
    have hfp' : ∀ b ∈ fp, (∃ o, h'.get? b = some o) ∧ b ≠ env.locals ∧ ∀ p ∈ σ.all, p.1 ≠ b := fun b hb => by
      by_cases q : b = I
      · rw [q]; exact ⟨hlv _ _ hst', hIf.2⟩
      · obtain ⟨⟨o, h⟩, r⟩ := hfp b hb
        exact ⟨⟨o, hk b o (by simpa using q) h⟩, r⟩
    have H2 := H'.inTurn hfp' hI hgI
    dsimp only
    refine wpAny_of_eq (by rfl : letOwnedTupleGo (.Name x px) (.ref I) v = pure ()) ?_
    refine wpAny_assign_Name (wpAny_storeName_local hl H2.ns (fun h'' hn hb => ?_) hp)
    have H3 := H2.locals (m' := upd σ.m x v) (tk := tk + 1) hn (fun a o ha e => (hb.2 a ha).trans e)
    refine wpAny_mono (turn i v σ (fpZ Z h' fp) (I :: N) hlt hP hinv (sub_fpZ H'.keep) _ H3) (fun f s₃ h₃ => ?_) fun _ _ e => e.elim
    obtain ⟨σ', h₃, q⟩ := h₃
    have kz : ∀ b o, b ∈ fp → h'.get? b = some o → s₃.heap.get? b = some o := fun b o hb e => h₃.keep b o (by show fpZ Z h' fp b = some o; unfold fpZ; rw [if_pos hb]; exact e)
    have nI := h₃.nn I (.head _)
    have back : St ⟨g, A, env, Z, s₀, G₀, N⟩ σ' s₃ := h₃.widen (sub_fpZ H'.keep) fun a ha => .tail _ ha
    have fin : Inv (i + 1) σ' → ∃ m', m' < m ∧ J m' s₃ := fun hinv' => by
      refine ⟨m - 1, by omega, i + 1, σ', by omega, back, W.frame _ _ _ hst' fun b hb o e => kz b o hb e, fun b hb => ?_, nI.2.1, hinv'⟩
      obtain ⟨⟨o, h⟩, r, _⟩ := hfp' b hb
      refine ⟨⟨o, kz b o hb h⟩, r, fun p hp e => ?_⟩
      have := (h₃.nM p hp).2.2.1
      have e2 : fpZ Z h' fp p.1 = some o := by unfold fpZ; rw [e, if_pos hb]; exact h
      dsimp only at this
      rw [this] at e2; cases e2
    cases f with
    | next => exact fin q
    | cont => exact fin q
    | brk => exact ⟨σ', back, q⟩
    | ret v => exact ⟨σ', back, q⟩
  · have e : i = n := by omega
    subst e
    refine W.done s _ _ hst fun h' tk hk => ?_
    have H' := H.moved (tk := tk) hk hIf.2.1 hIf.2.2 hzI hgI hbI hnI hsI
    exact wpAny_execs_nil ⟨σ, H', done σ hinv⟩

theorem st_for (Inv : Nat → Sg → Prop) {n : Nat} {P : Nat → Value → Prop} (h : run ⟨g, A, env, Z, s₀, G₀, N⟩ (eval iter env) (fun v σ₁ => Iter ⟨g, A, env, Z, s₀, G₀, N⟩ σ₁ v n P ∧ Inv 0 σ₁) σ)
    (turn : ∀ i v σ Z' N', i < n → P i v → Inv i σ → Sub Z Z' → run ⟨g, A, env, Z', s₀, G₀, N'⟩ (execs body env)
      (fun f σ' => match f with | .next | .cont => Inv (i + 1) σ' | .brk => run ⟨g, A, env, Z, s₀, G₀, N⟩ (execs rest env) F σ' | .ret v => F (.ret v) σ') { σ with m := upd σ.m x v })
    (done : ∀ σ, Inv n σ → run ⟨g, A, env, Z, s₀, G₀, N⟩ (execs rest env) F σ)
    (hs : ∀ x, foldedSetIterable iter env x = pure x := by intro _; kernel_rfl)
    (hl : env.kindOf x = some .local := by kernel_rfl) (hp : (env.scope.kind == .class || (env.scope.kind == .module && env.locals != env.globals)) = false := by kernel_rfl) :
    run ⟨g, A, env, Z, s₀, G₀, N⟩ (execs (.For (.Name x px) iter body [] pos :: rest) env) F σ := by
  refine st_cons (c := ⟨g, A, env, Z, s₀, G₀, N⟩) fun s H => wpAny_For (mono' (c := ⟨g, A, env, Z, s₀, G₀, N⟩) h H fun v s₁ σ₁ h₁ q => ?_) hs
  obtain ⟨it, h0⟩ := q
  refine it s₁ h₁ _ fun s₂ I fp Sx h₂ W hst hlv hI hnew hfp kk => ?_
  have nz : ∀ {hp : Hp}, (∀ a o, hp a = some o → s₁.heap.get? a = some o) → hp I = none := fun {hp} k => by
    cases q : hp I with
    | none => rfl
    | some o => rw [k _ _ q] at hnew; cases hnew
  refine codeAny_mono (loop_run (px := px) Inv (D := fun σ' => run ⟨g, A, env, Z, s₀, G₀, N⟩ (execs rest env) F σ') (V := fun v σ' => F (.ret v) σ') W hlv hI h₂ hst hfp (nz h₁.keep) (nz h₁.gg) (nz (hp := fun a => g.base.get? a) h₁.base) ?_ ?_ h0 (fun i v σ Z' N' hi hP hv hz => run_mono (turn i v σ Z' N' hi hP hv hz) fun f σ' q => by cases f <;> exact q) done hl hp) fun r s' hr => ?_
  · intro hm
    obtain ⟨⟨o, h⟩, _⟩ := h₁.nn I hm
    rw [h] at hnew; cases hnew
  · show s₀.heap.get? I = none
    cases q : s₀.heap.get? I with
    | none => rfl
    | some o => obtain ⟨o', h⟩ := h₁.live _ _ q; rw [h] at hnew; cases hnew
  · cases r with
    | error e => exact hr.elim
    | ok f =>
      cases f with
      | next => obtain ⟨σ', h', q⟩ := hr; exact ⟨σ', h', q⟩
      | ret v => obtain ⟨σ', h', q⟩ := hr; exact ⟨σ', h', q⟩
      | brk => exact hr.elim
      | cont => exact hr.elim
end

/-- an address that the state does not know -/
structure Off (c : Cx) (P M : List (Addr × Obj)) (G : Hp) (a : Addr) : Prop where
  l : a ≠ c.env.locals
  m : ∀ p ∈ P ++ M, p.1 ≠ a
  z : c.Z a = none
  g : G a = none
  b : c.g.base.get? a = none
  n : a ∉ c.N
  s : c.s₀.heap.get? a = none

section
variable {g : Gd} {A : Around} {env : Env} {Z : Hp} {s₀ s : Shared} {G₀ : Hp} {N : List Addr} {m : Str → Option Value} {P M : List (Addr × Obj)} {G : Hp} {a : Addr}

theorem St.move1 {h' : Heap} {tk : Nat} (H : St ⟨g, A, env, Z, s₀, G₀, N⟩ ⟨m, P, M, G⟩ s) (o : Off ⟨g, A, env, Z, s₀, G₀, N⟩ P M G a) (k : ∀ b o, b ≠ a → s.heap.get? b = some o → h'.get? b = some o) :
    St ⟨g, A, env, Z, s₀, G₀, N⟩ ⟨m, P, M, G⟩ { s with heap := h', toks := tk } :=
  H.moved (I := a) (fun b o hb e => k b o (by simpa using hb) e) o.l o.m o.z o.g o.b o.n o.s
theorem St.fresh {c : Cx} {σ : Sg} {s : Shared} (H : St c σ s) (h : s.heap.get? a = none) : Off c σ.P σ.M σ.G a := by
  have nz : ∀ {hp : Hp}, (∀ a o, hp a = some o → s.heap.get? a = some o) → hp a = none := fun {hp} k => by
    cases q : hp a with
    | none => rfl
    | some o => rw [k _ _ q] at h; cases h
  refine ⟨fun q => ?_, fun p hp q => ?_, nz H.keep, nz H.gg, nz (hp := fun a => c.g.base.get? a) H.base, fun hm => ?_, ?_⟩
  · obtain ⟨oL, _, _, hL, _⟩ := H.ns
    rw [← q, h] at hL; cases hL
  · have := H.mm p hp; rw [q, h] at this; cases this
  · obtain ⟨⟨o, e⟩, _⟩ := H.nn a hm; rw [h] at e; cases e
  · cases q : c.s₀.heap.get? a with
    | none => rfl
    | some o => obtain ⟨o', e⟩ := H.live _ _ q; rw [h] at e; cases e
theorem St.adopt {o : Obj} (H : St ⟨g, A, env, Z, s₀, G₀, N⟩ ⟨m, P, M, G⟩ s) (f : Off ⟨g, A, env, Z, s₀, G₀, N⟩ P M G a) (ho : s.heap.get? a = some o) : St ⟨g, A, env, Z, s₀, G₀, N⟩ ⟨m, P, (a, o) :: M, G⟩ s := by
  have hmem : ∀ p, p ∈ P ++ (a, o) :: M → p = (a, o) ∨ p ∈ P ++ M := fun p hp => by
    rcases List.mem_append.mp hp with h | h
    · exact .inr (List.mem_append_left _ h)
    · rcases List.mem_cons.mp h with h | h
      · exact .inl h
      · exact .inr (List.mem_append_right _ h)
  refine { H with mm := fun p hp => ?_, nM := fun p hp => ?_, nd := ?_, own := fun p hp => ?_, nn := fun b hb => ?_ }
  · rcases hmem p hp with rfl | h
    · exact ho
    · exact H.mm p h
  · rcases hmem p hp with rfl | h
    · exact ⟨f.l, f.b, f.z, f.g⟩
    · exact H.nM p h
  · show ((P ++ (a, o) :: M).map (·.1)).Nodup
    have nd := H.nd
    unfold Sg.all at nd
    rw [List.map_append, List.map_cons]
    rw [List.map_append] at nd
    refine nodup_mid.mpr (List.nodup_cons.mpr ⟨?_, nd⟩)
    intro hm
    rw [← List.map_append] at hm
    obtain ⟨p, hp, e⟩ := List.mem_map.mp hm
    exact f.m p hp e
  · rcases List.mem_cons.mp hp with rfl | h
    · exact f.s
    · exact H.own p h
  · obtain ⟨h1, h2, h3⟩ := H.nn b hb
    refine ⟨h1, h2, fun p hp => ?_⟩
    rcases hmem p hp with rfl | h
    · exact fun q => f.n (by rw [show a = b from q]; exact hb)
    · exact h3 p h

/-- into a comprehension's block -/
theorem St.block {C D I : Addr} {fp : List Addr} {cenv : Env} {mC : Str → Option Value} (H : St ⟨g, A, env, Z, s₀, G₀, N⟩ ⟨m, P, M, G⟩ s) (hC : cenv.locals = C) (hn : s.heap.Ns C mC) (hCL : env.locals ≤ C)
    (fC : Off ⟨g, A, env, Z, s₀, G₀, N⟩ P M G C) (fD : Off ⟨g, A, env, Z, s₀, G₀, N⟩ P M G D) (fI : Off ⟨g, A, env, Z, s₀, G₀, N⟩ P M G I) (hD : ∃ o, s.heap.get? D = some o) (hIl : ∃ o, s.heap.get? I = some o)
    (hCD : C ≠ D) (hCf : C ∉ fp) (hfp : ∀ b ∈ fp, ∀ p ∈ P ++ M, p.1 ≠ b) :
    St ⟨g, A, cenv, fpZ Z s.heap (env.locals :: D :: fp), s₀, G₀, I :: D :: env.locals :: N⟩ ⟨mC, P, M, G⟩ s := by
  have inL : ∀ b ∈ env.locals :: D :: fp, b ≠ C ∧ ∀ p ∈ P ++ M, p.1 ≠ b := fun b hb => by
    rcases List.mem_cons.mp hb with rfl | hb
    · exact ⟨Ne.symm fC.l, fun p hp => (H.nM p hp).1⟩
    · rcases List.mem_cons.mp hb with rfl | hb
      · exact ⟨Ne.symm hCD, fD.m⟩
      · exact ⟨fun q => hCf (q ▸ hb), hfp b hb⟩
  have zOf : ∀ b, (∀ c ∈ env.locals :: D :: fp, c ≠ b) → Z b = none → fpZ Z s.heap (env.locals :: D :: fp) b = none := fun b h1 h2 => by
    unfold fpZ
    rw [if_neg fun hm => h1 b hm rfl]; exact h2
  refine { sg := H.sg, sd := H.sd, so := H.so, base := H.base, keep := ?_, ns := by rw [show (Cx.env ⟨g, A, cenv, fpZ Z s.heap (env.locals :: D :: fp), s₀, G₀, I :: D :: env.locals :: N⟩).locals = C from hC]; exact hn, gg := H.gg, mm := H.mm, zL := ?_, gL := ?_, bL := ?_, nM := ?_, nd := H.nd, live := H.live, own := H.own, gf := H.gf, nn := ?_ }
  · intro b o e
    dsimp only [fpZ] at e
    split at e
    · exact e
    · exact H.keep b o e
  · show fpZ _ _ _ cenv.locals = none
    rw [hC]; exact zOf C (fun b hb => (inL b hb).1) fC.z
  · show G cenv.locals = none
    rw [hC]; exact fC.g
  · show g.base.objs.size ≤ cenv.locals
    rw [hC]; exact Nat.le_trans H.bL hCL
  · intro p hp
    have n := H.nM p hp
    refine ⟨?_, n.2.1, zOf _ (fun b hb q => (inL b hb).2 p hp q.symm) n.2.2.1, n.2.2.2⟩
    show p.1 ≠ cenv.locals
    rw [hC]; exact fC.m p hp
  · intro b hb
    rcases List.mem_cons.mp hb with rfl | hb
    · exact ⟨hIl, fI.g, fI.m⟩
    · rcases List.mem_cons.mp hb with rfl | hb
      · exact ⟨hD, fD.g, fD.m⟩
      · rcases List.mem_cons.mp hb with rfl | hb
        · obtain ⟨oL, _, _, hL, _⟩ := H.ns
          exact ⟨⟨oL, hL⟩, H.gL, fun p hp => (H.nM p hp).1⟩
        · exact H.nn b hb

/-- and back -/
theorem St.unblock {C D I : Addr} {fp : List Addr} {cenv : Env} {σ : Sg} {h₁ : Heap} {s' : Shared} (hC : cenv.locals = C) (H : St ⟨g, A, env, Z, s₀, G₀, N⟩ ⟨m, P, M, G⟩ s) (hh : s.heap = h₁)
    (H' : St ⟨g, A, cenv, fpZ Z h₁ (env.locals :: D :: fp), s₀, G₀, I :: D :: env.locals :: N⟩ σ s') : St ⟨g, A, env, Z, s₀, G₀, N⟩ ⟨m, σ.P, σ.M, σ.G⟩ s' := by
  subst hh
  have nL := H'.nn env.locals (.tail _ (.tail _ (.head _)))
  have sub : Sub Z (fpZ Z s.heap (env.locals :: D :: fp)) := sub_fpZ H.keep
  have kz : ∀ b o, b ∈ env.locals :: D :: fp → s.heap.get? b = some o → s'.heap.get? b = some o := fun b o hb e => H'.keep b o (by show fpZ _ _ _ _ = _; unfold fpZ; rw [if_pos hb]; exact e)
  refine { sg := H'.sg, sd := H'.sd, so := H'.so, base := H'.base, keep := fun b o e => H'.keep b o (sub b o e), ns := ?_, gg := H'.gg, mm := H'.mm, zL := H.zL, gL := nL.2.1, bL := H.bL, nM := ?_, nd := H'.nd, live := H'.live, own := H'.own, gf := H'.gf, nn := fun b hb => H'.nn b (.tail _ (.tail _ (.tail _ hb))) }
  · obtain ⟨oL, es, ep, hL, r⟩ := H.ns
    exact ⟨oL, es, ep, kz _ _ (.head _) hL, r⟩
  · intro p hp
    have n := H'.nM p hp
    refine ⟨nL.2.2 p hp, n.2.1, ?_, n.2.2.2⟩
    show Z p.1 = none
    cases q : Z p.1 with
    | none => rfl
    | some o => have := n.2.2.1; dsimp only at this; rw [sub _ _ q] at this; cases this
end

/-- a comprehension's tests -/
def tests (ifs : List Expr) (env : Env) : Sem Bool := forIn ifs true fun c r => if r = true then do let ok ← isTrue c env (eval c env); pure (ForInStep.yield ok) else pure (ForInStep.yield r)
theorem tests_nil {c : Cx} {env : Env} {B : Bool → Sg → Prop} {σ : Sg} (h : B true σ) : run c (tests [] env) B σ := fun _ H => wpAny_pure ⟨σ, H, h⟩
theorem tests_one {c : Cx} {e : Expr} {B : Bool → Sg → Prop} {σ : Sg} (h : run c (isTrue e c.env (eval e c.env)) B σ) : run c (tests [e] c.env) B σ := by
  unfold tests
  rw [List.forIn_cons, if_pos rfl]
  refine run_bind (run_bind (run_mono h fun b σ' q => run_pure ?_))
  show run c (forIn [] b _) B σ'
  rw [List.forIn_nil]
  exact run_pure q

section
variable {g : Gd} {A : Around} {env : Env} {Z : Hp} {s₀ : Shared} {G₀ : Hp} {N : List Addr}

/-- one comprehension, from its iterator on -/
theorem comp_run {s : Shared} {m₀ : Str → Option Value} {P₁ M₁ : List (Addr × Obj)} {G₁ : Hp} {elt iter : Expr} {x : Str} {px : Pos} {ifs : List Expr} {scope : Scope} {cl : List (Str × Addr)} {pos : Pos} {n : Nat} {Pr : Nat → Value → Prop} {I : Addr} {fp : List Addr} {Sx : Nat → Heap → Prop}
    {RR : Value → Addr → Result → Shared → Prop} {E : Value → Shared → Prop}
    (Inv : Nat → List Value → List (Addr × Obj) → List (Addr × Obj) → Hp → Prop)
    (W : Walks g.prog g.w A I fp [I] n Pr Sx) (hlv : ∀ i h, Sx i h → ∃ o, h.get? I = some o) (hI : I ∈ fp) (H : St ⟨g, A, env, Z, s₀, G₀, N⟩ ⟨m₀, P₁, M₁, G₁⟩ s) (fI : Off ⟨g, A, env, Z, s₀, G₀, N⟩ P₁ M₁ G₁ I) (hst : Sx 0 s.heap)
    (hfp : ∀ b ∈ fp, (∃ o, s.heap.get? b = some o) ∧ ∀ p ∈ P₁ ++ M₁, p.1 ≠ b) (h0 : Inv 0 [] P₁ M₁ G₁) (hsz : n ≤ sizeLine)
    (turn : ∀ i v ys P M G C Z' N' m, i < n → Pr i v → Inv i ys P M G → m x = some v → run ⟨g, A, compEnvC scope cl C env, Z', s₀, G₀, N'⟩ (tests ifs (compEnvC scope cl C env))
      (fun ok σ' => if ok then run ⟨g, A, compEnvC scope cl C env, Z', s₀, G₀, N'⟩ (eval elt (compEnvC scope cl C env)) (fun y σ'' => Inv (i + 1) (ys ++ [y]) σ''.P σ''.M σ''.G) σ' else Inv (i + 1) ys σ'.P σ'.M σ'.G) ⟨m, P, M, G⟩)
    (fin : ∀ D C s' ys P M G k mC, Inv n ys P M G → St ⟨g, A, env, Z, s₀, G₀, N⟩ ⟨m₀, P, M, G⟩ s' → Off ⟨g, A, env, Z, s₀, G₀, N⟩ P M G D → Off ⟨g, A, env, Z, s₀, G₀, N⟩ P M G C → C ≠ D → s'.heap.get? D = some (listOf ys.toArray k) → s'.heap.Ns C mC →
      RR (.ref D) C (.ok .next) s')
    (hcell : ∀ y ∈ scope.names, y.2 ≠ .cell) (hkind : scope.kind = .function) (hx : scope.names.lookup x = some .local) :
    wpAny (model g.prog g.w) A (newList []) (fun acc s₃ => wpAny (model g.prog g.w) A (newFunctionEnv scope env.globals cl [] env.qual none .none (some env)) (fun cenv s₄ =>
      codeAny (model g.prog g.w) A (.compStart (.ListComp elt [⟨.Name x px, iter, ifs, 0⟩] scope pos) 0 (.ref I) acc { cenv with scope := relabel scope env }) (RR acc cenv.locals) s₄) E s₃) E s := by
  refine wpAny_newObj_type (wpAny_newFunctionEnv hcell (by intro y hy; simp at hy) (fun h₁ hns₁ hsb₁ => ?_) hkind)
  dsimp only at hns₁ hsb₁ ⊢
  generalize hH2 : s.heap.push { cls := .type "list", dict := none, data := .seq ([] : List Value).toArray } = H2 at hns₁ hsb₁ ⊢
  have eC : H2.objs.size = s.heap.objs.size + 1 := by rw [← hH2, Heap.size_push]
  have up2 : ∀ b o, s.heap.get? b = some o → H2.get? b = some o := fun b o e => hH2 ▸ Heap.get?_push_of_some _ e
  have ltD : ∀ {b o}, s.heap.get? b = some o → b < s.heap.objs.size := fun e => Heap.lt_size e
  have hDC : s.heap.objs.size ≠ H2.objs.size := by rw [eC]; exact Nat.ne_of_lt (Nat.lt_succ_self _)
  have up : ∀ b o, s.heap.get? b = some o → h₁.get? b = some o := fun b o e => hsb₁.extBut b o (by have := ltD e; rw [eC]; exact Nat.ne_of_lt (Nat.lt_succ_of_lt this)) (Heap.get?_push_of_some _ (up2 b o e))
  have hD : h₁.get? s.heap.objs.size = some (listOf ([] : List Value).toArray 0) := hsb₁.extBut _ _ hDC (Heap.get?_push_of_some _ (hH2 ▸ Heap.get?_push_size _ rfl))
  have nC : s.heap.get? H2.objs.size = none := by
    cases q : s.heap.get? H2.objs.size with
    | none => rfl
    | some o => have := ltD q; rw [eC] at this; exact absurd this (Nat.not_lt.mpr (Nat.le_succ _))
  have fD := H.fresh (a := s.heap.objs.size) get_size
  have fC := H.fresh nC
  have H1 := H.grow (tk := s.toks + ([] : List (Str × Value)).length) up
  have hLC : env.locals ≤ H2.objs.size := by rw [eC]; exact Nat.le_succ_of_le (Nat.le_of_lt H.lt)
  have offp : ∀ a, s.heap.get? a = none → a ∉ fp := fun a ha hm => by
    obtain ⟨⟨o, e⟩, _⟩ := hfp a hm
    rw [ha] at e; cases e
  generalize hCn : H2.objs.size = C at *
  generalize hDn : s.heap.objs.size = D at *
  have hDf : D ∉ fp := offp D (hDn ▸ get_size)
  have hCf : C ∉ fp := offp C nC
  have hIC : I ≠ C := fun q => hCf (q ▸ hI)
  have hID : I ≠ D := fun q => hDf (q ▸ hI)
  let J : Nat → Shared → Prop := fun k s' => ∃ i ys P M G e mC, i + k = n + 1 ∧ i ≤ n ∧ St ⟨g, A, env, Z, s₀, G₀, N⟩ ⟨m₀, P, M, G⟩ s' ∧ Sx i s'.heap ∧ s'.heap.get? D = some (listOf ys.toArray e) ∧ s'.heap.Ns C mC ∧ Inv i ys P M G ∧ ys.length ≤ i ∧
    Off ⟨g, A, env, Z, s₀, G₀, N⟩ P M G I ∧ Off ⟨g, A, env, Z, s₀, G₀, N⟩ P M G D ∧ Off ⟨g, A, env, Z, s₀, G₀, N⟩ P M G C ∧ (∀ b ∈ fp, (∃ o, s'.heap.get? b = some o) ∧ ∀ p ∈ P ++ M, p.1 ≠ b)
  have loop : ∀ s₃ : Shared, s₃ = { s with heap := h₁, toks := s.toks + ([] : List (Str × Value)).length } →
      codeAny (model g.prog g.w) A (.compLoop (.ListComp elt [⟨.Name x px, iter, ifs, 0⟩] scope pos) 0 (.ref I) (.ref D) (compEnvC scope cl C env)) (RR (.ref D) C) s₃ := by
    rintro s₃ rfl
    refine codeAny_compLoop_tests J ?_ (n + 1) ⟨0, [], P₁, M₁, G₁, 0, _, by omega, Nat.zero_le _, H1, W.frame _ _ _ hst fun b _ o e => up b o e, hD, hns₁, h0, Nat.le_refl _, fI, fD, fC, fun b hb => by obtain ⟨⟨o, e⟩, r⟩ := hfp b hb; exact ⟨⟨o, up _ _ e⟩, r⟩⟩
    rintro k s' ⟨i, ys, P, M, G, e, mC, hik, hin, Hs, hst', hD', hn', hinv, hlen, fI', fD', fC', hfp'⟩
    by_cases hlt : i < n
    · refine W.item i s' _ _ hlt hst' fun v h₂ tk₂ hPv hst₂ hk₂ => ?_
      have k2 : ∀ b o, b ≠ I → s'.heap.get? b = some o → h₂.get? b = some o := fun b o hb e => hk₂ b o (by simpa using hb) e
      have Hs2 := Hs.move1 (tk := tk₂) fI' k2
      have hD2 := k2 _ _ (Ne.symm hID) hD'
      have hn2 : h₂.Ns C mC := by obtain ⟨oC, es, ep, hC, r⟩ := hn'; exact ⟨oC, es, ep, k2 _ _ (Ne.symm hIC) hC, r⟩
      have hxl : (compEnvC scope cl C env).kindOf x = some .local := lookup_relabel_local hx
      refine wpAny_assign_Name (wpAny_storeName_local hxl hn2 (fun h₃ hn₃ hs₃ => ?_) (by simp [compEnvC, relabel, hkind]))
      have k3 : ∀ b o, b ≠ C → h₂.get? b = some o → h₃.get? b = some o := fun b o hb e => (hs₃.2 b hb).trans e
      have Hs3 := Hs2.move1 (tk := tk₂ + 1) fC' k3
      have hD3 := k3 _ _ hDC hD2
      have hfp3 : ∀ b ∈ fp, (∃ o, h₃.get? b = some o) ∧ ∀ p ∈ P ++ M, p.1 ≠ b := fun b hb => by
        obtain ⟨⟨o, e⟩, r⟩ := hfp' b hb
        refine ⟨?_, r⟩
        by_cases q : b = I
        · obtain ⟨o', e'⟩ := hlv _ _ hst₂
          exact ⟨o', k3 _ _ (q ▸ hIC) (q ▸ e')⟩
        · exact ⟨o, k3 _ _ (fun q => hCf (q ▸ hb)) (k2 _ _ q e)⟩
      have hst3 : Sx (i + 1) h₃ := W.frame _ _ _ hst₂ fun b hb o e => k3 b o (fun q => hCf (q ▸ hb)) e
      have HB := Hs3.block (cenv := compEnvC scope cl C env) (I := I) (fp := fp) rfl hn₃ hLC fC' fD' fI' ⟨_, hD3⟩ (hfp3 I hI).1 (Ne.symm hDC) hCf (fun b hb => (hfp3 b hb).2)
      have hr := turn i v ys P M G C (fpZ Z h₃ (env.locals :: D :: fp)) (I :: D :: env.locals :: N) _ hlt hPv hinv (by simp) _ HB
      refine wpAny_mono hr (fun ok s₄ h₄ => ?_) fun _ _ e => e.elim
      obtain ⟨σ₄, H4, q4⟩ := h₄
      -- what stands behind a part run in the block
      have behind : ∀ {σ' : Sg} {s₅ : Shared}, St ⟨g, A, compEnvC scope cl C env, fpZ Z h₃ (env.locals :: D :: fp), s₀, G₀, I :: D :: env.locals :: N⟩ σ' s₅ →
          St ⟨g, A, env, Z, s₀, G₀, N⟩ ⟨m₀, σ'.P, σ'.M, σ'.G⟩ s₅ ∧ Sx (i + 1) s₅.heap ∧ s₅.heap.get? D = some (listOf ys.toArray e) ∧ (∃ mC', s₅.heap.Ns C mC') ∧
            Off ⟨g, A, env, Z, s₀, G₀, N⟩ σ'.P σ'.M σ'.G I ∧ Off ⟨g, A, env, Z, s₀, G₀, N⟩ σ'.P σ'.M σ'.G D ∧ Off ⟨g, A, env, Z, s₀, G₀, N⟩ σ'.P σ'.M σ'.G C ∧ (∀ b ∈ fp, (∃ o, s₅.heap.get? b = some o) ∧ ∀ p ∈ σ'.P ++ σ'.M, p.1 ≠ b) := by
        intro σ' s₅ H5
        have kz : ∀ b o, b ∈ env.locals :: D :: fp → h₃.get? b = some o → s₅.heap.get? b = some o := fun b o hb e => H5.keep b o (by show fpZ _ _ _ _ = _; unfold fpZ; rw [if_pos hb]; exact e)
        have nI := H5.nn I (.head _)
        have nD := H5.nn D (.tail _ (.head _))
        refine ⟨St.unblock rfl Hs3 rfl H5, W.frame _ _ _ hst3 fun b hb o e => kz b o (.tail _ (.tail _ hb)) e, kz _ _ (.tail _ (.head _)) hD3, ⟨_, H5.ns⟩, ⟨fI'.l, nI.2.2, fI'.z, nI.2.1, fI'.b, fI'.n, fI'.s⟩, ⟨fD'.l, nD.2.2, fD'.z, nD.2.1, fD'.b, fD'.n, fD'.s⟩, ⟨fC'.l, fun p hp => (H5.nM p hp).1, fC'.z, H5.gL, fC'.b, fC'.n, fC'.s⟩, fun b hb => ?_⟩
        obtain ⟨⟨o, eo⟩, _⟩ := hfp3 b hb
        refine ⟨⟨o, kz _ _ (.tail _ (.tail _ hb)) eo⟩, fun p hp q => ?_⟩
        have := (H5.nM p hp).2.2.1
        have e2 : fpZ Z h₃ (env.locals :: D :: fp) p.1 = some o := by unfold fpZ; rw [q, if_pos (.tail _ (.tail _ hb))]; exact eo
        dsimp only at this
        rw [this] at e2; cases e2
      cases ok with
      | false =>
        simp only [Bool.false_eq_true, if_false] at q4 ⊢
        obtain ⟨b1, b2, b3, ⟨mC', b4⟩, b5, b6, b7, b8⟩ := behind H4
        exact ⟨k - 1, by omega, i + 1, ys, _, _, _, e, mC', by omega, hlt, b1, b2, b3, b4, q4, by omega, b5, b6, b7, b8⟩
      | true =>
        simp only [if_true] at q4 ⊢
        refine wpAny_mono (q4 _ H4) (fun y s₅ h₅ => ?_) fun _ _ e => e.elim
        obtain ⟨σ₅, H5, q5⟩ := h₅
        obtain ⟨b1, b2, b3, ⟨mC', b4⟩, b5, b6, b7, b8⟩ := behind H5
        have hsl : (sizeLine : Nat) = sizeLine := rfl
        refine wpAny_list_append_plain ⟨e, b3⟩ (fun h₆ hp hs₆ => ?_) (by rw [List.size_toArray]; omega)
        obtain ⟨e', he'⟩ := hp
        have k6 : ∀ b o, b ≠ D → s₅.heap.get? b = some o → h₆.get? b = some o := fun b o hb e => (hs₆.2 b hb).trans e
        refine ⟨k - 1, by omega, i + 1, ys ++ [y], _, _, _, e', mC', by omega, hlt, b1.move1 (tk := s₅.toks) b6 k6, W.frame _ _ _ b2 fun b hb o e => k6 b o (fun q => hDf (q ▸ hb)) e, ?_, ?_, q5, ?_, b5, b6, b7, fun b hb => ?_⟩
        · rw [he']; simp
        · obtain ⟨oC, es, ep, hC, r⟩ := b4; exact ⟨oC, es, ep, k6 _ _ (Ne.symm hDC) hC, r⟩
        · simp; omega
        · obtain ⟨⟨o, eo⟩, r⟩ := b8 b hb
          exact ⟨⟨o, k6 _ _ (fun q => hDf (q ▸ hb)) eo⟩, r⟩
    · have e0 : i = n := by omega
      subst e0
      refine W.done s' _ _ hst' fun h₂ tk₂ hk₂ => ?_
      have k2 : ∀ b o, b ≠ I → s'.heap.get? b = some o → h₂.get? b = some o := fun b o hb e => hk₂ b o (by simpa using hb) e
      obtain ⟨oC, es, ep, hC, r⟩ := hn'
      exact fin D C _ ys P M G e mC hinv (Hs.move1 (tk := tk₂) fI' k2) fD' fC' (Ne.symm hDC) (k2 _ _ (Ne.symm hID) hD') ⟨oC, es, ep, k2 _ _ (Ne.symm hIC) hC, r⟩
  exact codeAny_compStart_list (loop _ rfl) (W.self 0 _ _ _ (W.frame _ _ _ hst fun b _ o e => up b o e) (loop _ rfl))
end

/-- list and tuple objects -/
def LO (o : Obj) (vs : List Value) : Prop := ∃ n, o = listOf vs.toArray n
def TO (o : Obj) (vs : List Value) : Prop := ∃ n, o = { cls := .type "tuple", data := .seq vs.toArray n }
theorem LO.mk {vs : List Value} {n : Nat} : LO (listOf vs.toArray n) vs := ⟨n, rfl⟩
theorem TO.mk {vs : List Value} {n : Nat} : TO { cls := .type "tuple", data := .seq vs.toArray n } vs := ⟨n, rfl⟩

section
variable {g : Gd} {A : Around} {env : Env} {Z : Hp} {s₀ : Shared} {G₀ : Hp} {N : List Addr} {σ : Sg} {elt iter : Expr} {x y : Str} {px py pos spos : Pos} {ifs : List Expr} {scope : Scope} {cl : List (Str × Addr)} {Q : Value → Sg → Prop} {F : Flow → Sg → Prop} {rest : List Stmt}
  {n : Nat} {Pr : Nat → Value → Prop}

theorem run_ListComp (Inv : Nat → List Value → List (Addr × Obj) → List (Addr × Obj) → Hp → Prop)
    (h : run ⟨g, A, env, Z, s₀, G₀, N⟩ (eval iter env) (fun v σ₁ => Iter ⟨g, A, env, Z, s₀, G₀, N⟩ σ₁ v n Pr ∧ Inv 0 [] σ₁.P σ₁.M σ₁.G ∧
      ∀ ys P M G d o, Inv n ys P M G → LO o ys → Q (.ref d) ⟨σ₁.m, P, (d, o) :: M, G⟩) σ)
    (turn : ∀ i v ys P M G C Z' N' m, i < n → Pr i v → Inv i ys P M G → m x = some v → run ⟨g, A, compEnvC scope cl C env, Z', s₀, G₀, N'⟩ (tests ifs (compEnvC scope cl C env))
      (fun ok σ' => if ok then run ⟨g, A, compEnvC scope cl C env, Z', s₀, G₀, N'⟩ (eval elt (compEnvC scope cl C env)) (fun y σ'' => Inv (i + 1) (ys ++ [y]) σ''.P σ''.M σ''.G) σ' else Inv (i + 1) ys σ'.P σ'.M σ'.G) ⟨m, P, M, G⟩)
    (hclos : closureFor scope env = pure cl) (hsz : n ≤ sizeLine)
    (hcell : ∀ y ∈ scope.names, y.2 ≠ .cell := by decide +kernel) (hkind : scope.kind = .function := by kernel_rfl)
    (hnames : ∀ y ∈ scope.names, y.2 = .local → scope.names.lookup y.1 = some .local := by decide +kernel) (hx : scope.names.lookup x = some .local := by kernel_rfl)
    (hs : ∀ x, foldedSetIterable iter env x = pure x := by intro _; kernel_rfl) :
    run ⟨g, A, env, Z, s₀, G₀, N⟩ (eval (.ListComp elt [⟨.Name x px, iter, ifs, 0⟩] scope pos) env) Q σ := by
  intro s H
  rw [eval_ListComp]
  refine wpAny_comprehension_free (use := none) rfl hs hclos hkind hnames (mono' h H fun v s₁ σ₁ H₁ q => ?_)
  obtain ⟨it, h0, hQ⟩ := q
  refine it s₁ H₁ _ fun s₂ I fp Sx H₂ W hst hlv hI hnew hfp kk => ?_
  have f₁ := H₁.fresh hnew
  refine comp_run (RR := fun acc C => compPost (model g.prog g.w) A (fun _ _ => False) none (fun v s' => ∃ σ', St ⟨g, A, env, Z, s₀, G₀, N⟩ σ' s' ∧ Q v σ') acc C) Inv W hlv hI H₂ ⟨f₁.l, f₁.m, f₁.z, f₁.g, f₁.b, f₁.n, f₁.s⟩ hst (fun b hb => ⟨(hfp b hb).1, (hfp b hb).2.2⟩) h0 hsz turn ?_ hcell hkind hx
  intro D C s' ys P M G k mC hinv H' fD fC hCD hD hC
  refine ⟨mC, hC, fun h' hs' => ?_⟩
  have H3 := H'.move1 (tk := s'.toks) fC fun b o hb e => (hs'.2 b hb).trans e
  exact ⟨_, H3.adopt fD ((hs'.2 D (Ne.symm hCD)).trans hD), hQ ys P M G D _ hinv LO.mk⟩

theorem st_assignComp (Inv : Nat → List Value → List (Addr × Obj) → List (Addr × Obj) → Hp → Prop)
    (h : run ⟨g, A, env, Z, s₀, G₀, N⟩ (eval iter env) (fun v σ₁ => Iter ⟨g, A, env, Z, s₀, G₀, N⟩ σ₁ v n Pr ∧ Inv 0 [] σ₁.P σ₁.M σ₁.G ∧
      ∀ ys P M G d o, Inv n ys P M G → LO o ys → run ⟨g, A, env, Z, s₀, G₀, N⟩ (execs rest env) F ⟨upd σ₁.m y (.ref d), P, (d, o) :: M, G⟩) σ)
    (turn : ∀ i v ys P M G C Z' N' m, i < n → Pr i v → Inv i ys P M G → m x = some v → run ⟨g, A, compEnvC scope cl C env, Z', s₀, G₀, N'⟩ (tests ifs (compEnvC scope cl C env))
      (fun ok σ' => if ok then run ⟨g, A, compEnvC scope cl C env, Z', s₀, G₀, N'⟩ (eval elt (compEnvC scope cl C env)) (fun y σ'' => Inv (i + 1) (ys ++ [y]) σ''.P σ''.M σ''.G) σ' else Inv (i + 1) ys σ'.P σ'.M σ'.G) ⟨m, P, M, G⟩)
    (hclos : closureFor scope env = pure cl) (hsz : n ≤ sizeLine)
    (hsw : swapsWith (.ListComp elt [⟨.Name x px, iter, ifs, 0⟩] scope pos) (some (.Name y py)) spos.line env = pure true := by kernel_rfl)
    (hcell : ∀ y ∈ scope.names, y.2 ≠ .cell := by decide +kernel) (hkind : scope.kind = .function := by kernel_rfl)
    (hnames : ∀ y ∈ scope.names, y.2 = .local → scope.names.lookup y.1 = some .local := by decide +kernel) (hx : scope.names.lookup x = some .local := by kernel_rfl)
    (hy : env.kindOf y = some .local := by kernel_rfl) (hp : (env.scope.kind == .class || (env.scope.kind == .module && env.locals != env.globals)) = false := by kernel_rfl)
    (hs : ∀ x, foldedSetIterable iter env x = pure x := by intro _; kernel_rfl) :
    run ⟨g, A, env, Z, s₀, G₀, N⟩ (execs (.Assign [.Name y py] (.ListComp elt [⟨.Name x px, iter, ifs, 0⟩] scope pos) spos :: rest) env) F σ := by
  refine st_cons (c := ⟨g, A, env, Z, s₀, G₀, N⟩) fun s H => ?_
  dsimp only
  rw [exec_Assign_Name_used _ _ _ _ hsw]
  refine wpAny_bind (wpAny_standAt (wpAny_bind ?_))
  show wpAny _ A (do let _ ← comprehension (.ListComp elt [⟨.Name x px, iter, ifs, 0⟩] scope pos) scope env _ (newList []) false (eval iter env) (some (assign (.Name y py) env))) _ _ s
  refine wpAny_bind (wpAny_mono (wpAny_comprehension_free (use := some (assign (.Name y py) env)) (Q := fun _ s' => ∃ σ', St ⟨g, A, env, Z, s₀, G₀, N⟩ σ' s' ∧ run ⟨g, A, env, Z, s₀, G₀, N⟩ (execs rest env) F σ') (E := fun _ _ => False) rfl hs hclos hkind hnames
    (mono' h H fun v s₁ σ₁ H₁ q => ?_)) (fun _ s' hq => wpAny_pure (wpAny_pure hq)) fun _ _ e => e)
  obtain ⟨it, h0, hQ⟩ := q
  refine it s₁ H₁ _ fun s₂ I fp Sx H₂ W hst hlv hI hnew hfp kk => ?_
  have f₁ := H₁.fresh hnew
  refine comp_run (RR := fun acc C => compPost (model g.prog g.w) A (fun _ _ => False) (some (assign (.Name y py) env)) (fun _ s' => ∃ σ', St ⟨g, A, env, Z, s₀, G₀, N⟩ σ' s' ∧ run ⟨g, A, env, Z, s₀, G₀, N⟩ (execs rest env) F σ') acc C) Inv W hlv hI H₂ ⟨f₁.l, f₁.m, f₁.z, f₁.g, f₁.b, f₁.n, f₁.s⟩ hst (fun b hb => ⟨(hfp b hb).1, (hfp b hb).2.2⟩) h0 hsz turn ?_ hcell hkind hx
  intro D C s' ys P M G k mC hinv H' fD fC hCD hD hC
  have H3 := H'.adopt fD hD
  have fC' : Off ⟨g, A, env, Z, s₀, G₀, N⟩ P ((D, listOf ys.toArray k) :: M) G C := ⟨fC.l, fun p hp => by
    rcases List.mem_append.mp hp with h | h
    · exact fC.m p (List.mem_append_left _ h)
    · rcases List.mem_cons.mp h with rfl | h
      · exact Ne.symm hCD
      · exact fC.m p (List.mem_append_right _ h), fC.z, fC.g, fC.b, fC.n, fC.s⟩
  show wpAny _ A (assign (.Name y py) env (.ref D)) _ _ _
  refine wpAny_assign_Name (wpAny_storeName_local hy H3.ns (fun h₂ hn₂ hs₂ => ?_) hp)
  have H4 := H3.locals (m' := upd σ₁.m y (.ref D)) (tk := s'.toks + 1) hn₂ fun a o ha e => (hs₂.2 a ha).trans e
  refine ⟨mC, hC.sameBut hs₂ fC.l, fun h₃ hs₃ => ?_⟩
  exact ⟨_, H4.move1 (tk := s'.toks + 1) fC' fun b o hb e => (hs₃.2 b hb).trans e, hQ ys P M G D _ hinv LO.mk⟩
end

section
variable {c : Cx} {σ : Sg} {Q : Value → Sg → Prop} {U : Unit → Sg → Prop} {B : Bool → Sg → Prop} {a b : Int} {t u : Tok} {x y : Str} {v : Value} {pos : Pos}

theorem op_add (h : ∀ t, Q (.int (a + b) t) σ) : run c (binaryOp .Add (.int a t) (.int b u)) Q σ := fun _ H => PyProof.Rows.add_int ⟨σ, H.tok, h _⟩
theorem op_sub (h : ∀ t, Q (.int (a - b) t) σ) : run c (binaryOp .Sub (.int a t) (.int b u)) Q σ := fun _ H => PyProof.Rows.sub_int ⟨σ, H.tok, h _⟩
theorem op_mul (hm : IntMulOk a b) (h : ∀ t, Q (.int (a * b) t) σ) : run c (binaryOp .Mult (.int a t) (.int b u)) Q σ := fun _ H => PyProof.Rows.mul_int ⟨σ, H.tok, h _⟩ hm
theorem op_mod (hb : b ≠ 0) (h : ∀ t, Q (.int (a.fmod b) t) σ) : run c (binaryOp .Mod (.int a t) (.int b u)) Q σ := fun _ H => PyProof.Rows.mod_int hb ⟨σ, H.tok, h _⟩
theorem op_fdiv (hb : b ≠ 0) (hp : b.natAbs < 1073741824) (h : ∀ t, Q (.int (a.fdiv b) t) σ) : run c (binaryOp .FloorDiv (.int a t) (.int b u)) Q σ := fun _ H => PyProof.Rows.floordiv_int hb ⟨σ, H.tok, h _⟩ (.inl (PyProof.noPylong_small hp))
theorem op_neg (h : ∀ t, Q (.int (-a) t) σ) : run c (unaryOp .USub (.int a t)) Q σ := fun _ H => PyProof.Rows.neg_int ⟨σ, H.tok, h _⟩

theorem cmp_eq (h : Q (.bool (a == b)) σ) : run c (compareOp .Eq (.int a t) (.int b u)) Q σ := fun _ H => PyProof.Rows.eq_int ⟨σ, H, h⟩
theorem cmp_ne (h : Q (.bool (a != b)) σ) : run c (compareOp .NotEq (.int a t) (.int b u)) Q σ := fun _ H => PyProof.Rows.ne_int ⟨σ, H, h⟩
theorem cmp_lt (h : Q (.bool (decide (a < b))) σ) : run c (compareOp .Lt (.int a t) (.int b u)) Q σ := fun _ H => PyProof.Rows.lt_int ⟨σ, H, h⟩
theorem cmp_gt (h : Q (.bool (decide (b < a))) σ) : run c (compareOp .Gt (.int a t) (.int b u)) Q σ := fun _ H => PyProof.Rows.gt_int ⟨σ, H, h⟩
theorem cmp_le (h : Q (.bool (decide (a ≤ b))) σ) : run c (compareOp .LtE (.int a t) (.int b u)) Q σ := fun _ H => PyProof.Rows.le_int ⟨σ, H, h⟩
theorem cmp_ge (h : Q (.bool (decide (b ≤ a))) σ) : run c (compareOp .GtE (.int a t) (.int b u)) Q σ := fun _ H => PyProof.Rows.ge_int ⟨σ, H, h⟩
theorem cmp_ne_none (h : Q (.bool true) σ) : run c (compareOp .NotEq .none (.int b u)) Q σ := fun _ H => PySem.EqNone.ne_none_int ⟨σ, H, h⟩
theorem cmp_eq_str (h : Q (.bool (x == y)) σ) : run c (compareOp .Eq (.str x t) (.str y u)) Q σ := fun _ H => PyProof.Rows.eq_str ⟨σ, H, h⟩
theorem cmp_ne_str (h : Q (.bool (x != y)) σ) : run c (compareOp .NotEq (.str x t) (.str y u)) Q σ := fun _ H => PyProof.Rows.ne_str ⟨σ, H, h⟩

/-! ### lists and tuples -/
variable {l : Addr} {o : Obj} {vs : List Value}
theorem St.list (H : St c σ s) (hl : At σ l o) (ho : LO o vs) : s.heap.IsList l vs.toArray := by
  obtain ⟨n, rfl⟩ := ho
  exact ⟨_, H.at hl, rfl, n, rfl⟩
theorem St.tup (H : St c σ s) (hl : At σ l o) (ho : TO o vs) : IsTup s.heap l vs.toArray := by
  obtain ⟨n, rfl⟩ := ho
  exact ⟨_, H.at hl, rfl, n, rfl⟩
theorem call_len (hl : At σ l o) (ho : LO o vs) (hf : vs.length < 2 ^ 62) (h : ∀ t, Q (.int vs.length t) σ) : run c (call (.builtin "len") [.ref l]) Q σ := fun s H =>
  PyProof.Rows.len_list (H.list hl ho) (by rw [List.size_toArray]; omega) (by rw [List.size_toArray]; exact ⟨σ, H.tok, h _⟩)
theorem call_append {gP gM : Obj → List (Addr × Obj)} (hU : ChgG σ l o gP gM) (ho : LO o vs) (hf : vs.length < 2 ^ 20) (h : ∀ o', LO o' (vs ++ [v]) → Q .none { σ with P := gP o', M := gM o' }) : run c (call (.builtin "list.append") [.ref l, v]) Q σ := fun s H => by
  obtain ⟨n, rfl⟩ := ho
  refine wpAny_list_append_plain ⟨n, H.at hU.at⟩ (fun h' hp hs => ?_) (by rw [List.size_toArray]; have : sizeLine = 16777216 := rfl; omega)
  obtain ⟨n', hn'⟩ := hp
  have e : vs.toArray.push v = (vs ++ [v]).toArray := by simp
  rw [e] at hn'
  exact ⟨_, H.chg (tk := s.toks) (hU.chg _) hn' (fun b x hb e => (hs.2 b hb).trans e), h _ LO.mk⟩
theorem item_list {k : Int} (hl : At σ l o) (ho : LO o vs) (h0 : 0 ≤ k) (hk : k < 2 ^ 62) (hx : vs[k.toNat]? = some v) (h : Q v σ) : run c (getItem (.ref l) (.int k u)) Q σ := fun s H =>
  wpAny_getItem_list (H.list hl ho) h0 (by omega) (by simpa using hx) ⟨σ, H, h⟩
theorem item_tup {k : Int} (hl : At σ l o) (ho : TO o vs) (h0 : 0 ≤ k) (hk : k < 2 ^ 62) (hx : vs[k.toNat]? = some v) (h : Q v σ) : run c (getItem (.ref l) (.int k u)) Q σ := fun s H => by
  have hlt : k.toNat < vs.length := (List.getElem?_eq_some_iff.mp hx).1
  exact PyProof.Rows.getItem_tuple (H.tup hl ho) (by omega) (by omega) (j := k.toNat) (by rw [List.size_toArray]; exact seqIndex_of h0 (by omega)) (by simpa using hx) ⟨σ, H, h⟩

theorem run_Subscript {e i : Expr} (h : run c (eval e c.env) (fun o σ₁ => run c (eval i c.env) (fun k σ₂ => run c (subscriptTail e i o k) Q σ₂) σ₁) σ) : run c (eval (.Subscript e i pos) c.env) Q σ :=
  fun s H => PyProof.Rows.Subscript_ (mono' h H fun _ _ _ h₁ q => mono' q h₁ fun _ s₂ _ h₂ q₂ => q₂ s₂ h₂)
theorem sub_list {e i : Expr} {k : Int} (hl : At σ l o) (ho : LO o vs) (h0 : 0 ≤ k) (hk : k < 2 ^ 62) (hx : vs[k.toNat]? = some v) (h : Q v σ)
    (hs : subscripted i false (.ref l) (.int k u) = operate [.ref l, .int k u] (getItem (.ref l) (.int k u)) := by kernel_rfl) : run c (subscriptTail e i (.ref l) (.int k u)) Q σ := fun s H =>
  tail_any (H.list hl ho).typeIs slot_list_getitem.lookup (item_list hl ho h0 hk hx h s H) hs
theorem sub_tup {e i : Expr} {k : Int} (hl : At σ l o) (ho : TO o vs) (h0 : 0 ≤ k) (hk : k < 2 ^ 62) (hx : vs[k.toNat]? = some v) (h : Q v σ)
    (hs : subscripted i false (.ref l) (.int k u) = operate [.ref l, .int k u] (getItem (.ref l) (.int k u)) := by kernel_rfl) : run c (subscriptTail e i (.ref l) (.int k u)) Q σ := fun s H =>
  tail_any (H.tup hl ho).typeIs slot_tuple_getitem.lookup (item_tup hl ho h0 hk hx h s H) hs

/-! ### dicts -/
theorem dp_of {p : Program} {w : World} {K : Type} [DecidableEq K] {knd : KeyKind p w K} {h : Heap} {d : Addr} {o : Obj} {kvs : List (K × Value)} (ho : h.get? d = some o) (x : o.IsDictOf knd kvs) : h.DictOf knd d kvs := Heap.dictOf_iff.mpr ⟨o, ho, x⟩
abbrev SD (c : Cx) (o : Obj) (kvs : List (Str × Value)) : Prop := o.IsDictOf (strKind c.g.prog c.g.w) kvs
abbrev ID (c : Cx) (o : Obj) (kvs : List (Int × Value)) : Prop := o.IsDictOf (intKind c.g.prog c.g.w) kvs

theorem getItem_str {d : Addr} {kvs : List (Str × Value)} (hd : At σ d o) (ho : SD c o kvs) (hv : valueAt kvs x = some v) (h : Q v σ) : run c (getItem (.ref d) (.str x t)) Q σ := fun s H =>
  wpAny_getItem_of (knd := strKind c.g.prog c.g.w) (strKind_is _ _ x t) (dp_of (H.at hd) ho).mapOf hv ⟨σ, H.tok, h⟩
theorem sub_str {e i : Expr} {d : Addr} {kvs : List (Str × Value)} (hd : At σ d o) (ho : SD c o kvs) (hv : valueAt kvs x = some v) (h : Q v σ)
    (hs : subscripted i false (.ref d) (.str x t) = operate [.ref d, .str x t] (getItem (.ref d) (.str x t)) := by kernel_rfl) : run c (subscriptTail e i (.ref d) (.str x t)) Q σ := fun s H =>
  tail_any (dp_of (H.at hd) ho).typeIs slot_dict_getitem.lookup (getItem_str hd ho hv h s H) hs
theorem setItem_dict {K : Type} [DecidableEq K] {knd : KeyKind c.g.prog c.g.w K} {k : K} {key : Value} {d : Addr} {kvs : List (K × Value)} {gP gM : Obj → List (Addr × Obj)} (hk : knd.is k key = true) (hU : ChgG σ d o gP gM) (ho : o.IsDictOf knd kvs) (hz : kvs.length ≤ 1000)
    (h : ∀ o', o'.IsDictOf knd (stored kvs k v) → U () { σ with P := gP o', M := gM o' }) : run c (setItem (.ref d) key v) U σ := fun s H =>
  wpAny_setItem_pairs (knd := knd) hk (dp_of (H.at hU.at) ho) (fun h' hd hs => by
    obtain ⟨o', ho', hp⟩ := Heap.dictOf_iff.mp hd
    exact ⟨_, H.chg (tk := s.toks + 1) (hU.chg o') ho' (fun b y hb e => (hs.2 b hb).trans e), h o' hp⟩) (by have : sizeLine = 16777216 := rfl; omega)
theorem setItem_str {d : Addr} {kvs : List (Str × Value)} {gP gM : Obj → List (Addr × Obj)} (hU : ChgG σ d o gP gM) (ho : SD c o kvs) (hz : kvs.length ≤ 1000)
    (h : ∀ o', SD c o' (stored kvs x v) → U () { σ with P := gP o', M := gM o' }) : run c (setItem (.ref d) (.str x t) v) U σ := setItem_dict (strKind_is _ _ x t) hU ho hz h
theorem setItem_int {d : Addr} {kvs : List (Int × Value)} {gP gM : Obj → List (Addr × Obj)} (hU : ChgG σ d o gP gM) (ho : ID c o kvs) (hz : kvs.length ≤ 1000)
    (h : ∀ o', ID c o' (stored kvs a v) → U () { σ with P := gP o', M := gM o' }) : run c (setItem (.ref d) (.int a t) v) U σ := setItem_dict (intKind_is _ _ a t) hU ho hz h
theorem len_dictR {d : Addr} {kvs : List (Int × Value)} (hlo : (d == sysModules) = false) (hd : At σ d o) (ho : ID c o kvs) (hz : kvs.length < 2 ^ 62) (h : ∀ t, Q (.int kvs.length t) σ) : run c (call (.builtin "len") [.ref d]) Q σ := fun s H =>
  call_len_dict (knd := intKind c.g.prog c.g.w) hlo (dp_of (H.at hd) ho) (by omega) ⟨σ, H.tok, h _⟩
theorem notIn_dict {d : Addr} {kvs : List (Int × Value)} (hlo : (d == sysModules) = false) (hd : At σ d o) (ho : ID c o kvs) (h : Q (.bool (!(valueAt kvs a).isSome)) σ) : run c (compareOp .NotIn (.int a t) (.ref d)) Q σ := fun s H =>
  wpAny_notIn_of (knd := intKind c.g.prog c.g.w) (intKind_is _ _ a t) hlo (dp_of (H.at hd) ho).mapOf ⟨σ, H.tok, h⟩
theorem sysLow (H : St c σ s) : (s.heap.objs.size == sysModules) = false :=
  H.fr.notModules (modules_low c.g.T.nolimit)
theorem run_Dict0 (h : ∀ d o, (d == sysModules) = false → ID c o [] → Q (.ref d) { σ with M := (d, o) :: σ.M }) : run c (eval (.Dict [] [] pos) c.env) Q σ := fun s H =>
  Dict_empty_made2 H.fr H.news (modules_low c.g.T.nolimit) fun h' o F' N' lo a b c' e _ => by
    have n := N' _ (.head _)
    dsimp only at n
    refine ⟨_, H.backNew (tk := s.toks) F' N' (fun p hp => .tail _ hp) (.head _) (fun p hp => Nat.ne_of_lt (Heap.lt_size (mem_allNew.mp hp).1)), h _ o lo ?_⟩
    exact c'
end

theorem size_of {a b : Int} {n : Nat} (h : b - a = n) : Builtin.Range.rangeSize a b 1 = (n : Int) := by rw [rangeSize_nat]; omega
theorem small_of {a b : Int} (h1 : -1000000 ≤ a) (h2 : a ≤ 1000000) (h3 : -1000000 ≤ b) (h4 : b ≤ 1000000) : Builtin.Range.small a b 1 = true := by
  have hs := rangeSize_nat a b
  unfold Builtin.Range.small
  rw [hs]
  have e : ∀ x : Int, -3000000 ≤ x → x ≤ 3000000 → Builtin.Range.rangeFitsLong x = true := fun x h1 h2 => by
    unfold Builtin.Range.rangeFitsLong
    simp
    omega
  rw [e a (by omega) (by omega), e b (by omega) (by omega), e 1 (by omega) (by omega), e _ (by omega) (by omega), e (b + (1 - 1)) (by omega) (by omega)]
  simp

section
variable {c : Cx} {σ : Sg} {Q : Value → Sg → Prop} {U : Unit → Sg → Prop} {B : Bool → Sg → Prop} {a b : Int} {t u : Tok} {x y : Str} {v : Value} {pos : Pos} {l l' d : Addr} {o o' : Obj} {vs ws : List Value} {s : Shared}

theorem St.at' {a : Addr} {o : Obj} (h : At σ a o) : ∀ s, St c σ s → s.heap.get? a = some o := fun s H => H.at h
theorem call_range1 (h : ∀ d t u v, Q (.ref d) { σ with M := (d, rangeObj 0 a t u v) :: σ.M }) : run c (call (.type "range") [.int a t]) Q σ := fun s H =>
  call_range_1 ⟨_, H.new (tk := s.toks + 1 + 1) get_size (Heap.get?_push_size _ rfl) (fun _ _ e => Heap.get?_push_of_some _ e), h _ _ _ _⟩
theorem call_range2 (h : ∀ d t u v, Q (.ref d) { σ with M := (d, rangeObj a b t u v) :: σ.M }) : run c (call (.type "range") [.int a t, .int b u]) Q σ := fun s H =>
  call_range_2 ⟨_, H.new (tk := s.toks + 1) get_size (Heap.get?_push_size _ rfl) (fun _ _ e => Heap.get?_push_of_some _ e), h _ _ _ _⟩
theorem call_max (hh : c.A.handled = none) (h : ∀ t, Q (.int (if b > a then b else a) t) σ) : run c (call (.builtin "max") [.int a t, .int b u]) Q σ := fun s H =>
  max_two_ints hh fun h' tk hk => by
    split
    · rename_i q; have := h u; rw [if_pos q] at this; exact ⟨_, H.grow hk, this⟩
    · rename_i q; have := h t; rw [if_neg q] at this; exact ⟨_, H.grow hk, this⟩
theorem call_listL (hl : At σ l o) (ho : LO o vs) (hz : vs.length < 2 ^ 20) (h : ∀ d o', LO o' vs → Q (.ref d) { σ with M := (d, o') :: σ.M }) : run c (call (.type "list") [.ref l]) Q σ := fun s H => by
  obtain ⟨n, rfl⟩ := ho
  refine call_list_seq l (.inl rfl) (H.at hl) rfl rfl (fun h' c' hk hD => ?_) (by rw [List.size_toArray]; have : sizeLine = 16777216 := rfl; omega)
  exact ⟨_, H.new (tk := s.toks) get_size hD hk, h _ _ LO.mk⟩
theorem call_listRange {r : Addr} {t u v : Tok} {n : Nat} (hh : c.A.handled = none) (hr : At σ r (rangeObj 0 n t u v)) (hn : n ≤ 1000) (h : ∀ d o' ys, LO o' ys → ys.length = n → (∀ i, i < n → ∃ t, ys[i]? = some (.int i t)) → Q (.ref d) { σ with M := (d, o') :: σ.M }) :
    run c (call (.type "list") [.ref r]) Q σ := fun s H => by
  refine call_list_range hh (H.at hr) (small_of (by omega) (by omega) (by omega) (by omega)) (size_of (n := n) (by omega)) (by omega) fun h' tk acc' c' hk hD hi => ?_
  refine ⟨_, H.new (tk := tk) get_size hD hk, h _ _ acc'.toList ⟨c', by simp⟩ (by simpa using hi.1) fun i hi' => ?_⟩
  have h2 : i < acc'.size := by rw [hi.1]; exact hi'
  obtain ⟨t, e⟩ := hi.2 i acc'[i] (by simp [h2])
  exact ⟨t, by simp [h2, e]⟩
theorem add_lists2 (hl : At σ l o) (ho : LO o vs) (hl' : At σ l' o') (ho' : LO o' ws) (hz : vs.length + ws.length ≤ 1000) (h : ∀ d o₂, LO o₂ (vs ++ ws) → Q (.ref d) { σ with M := (d, o₂) :: σ.M }) : run c (binaryOp .Add (.ref l) (.ref l')) Q σ := fun s H =>
  add_arrays H.fr H.news (H.list hl ho) (H.list hl' ho') (fun h' F' N' => ⟨_, H.backNew (tk := s.toks) F' N' (fun p hp => .tail _ hp) (.head _) (fun p hp => Nat.ne_of_lt (Heap.lt_size (mem_allNew.mp hp).1)), h _ _ (by simpa using LO.mk (vs := vs ++ ws))⟩)
    (by rw [List.size_toArray, List.size_toArray]; have : sizeLine = 16777216 := rfl; omega)
theorem call_sorted {ns : List Int} (hl : At σ l o) (ho : LO o vs) (hi : IntsAre vs ns) (hz : vs.length < 64) (h : ∀ d o' vs' ns', LO o' vs' → IntsAre vs' ns' → ns'.Perm ns → ns'.Pairwise (· ≤ ·) → Q (.ref d) { σ with M := (d, o') :: σ.M }) :
    run c (call (.builtin "sorted") [.ref l]) Q σ := fun s H =>
  sorted_N H.fr H.news (H.list hl ho) hi hz fun h' vs' ns' e F' N' a1 a2 a3 => by
    refine ⟨_, H.backNew (tk := s.toks) F' N' (fun p hp => .tail _ hp) (.head _) (fun p hp => Nat.ne_of_lt (Nat.lt_succ_of_lt (Heap.lt_size (mem_allNew.mp hp).1))), h _ _ vs' ns' ⟨e, rfl⟩ a1 a2 a3⟩
theorem call_chr (h0 : 0 ≤ a) (h1 : a ≤ 1114111) (h : ∀ t, Q (.str ⟨#[a.toNat]⟩ t) σ) : run c (call (.builtin "chr") [.int a t]) Q σ := fun s H => chr_of_range h0 h1 ⟨σ, H.tok, h _⟩
theorem isi_int (h : Q (.bool true) σ) : run c (call (.builtin "isinstance") [.int a t, .type "int"]) Q σ := fun s H => IsiPair.int_int ⟨σ, H, h⟩
theorem isi_str (h : Q (.bool false) σ) : run c (call (.builtin "isinstance") [.str x t, .type "int"]) Q σ := fun s H => IsiPair.str_int ⟨σ, H.tok, h⟩
theorem in_tup {ys : List Str} (hl : At σ l o) (ho : TO o vs) (hi : StrsAre vs ys) (h : Q (.bool (ys.any (· == x))) σ) : run c (compareOp .In (.str x t) (.ref l)) Q σ := fun s H =>
  in_tuple_strs (H.tup hl ho) (by simpa using hi) ⟨σ, H, h⟩

theorem run_appendCall {e oe : Expr} {apos : Pos} (h : run c (eval oe c.env) (fun ov σ₁ => ∃ l o vs, ov = .ref l ∧ At σ₁ l o ∧ LO o vs ∧ run c (eval e c.env) (fun y σ₂ => run c (call (.builtin "list.append") [.ref l, y]) Q σ₂) σ₁) σ)
    (hbase : attributeBase oe "append" c.env (eval oe c.env) = eval oe c.env := by kernel_rfl)
    (hfew : ((backTo pos (starEach [e] c.env)).all (fun x => !x.1) && (backToKw pos (keywordEach [] c.env)).all (fun x => x.1.isSome)
      && decide (([e] : List Expr).length + ([] : List Keyword).length + (if ([] : List Keyword).isEmpty then 0 else 1) < 30)) = true := by kernel_rfl)
    (hline : (apos.endLine == pos.line) = true := by kernel_rfl)
    (htrees : backTo pos (starEach [e] c.env) = [(false, eval e c.env)] := by kernel_rfl) : run c (eval (.Call (.Attribute oe "append" apos) [e] [] pos) c.env) Q σ := fun s H =>
  wpAny_Call_append hbase hfew hline htrees (mono' h H fun ov s₁ σ₁ H₁ q => by
    obtain ⟨l, o, vs, rfl, hl, ⟨n, rfl⟩, hc⟩ := q
    exact ⟨l, vs.toArray, rfl, ⟨_, n, H₁.at hl, rfl, rfl, rfl⟩, mono' hc H₁ fun y s₂ _ H₂ q₂ => q₂ s₂ H₂⟩)
theorem run_get {e oe : Expr} {apos : Pos} (h : run c (eval oe c.env) (fun ov σ₁ => ∃ d o kvs, ov = .ref d ∧ (d == sysModules) = false ∧ At σ₁ d o ∧ SD c o kvs ∧ run c (eval e c.env) (fun k σ₂ => ∃ x t, k = .str x t ∧ At σ₂ d o ∧ Q ((valueAt kvs x).getD .none) σ₂) σ₁) σ)
    (hbase : attributeBase oe "get" c.env (eval oe c.env) = eval oe c.env := by kernel_rfl) (hline : (apos.endLine == pos.line) = true := by kernel_rfl)
    (htrees : backTo pos (starEach [e] c.env) = [(false, eval e c.env)] := by kernel_rfl) : run c (eval (.Call (.Attribute oe "get" apos) [e] [] pos) c.env) Q σ := fun s H =>
  wpAny_Call_method1_late hbase hline htrees (mono' h H fun ov s₁ σ₁ H₁ q => by
    obtain ⟨d, o, kvs, rfl, lo, hd, ho, hc⟩ := q
    have hm := dp_of (H₁.at hd) ho
    refine ⟨"dict", "dict.get", PySem.F.plainAttrs_dict, PySem.F.slot_dict_get, PySem.F.type_dict_get, hm.mapOf.typeIs, fun a e => ?_, ?_⟩
    · cases e
      obtain ⟨es, ep, he, _⟩ := ho
      exact ⟨o, H₁.at hd, he.2.1⟩
    · exact wpAny_dict_get1 (knd := strKind c.g.prog c.g.w) lo (mono' hc H₁ fun k s₂ σ₂ H₂ q₂ => by
        obtain ⟨x, t, rfl, hd₂, q₂⟩ := q₂
        exact ⟨x, _, strKind_is _ _ x t, (dp_of (H₂.at hd₂) ho).mapOf, σ₂, H₂.tok, q₂⟩))
end

section
variable {c : Cx} {σ : Sg} {Q : Value → Sg → Prop} {pos p : Pos} {v : Value} {l : Addr} {o : Obj} {vs : List Value}

/-- a cut from the front on: e[:n] -/
theorem run_cut {e up : Expr} (h : run c (eval e c.env) (fun ov σ₁ => run c (eval up c.env) (fun uv σ₂ => ∃ (l : Addr) (vs : List Value) (n : Nat) (t : Tok), ov = .ref l ∧ uv = .int n t ∧ (∀ s, St c σ₂ s → s.heap.IsList l vs.toArray) ∧ vs.length ≤ 100000 ∧
      ∀ d o, LO o (vs.take n) → Q (.ref d) { σ₂ with M := (d, o) :: σ₂.M }) σ₁) σ)
    (hp : ∀ M A E Q s, wpAny M A (eval up c.env) Q E s → wpAny M A (evalPart (some up) c.env) Q E s := by intro _ _ _ _ _ h; exact h)
    (ht : ∀ o r, letTemporaryGo e o r = pure () := by intro _ _; kernel_rfl) : run c (eval (.Subscript e (.Slice none (some up) none p) pos) c.env) Q σ := fun s H =>
  wpAny_Subscript_list_slice (mono' h H fun ov s₁ σ₁ H₁ q => by
    rw [evalPart_none]
    refine wpAny_pure (hp _ _ _ _ _ (mono' q H₁ fun uv s₂ σ₂ H₂ q₂ => ?_))
    obtain ⟨l, vs, n, t, rfl, rfl, hl, hz, k⟩ := q₂
    refine ⟨l, vs.toArray, none, some (n : Int), rfl, hl s₂ H₂, by rw [List.size_toArray]; have : sizeLine = 16777216 := rfl; omega, .none, .int _ _, ?_⟩
    rw [slicePick_upto']
    have H3 := H₂.grow (tk := s₂.toks) (h' := s₂.heap.push { cls := .type "slice", data := .fields #[.none, .int n t, .none] }) fun _ _ e => Heap.get?_push_of_some _ e
    have H4 := H3.new (tk := s₂.toks) (d := (s₂.heap.push { cls := .type "slice", data := .fields #[.none, .int n t, .none] }).objs.size) (o := { cls := .type "list", data := .seq (vs.toArray.toList.take n).toArray }) get_size (Heap.get?_push_size _ rfl) (fun _ _ e => Heap.get?_push_of_some _ e)
    rw [Heap.size_push] at H4
    exact ⟨_, H4, k _ _ ⟨0, by simp⟩⟩) ht

theorem run_Dict1 {kx vx : Expr} (h : ∀ d o, (d == sysModules) = false → SD c o [] → run c (eval kx c.env) (fun k σ₁ => run c (eval vx c.env) (fun v σ₂ => ∃ x t g, k = .str x t ∧ UpdG d o σ₂.M g ∧ ∀ o', SD c o' [(x, v)] → Q (.ref d) { σ₂ with M := g o' }) σ₁) { σ with M := (d, o) :: σ.M })
    (hs : (evalEachOpt [some kx] c.env).zip ((evalEach [vx] c.env).map fun v => do let x ← v; standAt pos; pure x) = [(eval kx c.env, do let x ← eval vx c.env; standAt pos; pure x)].map fun p => (some p.1, p.2) := by kernel_rfl) :
    run c (eval (.Dict [some kx] [vx] pos) c.env) Q σ := fun s H => by
  have H0 := H.new (tk := s.toks) (d := s.heap.objs.size) (o := { cls := .type "dict", data := .dict #[] }) get_size (Heap.get?_push_size _ rfl) (fun _ _ e => Heap.get?_push_of_some _ e)
  have hS : SD c { cls := .type "dict", data := .dict #[] } [] := by
    obtain ⟨o, ho, hd⟩ := Heap.dictOf_iff.mp (Heap.DictOf.new (knd := PySem.strKind c.g.prog c.g.w) s.heap)
    rw [Heap.get?_push_size _ rfl] at ho
    exact (Option.some.inj ho) ▸ hd
  refine wpAny_Dict_pairs (knd := PySem.strKind c.g.prog c.g.w) hs (by simp) (by simp) (evalPairs_cons (mono' (h _ _ (sysLow H) hS) H0 fun k s₁ σ₁ H₁ q => ?_))
  refine wpAny_bind (mono' q H₁ fun v s₂ σ₂ H₂ q₂ => wpAny_bind (wpAny_standAt (wpAny_pure (evalPairs_nil ?_))))
  obtain ⟨x, t, g, rfl, hU, k⟩ := q₂
  have hm : At σ₂ s.heap.objs.size _ := .inr (.inl (hU.upd (o' := emptyDict)).mem)
  refine ⟨[(x, v)], ?_, dp_of (H₂.at hm) hS, fun h' hd hsb => ?_⟩
  · exact ⟨strKind_is _ _ x t, rfl, trivial⟩
  · obtain ⟨o', ho', hp⟩ := Heap.dictOf_iff.mp hd
    exact ⟨_, H₂.chg (tk := _) (.own hU.upd) ho' (fun b y hb e => (hsb.2 b hb).trans e), k o' hp⟩
theorem run_Dict2 {kx vx ky vy : Expr} (h : ∀ d o, (d == sysModules) = false → SD c o [] → run c (eval kx c.env) (fun k σ₁ => run c (eval vx c.env) (fun v σ₂ => run c (eval ky c.env) (fun k' σ₃ => run c (eval vy c.env) (fun v' σ₄ =>
      ∃ x t y u g, k = .str x t ∧ k' = .str y u ∧ UpdG d o σ₄.M g ∧ ∀ o', SD c o' (stored [(x, v)] y v') → Q (.ref d) { σ₄ with M := g o' }) σ₃) σ₂) σ₁) { σ with M := (d, o) :: σ.M })
    (hs : (evalEachOpt [some kx, some ky] c.env).zip ((evalEach [vx, vy] c.env).map fun v => do let x ← v; standAt pos; pure x) = [(eval kx c.env, do let x ← eval vx c.env; standAt pos; pure x), (eval ky c.env, do let x ← eval vy c.env; standAt pos; pure x)].map fun p => (some p.1, p.2) := by kernel_rfl) :
    run c (eval (.Dict [some kx, some ky] [vx, vy] pos) c.env) Q σ := fun s H => by
  have H0 := H.new (tk := s.toks) (d := s.heap.objs.size) (o := { cls := .type "dict", data := .dict #[] }) get_size (Heap.get?_push_size _ rfl) (fun _ _ e => Heap.get?_push_of_some _ e)
  have hS : SD c { cls := .type "dict", data := .dict #[] } [] := by
    obtain ⟨o, ho, hd⟩ := Heap.dictOf_iff.mp (Heap.DictOf.new (knd := PySem.strKind c.g.prog c.g.w) s.heap)
    rw [Heap.get?_push_size _ rfl] at ho
    exact (Option.some.inj ho) ▸ hd
  refine wpAny_Dict_pairs (knd := PySem.strKind c.g.prog c.g.w) hs (by simp) (by simp) (evalPairs_cons (mono' (h _ _ (sysLow H) hS) H0 fun k s₁ σ₁ H₁ q => ?_))
  refine wpAny_bind (mono' q H₁ fun v s₂ σ₂ H₂ q₂ => wpAny_bind (wpAny_standAt (wpAny_pure (evalPairs_cons (mono' q₂ H₂ fun k' s₃ σ₃ H₃ q₃ => wpAny_bind (mono' q₃ H₃ fun v' s₄ σ₄ H₄ q₄ => wpAny_bind (wpAny_standAt (wpAny_pure (evalPairs_nil ?_)))))))))
  obtain ⟨x, t, y, u, g, rfl, rfl, hU, k⟩ := q₄
  have hm : At σ₄ s.heap.objs.size _ := .inr (.inl (hU.upd (o' := emptyDict)).mem)
  refine ⟨[(x, v), (y, v')], ?_, dp_of (H₄.at hm) hS, fun h' hd hsb => ?_⟩
  · exact ⟨strKind_is _ _ x t, rfl, strKind_is _ _ y u, rfl, trivial⟩
  · obtain ⟨o', ho', hp⟩ := Heap.dictOf_iff.mp hd
    exact ⟨_, H₄.chg (tk := _) (.own hU.upd) ho' (fun b y hb e => (hsb.2 b hb).trans e), k o' hp⟩

/-! ### classes: a call that makes an object of a class -/
theorem St.around {g : Gd} {A A' : Around} {env : Env} {Z : Hp} {s₀ s : Shared} {G₀ : Hp} {N : List Addr} {σ : Sg} (H : St ⟨g, A, env, Z, s₀, G₀, N⟩ σ s) : St ⟨g, A', env, Z, s₀, G₀, N⟩ σ s :=
  ⟨H.sg, H.sd, H.so, H.base, H.keep, H.ns, H.gg, H.mm, H.zL, H.gL, H.bL, H.nM, H.nd, H.live, H.own, H.gf, H.nn⟩
/-- what __init__ hands back -/
theorem run_make {cn : Str} {C fI : Addr} {names : List Str} {args : List Value} (I : IsCls c.g.K cn C names) (hi : findIn c.g.K (.ref C) "__init__" = some (some (.ref fI))) (hf : isFn c.g.K (.ref fI) = true)
    (h : ∀ x d o, FO o 0 (fun _ => none) → runC ⟨c.g, c.A.under (.builtin "type.__call__" ⟨.ref C :: args, []⟩), c.env, c.Z, c.s₀, c.G₀, c.N⟩ (.call (.ref fI) ⟨.ref x :: args, []⟩) (fun r σ' => r = .none ∧ Q (.ref x) σ') { σ with M := (x, instObj C d) :: (d, o) :: σ.M }) :
    run c (call (.ref C) args) Q σ := fun s H => by
  obtain ⟨g, A, env, Z, s₀, G₀, N⟩ := c
  refine call_cls H.fr g.X H.news I.makes hi hf fun x dx h' F' N' l1 l2 => ?_
  have n1 := N' _ (.head _)
  have n2 := N' _ (.tail _ (.head _))
  dsimp only at n1 n2
  have H1 : St ⟨g, A, env, Z, s₀, G₀, N⟩ _ { s with heap := h' } := H.backNew (tk := s.toks) F' N' (fun p hp => .tail _ (.tail _ hp)) (.tail _ (.head _)) (fun p hp => Nat.ne_of_lt (l1 p hp))
  have hx : s.heap.get? x = none := by
    cases q : s.heap.get? x with
    | none => rfl
    | some o => exact absurd (Nat.lt_trans (l1 (x, o) (mem_allNew.mpr ⟨q, n1.2.1, n1.2.2⟩)) l2) (Nat.lt_irrefl _)
  have f := H.fresh hx
  have H2 := H1.adopt (a := x) (o := instObj C dx) ⟨f.l, fun p hp => by
    rcases List.mem_append.mp hp with h | h
    · exact f.m p (List.mem_append_left _ h)
    · rcases List.mem_cons.mp h with rfl | h
      · exact Nat.ne_of_lt l2
      · exact f.m p (List.mem_append_right _ h), f.z, f.g, f.b, f.n, f.s⟩ n1.1
  refine codeAny_mono (h x dx _ FO.nil _ H2.around) fun r s' hr => ?_
  cases r with
  | error e => exact hr.elim
  | ok fl =>
    cases fl with
    | ret v => obtain ⟨σ', H', e, q⟩ := hr; exact ⟨e, σ', H'.around, q⟩
    | next => exact hr.elim
    | brk => exact hr.elim
    | cont => exact hr.elim
end

/-- room for n calls more -/
structure Rm (A : Around) (n : Nat) : Prop where
  h : A.handled = none
  d : A.depth + n < 900
  u : A.units + 8 * n + 100 < 9900
theorem Rm.deep {A : Around} {n : Nat} {env : Env} (r : Rm A (n + 1)) : Rm (A.deeper env) n :=
  ⟨r.h, by have := r.d; show A.depth + 1 + n < 900; omega, by have := r.u; show A.units + 3 + 8 * n + 100 < 9900; omega⟩
theorem Rm.le {A : Around} {n k : Nat} (r : Rm A n) (h : k ≤ n) : Rm A k := ⟨r.h, by have := r.d; omega, by have := r.u; omega⟩
theorem Rm.make {A : Around} {n : Nat} {C : Addr} {args : List Value} (r : Rm A (n + 1)) : Rm (A.under (.builtin "type.__call__" ⟨.ref C :: args, []⟩)) n := by
  refine ⟨r.h, ?_, ?_⟩
  · rw [depth_under_kw]; have := r.d; omega
  · have := r.u
    show A.units + Code.cUnits _ + 8 * n + 100 < 9900
    have e : Code.cUnits (.builtin "type.__call__" ⟨.ref C :: args, []⟩) ≤ 8 := by
      show 1 + 3 * Code.frames _ ≤ 8
      have : Code.frames (.builtin "type.__call__" ⟨.ref C :: args, []⟩) ≤ 1 := by
        have q : Code.frames (.builtin "type.__call__" ⟨.ref C :: args, []⟩) = if (Code.builtin "type.__call__" ⟨.ref C :: args, []⟩).isFrame then 1 else 0 := rfl
        rw [q]; cases (Code.builtin "type.__call__" ⟨.ref C :: args, []⟩).isFrame <;> simp
      omega
    omega
theorem Rm.lim {A : Around} {n : Nat} (r : Rm A n) : A.depth < recursionLimit := by have := r.d; have : recursionLimit = 1000 := rfl; omega
theorem Rm.un {A : Around} {n : Nat} (r : Rm A n) : A.units + 64 < cLine := by have := r.u; have : cLine = 9900 := rfl; omega

abbrev cxF (c : Cx) (x : Str) (scope : Scope) (f : Addr) (L : Addr) (cdv : Value) (Z : Hp) (s₀ : Shared) (G : Hp) : Cx := ⟨c.g, c.A.deeper (envOf x scope L f cdv), envOf x scope L f cdv, Z, s₀, G, []⟩
abbrev cxC (c : Cx) (x : Str) (scope : Scope) (f : Addr) (L : Addr) (cdv : Value) (Z : Hp) (s₀ : Shared) (G : Hp) : Cx := ⟨c.g, c.A.deeper (envOfC x scope L f cdv), envOfC x scope L f cdv, Z, s₀, G, []⟩

section
variable {c : Cx} {Q : Value → Sg → Prop} {x : Str} {params : Arguments} {body : List Stmt} {scope : Scope} {f : Addr} {args : List Value} {binds : List (Str × Value)} {m : Str → Option Value} {P M : List (Addr × Obj)} {G : Hp} {n : Nat}

def Binds (x : Str) (params : Arguments) (body : List Stmt) (scope : Scope) (args : List Value) (binds : List (Str × Value)) : Prop :=
  ∀ doc pm an cdv ct, bindArgs (fnOf x x params body scope .none .none doc pm an cdv ct) ⟨args, []⟩ = pure binds

/-- a call that hands on nothing to change -/
theorem enter0 (I : IsFn c.g.K x f params body scope) (r : Rm c.A n) (hb : Binds x params body scope args binds)
    (h : ∀ L Z s₀ cdv, run (cxF c x scope f L cdv Z s₀ G) (execs body (envOf x scope L f cdv))
      (fun fl σ' => run (cxF c x scope f L cdv Z s₀ G) (pure fl) (fun fl σ' => σ'.P = [] ∧ Q (retOf fl) ⟨m, P, σ'.M ++ M, σ'.G⟩) σ') ⟨fun y => binds.reverse.lookup y, [], [], G⟩)
    (hloc : (binds.all fun y => decide (scope.names.lookup y.1 = some .local)) = true := by kernel_rfl) (hcell : ∀ x ∈ scope.names, x.2 ≠ .cell := by decide +kernel)
    (hco : scope.isCoroutine = false := by kernel_rfl) (hgen : scope.isGenerator = false := by kernel_rfl) (hk : scope.kind = .function := by kernel_rfl) : run c (call (.ref f) args) Q ⟨m, P, M, G⟩ := by
  obtain ⟨oc, od, doc, pm, an, cdv, ct, osl, ho, hcd⟩ := I.ob
  refine run_call (runC_enter_gen (passed := []) (others := P ++ M) (List.nil_sublist _) (.refl _) ho hcd r.lim (fun _ _ => BindsTo.of_eq (hb _ _ _ _ _)) (locs hloc) (fun L Z s₀ => ?_) hcell hco hgen hk)
  refine run_mono (run_tail (h L Z s₀ cdv)) fun fl σ' q => ⟨P, σ'.M ++ M, ?_, ?_, ?_, q.2⟩
  · rw [q.1]
  · rw [q.1, List.nil_append, ← List.append_assoc, ← List.append_assoc]
    exact List.Perm.append_right _ List.perm_append_comm
  · intro p hp
    rcases List.mem_append.mp hp with h | h
    · exact .inl h
    · exact .inr (List.mem_map.mpr ⟨p, h, rfl⟩)
/-- a call that hands on what was handed in -/
theorem enterP (I : IsFn c.g.K x f params body scope) (r : Rm c.A n) (hb : Binds x params body scope args binds)
    (h : ∀ L Z s₀ cdv, run (cxF c x scope f L cdv Z s₀ G) (execs body (envOf x scope L f cdv))
      (fun fl σ' => run (cxF c x scope f L cdv Z s₀ G) (pure fl) (fun fl σ' => σ'.P.map (·.1) = P.map (·.1) ∧ Q (retOf fl) ⟨m, σ'.P, σ'.M ++ M, σ'.G⟩) σ') ⟨fun y => binds.reverse.lookup y, P, [], G⟩)
    (hloc : (binds.all fun y => decide (scope.names.lookup y.1 = some .local)) = true := by kernel_rfl) (hcell : ∀ x ∈ scope.names, x.2 ≠ .cell := by decide +kernel)
    (hco : scope.isCoroutine = false := by kernel_rfl) (hgen : scope.isGenerator = false := by kernel_rfl) (hk : scope.kind = .function := by kernel_rfl) : run c (call (.ref f) args) Q ⟨m, P, M, G⟩ := by
  obtain ⟨oc, od, doc, pm, an, cdv, ct, osl, ho, hcd⟩ := I.ob
  refine run_call (runC_enter_gen (passed := P) (others := M) (List.sublist_append_left _ _) (.refl _) ho hcd r.lim (fun _ _ => BindsTo.of_eq (hb _ _ _ _ _)) (locs hloc) (fun L Z s₀ => ?_) hcell hco hgen hk)
  refine run_mono (run_tail (h L Z s₀ cdv)) fun fl σ' q => ⟨σ'.P, σ'.M ++ M, q.1, ?_, ?_, q.2⟩
  · rw [← List.append_assoc, ← List.append_assoc]
    exact List.Perm.append_right _ List.perm_append_comm
  · intro p hp
    rcases List.mem_append.mp hp with h | h
    · exact .inl h
    · exact .inr (List.mem_map.mpr ⟨p, h, rfl⟩)
theorem enterC0 (I : IsFn c.g.K x f params body scope) (r : Rm c.A n) (hb : Binds x params body scope args binds)
    (h : ∀ L Z s₀ cdv cells, CellsAre (bindC (envOfC x scope L f cdv).kindOf binds fun _ => none) (cellsFrom (L + 1) scope.names []) cells → run (cxC c x scope f L cdv Z s₀ G) (execs body (envOfC x scope L f cdv))
      (fun fl σ' => run (cxC c x scope f L cdv Z s₀ G) (pure fl) (fun fl σ' => σ'.P = [] ∧ Q (retOf fl) ⟨m, P, σ'.M ++ M, σ'.G⟩) σ') ⟨bindL (envOfC x scope L f cdv).kindOf binds fun _ => none, [], cells, G⟩)
    (hkind : (binds.all fun y => scope.names.lookup y.1 == some .local || scope.names.lookup y.1 == some .cell) = true := by kernel_rfl) (hnd : ((cellsFrom 0 scope.names []).map (·.1)).Nodup := by decide +kernel)
    (hco : scope.isCoroutine = false := by kernel_rfl) (hgen : scope.isGenerator = false := by kernel_rfl) (hk : scope.kind = .function := by kernel_rfl) : run c (call (.ref f) args) Q ⟨m, P, M, G⟩ := by
  obtain ⟨oc, od, doc, pm, an, cdv, ct, osl, ho, hcd⟩ := I.ob
  refine run_call (runC_enterC_gen (passed := []) (others := P ++ M) (List.nil_sublist _) (.refl _) ho hcd r.lim (fun _ _ => BindsTo.of_eq (hb _ _ _ _ _)) hkind hnd (fun L Z s₀ cells hc => ?_) hco hgen hk)
  refine run_mono (run_tail (h L Z s₀ cdv cells hc)) fun fl σ' q => ⟨P, σ'.M ++ M, ?_, ?_, ?_, q.2⟩
  · rw [q.1]
  · rw [q.1, List.nil_append, ← List.append_assoc, ← List.append_assoc]
    exact List.Perm.append_right _ List.perm_append_comm
  · intro p hp
    rcases List.mem_append.mp hp with h | h
    · exact .inl h
    · exact .inr (List.mem_map.mpr ⟨p, h, rfl⟩)
/-- a call that hands on an own object -/
theorem enterM1 {a : Addr} {o : Obj} (I : IsFn c.g.K x f params body scope) (r : Rm c.A n) (hb : Binds x params body scope args binds)
    (h : ∀ L Z s₀ cdv, run (cxF c x scope f L cdv Z s₀ G) (execs body (envOf x scope L f cdv))
      (fun fl σ' => run (cxF c x scope f L cdv Z s₀ G) (pure fl) (fun fl σ' => ∃ o', σ'.P = [(a, o')] ∧ Q (retOf fl) ⟨m, P, σ'.M ++ (a, o') :: M, σ'.G⟩) σ') ⟨fun y => binds.reverse.lookup y, [(a, o)], [], G⟩)
    (hloc : (binds.all fun y => decide (scope.names.lookup y.1 = some .local)) = true := by kernel_rfl) (hcell : ∀ x ∈ scope.names, x.2 ≠ .cell := by decide +kernel)
    (hco : scope.isCoroutine = false := by kernel_rfl) (hgen : scope.isGenerator = false := by kernel_rfl) (hk : scope.kind = .function := by kernel_rfl) : run c (call (.ref f) args) Q ⟨m, P, (a, o) :: M, G⟩ := by
  obtain ⟨oc, od, doc, pm, an, cdv, ct, osl, ho, hcd⟩ := I.ob
  refine run_call (runC_enter_gen (passed := [(a, o)]) (others := P ++ M) ?_ List.perm_middle ho hcd r.lim (fun _ _ => BindsTo.of_eq (hb _ _ _ _ _)) (locs hloc) (fun L Z s₀ => ?_) hcell hco hgen hk)
  · exact List.Sublist.trans (by simp) (List.sublist_append_right P _)
  refine run_mono (run_tail (h L Z s₀ cdv)) fun fl σ' ⟨o', q, hq⟩ => ⟨P, σ'.M ++ (a, o') :: M, ?_, ?_, ?_, hq⟩
  · rw [q]; rfl
  · rw [q]
    show (P ++ (σ'.M ++ (a, o') :: M)).Perm (σ'.M ++ ((a, o') :: (P ++ M)))
    refine List.Perm.trans (List.Perm.append_left P List.perm_middle) (List.Perm.trans List.perm_middle (List.Perm.trans (List.Perm.cons _ ?_) List.perm_middle.symm))
    rw [← List.append_assoc, ← List.append_assoc]
    exact List.Perm.append_right _ List.perm_append_comm
  · intro p hp
    rcases List.mem_append.mp hp with h | h
    · exact .inl h
    · rcases List.mem_cons.mp h with rfl | h
      · exact .inr (by simp)
      · exact .inr (List.mem_map.mpr ⟨p, .tail _ h, rfl⟩)
end
section
open PySem.Spec

mutual
inductive DG (G : Hp) : Value → Dat → Prop
  | none : DG G .none .none
  | int (i : Int) (t : Tok) : DG G (.int i t) (.int i)
  | str (x : Str) (t : Tok) : DG G (.str x t) (.str x)
  | list {a : Addr} {o : Obj} {vs : List Value} {ds : List Dat} : G a = some o → LO o vs → DGs G vs ds → DG G (.ref a) (.list ds)
  | tuple {a : Addr} {o : Obj} {vs : List Value} {ds : List Dat} : G a = some o → TO o vs → DGs G vs ds → DG G (.ref a) (.tuple ds)
inductive DGs (G : Hp) : List Value → List Dat → Prop
  | nil : DGs G [] []
  | cons {v : Value} {vs : List Value} {d : Dat} {ds : List Dat} : DG G v d → DGs G vs ds → DGs G (v :: vs) (d :: ds)
end
mutual
theorem DG.mono {G G' : Hp} (hs : Sub G G') : ∀ {v : Value} {d : Dat}, DG G v d → DG G' v d
  | _, _, .none => .none
  | _, _, .int i t => .int i t
  | _, _, .str x t => .str x t
  | _, _, .list h l r => .list (hs _ _ h) l (DGs.mono hs r)
  | _, _, .tuple h l r => .tuple (hs _ _ h) l (DGs.mono hs r)
theorem DGs.mono {G G' : Hp} (hs : Sub G G') : ∀ {vs : List Value} {ds : List Dat}, DGs G vs ds → DGs G' vs ds
  | _, _, .nil => .nil
  | _, _, .cons h r => .cons (DG.mono hs h) (DGs.mono hs r)
end
mutual
theorem DG.reads {G : Hp} {h : Heap} (k : ∀ a o, G a = some o → h.get? a = some o) : ∀ {v : Value} {d : Dat} (n : Nat), DG G v d → kqdOk n d = true → ∃ as, Reads h v (kqdP d) as
  | _, _, _, .none, _ => ⟨_, Reads.none⟩
  | _, _, _, .int i t, _ => ⟨_, Reads.int i t⟩
  | _, _, _, .str x t, _ => ⟨_, Reads.str x t⟩
  | _, _, 0, .list _ _ _, hk => by simp [kqdOk] at hk
  | _, _, 0, .tuple _ _ _, hk => by simp [kqdOk] at hk
  | _, _, n + 1, .list hm ⟨_, e⟩ r, hk => by
    obtain ⟨as, q⟩ := DGs.reads k n r (by simpa [kqdOk] using hk)
    rw [kqdP]
    subst e
    exact ⟨_, reads_list_at (k _ _ hm) rfl rfl (by simpa using q)⟩
  | _, _, n + 1, .tuple hm ⟨_, e⟩ r, hk => by
    obtain ⟨as, q⟩ := DGs.reads k n r (by simpa [kqdOk] using hk)
    rw [kqdP]
    subst e
    exact ⟨_, reads_tuple_at (k _ _ hm) rfl rfl (by simpa using q)⟩
theorem DGs.reads {G : Hp} {h : Heap} (k : ∀ a o, G a = some o → h.get? a = some o) : ∀ {vs : List Value} {ds : List Dat} (n : Nat), DGs G vs ds → (∀ d ∈ ds, kqdOk n d = true) → ∃ as, ReadsAll h vs (kqdPs ds) as
  | _, _, _, .nil, _ => ⟨_, ReadsAll.nil⟩
  | _, _, n, .cons hd r, hk => by
    obtain ⟨as, q⟩ := DG.reads k n hd (hk _ (.head _))
    obtain ⟨bs, p⟩ := DGs.reads k n r fun d hm => hk d (.tail _ hm)
    rw [kqdPs]
    exact ⟨_, ReadsAll.cons q p⟩
end
theorem DGs.length {G : Hp} : ∀ {vs : List Value} {ds : List Dat}, DGs G vs ds → vs.length = ds.length
  | _, _, .nil => rfl
  | _, _, .cons _ r => by rw [List.length_cons, List.length_cons, DGs.length r]
theorem DGs.append {G : Hp} {ws : List Value} {es : List Dat} (k : DGs G ws es) : ∀ {vs : List Value} {ds : List Dat}, DGs G vs ds → DGs G (vs ++ ws) (ds ++ es)
  | _, _, .nil => k
  | _, _, .cons h r => .cons h (DGs.append k r)
theorem DGs.snoc {G : Hp} {vs : List Value} {ds : List Dat} {v : Value} {d : Dat} (h : DGs G vs ds) (k : DG G v d) : DGs G (vs ++ [v]) (ds ++ [d]) := DGs.append (.cons k .nil) h
theorem DGs.get {G : Hp} : ∀ {vs : List Value} {ds : List Dat}, DGs G vs ds → ∀ {i : Nat} {v : Value}, vs[i]? = some v → ∃ d, ds[i]? = some d ∧ DG G v d
  | _, _, .nil, _, _, h => by simp at h
  | _, _, .cons hd r, 0, v, h => by cases h; exact ⟨_, rfl, hd⟩
  | _, _, .cons hd r, i + 1, v, h => DGs.get r (by simpa using h)

section
variable {c : Cx} {σ : Sg} {Q : Value → Sg → Prop} {v w : Value} {d e : Dat} {ds : List Dat} {n : Nat} {a : Int} {t : Tok} {l : Addr} {o : Obj} {vs : List Value} {ns : List Int}
theorem shape8 (h : kqdOk 8 d = true) : SeqAt.shaped (kqdP d) = true := by
  obtain ⟨l1, l2⟩ := kqd_lay 8 d h
  unfold SeqAt.shaped; rw [l1, Bool.true_and]; exact decide_eq_true (Nat.le_trans l2 (by decide))
theorem cmpD_eq (r : Rm c.A n) (hv : DG σ.G v d) (hw : DG σ.G w d) (hk : kqdOk 8 d = true) (h : Q (.bool true) σ) : run c (compareOp .Eq v w) Q σ := fun s H => by
  obtain ⟨as, ra⟩ := hv.reads H.gg 8 hk
  obtain ⟨bs, rb⟩ := hw.reads H.gg 8 hk
  exact eq_dataH ra rb (shape8 hk) (shape8 hk) r.un ⟨σ, H, by rw [(kqd_eqv 8 d d 8 hk hk).mpr rfl]; exact h⟩
theorem cmpD_ne (r : Rm c.A n) (hv : DG σ.G v d) (hw : DG σ.G w d) (hk : kqdOk 8 d = true) (h : Q (.bool false) σ) : run c (compareOp .NotEq v w) Q σ := fun s H => by
  obtain ⟨as, ra⟩ := hv.reads H.gg 8 hk
  obtain ⟨bs, rb⟩ := hw.reads H.gg 8 hk
  exact ne_dataH ra rb (shape8 hk) (shape8 hk) r.un ⟨σ, H, by rw [(kqd_eqv 8 d d 8 hk hk).mpr rfl]; exact h⟩
theorem eqv_nil : PyData.eqv (kqdP (.list ds)) (kqdP (.list [])) = ds.isEmpty := by
  cases ds <;> simp [kqdP, kqdPs, PyData.eqv, PyData.eqvAll]
theorem cmpD_eq_nil (r : Rm c.A n) (hv : DG σ.G v (.list ds)) (hw : DG σ.G w (.list [])) (hk : kqdOk 8 (.list ds) = true) (h : Q (.bool ds.isEmpty) σ) : run c (compareOp .Eq v w) Q σ := fun s H => by
  obtain ⟨as, ra⟩ := hv.reads H.gg 8 hk
  obtain ⟨bs, rb⟩ := hw.reads H.gg 8 (by simp [kqdOk])
  exact eq_dataH ra rb (shape8 hk) (shape8 (by simp [kqdOk])) r.un ⟨σ, H, by rw [eqv_nil]; exact h⟩
theorem cmpD_ne_nil (r : Rm c.A n) (hv : DG σ.G v (.list ds)) (hw : DG σ.G w (.list [])) (hk : kqdOk 8 (.list ds) = true) (h : Q (.bool (!ds.isEmpty)) σ) : run c (compareOp .NotEq v w) Q σ := fun s H => by
  obtain ⟨as, ra⟩ := hv.reads H.gg 8 hk
  obtain ⟨bs, rb⟩ := hw.reads H.gg 8 (by simp [kqdOk])
  exact ne_dataH ra rb (shape8 hk) (shape8 (by simp [kqdOk])) r.un ⟨σ, H, by rw [eqv_nil]; exact h⟩

theorem readsAll_ints {h : Heap} : ∀ {vs : List Value} {ns : List Int}, IntsAre vs ns → ∃ as, ReadsAll h vs (ns.map .int) as
  | _, _, .nil => ⟨_, ReadsAll.nil⟩
  | _, _, .cons i t r => let ⟨as, q⟩ := readsAll_ints r; ⟨_, ReadsAll.cons (Reads.int i t) q⟩
theorem lay_ints : ∀ ns : List Int, PyData.canLayAll0 (ns.map .int) = true ∧ PyData.depthAll (ns.map .int) = 0
  | [] => by simp [PyData.canLayAll0, PyData.depthAll]
  | n :: r => by
    obtain ⟨h1, h2⟩ := lay_ints r
    simp [PyData.canLayAll0, PyData.depthAll, PyData.canLay0, PyData.depth, h1, h2]
theorem any_ints (a : Int) : ∀ ns : List Int, ((ns.map PyData.int).any fun y => PyData.eqv y (.int a)) = decide (a ∈ ns)
  | [] => by simp
  | n :: r => by
    have := any_ints a r
    simp only [List.map_cons, List.any_cons, this, PyData.eqv]
    by_cases h : n = a
    · subst h; simp
    · have h' : a ≠ n := fun e => h e.symm
      simp [h, h']
theorem notIn_ints (r : Rm c.A n) (hl : At σ l o) (ho : LO o vs) (hi : IntsAre vs ns) (h : Q (.bool (!decide (a ∈ ns))) σ) : run c (compareOp .NotIn (.int a t) (.ref l)) Q σ := fun s H => by
  obtain ⟨k, rfl⟩ := ho
  obtain ⟨as, ra⟩ := readsAll_ints (h := s.heap) hi
  obtain ⟨l1, l2⟩ := lay_ints ns
  refine SeqAt.notIn_list_reads (reads_list_at (H.at hl) rfl rfl (by simpa using ra)) (Reads.int a t) l1 (by simp [PyData.canLay0]) ?_ ⟨σ, H, by rw [any_ints]; exact h⟩
  rw [l2]
  have := r.un
  simp; omega
end
end

abbrev Fn (K : Frag) (i : Nat) (f : Addr) : Prop := IsFn K (fnN i) f (fnA i) (fnB i) (fnS i)

/-- a class' own start -/
structure IsIni (K : Frag) (i : Nat) (C f : Addr) (q : Str) (bd : List Value → List (Str × Value)) (ok : List Value → Prop) : Prop where
  at_ : findIn K (.ref C) "__init__" = some (some (.ref f))
  fn : isFn K (.ref f) = true
  ob : ∃ oc od dV kV doc pm an cdv ct osl, K.lookup f = some ⟨oc, od, .func (fnOf "__init__" q (meA i) (meB i) (meS i) dV kV doc pm an cdv ct), osl⟩ ∧ codeIn K cdv q = true ∧
    ∀ args, ok args → ∀ s, K.In s.heap → BindsTo s (fnOf "__init__" q (meA i) (meB i) (meS i) dV kV doc pm an cdv ct) ⟨args, []⟩ (bd args)

/-- a class whose instances are no ints -/
structure NotInt (K : Frag) (D : Addr) : Prop where
  e : kin_notT K D "int" = true
  hg : plainGet K D "__class__" = true
  ha : findIn K (.ref D) "__class__" = some (some (.builtin "object.__class__"))
  hn : specialIn K (.builtin "object.__class__") "__get__" = some (some (.builtin "getset_descriptor.__get__"))
  htk : takesIn K (.builtin "object.__class__") = some true
  hm : mroIn K D (.type "object") = some true
/-- the text's own objects, as the top leaves them -/
structure TX (K : Frag) where
  bn : ∀ n ∈ (["len", "range", "max", "sorted", "list", "chr", "isinstance", "int"] : List Str), nsIn K mainGlobals n = some none
  fa : Nat → Addr
  fn : ∀ i ∈ [2, 3, 4, 13, 14, 15, 19, 24, 25, 27, 28, 29, 30, 31, 33, 34, 35, 36, 37, 38, 39, 40], Fn K i (fa i)
  cV : Addr
  cN : Addr
  cM : Addr
  isV : IsCls K "Vector" cV ["kind", "items", "attrs", "shared", "loose"]
  isN : IsCls K "Null" cN ["kind", "attrs"]
  isM : IsCls K "Missing" cM ["kind", "attrs"]
  niN : NotInt K cN
  iV : Addr
  iN : Addr
  iM : Addr
  inV : IsIni K 23 cV iV "Vector.__init__" (fun a => [("self", a.getD 0 .none), ("kind", a.getD 1 .none), ("items", a.getD 2 .none), ("attrs", .none)]) (fun a => a.length = 3)
  inN : IsIni K 21 cN iN "Null.__init__" (fun a => [("self", a.getD 0 .none)]) (fun a => a.length = 1)
  inM : IsIni K 22 cM iM "Missing.__init__" (fun a => [("self", a.getD 0 .none)]) (fun a => a.length = 1)

section
variable {c : Cx} {σ : Sg} {Q : Value → Sg → Prop} {pos : Pos}
/-- a builtin's name -/
theorem nmB {x : Str} {v : Value} (T : TX c.g.K) (hm : x ∈ (["len", "range", "max", "sorted", "list", "chr", "isinstance", "int"] : List Str)) (hv : bootBuiltins x = some v) (h : Q v σ) (hx : (x == "__name__") = false := by kernel_rfl) (hg : c.env.globals = mainGlobals := by kernel_rfl) (hb : c.env.builtins = builtinsNs := by kernel_rfl) (hk : c.env.scope.kind = .function := by kernel_rfl) (hl : c.env.kindOf x = some .globalImplicit := by kernel_rfl) (hd : (x == ("__debug__" : Str)) = false := by kernel_rfl) :
    run c (eval (.Name x pos) c.env) Q σ := run_builtin (T.bn _ hm) hv (fun e => by rw [e] at hx; simp at hx) h hg hb hk hl hd
/-- a def of the text's, called by its name -/
theorem call_fn {x : Str} {np : Pos} {f : Addr} {params : Arguments} {body : List Stmt} {scope : Scope} {es : List Expr} (I : IsFn c.g.K x f params body scope) (h : run c (spliced (backTo pos (starEach es c.env))) (fun vs σ₂ => run c (call (.ref f) vs) Q σ₂) σ)
    (he : (starEach es c.env).all (fun a => !a.1) = true := by kernel_rfl) (hg : c.env.globals = mainGlobals := by kernel_rfl) (hk : c.env.scope.kind = .function := by kernel_rfl) (hl : c.env.kindOf x = some .globalImplicit := by kernel_rfl) (hd : (x == ("__debug__" : Str)) = false := by kernel_rfl)
    (hc : eval (.Call (.Name x np) es [] pos) c.env = (do callWith pos (← eval (.Name x np) c.env) [] (backTo pos (starEach es c.env)) (backToKw pos (keywordEach [] c.env))) := by kernel_rfl) : run c (eval (.Call (.Name x np) es [] pos) c.env) Q σ :=
  run_Call (run_global I.ns ⟨I.kp, h⟩ hg hk hl hd) he hc
/-- a builtin, called by its name -/
theorem call_bn {x : Str} {np : Pos} {v : Value} {es : List Expr} (T : TX c.g.K) (hm : x ∈ (["len", "range", "max", "sorted", "list", "chr", "isinstance", "int"] : List Str)) (hv : bootBuiltins x = some v) (hkp : Kp c v) (h : run c (spliced (backTo pos (starEach es c.env))) (fun vs σ₂ => run c (call v vs) Q σ₂) σ)
    (hx : (x == "__name__") = false := by kernel_rfl) (he : (starEach es c.env).all (fun a => !a.1) = true := by kernel_rfl) (hg : c.env.globals = mainGlobals := by kernel_rfl) (hb : c.env.builtins = builtinsNs := by kernel_rfl) (hk : c.env.scope.kind = .function := by kernel_rfl) (hl : c.env.kindOf x = some .globalImplicit := by kernel_rfl) (hd : (x == ("__debug__" : Str)) = false := by kernel_rfl)
    (hc : eval (.Call (.Name x np) es [] pos) c.env = (do callWith pos (← eval (.Name x np) c.env) [] (backTo pos (starEach es c.env)) (backToKw pos (keywordEach [] c.env))) := by kernel_rfl) : run c (eval (.Call (.Name x np) es [] pos) c.env) Q σ :=
  run_Call (nmB T hm hv ⟨hkp, h⟩ hx hg hb hk hl hd) he hc
theorem hv_len : bootBuiltins "len" = some (.builtin "len") := by kernel_rfl
theorem hv_max : bootBuiltins "max" = some (.builtin "max") := by kernel_rfl
theorem hv_sorted : bootBuiltins "sorted" = some (.builtin "sorted") := by kernel_rfl
theorem hv_chr : bootBuiltins "chr" = some (.builtin "chr") := by kernel_rfl
theorem hv_isi : bootBuiltins "isinstance" = some (.builtin "isinstance") := by kernel_rfl
theorem hv_range : bootBuiltins "range" = some (.type "range") := by kernel_rfl
theorem hv_list : bootBuiltins "list" = some (.type "list") := by kernel_rfl
theorem hv_int : bootBuiltins "int" = some (.type "int") := by kernel_rfl
end

local macro_rules | `(tactic| walk_at "lk") => `(tactic| first | with_reducible assumption | exact upd_same | exact (upd_ne (by kernel_rfl!)).trans (by walk_at "lk") | with_unfolding_all exact rfl)
local macro_rules | `(tactic| walk_at "go") => `(tactic| with_reducible first
  | refine run_local (by walk_at "lk") ?_
  | refine run_int fun _ => ?_
  | refine run_str fun _ => ?_
  | refine run_none ?_
  | refine run_boolC ?_
  | refine run_BinOp ?_
  | refine run_Compare ?_
  | refine run_Attribute ?_
  | refine run_Subscript ?_
  | refine run_UnaryOp ?_
  | refine run_IfExp ?_
  | refine isTrue_Compare ?_
  | refine isTrue_Not ?_
  | refine isTrue_BoolOp ?_
  | refine all_cons ?_
  | refine any_cons ?_
  | refine all_nil ?_
  | refine any_nil ?_
  | refine truthy_bool ?_
  | refine args_cons ?_
  | refine args_nil ?_
  | refine op_add fun _ => ?_
  | refine op_sub fun _ => ?_
  | refine op_neg fun _ => ?_
  | refine cmp_eq ?_
  | refine cmp_ne ?_
  | refine cmp_ne_none ?_
  | refine cmp_lt ?_
  | refine cmp_gt ?_
  | refine cmp_le ?_
  | refine cmp_ge ?_
  | refine cmp_eq_str ?_
  | refine is_noneR ?_
  | refine isNot_noneR ?_
  | refine st_return ?_
  | refine st_if ?_
  | refine st_assign ?_
  | refine st_setattr ?_
  | refine st_setitem ?_
  | refine st_expr ?_
  | refine st_break ?_
  | refine st_nil ?_
  | refine run_store ?_)
local macro_rules | `(tactic| walk_at "gos") => `(tactic| repeat walk_at "go")
local macro_rules | `(tactic| walk_at "len") => `(tactic| refine call_bn (by assumption) (by simp) hv_len kp_builtin ?_)
local macro_rules | `(tactic| walk_at "open") => `(tactic| conv in execs _ _ => arg 1; whnf)

/-! ### the draws -/
/-- the box of draws -/
structure BoxO (g : Gd) (G : Hp) (o : Obj) : Prop where
  ex : ∃ (l : Addr) (k : Int) (t : Tok) (vs : List Value) (ns : List Int) (ol : Obj), o.IsDictOf (PySem.strKind g.prog g.w) [("feed", .ref l), ("spot", .int k t)] ∧ G l = some ol ∧ LO ol vs ∧ IntsAre vs ns ∧ vs.length ≤ 1000 ∧ 0 ≤ k ∧ k ≤ vs.length
theorem BoxO.mono {g : Gd} {G G' : Hp} {o : Obj} (h : BoxO g G o) (k : Sub G G') : BoxO g G' o := by
  obtain ⟨l, i, t, vs, ns, ol, a, b, r⟩ := h.ex
  exact ⟨l, i, t, vs, ns, ol, a, k _ _ b, r⟩

set_option maxHeartbeats 1000000 in
theorem draw_body {g : Gd} {A : Around} {L f : Addr} {cdv : Value} {Z G₀ G : Hp} {s₀ : Shared} {N : List Addr} {F : Flow → Sg → Prop} {bx : Addr} {o : Obj} {lim : Int} {t : Tok} {M : List (Addr × Obj)}
    (T : TX g.K) (hb : BoxO g G o) (hlim : 0 < lim)
    (k : ∀ v t o' m, 0 ≤ v → v < lim → BoxO g G o' → F (.ret (.int v t)) ⟨m, [(bx, o')], M, G⟩) :
    run ⟨g, A, envOf (fnN 34) (fnS 34) L f cdv, Z, s₀, G₀, N⟩ (execs (fnB 34) (envOf (fnN 34) (fnS 34) L f cdv)) F ⟨fun y => [(("box" : Str), Value.ref bx), ("limit", .int lim t)].reverse.lookup y, [(bx, o)], M, G⟩ := by
  obtain ⟨l, i, ti, vs, ns, ol, hd, hl, ho, hi, hn, h0, h1⟩ := hb.ex
  walk_at "open"
  walk_at "gos"
  refine sub_str (v := .int i ti) (.inr (.inr (.head _))) hd rfl ?_
  walk_at "len"
  walk_at "gos"
  refine sub_str (v := .ref l) (.inr (.inr (.head _))) hd rfl ?_
  walk_at "gos"
  refine call_len (.inl hl) ho (by omega) fun t' => ?_
  walk_at "gos"
  by_cases hc : (vs.length : Int) ≤ i
  · rw [if_pos (by simpa using hc)]
    walk_at "gos"
    exact k 0 _ o _ (by omega) hlim hb
  · rw [if_neg (by simpa using hc)]
    walk_at "gos"
    refine sub_str (v := .int i ti) (.inr (.inr (.head _))) hd rfl ?_
    walk_at "gos"
    refine setItem_str (.passed .head) hd (by simp) fun o' hd' => ?_
    walk_at "gos"
    refine sub_str (v := .ref l) (.inr (.inr (.head _))) hd' rfl ?_
    walk_at "gos"
    refine sub_str (v := .int (i + 1) _) (.inr (.inr (.head _))) hd' rfl ?_
    walk_at "gos"
    have hlt : (i + 1 - 1).toNat < ns.length := by rw [← hi.length]; omega
    obtain ⟨tx, hx⟩ := hi.get (i + 1 - 1).toNat (ns[(i + 1 - 1).toNat]'hlt) (List.getElem?_eq_getElem hlt)
    refine sub_list (.inl hl) ho (by omega) (by omega) hx ?_
    walk_at "gos"
    refine op_mod (by omega) fun t₃ => ?_
    exact k _ _ _ _ (Int.fmod_nonneg_of_pos _ hlim) (Int.fmod_lt_of_pos _ hlim) ⟨l, i + 1, _, vs, ns, ol, hd', hl, ho, hi, hn, by omega, by omega⟩
local macro_rules | `(tactic| walk_at "lk") => `(tactic| first | with_reducible assumption | exact upd_same | exact (upd_ne (by kernel_rfl!)).trans (by walk_at "lk") | (dsimp only; walk_at "lk") | with_unfolding_all exact rfl)
local macro_rules | `(tactic| walk_at "go") => `(tactic| with_reducible first
  | refine run_local (by walk_at "lk") ?_
  | refine run_int fun _ => ?_
  | refine run_str fun _ => ?_
  | refine run_none ?_
  | refine run_boolC ?_
  | refine run_BinOp ?_
  | refine run_Compare ?_
  | refine run_Attribute ?_
  | refine run_Subscript ?_
  | refine run_UnaryOp ?_
  | refine run_IfExp ?_
  | refine isTrue_Compare ?_
  | refine isTrue_Not ?_
  | refine isTrue_BoolOp ?_
  | refine all_cons ?_
  | refine any_cons ?_
  | refine all_nil ?_
  | refine any_nil ?_
  | refine truthy_bool ?_
  | refine args_cons ?_
  | refine args_nil ?_
  | refine op_add fun _ => ?_
  | refine op_sub fun _ => ?_
  | refine op_neg fun _ => ?_
  | refine cmp_eq ?_
  | refine cmp_ne ?_
  | refine cmp_ne_none ?_
  | refine cmp_lt ?_
  | refine cmp_gt ?_
  | refine cmp_le ?_
  | refine cmp_ge ?_
  | refine cmp_eq_str ?_
  | refine cmp_ne_str ?_
  | refine is_noneR ?_
  | refine isNot_noneR ?_
  | refine st_return ?_
  | refine st_if ?_
  | refine st_assign ?_
  | refine st_setattr ?_
  | refine st_setitem ?_
  | refine st_expr ?_
  | refine st_break ?_
  | refine st_nil ?_
  | refine run_store ?_)
local macro_rules | `(tactic| walk_at "gos") => `(tactic| repeat walk_at "go")
local macro_rules | `(tactic| walk_at "len") => `(tactic| refine call_bn (by assumption) (by simp) hv_len kp_builtin ?_)
local macro_rules | `(tactic| walk_at "open") => `(tactic| conv in execs _ _ => arg 1; whnf)
section
variable {c : Cx} {Q : Value → Sg → Prop} {m : Str → Option Value} {P M : List (Addr × Obj)} {G : Hp} {n i : Nat} {C f x d : Addr} {q : Str} {bd : List Value → List (Str × Value)} {ok : List Value → Prop} {args : List Value} {ox o : Obj} {kv iv : Value}
theorem enterI (I : IsIni c.g.K i C f q bd ok) (r : Rm c.A n) (hok : ok args)
    (h : ∀ L Z s₀ cdv, run ⟨c.g, c.A.deeper (envOf q (meS i) L f cdv), envOf q (meS i) L f cdv, Z, s₀, G, []⟩ (execs (meB i) (envOf q (meS i) L f cdv))
      (fun fl σ' => ∃ o', σ'.P = [(x, ox), (d, o')] ∧ Q (retOf fl) ⟨m, P, σ'.M ++ (x, ox) :: (d, o') :: M, σ'.G⟩) ⟨fun y => (bd args).reverse.lookup y, [(x, ox), (d, o)], [], G⟩)
    (hloc : ∀ y ∈ bd args, (meS i).names.lookup y.1 = some .local) (hcell : ∀ x ∈ (meS i).names, x.2 ≠ .cell := by decide +kernel)
    (hco : (meS i).isCoroutine = false := by kernel_rfl) (hgen : (meS i).isGenerator = false := by kernel_rfl) (hk : (meS i).kind = .function := by kernel_rfl) : runC c (.call (.ref f) ⟨args, []⟩) Q ⟨m, P, (x, ox) :: (d, o) :: M, G⟩ := by
  obtain ⟨oc, od, dV, kV, doc, pm, an, cdv, ct, osl, ho, hcd, hb⟩ := I.ob
  have hp : ∀ o : Obj, (⟨m, P, (x, ox) :: (d, o) :: M, G⟩ : Sg).all.Perm ([(x, ox), (d, o)] ++ (P ++ M)) := fun o => by
    show (P ++ ([(x, ox), (d, o)] ++ M)).Perm ([(x, ox), (d, o)] ++ (P ++ M))
    rw [← List.append_assoc, ← List.append_assoc]
    exact List.Perm.append_right _ List.perm_append_comm
  refine runC_enter_gen (passed := [(x, ox), (d, o)]) (others := P ++ M) ?_ (hp o) ho hcd r.lim (hb args hok) hloc (fun L Z s₀ => ?_) hcell hco hgen hk
  · exact List.Sublist.trans (show List.Sublist [(x, ox), (d, o)] ([(x, ox), (d, o)] ++ M) from List.sublist_append_left _ _) (List.sublist_append_right P _)
  refine run_mono (h L Z s₀ cdv) fun fl σ' ⟨o', e, hq⟩ => ⟨P, σ'.M ++ (x, ox) :: (d, o') :: M, ?_, ?_, ?_, hq⟩
  · rw [e]; rfl
  · rw [e]
    refine List.Perm.trans ?_ (List.Perm.append_left σ'.M (hp o'))
    rw [← List.append_assoc]
    show (P ++ σ'.M ++ _).Perm (σ'.M ++ (P ++ _))
    rw [← List.append_assoc]
    exact List.Perm.append_right _ List.perm_append_comm
  · intro p hp
    rcases List.mem_append.mp hp with h | h
    · exact .inl h
    · refine .inr (List.mem_map.mpr ?_)
      rcases List.mem_cons.mp h with rfl | h
      · exact ⟨_, .head _, rfl⟩
      · rcases List.mem_cons.mp h with rfl | h
        · exact ⟨(d, o), .tail _ (.head _), rfl⟩
        · exact ⟨p, .tail _ (.tail _ h), rfl⟩

theorem make_vec (T : TX c.g.K) (r : Rm c.A (n + 1)) (h : ∀ x d o f, FO o 5 f → f "kind" = some kv → f "items" = some iv → f "attrs" = some .none → Q (.ref x) ⟨m, P, (x, instObj T.cV d) :: (d, o) :: M, G⟩) :
    run c (call (.ref T.cV) [kv, iv]) Q ⟨m, P, M, G⟩ := by
  refine run_make T.isV T.inV.at_ T.inV.fn fun x d o ho => ?_
  refine enterI (c := ⟨c.g, c.A.under (.builtin "type.__call__" ⟨.ref T.cV :: [kv, iv], []⟩), c.env, c.Z, c.s₀, c.G₀, c.N⟩) T.inV (Rm.make r) rfl (fun L Z s₀ cdv => ?_) (locs (by kernel_rfl))
  walk_at "open"
  walk_at "gos"
  refine setAttr_inst (f := _) T.isV (.inr (.inr (.head _))) (.passed (.tail .head)) ho (by simp) (by omega) fun o1 h1 => ?_
  walk_at "gos"
  refine setAttr_inst T.isV (.inr (.inr (.head _))) (.passed (.tail .head)) h1 (by simp) (by omega) fun o2 h2 => ?_
  walk_at "gos"
  refine setAttr_inst T.isV (.inr (.inr (.head _))) (.passed (.tail .head)) h2 (by simp) (by omega) fun o3 h3 => ?_
  walk_at "gos"
  refine setAttr_inst T.isV (.inr (.inr (.head _))) (.passed (.tail .head)) h3 (by simp) (by omega) fun o4 h4 => ?_
  walk_at "gos"
  refine setAttr_inst T.isV (.inr (.inr (.head _))) (.passed (.tail .head)) h4 (by simp) (by omega) fun o5 h5 => ?_
  walk_at "gos"
  exact ⟨o5, rfl, rfl, h x d o5 _ h5 (by walk_at "lk") (by walk_at "lk") (by walk_at "lk")⟩
theorem make_null (T : TX c.g.K) (r : Rm c.A (n + 1)) (h : ∀ x d o f, FO o 2 f → (∃ t, f "kind" = some (.str "NULL" t)) → Q (.ref x) ⟨m, P, (x, instObj T.cN d) :: (d, o) :: M, G⟩) :
    run c (call (.ref T.cN) []) Q ⟨m, P, M, G⟩ := by
  refine run_make T.isN T.inN.at_ T.inN.fn fun x d o ho => ?_
  refine enterI (c := ⟨c.g, c.A.under (.builtin "type.__call__" ⟨.ref T.cN :: [], []⟩), c.env, c.Z, c.s₀, c.G₀, c.N⟩) T.inN (Rm.make r) rfl (fun L Z s₀ cdv => ?_) (locs (by kernel_rfl))
  walk_at "open"
  walk_at "gos"
  refine setAttr_inst T.isN (.inr (.inr (.head _))) (.passed (.tail .head)) ho (by simp) (by omega) fun o1 h1 => ?_
  walk_at "gos"
  refine setAttr_inst T.isN (.inr (.inr (.head _))) (.passed (.tail .head)) h1 (by simp) (by omega) fun o2 h2 => ?_
  walk_at "gos"
  exact ⟨o2, rfl, rfl, h x d o2 _ h2 ⟨_, by walk_at "lk"⟩⟩
theorem make_missing (T : TX c.g.K) (r : Rm c.A (n + 1)) (h : ∀ x d o f, FO o 2 f → (∃ t, f "kind" = some (.str "missing" t)) → Q (.ref x) ⟨m, P, (x, instObj T.cM d) :: (d, o) :: M, G⟩) :
    run c (call (.ref T.cM) []) Q ⟨m, P, M, G⟩ := by
  refine run_make T.isM T.inM.at_ T.inM.fn fun x d o ho => ?_
  refine enterI (c := ⟨c.g, c.A.under (.builtin "type.__call__" ⟨.ref T.cM :: [], []⟩), c.env, c.Z, c.s₀, c.G₀, c.N⟩) T.inM (Rm.make r) rfl (fun L Z s₀ cdv => ?_) (locs (by kernel_rfl))
  walk_at "open"
  walk_at "gos"
  refine setAttr_inst T.isM (.inr (.inr (.head _))) (.passed (.tail .head)) ho (by simp) (by omega) fun o1 h1 => ?_
  walk_at "gos"
  refine setAttr_inst T.isM (.inr (.inr (.head _))) (.passed (.tail .head)) h1 (by simp) (by omega) fun o2 h2 => ?_
  walk_at "gos"
  exact ⟨o2, rfl, rfl, h x d o2 _ h2 ⟨_, by walk_at "lk"⟩⟩
end
section
variable {g : Gd} {c : Cx} {σ : Sg} {Q : Value → Sg → Prop} {U : Unit → Sg → Prop} {m : Str → Option Value} {P M : List (Addr × Obj)} {G G' : Hp} {n : Nat} {bx : Addr} {o : Obj} {lim : Int} {t : Tok}

theorem call_drawP (T : TX c.g.K) (r : Rm c.A n) (hb : BoxO c.g G o) (hlim : 0 < lim) (h : ∀ v t o', 0 ≤ v → v < lim → BoxO c.g G o' → Q (.int v t) ⟨m, [(bx, o')], M, G⟩) :
    run c (call (.ref (T.fa 34)) [.ref bx, .int lim t]) Q ⟨m, [(bx, o)], M, G⟩ := by
  refine enterP (T.fn 34 (by simp)) r (binds := [("box", .ref bx), ("limit", .int lim t)]) (fun _ _ _ _ _ => by kernel_rfl) (fun L Z s₀ cdv => ?_) (by kernel_rfl)
  refine draw_body T hb hlim fun v t o' m' h0 h1 h2 => ?_
  exact run_pure ⟨rfl, h v t o' h0 h1 h2⟩
theorem call_drawM (T : TX c.g.K) (r : Rm c.A n) (hb : BoxO c.g G o) (hlim : 0 < lim) (h : ∀ v t o', 0 ≤ v → v < lim → BoxO c.g G o' → Q (.int v t) ⟨m, P, (bx, o') :: M, G⟩) :
    run c (call (.ref (T.fa 34)) [.ref bx, .int lim t]) Q ⟨m, P, (bx, o) :: M, G⟩ := by
  refine enterM1 (T.fn 34 (by simp)) r (binds := [("box", .ref bx), ("limit", .int lim t)]) (fun _ _ _ _ _ => by kernel_rfl) (fun L Z s₀ cdv => ?_) (by kernel_rfl)
  refine draw_body T hb hlim fun v t o' m' h0 h1 h2 => ?_
  exact run_pure ⟨o', rfl, h v t o' h0 h1 h2⟩

/-! ### what a vector is -/
abbrev GA (G : Hp) : Addr → Obj → Prop := fun a o => G a = some o
/-- a Vector's own parts -/
def VecL (K : Frag) (cV : Addr) (L : Addr → Obj → Prop) (v : Value) (kd : Str) (l : Addr) (at_ : Value) : Prop :=
  ∃ x d o f t, v = .ref x ∧ L x (instObj cV d) ∧ L d o ∧ FO o 9 f ∧ f "kind" = some (.str kd t) ∧ f "items" = some (.ref l) ∧ f "attrs" = some at_ ∧ handedIn at_ = true
theorem VecL.mono {K : Frag} {cV : Addr} {L L' : Addr → Obj → Prop} {v : Value} {kd : Str} {l : Addr} {at_ : Value} (h : VecL K cV L v kd l at_) (k : ∀ a o, L a o → L' a o) : VecL K cV L' v kd l at_ := by
  obtain ⟨x, d, o, f, t, a1, a2, a3, a4⟩ := h
  exact ⟨x, d, o, f, t, a1, k _ _ a2, k _ _ a3, a4⟩
inductive It where
  | none
  | int (i : Int)
  | str (x : Str)
  | box (i : Int)
  | null
inductive ItG (T : TX g.K) (G : Hp) : Value → It → Prop
  | none : ItG T G .none .none
  | int (i : Int) (t : Tok) : ItG T G (.int i t) (.int i)
  | str (x : Str) (t : Tok) : ItG T G (.str x t) (.str x)
  | box {v : Value} {l : Addr} {at_ : Value} {ol : Obj} {i : Int} {t : Tok} : VecL g.K T.cV (GA G) v "integer" l at_ → G l = some ol → LO ol [.int i t] → ItG T G v (.box i)
  | null {x d : Addr} {o : Obj} {f : Str → Option Value} {t : Tok} : G x = some (instObj T.cN d) → G d = some o → FO o 2 f → f "kind" = some (.str "NULL" t) → ItG T G (.ref x) .null
theorem ItG.mono {T : TX g.K} {v : Value} {i : It} (h : ItG T G v i) (k : Sub G G') : ItG T G' v i := by
  cases h with
  | none => exact .none
  | int i t => exact .int i t
  | str x t => exact .str x t
  | box h1 h2 h3 => exact .box (h1.mono fun _ _ e => k _ _ e) (k _ _ h2) h3
  | null h1 h2 h3 h4 => exact .null (k _ _ h1) (k _ _ h2) h3 h4
def ItsG (T : TX g.K) (G : Hp) (vs : List Value) (its : List It) : Prop := vs.length = its.length ∧ ∀ (i : Nat) (v : Value), vs[i]? = some v → ∃ it : It, its[i]? = some it ∧ ItG T G v it
theorem ItsG.mono {T : TX g.K} {vs : List Value} {its : List It} (h : ItsG T G vs its) (k : Sub G G') : ItsG T G' vs its :=
  ⟨h.1, fun i v e => let ⟨it, a, b⟩ := h.2 i v e; ⟨it, a, b.mono k⟩⟩
theorem ItsG.nil {T : TX g.K} : ItsG T G [] [] := ⟨rfl, fun i v e => by simp at e⟩
theorem ItsG.snoc {T : TX g.K} {vs : List Value} {its : List It} {v : Value} {it : It} (h : ItsG T G vs its) (k : ItG T G v it) : ItsG T G (vs ++ [v]) (its ++ [it]) := by
  refine ⟨by simp [h.1], fun i w e => ?_⟩
  by_cases q : i < vs.length
  · rw [List.getElem?_append_left q] at e
    rw [List.getElem?_append_left (by rw [← h.1]; exact q)]
    exact h.2 i w e
  · rw [List.getElem?_append_right (by omega)] at e
    rw [List.getElem?_append_right (by rw [← h.1]; omega), ← h.1]
    have : i - vs.length = 0 := by
      cases hq : i - vs.length with
      | zero => rfl
      | succ k => rw [hq] at e; simp at e
    rw [this] at e ⊢
    simp at e
    exact ⟨it, rfl, e ▸ k⟩
/-- a list of items, frozen -/
def LstG (T : TX g.K) (G : Hp) (l : Addr) (its : List It) : Prop := ∃ ol vs, G l = some ol ∧ LO ol vs ∧ ItsG T G vs its
theorem LstG.mono {T : TX g.K} {l : Addr} {its : List It} (h : LstG T G l its) (k : Sub G G') : LstG T G' l its := by
  obtain ⟨ol, vs, a, b, e⟩ := h
  exact ⟨ol, vs, k _ _ a, b, e.mono k⟩
def VL (T : TX g.K) (G : Hp) (v : Value) (kd : Str) (its : List It) (at_ : Value) : Prop := ∃ l, VecL g.K T.cV (GA G) v kd l at_ ∧ LstG T G l its
theorem VL.mono {T : TX g.K} {v : Value} {kd : Str} {its : List It} {at_ : Value} (h : VL T G v kd its at_) (k : Sub G G') : VL T G' v kd its at_ := by
  obtain ⟨l, a, b⟩ := h
  exact ⟨l, a.mono fun _ _ e => k _ _ e, b.mono k⟩
/-- the attributes: none, or the names -/
def AtG (T : TX g.K) (G : Hp) (at_ : Value) : Option (List It) → Prop
  | none => at_ = .none
  | some xs => ∃ dd od nv, at_ = .ref dd ∧ (dd == sysModules) = false ∧ G dd = some od ∧ od.IsDictOf (PySem.strKind g.prog g.w) [("names", nv)] ∧ ∃ at2, VL T G nv "character" xs at2
theorem AtG.mono {T : TX g.K} {at_ : Value} {ns : Option (List It)} (h : AtG T G at_ ns) (k : Sub G G') : AtG T G' at_ ns := by
  cases ns with
  | none => exact h
  | some xs =>
    obtain ⟨dd, od, nv, a1, a2, a3, a4, at2, a5⟩ := h
    exact ⟨dd, od, nv, a1, a2, k _ _ a3, a4, at2, a5.mono k⟩
def VecN (T : TX g.K) (G : Hp) (v : Value) (kd : Str) (its : List It) (ns : Option (List It)) : Prop := ∃ at_, VL T G v kd its at_ ∧ AtG T G at_ ns
theorem VecN.mono {T : TX g.K} {v : Value} {kd : Str} {its : List It} {ns : Option (List It)} (h : VecN T G v kd its ns) (k : Sub G G') : VecN T G' v kd its ns := by
  obtain ⟨a, x, y⟩ := h
  exact ⟨a, x.mono k, y.mono k⟩

theorem get_kind {v : Value} {kd : Str} {l : Addr} {at_ : Value} {b : Bool} (T : TX c.g.K) (hv : VecL c.g.K T.cV (At σ) v kd l at_) (h : ∀ t, Q (.str kd t) σ) : run c (getAttr v "kind" b) Q σ := by
  obtain ⟨x, d, o, f, t, rfl, a1, a2, a3, a4, _⟩ := hv
  exact getAttr_inst T.isV a1 a2 a3 (by simp) a4 rfl (h t)
theorem get_items {v : Value} {kd : Str} {l : Addr} {at_ : Value} {b : Bool} (T : TX c.g.K) (hv : VecL c.g.K T.cV (At σ) v kd l at_) (h : Q (.ref l) σ) : run c (getAttr v "items" b) Q σ := by
  obtain ⟨x, d, o, f, t, rfl, a1, a2, a3, _, a4, _⟩ := hv
  exact getAttr_inst T.isV a1 a2 a3 (by simp) a4 rfl h
theorem get_attrs {v : Value} {kd : Str} {l : Addr} {at_ : Value} {b : Bool} (T : TX c.g.K) (hv : VecL c.g.K T.cV (At σ) v kd l at_) (h : Q at_ σ) : run c (getAttr v "attrs" b) Q σ := by
  obtain ⟨x, d, o, f, t, rfl, a1, a2, a3, _, _, a4, a5⟩ := hv
  exact getAttr_inst T.isV a1 a2 a3 (by simp) a4 a5 h
theorem get_nullkind {x d : Addr} {o : Obj} {f : Str → Option Value} {t : Tok} {b : Bool} (T : TX c.g.K) (a1 : At σ x (instObj T.cN d)) (a2 : At σ d o) (a3 : FO o 2 f) (a4 : f "kind" = some (.str "NULL" t)) (h : ∀ t, Q (.str "NULL" t) σ) : run c (getAttr (.ref x) "kind" b) Q σ :=
  getAttr_inst T.isN a1 a2 a3 (by simp) a4 rfl (h t)
theorem VL.up {T : TX g.K} {v : Value} {kd : Str} {its : List It} {at_ : Value} (h : VL T σ.G v kd its at_) : ∃ l, VecL g.K T.cV (At σ) v kd l at_ ∧ LstG T σ.G l its := by
  obtain ⟨l, a, b⟩ := h
  exact ⟨l, a.mono fun _ _ e => .inl e, b⟩
theorem VecL.up {K : Frag} {cV : Addr} {v : Value} {kd : Str} {l : Addr} {at_ : Value} (h : VecL K cV (GA σ.G) v kd l at_) : VecL K cV (At σ) v kd l at_ := h.mono fun _ _ e => .inl e
end
section
variable {g : Gd} {c : Cx} {σ : Sg} {Q : Value → Sg → Prop} {U : Unit → Sg → Prop} {m : Str → Option Value} {P M : List (Addr × Obj)} {G G' : Hp} {n : Nat} {v : Value} {kd x : Str} {its xs : List It} {ns : Option (List It)} {at_ : Value} {t : Tok} {l : Addr}

theorem ifT {p X Y : Prop} [Decidable p] (h : p) (x : X) : if p then X else Y := by rw [if_pos h]; exact x
theorem ifF {p X Y : Prop} [Decidable p] (h : ¬ p) (y : Y) : if p then X else Y := by rw [if_neg h]; exact y
theorem call_lenE {o : Obj} {vs : List Value} {k : Nat} (hl : At σ l o) (ho : LO o vs) (e : vs.length = k) (hf : k < 2 ^ 62) (h : ∀ t, Q (.int (k : Int) t) σ) : run c (call (.builtin "len") [.ref l]) Q σ :=
  call_len hl ho (by omega) fun t => by rw [e]; exact h t
theorem run_clear {α : Type} {t : Sem α} {Q : α → Sg → Prop} (h : run c t Q ⟨m, P, [], G⟩) : run c t Q ⟨m, P, M, G⟩ := fun s hs => h s (hs.sub (fun _ h => nomatch h) .nil)
theorem end0 {A : Around} {env : Env} {m' : Str → Option Value} {M' : List (Addr × Obj)} {fl : Flow} {Z G₀ : Hp} {s₀ : Shared} {N : List Addr} (h : Q (retOf fl) ⟨m, P, M, G'⟩) :
    run ⟨g, A, env, Z, s₀, G₀, N⟩ (pure fl) (fun fl σ' => σ'.P = [] ∧ Q (retOf fl) ⟨m, P, σ'.M ++ M, σ'.G⟩) ⟨m', [], M', G'⟩ := run_clear (run_pure ⟨rfl, h⟩)

theorem call_getattr (T : TX c.g.K) (r : Rm c.A n) (hv : VL T G v kd its at_) {rv : Value} (ha : (at_ = .none ∧ rv = .none) ∨ ∃ dd od kvs, at_ = .ref dd ∧ (dd == sysModules) = false ∧ G dd = some od ∧ od.IsDictOf (PySem.strKind c.g.prog c.g.w) kvs ∧ rv = (valueAt kvs x).getD .none)
    (h : Q rv ⟨m, P, M, G⟩) : run c (call (.ref (T.fa 2)) [v, .str x t]) Q ⟨m, P, M, G⟩ := by
  refine enter0 (T.fn 2 (by simp)) r (binds := [("v", v), ("name", .str x t)]) (fun _ _ _ _ _ => by kernel_rfl) (fun L Z s₀ cdv => ?_) (by kernel_rfl)
  obtain ⟨l, hl, _⟩ := hv
  walk_at "open"
  walk_at "gos"
  refine get_attrs T (VecL.up hl) ?_
  walk_at "gos"
  rcases ha with ⟨rfl, rfl⟩ | ⟨dd, od, kvs, rfl, lo, h1, h2, rfl⟩
  · refine ifT (by rfl) ?_
    walk_at "gos"
    exact end0 h
  · refine ifF (by simp) ?_
    walk_at "gos"
    refine run_get ?_
    walk_at "gos"
    refine get_attrs T (VecL.up hl) ⟨dd, od, kvs, rfl, lo, .inl h1, h2, ?_⟩
    walk_at "gos"
    exact ⟨x, t, rfl, .inl h1, end0 h⟩
theorem AtG.names {T : TX g.K} (h : AtG T G at_ ns) : ∃ rv, ((at_ = .none ∧ rv = .none) ∨ ∃ dd od kvs, at_ = .ref dd ∧ (dd == sysModules) = false ∧ G dd = some od ∧ od.IsDictOf (PySem.strKind g.prog g.w) kvs ∧ rv = (valueAt kvs "names").getD .none) ∧
    ((ns = none ∧ rv = .none) ∨ ∃ xs at2, ns = some xs ∧ VL T G rv "character" xs at2) := by
  cases ns with
  | none => exact ⟨.none, .inl ⟨h, rfl⟩, .inl ⟨rfl, rfl⟩⟩
  | some xs =>
    obtain ⟨dd, od, nv, a1, a2, a3, a4, at2, a5⟩ := h
    exact ⟨nv, .inr ⟨dd, od, _, a1, a2, a3, a4, rfl⟩, .inr ⟨xs, at2, rfl, a5⟩⟩
theorem AtG.dim {T : TX g.K} (h : AtG T G at_ ns) : ((at_ = .none ∧ Value.none = .none) ∨ ∃ dd od kvs, at_ = .ref dd ∧ (dd == sysModules) = false ∧ G dd = some od ∧ od.IsDictOf (PySem.strKind g.prog g.w) kvs ∧ Value.none = (valueAt kvs "dim").getD .none) := by
  cases ns with
  | none => exact .inl ⟨h, rfl⟩
  | some xs =>
    obtain ⟨dd, od, nv, a1, a2, a3, a4, at2, a5⟩ := h
    exact .inr ⟨dd, od, _, a1, a2, a3, a4, rfl⟩

theorem call_dim (T : TX c.g.K) (r : Rm c.A (n + 1)) (hv : VecN T G v kd its ns) (h : Q .none ⟨m, P, M, G⟩) : run c (call (.ref (T.fa 4)) [v]) Q ⟨m, P, M, G⟩ := by
  refine enter0 (T.fn 4 (by simp)) r (binds := [("v", v)]) (fun _ _ _ _ _ => by kernel_rfl) (fun L Z s₀ cdv => ?_) (by kernel_rfl)
  obtain ⟨at_, hv, ha⟩ := hv
  walk_at "open"
  walk_at "gos"
  refine call_fn (T.fn 2 (by simp)) ?_
  walk_at "gos"
  refine call_getattr _ (by exact r.deep) (by exact hv) (by exact AtG.dim ha) ?_
  walk_at "gos"
  refine ifT (by rfl) ?_
  walk_at "gos"
  exact end0 h
/-- the names, as names_of hands them back -/
def NmG (T : TX g.K) (G : Hp) (rv : Value) : Option (List It) → Prop
  | none => rv = .none
  | some xs => ∃ l, rv = .ref l ∧ LstG T G l xs
theorem NmG.mono {T : TX g.K} {rv : Value} (h : NmG T G rv ns) (k : Sub G G') : NmG T G' rv ns := by
  cases ns with
  | none => exact h
  | some xs => obtain ⟨l, a, b⟩ := h; exact ⟨l, a, b.mono k⟩
theorem call_names (T : TX c.g.K) (r : Rm c.A (n + 2)) (hv : VecN T G v kd its ns) (h1 : (kd == "language") = false) (h2 : (kd == "environment") = false) (hz : ∀ xs, ns = some xs → xs.length < 1000)
    (h : ∀ rv G', Sub G G' → NmG T G' rv ns → Q rv ⟨m, P, M, G'⟩) : run c (call (.ref (T.fa 3)) [v]) Q ⟨m, P, M, G⟩ := by
  refine enter0 (T.fn 3 (by simp)) r (binds := [("v", v)]) (fun _ _ _ _ _ => by kernel_rfl) (fun L Z s₀ cdv => ?_) (by kernel_rfl)
  have hv0 := hv
  obtain ⟨at_, hv, ha⟩ := hv
  obtain ⟨l, hl, _⟩ := id hv
  walk_at "open"
  walk_at "gos"
  refine get_kind T (VecL.up hl) fun _ => ?_
  walk_at "gos"
  refine ifF (by rw [h1]; simp) ?_
  walk_at "gos"
  refine get_kind T (VecL.up hl) fun _ => ?_
  walk_at "gos"
  refine ifF (by rw [h2]; simp) ?_
  walk_at "gos"
  refine call_fn (T.fn 4 (by simp)) ?_
  walk_at "gos"
  refine call_dim _ (by exact r.deep) (by exact hv0) ?_
  walk_at "gos"
  refine ifF (by simp) ?_
  refine ifF (by simp) ?_
  walk_at "gos"
  refine call_fn (T.fn 2 (by simp)) ?_
  walk_at "gos"
  obtain ⟨rv, q1, q2⟩ := AtG.names ha
  refine call_getattr _ (by exact (r.deep.le (Nat.le_succ _))) (by exact hv) (by exact q1) ?_
  walk_at "gos"
  rcases q2 with ⟨rfl, rfl⟩ | ⟨xs, at2, rfl, q⟩
  · refine ifT (by rfl) ?_
    walk_at "gos"
    exact end0 (h _ _ (Sub.refl _) rfl)
  · obtain ⟨l2, e1, ol, vs, e2, e3, e4⟩ := q
    refine ifF (by obtain ⟨x, d, o, f, t, rfl, _⟩ := e1; simp) ?_
    walk_at "gos"
    refine call_bn T (by simp) hv_list kp_type ?_
    walk_at "gos"
    refine get_items T (VecL.up e1) ?_
    walk_at "gos"
    refine call_listL (.inl e2) e3 (by rw [e4.1]; have := hz xs rfl; omega) fun d o' ho' => ?_
    refine run_freeze fun G' k1 k2 => ?_
    exact end0 (h _ _ k1 ⟨d, rfl, o', vs, k2, ho', e4.mono k1⟩)
end
section
variable {g : Gd} {c : Cx} {σ : Sg} {Q : Value → Sg → Prop} {U : Unit → Sg → Prop} {m : Str → Option Value} {P M : List (Addr × Obj)} {G G' : Hp} {n : Nat} {v : Value} {kd x : Str} {its xs : List It} {ns : Option (List It)} {at_ : Value} {t : Tok} {l : Addr}

def lack (kd : Str) : It := if kd == "list" then .null else .none
theorem call_lacking (T : TX c.g.K) (r : Rm c.A (n + 2)) (hk : kd = "list" ∨ kd = "integer") (h : ∀ rv G', Sub G G' → ItG T G' rv (lack kd) → Q rv ⟨m, P, M, G'⟩) : run c (call (.ref (T.fa 27)) [.str kd t]) Q ⟨m, P, M, G⟩ := by
  refine enter0 (T.fn 27 (by simp)) r (binds := [("kind", .str kd t)]) (fun _ _ _ _ _ => by kernel_rfl) (fun L Z s₀ cdv => ?_) (by kernel_rfl)
  walk_at "open"
  walk_at "gos"
  refine run_Tuple ?_
  walk_at "gos"
  refine ⟨by simp [sizeLine], fun d => ?_⟩
  refine in_tup (ys := ["list", "expression", "pairlist"]) (.inr (.inl (.head _))) TO.mk (by repeat constructor) ?_
  walk_at "gos"
  rcases hk with rfl | rfl
  · refine ifT (by rfl) ?_
    walk_at "gos"
    refine run_Call (run_global T.isN.ns ⟨kp_K T.isN.kp, ?_⟩)
    walk_at "gos"
    refine make_null _ (by exact r.deep) fun x d o f h1 h2 => ?_
    obtain ⟨t, h2⟩ := h2
    refine run_freeze fun G1 k1 q1 => ?_
    refine run_freeze fun G2 k2 q2 => ?_
    exact end0 (h _ _ (k1.trans k2) (.null (k2 _ _ q1) q2 h1 h2))
  · refine ifF (by decide) ?_
    walk_at "gos"
    exact end0 (h _ _ (Sub.refl _) .none)
theorem call_rkind (T : TX c.g.K) (r : Rm c.A n) (hk : (kd == "pairlist") = false) (h : Q (.str kd t) ⟨m, P, M, G⟩) : run c (call (.ref (T.fa 28)) [.str kd t]) Q ⟨m, P, M, G⟩ := by
  refine enter0 (T.fn 28 (by simp)) r (binds := [("kind", .str kd t)]) (fun _ _ _ _ _ => by kernel_rfl) (fun L Z s₀ cdv => ?_) (by kernel_rfl)
  walk_at "open"
  walk_at "gos"
  refine ifF (by rw [hk]; simp) ?_
  walk_at "gos"
  exact end0 h
/-- character(items), the items a list -/
theorem call_character (T : TX c.g.K) (r : Rm c.A (n + 2)) (hl : LstG T G l xs) (hz : xs.length < 1000) (h : ∀ rv G' at2, Sub G G' → VL T G' rv "character" xs at2 → Q rv ⟨m, P, M, G'⟩) : run c (call (.ref (T.fa 24)) [.ref l]) Q ⟨m, P, M, G⟩ := by
  refine enter0 (T.fn 24 (by simp)) r (binds := [("items", .ref l)]) (fun _ _ _ _ _ => by kernel_rfl) (fun L Z s₀ cdv => ?_) (by kernel_rfl)
  obtain ⟨ol, vs, e1, e2, e3⟩ := hl
  walk_at "open"
  walk_at "gos"
  refine run_Call (run_global T.isV.ns ⟨kp_K T.isV.kp, ?_⟩)
  walk_at "gos"
  refine call_bn T (by simp) hv_list kp_type ?_
  walk_at "gos"
  refine call_listL (.inl e1) e2 (by rw [e3.1]; omega) fun d o' ho' => ?_
  walk_at "gos"
  refine make_vec _ (by exact r.deep) fun x d2 o f h1 h2 h3 h4 => ?_
  refine run_freeze fun G1 k1 q1 => ?_
  refine run_freeze fun G2 k2 q2 => ?_
  refine run_freeze fun G3 k3 q3 => ?_
  obtain ⟨es, n, a1, a2, a3⟩ := h1
  exact end0 (h _ _ .none ((k1.trans k2).trans k3) ⟨d, ⟨x, d2, o, f, _, rfl, k3 _ _ (k2 _ _ q1), k3 _ _ q2, ⟨es, n, a1, by omega, a3⟩, h2, h3, h4, rfl⟩, o', vs, q3, ho', e3.mono ((k1.trans k2).trans k3)⟩)
end
def plIt : Option Nat → It
  | none => .none
  | some p => .int p
def itemAt (kd : Str) (its : List It) (p : Option Nat) : It := match p with
  | none => lack kd
  | some p => its.getD p (lack kd)
def nameAt (xs : List It) (p : Option Nat) : It := match p with
  | none => .str "<NA>"
  | some p => xs.getD p (.str "<NA>")
section
variable {g : Gd} {c : Cx} {σ : Sg} {Q : Value → Sg → Prop} {U : Unit → Sg → Prop} {m : Str → Option Value} {P M : List (Addr × Obj)} {G G' : Hp} {n : Nat} {v : Value} {kd x : Str} {its xs : List It} {ns : Option (List It)} {at_ : Value} {t : Tok} {l lp : Addr} {ps : List (Option Nat)}

theorem take_snoc {α β : Type} {f : α → β} {l : List α} {i : Nat} {a : α} (h : l[i]? = some a) : (l.take (i + 1)).map f = (l.take i).map f ++ [f a] := by
  rw [List.take_add_one, h]; simp
theorem ItsG.get {T : TX g.K} {vs : List Value} {i : Nat} {w : Value} (h : ItsG T G vs its) (e : vs[i]? = some w) : ∃ it : It, its[i]? = some it ∧ ItG T G w it := h.2 i w e
theorem pl_at {T : TX g.K} {vs : List Value} {i : Nat} {w : Value} (h : ItsG T G vs (ps.map plIt)) (e : vs[i]? = some w) : ∃ p, ps[i]? = some p ∧ ((p = none ∧ w = .none) ∨ ∃ (k : Nat) (t : Tok), p = some k ∧ w = .int k t) := by
  obtain ⟨it, h1, h2⟩ := h.get e
  rw [List.getElem?_map, Option.map_eq_some_iff] at h1
  obtain ⟨p, h1, rfl⟩ := h1
  refine ⟨p, h1, ?_⟩
  cases p with
  | none => cases h2; exact .inl ⟨rfl, rfl⟩
  | some k => cases h2; exact .inr ⟨k, _, rfl, rfl⟩

theorem call_items (T : TX c.g.K) (r : Rm c.A (n + 3)) (hv : VL T G v kd its at_) (hp : LstG T G lp (ps.map plIt)) (hk : kd = "list" ∨ kd = "integer") (hz : its.length < 1000) (hz2 : ps.length < 1000)
    (h : ∀ d G', Sub G G' → LstG T G' d (ps.map (itemAt kd its)) → Q (.ref d) ⟨m, P, M, G'⟩) : run c (call (.ref (T.fa 29)) [v, .ref lp]) Q ⟨m, P, M, G⟩ := by
  refine enter0 (T.fn 29 (by simp)) r (binds := [("v", v), ("places", .ref lp)]) (fun _ _ _ _ _ => by kernel_rfl) (fun L Z s₀ cdv => ?_) (by kernel_rfl)
  obtain ⟨l, hl, ol, vs, e1, e2, e3⟩ := hv
  obtain ⟨op, ws, p1, p2, p3⟩ := hp
  walk_at "open"
  walk_at "gos"
  refine run_List ?_
  walk_at "gos"
  refine ⟨by simp [sizeLine], fun d => ?_⟩
  walk_at "gos"
  walk_at "len"
  walk_at "gos"
  refine get_items T (VecL.up hl) ?_
  walk_at "gos"
  refine call_len (.inl e1) e2 (by rw [e3.1]; omega) fun tn => ?_
  walk_at "gos"
  have hlen : ws.length = ps.length := by rw [p3.1, List.length_map]
  refine st_for (n := ws.length) (P := fun i v => ws[i]? = some v) (fun i σ => ∃ m' vs' o' G1, σ = ⟨m', [], [(d, o')], G1⟩ ∧ Sub G G1 ∧ LO o' vs' ∧ ItsG T G1 vs' ((ps.take i).map (itemAt kd its)) ∧ m' "found" = some (.ref d) ∧ m' "n" = some (.int vs.length tn) ∧ m' "v" = some v) ?_ ?_ ?_
  · walk_at "gos"
    refine ⟨iter_frozen r.deep.h p1 p2, _, [], _, _, rfl, Sub.refl _, LO.mk, ItsG.nil, by walk_at "lk", by walk_at "lk", by walk_at "lk"⟩
  · rintro i w σ Z' N' hi hw ⟨m', vs', o', G1, rfl, k1, ho', hits, m1, m2, m3⟩ hZ
    have hlo : vs'.length < 1000 := by rw [hits.1]; simp; omega
    obtain ⟨p, hp, hpw⟩ := pl_at p3 hw
    have hl1 := VecL.up (σ := ⟨upd m' "place" w, [], [(d, o')], G1⟩) (hl.mono fun _ _ e => k1 _ _ e)
    have fin : ∀ (y : Value) (G2 : Hp) (o2 : Obj) (m2' : Str → Option Value), Sub G1 G2 → ItG T G2 y (itemAt kd its p) → LO o2 (vs' ++ [y]) → m2' "found" = some (.ref d) → m2' "n" = some (.int vs.length tn) → m2' "v" = some v →
        ∃ m' vs' o' G1, (⟨m2', [], [(d, o2)], G2⟩ : Sg) = ⟨m', [], [(d, o')], G1⟩ ∧ Sub G G1 ∧ LO o' vs' ∧ ItsG T G1 vs' ((ps.take (i + 1)).map (itemAt kd its)) ∧ m' "found" = some (.ref d) ∧ m' "n" = some (.int vs.length tn) ∧ m' "v" = some v := by
      intro y G2 o2 m2' k2 hy ho2 a b c
      exact ⟨_, _, _, _, rfl, k1.trans k2, ho2, by rw [take_snoc hp]; exact (hits.mono k2).snoc hy, a, b, c⟩
    walk_at "gos"
    rcases hpw with ⟨rfl, rfl⟩ | ⟨k, tk, rfl, rfl⟩
    · refine ifT (by rfl) ?_
      refine ifT rfl ?_
      walk_at "gos"
      refine run_appendCall ?_
      walk_at "gos"
      refine ⟨d, o', vs', rfl, .inr (.inl (.head _)), ho', ?_⟩
      refine call_fn (T.fn 27 (by simp)) ?_
      walk_at "gos"
      refine get_kind T hl1 fun tk => ?_
      walk_at "gos"
      refine call_lacking _ (by exact r.deep) hk fun rv G2 k2 hrv => ?_
      refine call_append (.own .head) ho' (by omega) fun o2 ho2 => ?_
      walk_at "gos"
      refine fin _ _ _ _ k2 hrv ho2 ?_ ?_ ?_ <;> walk_at "lk"
    · refine ifF (by simp) ?_
      walk_at "gos"
      by_cases hc : (vs.length : Int) ≤ k
      · refine ifT (by simpa using hc) ?_
        refine ifT rfl ?_
        walk_at "gos"
        refine run_appendCall ?_
        walk_at "gos"
        refine ⟨d, o', vs', rfl, .inr (.inl (.head _)), ho', ?_⟩
        refine call_fn (T.fn 27 (by simp)) ?_
        walk_at "gos"
        refine get_kind T hl1 fun tk => ?_
        walk_at "gos"
        refine call_lacking _ (by exact r.deep) hk fun rv G2 k2 hrv => ?_
        refine call_append (.own .head) ho' (by omega) fun o2 ho2 => ?_
        walk_at "gos"
        refine fin _ _ _ _ k2 ?_ ho2 ?_ ?_ ?_
        rotate_left
        iterate 3 walk_at "lk"
        have : itemAt kd its (some k) = lack kd := by
          show its.getD k (lack kd) = _
          rw [List.getD_eq_getElem?_getD, List.getElem?_eq_none (by rw [← e3.1]; omega)]; rfl
        rw [this]; exact hrv
      · refine ifF (by simpa using hc) ?_
        walk_at "gos"
        refine ifF (by simp) ?_
        walk_at "gos"
        refine run_appendCall ?_
        walk_at "gos"
        refine ⟨d, o', vs', rfl, .inr (.inl (.head _)), ho', ?_⟩
        walk_at "gos"
        refine get_items T hl1 ?_
        walk_at "gos"
        have hlt : k < vs.length := by omega
        have hvl := e3.1
        obtain ⟨it, i1, i2⟩ := e3.get (List.getElem?_eq_getElem hlt)
        refine sub_list (v := vs[k]) (.inl (k1 _ _ e1)) e2 (by omega) (by omega) (by simp [hlt]) ?_
        refine call_append (.own .head) ho' (by omega) fun o2 ho2 => ?_
        walk_at "gos"
        refine fin _ _ _ _ (Sub.refl _) ?_ ho2 ?_ ?_ ?_
        rotate_left
        iterate 3 walk_at "lk"
        have : itemAt kd its (some k) = it := by
          show its.getD k (lack kd) = _
          rw [List.getD_eq_getElem?_getD, i1]; rfl
        rw [this]; exact i2.mono k1
  · rintro σ ⟨m', vs', o', G1, rfl, k1, ho', hits, m1, m2, m3⟩
    walk_at "gos"
    refine run_freeze fun G2 k2 q2 => ?_
    refine end0 (h _ _ (k1.trans k2) ⟨_, _, q2, ho', ?_⟩)
    rw [hlen, List.take_length] at hits
    exact hits.mono k2
end
section
variable {g : Gd} {c : Cx} {σ : Sg} {Q : Value → Sg → Prop} {U : Unit → Sg → Prop} {m : Str → Option Value} {P M : List (Addr × Obj)} {G G' : Hp} {n : Nat} {v : Value} {kd x : Str} {its xs : List It} {ns : Option (List It)} {at_ : Value} {t : Tok} {l lp : Addr} {ps : List (Option Nat)}

theorem call_namesat (T : TX c.g.K) (r : Rm c.A (n + 1)) (hv : LstG T G l xs) (hp : LstG T G lp (ps.map plIt)) (hz : xs.length < 1000) (hz2 : ps.length < 1000)
    (h : ∀ d G', Sub G G' → LstG T G' d (ps.map (nameAt xs)) → Q (.ref d) ⟨m, P, M, G'⟩) : run c (call (.ref (T.fa 30)) [.ref l, .ref lp]) Q ⟨m, P, M, G⟩ := by
  refine enter0 (T.fn 30 (by simp)) r (binds := [("names", .ref l), ("places", .ref lp)]) (fun _ _ _ _ _ => by kernel_rfl) (fun L Z s₀ cdv => ?_) (by kernel_rfl)
  obtain ⟨ol, vs, e1, e2, e3⟩ := hv
  obtain ⟨op, ws, p1, p2, p3⟩ := hp
  have hvl := e3.1
  walk_at "open"
  walk_at "gos"
  refine run_List ?_
  walk_at "gos"
  refine ⟨by simp [sizeLine], fun d => ?_⟩
  walk_at "gos"
  have hlen : ws.length = ps.length := by rw [p3.1, List.length_map]
  refine st_for (n := ws.length) (P := fun i v => ws[i]? = some v) (fun i σ => ∃ m' vs' o', σ = ⟨m', [], [(d, o')], G⟩ ∧ LO o' vs' ∧ ItsG T G vs' ((ps.take i).map (nameAt xs)) ∧ m' "found" = some (.ref d) ∧ m' "names" = some (.ref l)) ?_ ?_ ?_
  · walk_at "gos"
    refine ⟨iter_frozen r.deep.h p1 p2, _, [], _, rfl, LO.mk, ItsG.nil, by walk_at "lk", by walk_at "lk"⟩
  · rintro i w σ Z' N' hi hw ⟨m', vs', o', rfl, ho', hits, m1, m2⟩ hZ
    have hlo : vs'.length < 1000 := by rw [hits.1]; simp; omega
    obtain ⟨p, hp, hpw⟩ := pl_at p3 hw
    have fin : ∀ (y : Value) (o2 : Obj) (m2' : Str → Option Value), ItG T G y (nameAt xs p) → LO o2 (vs' ++ [y]) → m2' "found" = some (.ref d) → m2' "names" = some (.ref l) →
        ∃ m' vs' o', (⟨m2', [], [(d, o2)], G⟩ : Sg) = ⟨m', [], [(d, o')], G⟩ ∧ LO o' vs' ∧ ItsG T G vs' ((ps.take (i + 1)).map (nameAt xs)) ∧ m' "found" = some (.ref d) ∧ m' "names" = some (.ref l) := by
      intro y o2 m2' hy ho2 a b
      exact ⟨_, _, _, rfl, ho2, by rw [take_snoc hp]; exact hits.snoc hy, a, b⟩
    walk_at "gos"
    rcases hpw with ⟨rfl, rfl⟩ | ⟨k, tk, rfl, rfl⟩
    · refine ifT (by rfl) ?_
      refine ifT rfl ?_
      walk_at "gos"
      refine run_appendCall ?_
      walk_at "gos"
      refine ⟨d, o', vs', rfl, .inr (.inl (.head _)), ho', ?_⟩
      walk_at "gos"
      refine call_append (.own .head) ho' (by omega) fun o2 ho2 => ?_
      walk_at "gos"
      refine fin _ _ _ (.str _ _) ho2 ?_ ?_ <;> walk_at "lk"
    · refine ifF (by simp) ?_
      walk_at "gos"
      walk_at "len"
      walk_at "gos"
      refine call_len (.inl e1) e2 (by omega) fun tn => ?_
      walk_at "gos"
      by_cases hc : (vs.length : Int) ≤ k
      · refine ifT (by simpa using hc) ?_
        refine ifT rfl ?_
        walk_at "gos"
        refine run_appendCall ?_
        walk_at "gos"
        refine ⟨d, o', vs', rfl, .inr (.inl (.head _)), ho', ?_⟩
        walk_at "gos"
        refine call_append (.own .head) ho' (by omega) fun o2 ho2 => ?_
        walk_at "gos"
        refine fin _ _ _ ?_ ho2 ?_ ?_
        rotate_left
        iterate 2 walk_at "lk"
        have : nameAt xs (some k) = .str "<NA>" := by
          show xs.getD k _ = _
          rw [List.getD_eq_getElem?_getD, List.getElem?_eq_none (by omega)]; rfl
        rw [this]; exact .str _ _
      · refine ifF (by simpa using hc) ?_
        walk_at "gos"
        refine ifF (by simp) ?_
        walk_at "gos"
        refine run_appendCall ?_
        walk_at "gos"
        refine ⟨d, o', vs', rfl, .inr (.inl (.head _)), ho', ?_⟩
        walk_at "gos"
        have hlt : k < vs.length := by omega
        obtain ⟨it, i1, i2⟩ := e3.get (List.getElem?_eq_getElem hlt)
        refine sub_list (v := vs[k]) (.inl e1) e2 (by omega) (by omega) (by simp [hlt]) ?_
        refine call_append (.own .head) ho' (by omega) fun o2 ho2 => ?_
        walk_at "gos"
        refine fin _ _ _ ?_ ho2 ?_ ?_
        rotate_left
        iterate 2 walk_at "lk"
        have : nameAt xs (some k) = it := by
          show xs.getD k _ = _
          rw [List.getD_eq_getElem?_getD, i1]; rfl
        rw [this]; exact i2
  · rintro σ ⟨m', vs', o', rfl, ho', hits, m1, m2⟩
    walk_at "gos"
    refine run_freeze fun G2 k2 q2 => ?_
    refine end0 (h _ _ k2 ⟨_, _, q2, ho', ?_⟩)
    rw [hlen, List.take_length] at hits
    exact hits.mono k2

/-- whole_subscripts of an integer vector hands back its items -/
theorem call_whole (T : TX c.g.K) (r : Rm c.A n) (hv : VecL c.g.K T.cV (GA G) v "integer" l at_) (h : Q (.ref l) ⟨m, P, M, G⟩) : run c (call (.ref (T.fa 13)) [v]) Q ⟨m, P, M, G⟩ := by
  refine enter0 (T.fn 13 (by simp)) r (binds := [("ix", v)]) (fun _ _ _ _ _ => by kernel_rfl) (fun L Z s₀ cdv => ?_) (by kernel_rfl)
  walk_at "open"
  walk_at "gos"
  refine get_kind T (VecL.up hv) fun tk => ?_
  walk_at "gos"
  refine ifT (by rfl) ?_
  walk_at "gos"
  refine get_items T (VecL.up hv) ?_
  walk_at "gos"
  exact end0 h
/-- named(v, None) -/
theorem call_named0 (T : TX c.g.K) (r : Rm c.A n) (h : Q v ⟨m, P, M, G⟩) : run c (call (.ref (T.fa 25)) [v, .none]) Q ⟨m, P, M, G⟩ := by
  refine enter0 (T.fn 25 (by simp)) r (binds := [("v", v), ("names", .none)]) (fun _ _ _ _ _ => by kernel_rfl) (fun L Z s₀ cdv => ?_) (by kernel_rfl)
  walk_at "open"
  walk_at "gos"
  refine ifF (by simp) ?_
  walk_at "gos"
  exact end0 h
end
section
variable {g : Gd} {c : Cx} {σ : Sg} {Q : Value → Sg → Prop} {U : Unit → Sg → Prop} {m : Str → Option Value} {P M : List (Addr × Obj)} {G G' : Hp} {n k : Nat} {v : Value} {kd x : Str} {its xs : List It} {ns : Option (List It)} {at_ : Value} {t : Tok} {l lp : Addr} {ps : List (Option Nat)}

/-- a call that hands on an own object of a class, its dict with it -/
theorem enterM2 {x : Str} {params : Arguments} {body : List Stmt} {scope : Scope} {f : Addr} {args : List Value} {binds : List (Str × Value)} {a d : Addr} {oa o : Obj} (I : IsFn c.g.K x f params body scope) (r : Rm c.A n) (hb : Binds x params body scope args binds)
    (h : ∀ L Z s₀ cdv, run (cxF c x scope f L cdv Z s₀ G) (execs body (envOf x scope L f cdv))
      (fun fl σ' => run (cxF c x scope f L cdv Z s₀ G) (pure fl) (fun fl σ' => ∃ o', σ'.P = [(a, oa), (d, o')] ∧ Q (retOf fl) ⟨m, P, σ'.M ++ (a, oa) :: (d, o') :: M, σ'.G⟩) σ') ⟨fun y => binds.reverse.lookup y, [(a, oa), (d, o)], [], G⟩)
    (hloc : (binds.all fun y => decide (scope.names.lookup y.1 = some .local)) = true := by kernel_rfl) (hcell : ∀ x ∈ scope.names, x.2 ≠ .cell := by decide +kernel)
    (hco : scope.isCoroutine = false := by kernel_rfl) (hgen : scope.isGenerator = false := by kernel_rfl) (hk : scope.kind = .function := by kernel_rfl) : run c (call (.ref f) args) Q ⟨m, P, (a, oa) :: (d, o) :: M, G⟩ := by
  obtain ⟨oc, od, doc, pm, an, cdv, ct, osl, ho, hcd⟩ := I.ob
  have hp : ∀ o : Obj, (⟨m, P, (a, oa) :: (d, o) :: M, G⟩ : Sg).all.Perm ([(a, oa), (d, o)] ++ (P ++ M)) := fun o => by
    show (P ++ ([(a, oa), (d, o)] ++ M)).Perm ([(a, oa), (d, o)] ++ (P ++ M))
    rw [← List.append_assoc, ← List.append_assoc]
    exact List.Perm.append_right _ List.perm_append_comm
  refine run_call (runC_enter_gen (passed := [(a, oa), (d, o)]) (others := P ++ M) ?_ (hp o) ho hcd r.lim (fun _ _ => BindsTo.of_eq (hb _ _ _ _ _)) (locs hloc) (fun L Z s₀ => ?_) hcell hco hgen hk)
  · exact List.Sublist.trans (show List.Sublist [(a, oa), (d, o)] ([(a, oa), (d, o)] ++ M) from List.sublist_append_left _ _) (List.sublist_append_right P _)
  refine run_mono (run_tail (h L Z s₀ cdv)) fun fl σ' ⟨o', e, hq⟩ => ⟨P, σ'.M ++ (a, oa) :: (d, o') :: M, ?_, ?_, ?_, hq⟩
  · rw [e]; rfl
  · rw [e]
    refine List.Perm.trans ?_ (List.Perm.append_left σ'.M (hp o'))
    rw [← List.append_assoc]
    show (P ++ σ'.M ++ _).Perm (σ'.M ++ (P ++ _))
    rw [← List.append_assoc]
    exact List.Perm.append_right _ List.perm_append_comm
  · intro p hp
    rcases List.mem_append.mp hp with h | h
    · exact .inl h
    · refine .inr (List.mem_map.mpr ?_)
      rcases List.mem_cons.mp h with rfl | h
      · exact ⟨_, .head _, rfl⟩
      · rcases List.mem_cons.mp h with rfl | h
        · exact ⟨(d, o), .tail _ (.head _), rfl⟩
        · exact ⟨p, .tail _ (.tail _ h), rfl⟩

theorem call_named1 (T : TX c.g.K) (r : Rm c.A (n + 3)) {a d : Addr} {o : Obj} {f : Str → Option Value} (ho : FO o k f) (hk : k < 9) (hl : LstG T G l xs) (hz : xs.length < 1000)
    (h : ∀ o' av G', Sub G G' → FO o' (k + 1) (upd f "attrs" av) → handedIn av = true → AtG T G' av (some xs) → Q (.ref a) ⟨m, P, (a, instObj T.cV d) :: (d, o') :: M, G'⟩) :
    run c (call (.ref (T.fa 25)) [.ref a, .ref l]) Q ⟨m, P, (a, instObj T.cV d) :: (d, o) :: M, G⟩ := by
  refine enterM2 (T.fn 25 (by simp)) r (binds := [("v", .ref a), ("names", .ref l)]) (fun _ _ _ _ _ => by kernel_rfl) (fun L Z s₀ cdv => ?_) (by kernel_rfl)
  walk_at "open"
  walk_at "gos"
  refine ifT (by simp) ?_
  walk_at "gos"
  refine run_Dict1 fun dd od lo hd => ?_
  walk_at "gos"
  refine call_fn (T.fn 24 (by simp)) ?_
  walk_at "gos"
  refine call_character _ (by exact r.deep) (by exact hl) hz fun rv G' at2 k1 hrv => ?_
  refine ⟨_, _, _, rfl, .head, fun o' ho' => ?_⟩
  refine run_freeze fun G2 k2 q2 => ?_
  walk_at "gos"
  refine setAttr_inst T.isV (.inr (.inr (.head _))) (.passed (.tail .head)) ho (by simp) (by omega) fun o2 ho2 => ?_
  walk_at "gos"
  exact run_clear (run_pure ⟨o2, rfl, h _ _ _ (k1.trans k2) ho2 rfl ⟨dd, o', rv, rfl, lo, q2, ho', at2, hrv.mono k2⟩⟩)
end
def ixIt : Option Int → It
  | none => .none
  | some p => .int p
def logOne (x : Option Int) (i : Nat) : Option (Option Nat) := match x with
  | none => some none
  | some k => if k = 0 then none else some (some i)
def logP (xs : List (Option Int)) (n : Nat) : List (Option Nat) := if xs.length = 0 then [] else (List.range (max n xs.length)).filterMap fun i => logOne (xs.getD (i % xs.length) none) i
theorem fmod_nat (i n : Nat) : Int.fmod (i : Int) (n : Int) = ((i % n : Nat) : Int) := by
  rw [Int.fmod_eq_emod_of_nonneg _ (by omega)]; simp
theorem fm_snoc {β : Type} (f : Nat → Option β) (i : Nat) : (List.range (i + 1)).filterMap f = (List.range i).filterMap f ++ (f i).toList := by
  rw [List.range_succ, List.filterMap_append]
  cases h : f i <;> simp [h]
theorem fm_len {β : Type} (f : Nat → Option β) (i : Nat) : ((List.range i).filterMap f).length ≤ i := by
  have := List.length_filterMap_le f (List.range i)
  simpa using this
section
variable {g : Gd} {c : Cx} {σ : Sg} {Q : Value → Sg → Prop} {U : Unit → Sg → Prop} {m : Str → Option Value} {P M : List (Addr × Obj)} {G G' : Hp} {n k : Nat} {v : Value} {kd x : Str} {its : List It} {ns : Option (List It)} {at_ : Value} {t : Tok} {l lp : Addr} {ps : List (Option Nat)} {xs : List (Option Int)}

theorem ix_at {T : TX g.K} {vs : List Value} {i : Nat} {w : Value} (h : ItsG T G vs (xs.map ixIt)) (e : vs[i]? = some w) : ∃ p, xs[i]? = some p ∧ ((p = none ∧ w = .none) ∨ ∃ (k : Int) (t : Tok), p = some k ∧ w = .int k t) := by
  obtain ⟨it, h1, h2⟩ := h.get e
  rw [List.getElem?_map, Option.map_eq_some_iff] at h1
  obtain ⟨p, h1, rfl⟩ := h1
  refine ⟨p, h1, ?_⟩
  cases p with
  | none => cases h2; exact .inl ⟨rfl, rfl⟩
  | some k => cases h2; exact .inr ⟨k, _, rfl, rfl⟩

theorem call_logical {nn : Nat} {tn : Tok} (T : TX c.g.K) (r : Rm c.A (n + 1)) (hv : LstG T G l (xs.map ixIt)) (hz : xs.length < 1000) (hz2 : nn < 1000)
    (h : ∀ d G', Sub G G' → LstG T G' d ((logP xs nn).map plIt) → Q (.ref d) ⟨m, P, M, G'⟩) : run c (call (.ref (T.fa 14)) [.ref l, .int nn tn]) Q ⟨m, P, M, G⟩ := by
  refine enter0 (T.fn 14 (by simp)) r (binds := [("items", .ref l), ("n", .int nn tn)]) (fun _ _ _ _ _ => by kernel_rfl) (fun L Z s₀ cdv => ?_) (by kernel_rfl)
  obtain ⟨ol, vs, e1, e2, e3⟩ := hv
  have hvl : vs.length = xs.length := by rw [e3.1, List.length_map]
  walk_at "open"
  walk_at "gos"
  walk_at "len"
  walk_at "gos"
  refine call_lenE (.inl e1) e2 hvl (by omega) fun tc => ?_
  walk_at "gos"
  by_cases h0 : xs.length = 0
  · refine ifT (by simp [h0]) ?_
    walk_at "gos"
    refine run_List ?_
    walk_at "gos"
    refine ⟨by simp [sizeLine], fun d => ?_⟩
    refine run_freeze fun G2 k2 q2 => ?_
    refine end0 (h _ _ k2 ⟨_, [], q2, LO.mk, ?_⟩)
    rw [logP, if_pos (by omega)]
    exact ItsG.nil
  refine ifF (by simpa using h0) ?_
  walk_at "gos"
  refine run_List ?_
  walk_at "gos"
  refine ⟨by simp [sizeLine], fun d => ?_⟩
  walk_at "gos"
  have hmx : (if (xs.length : Int) > nn then (xs.length : Int) else nn) = ((max nn xs.length : Nat) : Int) := by
    rcases Nat.le_total nn xs.length with q | q
    · rw [Nat.max_eq_right q]; split <;> omega
    · rw [Nat.max_eq_left q]; split <;> omega
  refine st_for (n := max nn xs.length) (P := fun i v => ∃ t, v = .int (0 + i) t) (fun i σ => ∃ m' vs' o' G1, σ = ⟨m', [], [(d, o')], G1⟩ ∧ Sub G G1 ∧ LO o' vs' ∧ ItsG T G1 vs' (((List.range i).filterMap fun i => logOne (xs.getD (i % xs.length) none) i).map plIt) ∧ m' "places" = some (.ref d) ∧ m' "items" = some (.ref l) ∧ m' "count" = some (.int xs.length tc)) ?_ ?_ ?_
  · refine run_tail ?_
    refine call_bn T (by simp) hv_range kp_type ?_
    walk_at "gos"
    refine call_bn T (by simp) hv_max kp_builtin ?_
    walk_at "gos"
    refine call_max r.deep.h fun tm => ?_
    walk_at "gos"
    rw [hmx]
    refine call_range1 fun rr t1 t2 t3 => ?_
    refine run_freeze fun G1 k1 q1 => ?_
    refine run_pure ⟨iter_range r.deep.h (fun s H => H.gg _ _ q1) (small_of (by omega) (by omega) (by omega) (by omega)) (size_of (by omega)), _, [], _, _, rfl, k1, LO.mk, ItsG.nil, ?_, ?_, ?_⟩ <;> walk_at "lk"
  · rintro i w σ Z' N' hi ⟨tw, rfl⟩ ⟨m', vs', o', G1, rfl, k1, ho', hits, m1, m2, m3⟩ hZ
    have hlo : vs'.length < 1000 := by
      have := fm_len (fun i => logOne (xs.getD (i % xs.length) none) i) i
      rw [hits.1, List.length_map]; omega
    have hlt : i % xs.length < vs.length := by rw [hvl]; exact Nat.mod_lt _ (by omega)
    obtain ⟨p, hp, hpw⟩ := ix_at e3 (List.getElem?_eq_getElem hlt)
    have hgd : xs.getD (i % xs.length) none = p := by rw [List.getD_eq_getElem?_getD, hp]; rfl
    have fin : ∀ (vs2 : List Value) (o2 : Obj) (m2' : Str → Option Value), ItsG T G1 vs2 ((((List.range i).filterMap fun i => logOne (xs.getD (i % xs.length) none) i) ++ (logOne p i).toList).map plIt) → LO o2 vs2 → m2' "places" = some (.ref d) → m2' "items" = some (.ref l) → m2' "count" = some (.int xs.length tc) →
        ∃ m' vs' o' G1', (⟨m2', [], [(d, o2)], G1⟩ : Sg) = ⟨m', [], [(d, o')], G1'⟩ ∧ Sub G G1' ∧ LO o' vs' ∧ ItsG T G1' vs' (((List.range (i + 1)).filterMap fun i => logOne (xs.getD (i % xs.length) none) i).map plIt) ∧ m' "places" = some (.ref d) ∧ m' "items" = some (.ref l) ∧ m' "count" = some (.int xs.length tc) := by
      intro vs2 o2 m2' hy ho2 a b c
      exact ⟨_, _, _, _, rfl, k1, ho2, by rw [fm_snoc, hgd]; exact hy, a, b, c⟩
    walk_at "gos"
    refine op_mod (by omega) fun tq => ?_
    rw [Int.zero_add, fmod_nat]
    refine sub_list (v := vs[i % xs.length]) (.inl (k1 _ _ e1)) e2 (by omega) (by omega) (by rw [Int.toNat_natCast]; exact List.getElem?_eq_getElem hlt) ?_
    walk_at "gos"
    rcases hpw with ⟨rfl, hw⟩ | ⟨kk, tk, rfl, hw⟩
    · rw [hw, if_pos (by rfl)]
      walk_at "gos"
      refine run_appendCall ?_
      walk_at "gos"
      refine ⟨d, o', vs', rfl, .inr (.inl (.head _)), ho', ?_⟩
      walk_at "gos"
      refine call_append (.own .head) ho' (by omega) fun o2 ho2 => ?_
      walk_at "gos"
      refine fin _ _ _ ?_ ho2 ?_ ?_ ?_
      · rw [List.map_append]; exact hits.snoc .none
      all_goals walk_at "lk"
    · rw [hw, if_neg (by simp)]
      walk_at "gos"
      by_cases hz : kk = 0
      · refine ifF (by simp [hz]) ?_
        walk_at "gos"
        refine fin _ _ _ ?_ ho' ?_ ?_ ?_
        · rw [show logOne (some kk) i = none from by simp [logOne, hz], Option.toList_none, List.append_nil]; exact hits
        all_goals walk_at "lk"
      · refine ifT (by simp [hz]) ?_
        walk_at "gos"
        refine run_appendCall ?_
        walk_at "gos"
        refine ⟨d, o', vs', rfl, .inr (.inl (.head _)), ho', ?_⟩
        walk_at "gos"
        refine call_append (.own .head) ho' (by omega) fun o2 ho2 => ?_
        walk_at "gos"
        refine fin _ _ _ ?_ ho2 ?_ ?_ ?_
        · rw [show logOne (some kk) i = some (some i) from by simp [logOne, hz], Option.toList_some]
          rw [List.map_append]; exact hits.snoc (.int _ _)
        all_goals walk_at "lk"
  · rintro σ ⟨m', vs', o', G1, rfl, k1, ho', hits, m1, m2, m3⟩
    walk_at "gos"
    refine run_freeze fun G2 k2 q2 => ?_
    refine end0 (h _ _ (k1.trans k2) ⟨_, _, q2, ho', ?_⟩)
    rw [logP, if_neg (by omega)]
    exact hits.mono k2
end
theorem stored_keys {kvs : List (Int × Value)} {k : Int} {v : Value} (a : Int) : a ∈ (stored kvs k v).map (·.1) ↔ a ∈ kvs.map (·.1) ∨ a = k := by
  unfold stored
  split
  · rename_i h
    obtain ⟨p, hp, e⟩ := List.any_eq_true.mp h
    have e' : p.1 = k := by simpa using e
    have : (kvs.map fun kv => if kv.1 = k then (kv.1, v) else kv).map (·.1) = kvs.map (·.1) := by
      rw [List.map_map]; apply List.map_congr_left; intro x _; simp only [Function.comp]; split <;> rfl
    rw [this]
    exact ⟨.inl, fun h => h.elim id fun h => h ▸ e' ▸ List.mem_map.mpr ⟨p, hp, rfl⟩⟩
  · simp
theorem stored_len {kvs : List (Int × Value)} {k : Int} {v : Value} : (stored kvs k v).length ≤ kvs.length + 1 := by
  unfold stored; split <;> simp
theorem key_some {kvs : List (Int × Value)} (a : Int) : (valueAt kvs a).isSome = decide (a ∈ kvs.map (·.1)) := by
  rw [valueAt_isSome_eq_any, Bool.eq_iff_iff, List.any_eq_true, decide_eq_true_eq, List.mem_map]
  exact ⟨fun ⟨p, h1, h2⟩ => ⟨p, h1, by simpa using h2⟩, fun ⟨p, h1, h2⟩ => ⟨p, h1, by simpa using h2⟩⟩
def posOne (x : Option Int) : Option (Option Nat) := match x with
  | none => some none
  | some k => if 0 < k then some (some (k - 1).toNat) else none
def isNeg (x : Option Int) : Bool := match x with
  | none => false
  | some k => decide (k < 0)
def wholeP (xs : List (Option Int)) (n : Nat) : List (Option Nat) :=
  if xs.any isNeg then ((List.range n).filter fun i : Nat => !xs.contains (some (-(i : Int) - 1))).map some else xs.filterMap posOne
def WholeOK (xs : List (Option Int)) : Prop := (∀ k, some k ∈ xs → 0 ≤ k) ∨ (∀ x ∈ xs, ∃ k, x = some k ∧ k ≤ 0)
theorem fmt_snoc {α β : Type} {f : α → Option β} {l : List α} {i : Nat} {a : α} (h : l[i]? = some a) : (l.take (i + 1)).filterMap f = (l.take i).filterMap f ++ (f a).toList := by
  rw [List.take_add_one, h, List.filterMap_append]
  cases h2 : f a <;> simp [h2]
theorem mt_snoc {α : Type} {l : List α} {i : Nat} {a b : α} (h : l[i]? = some a) : b ∈ l.take (i + 1) ↔ b ∈ l.take i ∨ b = a := by
  rw [List.take_add_one, h]; simp
section
variable {g : Gd} {c : Cx} {σ : Sg} {Q : Value → Sg → Prop} {U : Unit → Sg → Prop} {m : Str → Option Value} {P M : List (Addr × Obj)} {G G' : Hp} {n k : Nat} {v : Value} {kd x : Str} {its : List It} {ns : Option (List It)} {at_ : Value} {t : Tok} {l lp : Addr} {ps : List (Option Nat)} {xs : List (Option Int)}

theorem call_wholep {nn : Nat} {tn : Tok} (T : TX c.g.K) (r : Rm c.A (n + 1)) (hv : LstG T G l (xs.map ixIt)) (hok : WholeOK xs) (hz : xs.length < 1000) (hz2 : nn < 1000)
    (h : ∀ d G', Sub G G' → LstG T G' d ((wholeP xs nn).map plIt) → Q (.ref d) ⟨m, P, M, G'⟩) : run c (call (.ref (T.fa 15)) [.ref l, .int nn tn]) Q ⟨m, P, M, G⟩ := by
  refine enterC0 (T.fn 15 (by simp)) r (binds := [("items", .ref l), ("n", .int nn tn)]) (fun _ _ _ _ _ => by kernel_rfl) (fun L Z s₀ cdv cells hc => ?_) (by kernel_rfl)
  obtain ⟨ol, vs, e1, e2, e3⟩ := hv
  have hvl : vs.length = xs.length := by rw [e3.1, List.length_map]
  have hcf : cellsFrom (L + 1) (fnS 15).names [] = [(("left_out" : Str), L + 1)] := by kernel_rfl
  rw [hcf] at hc
  obtain ⟨oc, rfl, hoc⟩ := hc.one
  walk_at "open"
  walk_at "gos"
  refine run_List ?_
  walk_at "gos"
  refine ⟨by simp [sizeLine], fun d => ?_⟩
  walk_at "gos"
  refine run_Dict0 fun dd od lo hd => ?_
  refine run_storeCell (a := L + 1) (by kernel_rfl) (by exact .own (.tail (.tail .head))) hoc fun oc' hoc' => ?_
  walk_at "gos"
  refine st_for (n := vs.length) (P := fun i v => vs[i]? = some v) (fun i σ => ∃ m' vs' o' od' kvs, σ = ⟨m', [], [(dd, od'), (d, o'), (L + 1, oc')], G⟩ ∧ LO o' vs' ∧ ItsG T G vs' (((xs.take i).filterMap posOne).map plIt) ∧ od'.IsDictOf (PySem.intKind c.g.prog c.g.w) kvs ∧
    (∀ a, a ∈ kvs.map (·.1) ↔ some (-a - 1) ∈ xs.take i ∧ 0 ≤ a) ∧ kvs.length ≤ i ∧ m' "places" = some (.ref d) ∧ m' "lacks" = some (.bool (decide (none ∈ xs.take i))) ∧ m' "n" = some (.int nn tn)) ?_ ?_ ?_
  · walk_at "gos"
    refine ⟨iter_frozen r.deep.h e1 e2, _, [], _, _, [], rfl, LO.mk, ItsG.nil, hd, by simp, Nat.le_refl _, ?_, ?_, ?_⟩ <;> walk_at "lk"
  · rintro i w σ Z' N' hi hw ⟨m', vs', o', od', kvs, rfl, ho', hits, hkv, hks, hkl, m1, m2, m3⟩ hZ
    have hlo : vs'.length < 1000 := by
      rw [hits.1, List.length_map]
      have h1 := List.length_filterMap_le posOne (xs.take i)
      have h2 := List.length_take_le i xs
      omega
    obtain ⟨p, hp, hpw⟩ := ix_at e3 hw
    have fin : ∀ (vs2 : List Value) (o2 od2 : Obj) (kvs2 : List (Int × Value)) (m2' : Str → Option Value), LO o2 vs2 → ItsG T G vs2 ((((xs.take i).filterMap posOne) ++ (posOne p).toList).map plIt) → od2.IsDictOf (PySem.intKind c.g.prog c.g.w) kvs2 →
        (∀ a, a ∈ kvs2.map (·.1) ↔ (some (-a - 1) ∈ xs.take i ∨ some (-a - 1) = p) ∧ 0 ≤ a) → kvs2.length ≤ i + 1 → m2' "places" = some (.ref d) → (∀ b, b = decide (none ∈ xs.take i ∨ none = p) → m2' "lacks" = some (.bool b)) → m2' "n" = some (.int nn tn) →
        ∃ m' vs' o' od' kvs, (⟨m2', [], [(dd, od2), (d, o2), (L + 1, oc')], G⟩ : Sg) = ⟨m', [], [(dd, od'), (d, o'), (L + 1, oc')], G⟩ ∧ LO o' vs' ∧ ItsG T G vs' (((xs.take (i + 1)).filterMap posOne).map plIt) ∧ od'.IsDictOf (PySem.intKind c.g.prog c.g.w) kvs ∧
          (∀ a, a ∈ kvs.map (·.1) ↔ some (-a - 1) ∈ xs.take (i + 1) ∧ 0 ≤ a) ∧ kvs.length ≤ i + 1 ∧ m' "places" = some (.ref d) ∧ m' "lacks" = some (.bool (decide (none ∈ xs.take (i + 1)))) ∧ m' "n" = some (.int nn tn) := by
      intro vs2 o2 od2 kvs2 m2' a1 a2 a3 a4 a5 a6 a7 a8
      exact ⟨_, _, _, _, _, rfl, a1, by rw [fmt_snoc hp]; exact a2, a3, fun a => by rw [mt_snoc hp]; exact a4 a, a5, a6, a7 _ (by simp only [mt_snoc hp]), a8⟩
    walk_at "gos"
    rcases hpw with ⟨rfl, rfl⟩ | ⟨kk, tk, rfl, rfl⟩
    · refine ifT (by rfl) ?_
      walk_at "gos"
      refine run_appendCall ?_
      walk_at "gos"
      refine ⟨d, o', vs', rfl, .inr (.inl (.tail _ (.head _))), ho', ?_⟩
      walk_at "gos"
      refine call_append (.own (.tail .head)) ho' (by omega) fun o2 ho2 => ?_
      walk_at "gos"
      refine fin _ _ _ _ _ ho2 ?_ hkv ?_ (by omega) ?_ ?_ ?_
      · rw [List.map_append]; exact hits.snoc .none
      · intro a; rw [hks a]; simp
      · walk_at "lk"
      · rintro b rfl
        simp only [or_true, decide_true]
        walk_at "lk"
      · walk_at "lk"
    · refine ifF (by simp) ?_
      walk_at "gos"
      by_cases h1 : 0 < kk
      · refine ifT (by simpa using h1) ?_
        walk_at "gos"
        refine run_appendCall ?_
        walk_at "gos"
        refine ⟨d, o', vs', rfl, .inr (.inl (.tail _ (.head _))), ho', ?_⟩
        walk_at "gos"
        refine call_append (.own (.tail .head)) ho' (by omega) fun o2 ho2 => ?_
        walk_at "gos"
        refine fin _ _ _ _ _ ho2 ?_ hkv ?_ (by omega) ?_ ?_ ?_
        · rw [show posOne (some kk) = some (some (kk - 1).toNat) from by simp [posOne, h1], Option.toList_some, List.map_append]
          refine hits.snoc ?_
          show ItG T G _ (.int ((kk - 1).toNat : Int))
          rw [Int.toNat_of_nonneg (by omega)]; exact .int _ _
        · intro a; rw [hks a]
          constructor
          · exact fun q => ⟨.inl q.1, q.2⟩
          · rintro ⟨q | q, q2⟩
            · exact ⟨q, q2⟩
            · simp at q; omega
        · walk_at "lk"
        · rintro b rfl
          simp only [reduceCtorEq, or_false]
          walk_at "lk"
        · walk_at "lk"
      · refine ifF (by simpa using h1) ?_
        walk_at "gos"
        by_cases h2 : kk < 0
        · refine ifT (by simpa using h2) ?_
          walk_at "gos"
          refine run_cell (a := L + 1) (o := oc') (by kernel_rfl) (.tail _ (.tail _ (.head _))) hoc' ?_
          walk_at "gos"
          refine setItem_int (.own .head) hkv (by omega) fun od2 hkv2 => ?_
          walk_at "gos"
          refine fin _ _ _ _ _ ho' ?_ hkv2 ?_ (Nat.le_trans stored_len (by omega)) ?_ ?_ ?_
          · rw [show posOne (some kk) = none from by simp [posOne, h1], Option.toList_none, List.append_nil]; exact hits
          · intro a; rw [stored_keys, hks a]
            constructor
            · rintro (q | q)
              · exact ⟨.inl q.1, q.2⟩
              · exact ⟨.inr (by rw [q]; congr 1; omega), by omega⟩
            · rintro ⟨q | q, q2⟩
              · exact .inl ⟨q, q2⟩
              · simp at q; exact .inr (by omega)
          · walk_at "lk"
          · rintro b rfl
            simp only [reduceCtorEq, or_false]
            walk_at "lk"
          · walk_at "lk"
        · refine ifF (by simpa using h2) ?_
          walk_at "gos"
          refine fin _ _ _ _ _ ho' ?_ hkv ?_ (by omega) ?_ ?_ ?_
          · rw [show posOne (some kk) = none from by simp [posOne, h1], Option.toList_none, List.append_nil]; exact hits
          · intro a; rw [hks a]
            constructor
            · exact fun q => ⟨.inl q.1, q.2⟩
            · rintro ⟨q | q, q2⟩
              · exact ⟨q, q2⟩
              · simp at q; omega
          · walk_at "lk"
          · rintro b rfl
            simp only [reduceCtorEq, or_false]
            walk_at "lk"
          · walk_at "lk"
  · rintro σ ⟨m', vs', o', od', kvs, rfl, ho', hits, hkv, hks, hkl, m1, m2, m3⟩
    rw [hvl, List.take_length] at hits hks m2
    walk_at "gos"
    walk_at "len"
    walk_at "gos"
    refine run_cell (a := L + 1) (o := oc') (by kernel_rfl) (.tail _ (.tail _ (.head _))) hoc' ?_
    walk_at "gos"
    refine len_dictR lo (.inr (.inl (.head _))) hkv (by omega) fun tl => ?_
    walk_at "gos"
    have hneg : kvs.length = 0 ↔ xs.any isNeg = false := by
      constructor
      · intro q
        rw [List.any_eq_false]
        intro x hx
        cases x with
        | none => simp [isNeg]
        | some k =>
          simp only [isNeg, decide_eq_true_eq, Int.not_lt]
          by_cases q2 : k < 0
          · have := (hks (-k - 1)).mpr ⟨by rw [show -(-k - 1) - 1 = k by omega]; exact hx, by omega⟩
            rw [List.length_eq_zero_iff.mp q] at this; simp at this
          · omega
      · intro q
        cases kvs with
        | nil => rfl
        | cons p kv =>
          have := (hks p.1).mp (by simp)
          have q2 := List.any_eq_false.mp q _ this.1
          simp [isNeg] at q2; omega
    by_cases h0 : kvs.length = 0
    · refine ifT (by simpa using h0) ?_
      walk_at "gos"
      refine run_drop ?_
      refine run_freeze fun G2 k2 q2 => ?_
      refine end0 (h _ _ k2 ⟨_, _, q2, ho', ?_⟩)
      rw [wholeP, hneg.mp h0]
      exact hits.mono k2
    · refine ifF (by simpa using h0) ?_
      have hany : xs.any isNeg = true := by
        cases q : xs.any isNeg with
        | true => rfl
        | false => exact absurd (hneg.mpr q) h0
      have hB : ∀ x ∈ xs, ∃ k, x = some k ∧ k ≤ 0 := by
        rcases hok with q | q
        · obtain ⟨x, hx, hn⟩ := List.any_eq_true.mp hany
          cases x with
          | none => simp [isNeg] at hn
          | some k => have := q k hx; simp [isNeg] at hn; omega
        · exact q
      have hnn : none ∉ xs := fun q => by obtain ⟨k, e, _⟩ := hB _ q; cases e
      have hpl : vs' = [] := by
        have : xs.filterMap posOne = [] := by
          rw [List.filterMap_eq_nil_iff]
          intro x hx
          obtain ⟨k, rfl, hk⟩ := hB x hx
          simp [posOne]; omega
        rw [this] at hits
        exact List.length_eq_zero_iff.mp hits.1
      subst hpl
      rw [decide_eq_false hnn] at m2
      walk_at "gos"
      refine isTrue_value ?_
      walk_at "gos"
      refine ifF (by simp) ?_
      walk_at "gos"
      walk_at "len"
      walk_at "gos"
      refine call_lenE (.inr (.inl (.tail _ (.head _)))) ho' (k := 0) rfl (by omega) fun tl2 => ?_
      walk_at "gos"
      refine ifF (by simp) ?_
      walk_at "gos"
      refine run_ListComp (cl := [(("left_out" : Str), L + 1)]) (n := nn) (Pr := fun i v => ∃ t, v = .int (0 + i) t) (fun i ys P M G' => P = [] ∧ M = [(dd, od'), (d, o'), (L + 1, oc')] ∧ Sub G G' ∧ ItsG T G' ys ((((List.range i).filter fun i : Nat => !xs.contains (some (-(i : Int) - 1))).map some).map plIt)) ?_ ?_ (by kernel_rfl) (by have : sizeLine = 16777216 := rfl; omega)
      · refine run_tail ?_
        refine call_bn T (by simp) hv_range kp_type ?_
        walk_at "gos"
        refine call_range1 fun rr t1 t2 t3 => ?_
        refine run_freeze fun G1 k1 q1 => ?_
        refine run_pure ⟨iter_range r.deep.h (fun s H => H.gg _ _ q1) (small_of (by omega) (by omega) (by omega) (by omega)) (size_of (by omega)), ⟨rfl, rfl, k1, ItsG.nil⟩, ?_⟩
        rintro ys P' M' G2 d2 o2 ⟨rfl, rfl, k2, hy⟩ ho2
        refine run_freeze fun G3 k3 q3 => ?_
        refine end0 (h _ _ (k2.trans k3) ⟨_, _, q3, ho2, ?_⟩)
        rw [wholeP, hany]
        exact hy.mono k3
      · rintro i w ys P' M' G2 C Z' N' mC hi ⟨tw, rfl⟩ ⟨rfl, rfl, k2, hy⟩ hmx
        refine tests_one ?_
        walk_at "gos"
        refine run_cell (a := L + 1) (o := oc') (by kernel_rfl) (.tail _ (.tail _ (.head _))) hoc' ?_
        refine notIn_dict lo (.inr (.inl (.head _))) hkv ?_
        walk_at "gos"
        rw [key_some]
        have hmem : ((0 + (i : Int)) ∈ kvs.map (·.1)) ↔ some (-(i : Int) - 1) ∈ xs := by
          rw [hks, show -(0 + (i : Int)) - 1 = -(i : Int) - 1 by omega]
          exact ⟨fun q => q.1, fun q => ⟨q, by omega⟩⟩
        by_cases q : some (-(i : Int) - 1) ∈ xs
        · refine ifF (by rw [decide_eq_true (hmem.mpr q)]; simp) ?_
          refine ⟨rfl, rfl, k2, ?_⟩
          rw [List.range_succ, List.filter_append]
          simp [q]; simpa using hy
        · refine ifT (by rw [decide_eq_false (fun z => q (hmem.mp z))]; simp) ?_
          walk_at "gos"
          refine ⟨rfl, rfl, k2, ?_⟩
          rw [List.range_succ, List.filter_append]
          rw [show List.filter (fun i : Nat => !xs.contains (some (-(i : Int) - 1))) [i] = [i] from by simp [q], List.map_append, List.map_append]
          refine hy.snoc ?_
          rw [Int.zero_add]; exact .int _ _
end
inductive Ix where
  | missing
  | logical (xs : List (Option Int))
  | integer (xs : List (Option Int))
def posP (ix : Ix) (n : Nat) : List (Option Nat) := match ix with
  | .missing => (List.range n).map some
  | .logical xs => logP xs n
  | .integer xs => wholeP xs n
def Ix.ok : Ix → Prop
  | .missing => True
  | .logical xs => xs.length < 1000
  | .integer xs => WholeOK xs ∧ xs.length < 1000
theorem posP_len {ix : Ix} {n : Nat} (h : ix.ok) (hn : n < 1000) : (posP ix n).length < 1000 := by
  cases ix with
  | missing => simpa [posP] using hn
  | logical xs =>
    unfold posP logP
    have h' : xs.length < 1000 := h
    dsimp only
    split
    · simp
    · have := fm_len (fun i => logOne (xs.getD (i % xs.length) none) i) (max n xs.length)
      omega
  | integer xs =>
    unfold posP wholeP
    have h' : xs.length < 1000 := h.2
    dsimp only
    split
    · rw [List.length_map]
      have := List.length_filter_le (fun i : Nat => !xs.contains (some (-(i : Int) - 1))) (List.range n)
      rw [List.length_range] at this; omega
    · have := List.length_filterMap_le posOne xs
      omega
section
variable {g : Gd} {c : Cx} {σ : Sg} {Q : Value → Sg → Prop} {U : Unit → Sg → Prop} {m : Str → Option Value} {P M : List (Addr × Obj)} {G G' : Hp} {n k : Nat} {v : Value} {kd x : Str} {its xs : List It} {ns : Option (List It)} {at_ : Value} {t : Tok} {l lp : Addr} {ps : List (Option Nat)}
def IxG (T : TX g.K) (G : Hp) (v : Value) : Ix → Prop
  | .missing => ∃ x d o f t, v = .ref x ∧ G x = some (instObj T.cM d) ∧ G d = some o ∧ FO o 2 f ∧ f "kind" = some (.str "missing" t)
  | .logical xs => ∃ at_, VL T G v "logical" (xs.map ixIt) at_
  | .integer xs => ∃ at_, VL T G v "integer" (xs.map ixIt) at_
theorem IxG.mono {T : TX g.K} {ix : Ix} (h : IxG T G v ix) (k : Sub G G') : IxG T G' v ix := by
  cases ix with
  | missing => obtain ⟨x, d, o, f, t, a, b, e, r⟩ := h; exact ⟨x, d, o, f, t, a, k _ _ b, k _ _ e, r⟩
  | logical xs => obtain ⟨a, q⟩ := h; exact ⟨a, q.mono k⟩
  | integer xs => obtain ⟨a, q⟩ := h; exact ⟨a, q.mono k⟩
theorem call_positions {nn : Nat} {tn : Tok} {nv : Value} {ix : Ix} (T : TX c.g.K) (r : Rm c.A (n + 2)) (hx : IxG T G v ix) (ok : ix.ok) (hn : nn < 1000)
    (h : ∀ tp G' o l, Sub G G' → G' tp = some o → TO o [.ref l, .none] → LstG T G' l ((posP ix nn).map plIt) → Q (.ref tp) ⟨m, P, M, G'⟩) : run c (call (.ref (T.fa 19)) [v, .int nn tn, nv, .bool false]) Q ⟨m, P, M, G⟩ := by
  refine enter0 (T.fn 19 (by simp)) r (binds := [("ix", v), ("n", .int nn tn), ("names", nv), ("extend", .bool false)]) (fun _ _ _ _ _ => by kernel_rfl) (fun L Z s₀ cdv => ?_) (by kernel_rfl)
  walk_at "open"
  walk_at "gos"
  cases ix with
  | missing =>
    obtain ⟨x, d, o, f, t, rfl, a1, a2, a3, a4⟩ := hx
    refine getAttr_inst T.isM (.inl a1) (.inl a2) a3 (by simp) a4 rfl ?_
    walk_at "gos"
    refine ifT (by decide) ?_
    walk_at "gos"
    refine run_Tuple ?_
    walk_at "gos"
    refine call_bn T (by simp) hv_list kp_type ?_
    walk_at "gos"
    refine call_bn T (by simp) hv_range kp_type ?_
    walk_at "gos"
    refine call_range1 fun rr t1 t2 t3 => ?_
    walk_at "gos"
    refine call_listRange r.deep.h (.inr (.inl (.head _))) (by omega) fun d2 o2 ys h1 h2 h3 => ?_
    walk_at "gos"
    refine ⟨by simp [sizeLine], fun tp => ?_⟩
    refine run_freeze fun G1 k1 q1 => ?_
    refine run_freeze fun G2 k2 q2 => ?_
    refine end0 (h _ _ _ _ (k1.trans k2) (k2 _ _ q1) TO.mk ⟨_, _, q2, h1, ?_⟩)
    refine ⟨by simp [h2, posP], fun i w e => ?_⟩
    have hi : i < nn := by rw [← h2]; exact (List.getElem?_eq_some_iff.mp e).1
    obtain ⟨t, e'⟩ := h3 i hi
    rw [e'] at e
    cases e
    exact ⟨.int i, by simp [posP, hi, plIt], .int _ _⟩
  | logical xs =>
    obtain ⟨at_, l, hl, hl2⟩ := hx
    refine get_kind T (VecL.up hl) fun tk => ?_
    walk_at "gos"
    refine ifF (by decide) ?_
    walk_at "gos"
    refine ifF (by decide) ?_
    walk_at "gos"
    refine ifT (by decide) ?_
    walk_at "gos"
    refine run_Tuple ?_
    walk_at "gos"
    refine call_fn (T.fn 14 (by simp)) ?_
    walk_at "gos"
    refine get_items T (VecL.up hl) ?_
    walk_at "gos"
    refine call_logical _ (by exact r.deep) (by exact hl2) ok hn fun d G1 k1 hd => ?_
    walk_at "gos"
    refine ⟨by simp [sizeLine], fun tp => ?_⟩
    refine run_freeze fun G2 k2 q2 => ?_
    exact end0 (h _ _ _ _ (k1.trans k2) q2 TO.mk (hd.mono k2))
  | integer xs =>
    obtain ⟨at_, l, hl, hl2⟩ := hx
    refine get_kind T (VecL.up hl) fun tk => ?_
    walk_at "gos"
    refine ifF (by decide) ?_
    walk_at "gos"
    refine ifF (by decide) ?_
    walk_at "gos"
    refine ifF (by decide) ?_
    walk_at "gos"
    refine ifT (by decide) ?_
    refine ifT rfl ?_
    walk_at "gos"
    refine run_Tuple ?_
    walk_at "gos"
    refine call_fn (T.fn 15 (by simp)) ?_
    walk_at "gos"
    refine call_fn (T.fn 13 (by simp)) ?_
    walk_at "gos"
    refine call_whole _ (by exact r.deep) (by exact hl) ?_
    walk_at "gos"
    refine call_wholep _ (by exact r.deep) (by exact hl2) ok.1 ok.2 hn fun d G1 k1 hd => ?_
    walk_at "gos"
    refine ⟨by simp [sizeLine], fun tp => ?_⟩
    refine run_freeze fun G2 k2 q2 => ?_
    exact end0 (h _ _ _ _ (k1.trans k2) q2 TO.mk (hd.mono k2))

theorem call_subset {ixv : Value} {ix : Ix} (T : TX c.g.K) (r : Rm c.A (n + 4)) (hv : VecN T G v kd its ns) (hk : kd = "list" ∨ kd = "integer") (hx : IxG T G ixv ix) (ok : ix.ok) (hz : its.length < 1000) (hz2 : ∀ xs, ns = some xs → xs.length < 1000)
    (h : ∀ rv G', Sub G G' → VecN T G' rv kd ((posP ix its.length).map (itemAt kd its)) (ns.map fun xs => (posP ix its.length).map (nameAt xs)) → Q rv ⟨m, P, M, G'⟩) : run c (call (.ref (T.fa 31)) [v, ixv]) Q ⟨m, P, M, G⟩ := by
  refine enter0 (T.fn 31 (by simp)) r (binds := [("v", v), ("ix", ixv)]) (fun _ _ _ _ _ => by kernel_rfl) (fun L Z s₀ cdv => ?_) (by kernel_rfl)
  obtain ⟨at_, hvl, ha⟩ := id hv
  obtain ⟨l, hl, ol, vs, e1, e2, e3⟩ := id hvl
  have hpl := posP_len ok hz
  walk_at "open"
  walk_at "gos"
  refine call_fn (T.fn 3 (by simp)) ?_
  walk_at "gos"
  refine call_names _ (by exact r.deep) (by exact hv) (by rcases hk with rfl | rfl <;> decide) (by rcases hk with rfl | rfl <;> decide) hz2 fun nv G1 k1 hnv => ?_
  walk_at "gos"
  refine call_fn (T.fn 19 (by simp)) ?_
  walk_at "gos"
  walk_at "len"
  walk_at "gos"
  have hl1 : VecL c.g.K T.cV (GA G1) v kd l at_ := hl.mono fun _ _ e => k1 _ _ e
  refine get_items T (VecL.up hl1) ?_
  walk_at "gos"
  refine call_lenE (.inl (k1 _ _ e1)) e2 e3.1 (by omega) fun tl => ?_
  walk_at "gos"
  refine call_positions _ (by exact r.deep) (by exact hx.mono k1) ok hz fun tp G2 otp lp k2 htp hto hlp => ?_
  walk_at "gos"
  refine sub_tup (v := .ref lp) (.inl htp) hto (by omega) (by omega) rfl ?_
  walk_at "gos"
  refine run_Call (run_global T.isV.ns ⟨kp_K T.isV.kp, ?_⟩)
  walk_at "gos"
  refine call_fn (T.fn 28 (by simp)) ?_
  walk_at "gos"
  have hl2 : VecL c.g.K T.cV (GA G2) v kd l at_ := hl1.mono fun _ _ e => k2 _ _ e
  refine get_kind T (VecL.up hl2) fun tk => ?_
  walk_at "gos"
  refine call_rkind _ (by exact r.deep) (by rcases hk with rfl | rfl <;> decide) ?_
  walk_at "gos"
  refine call_fn (T.fn 29 (by simp)) ?_
  walk_at "gos"
  refine call_items _ (by exact r.deep) (by exact (hvl.mono k1).mono k2) (by exact hlp) hk hz hpl fun d G3 k3 hd => ?_
  walk_at "gos"
  refine make_vec _ (by exact r.deep) fun x d2 o f h1 h2 h3 h4 => ?_
  walk_at "gos"
  cases ns with
  | none =>
    obtain rfl : nv = .none := hnv
    refine ifF (by simp) ?_
    walk_at "gos"
    refine run_freeze fun G4 k4 q4 => ?_
    refine run_freeze fun G5 k5 q5 => ?_
    obtain ⟨es, n0, b1, b2, b3⟩ := h1
    exact end0 (h _ _ (((k1.trans k2).trans k3).trans (k4.trans k5)) ⟨.none, ⟨d, ⟨x, d2, o, f, _, rfl, k5 _ _ q4, q5, ⟨es, n0, b1, by omega, b3⟩, h2, h3, h4, rfl⟩, (hd.mono k4).mono k5⟩, rfl⟩)
  | some xs =>
    obtain ⟨ln, rfl, hln⟩ := hnv
    refine ifT (by simp) ?_
    walk_at "gos"
    refine call_fn (T.fn 25 (by simp)) ?_
    walk_at "gos"
    refine call_fn (T.fn 30 (by simp)) ?_
    walk_at "gos"
    refine call_namesat _ (by exact r.deep) (by exact (hln.mono k2).mono k3) (by exact hlp.mono k3) (hz2 _ rfl) hpl fun dn G4 k4 hdn => ?_
    walk_at "gos"
    refine call_named1 _ (by exact r.deep) h1 (by omega) (by exact hdn) (by rw [List.length_map]; exact hpl) fun o' av G5 k5 ho' hav hat => ?_
    walk_at "gos"
    refine run_freeze fun G6 k6 q6 => ?_
    refine run_freeze fun G7 k7 q7 => ?_
    obtain ⟨es, n0, b1, b2, b3⟩ := ho'
    have kk := k6.trans k7
    refine end0 (h _ _ ((((k1.trans k2).trans k3).trans (k4.trans k5)).trans kk) ⟨av, ⟨d, ⟨x, d2, o', _, tk, rfl, k7 _ _ q6, q7, ⟨es, n0, b1, by omega, b3⟩, ?_, ?_, ?_, hav⟩, ((hd.mono k4).mono k5).mono kk⟩, hat.mono kk⟩)
    · exact (upd_ne (by kernel_rfl)).trans h2
    · exact (upd_ne (by kernel_rfl)).trans h3
    · exact upd_same
end
def seenIt : It → Dat
  | .none => .none
  | .int i => .int i
  | .str x => .str x
  | .box i => .int i
  | .null => .str "lacks"
def midIt : It → It
  | .box i => .int i
  | i => i
def nmDat : Option (List It) → Dat
  | none => .none
  | some xs => .list (xs.map seenIt)
def seenD (kd : Str) (its : List It) (ns : Option (List It)) : Dat := .tuple [.str kd, .list (its.map seenIt), nmDat ns]
def ItOK (kd : Str) (it : It) : Prop := (kd = "list" ∧ ((∃ i, it = .box i) ∨ it = .null)) ∨ (kd = "integer" ∧ ((∃ i, it = .int i) ∨ it = .none))
def PlainIt (it : It) : Prop := it = .none ∨ (∃ i, it = .int i) ∨ ∃ x, it = .str x
section
variable {g : Gd} {c : Cx} {σ : Sg} {Q : Value → Sg → Prop} {U : Unit → Sg → Prop} {m : Str → Option Value} {P M : List (Addr × Obj)} {G G' : Hp} {n k : Nat} {v : Value} {kd x : Str} {its xs : List It} {ns : Option (List It)} {at_ : Value} {t : Tok} {l lp : Addr} {ps : List (Option Nat)}
theorem isi_null {x d : Addr} {o : Obj} {f : Str → Option Value} {k : Nat} (T : TX c.g.K) (a1 : At σ x (instObj T.cN d)) (a2 : At σ d o) (a3 : FO o k f) (h : Q (.bool false) σ) : run c (call (.builtin "isinstance") [.ref x, .type "int"]) Q σ := fun s H => by
  obtain ⟨es, n, rfl, _⟩ := a3
  exact kin_callT (c.g.X.keeps H.base) (⟨H.at a1, rfl, rfl, H.at a2⟩ : PySem.W.InstAt s.heap x (instObj T.cN d) T.cN (some (dictOf es n))) T.niN.e (by kernel_rfl) T.niN.hg T.isN.dict T.niN.ha T.niN.hn T.niN.htk T.niN.hm ⟨σ, H.tok, h⟩
theorem DG.ofPlain {T : TX g.K} {w : Value} {it : It} (h : ItG T G w it) (hp : PlainIt it) : DG G w (seenIt it) := by
  rcases hp with rfl | ⟨i, rfl⟩ | ⟨x, rfl⟩
  · cases h; exact .none
  · cases h; exact .int _ _
  · cases h; exact .str _ _
theorem DGs.of_at {vs : List Value} : ∀ {vs : List Value} {ds : List Dat}, vs.length = ds.length → (∀ (i : Nat) (v : Value), vs[i]? = some v → ∃ d : Dat, ds[i]? = some d ∧ DG G v d) → DGs G vs ds
  | [], [], _, _ => .nil
  | v :: vs, d :: ds, hl, h => by
    obtain ⟨d', e, q⟩ := h 0 v rfl
    cases e
    exact .cons q (DGs.of_at (vs := vs) (by simpa using hl) fun i w e => by obtain ⟨d2, e2, q2⟩ := h (i + 1) w (by simpa using e); exact ⟨d2, by simpa using e2, q2⟩)
theorem DGs.ofPlain {T : TX g.K} {vs : List Value} (h : ItsG T G vs xs) (hp : ∀ it ∈ xs, PlainIt it) : DGs G vs (xs.map seenIt) := by
  refine DGs.of_at (vs := vs) (by rw [h.1, List.length_map]) fun i v e => ?_
  obtain ⟨it, e1, e2⟩ := h.get e
  exact ⟨seenIt it, by rw [List.getElem?_map, e1]; rfl, DG.ofPlain e2 (hp it (List.mem_of_getElem? e1))⟩
end
section
variable {g : Gd} {c : Cx} {σ : Sg} {Q : Value → Sg → Prop} {U : Unit → Sg → Prop} {m : Str → Option Value} {P M : List (Addr × Obj)} {G G' : Hp} {n k : Nat} {v : Value} {kd x : Str} {its xs : List It} {ns : Option (List It)} {at_ : Value} {t : Tok} {l lp : Addr} {ps : List (Option Nat)}
theorem call_seen (T : TX c.g.K) (r : Rm c.A (n + 1)) (hv : VecN T G v kd its ns) (hok : ∀ it ∈ its, ItOK kd it) (hk : kd = "list" ∨ kd = "integer") (hz : its.length < 1000) (hz2 : ∀ xs, ns = some xs → xs.length < 1000 ∧ ∀ it ∈ xs, PlainIt it)
    (h : ∀ rv G', Sub G G' → DG G' rv (seenD kd its ns) → Q rv ⟨m, P, M, G'⟩) : run c (call (.ref (T.fa 38)) [v]) Q ⟨m, P, M, G⟩ := by
  refine enterC0 (T.fn 38 (by simp)) r (binds := [("v", v)]) (fun _ _ _ _ _ => by kernel_rfl) (fun L Z s₀ cdv cells hc => ?_) (by kernel_rfl)
  obtain ⟨at_, ⟨l, hl, ol, vs, e1, e2, e3⟩, ha⟩ := hv
  have hcf : cellsFrom (L + 1) (fnS 38).names [] = [(("v" : Str), L + 1)] := by kernel_rfl
  rw [hcf] at hc
  obtain ⟨oc, rfl, hoc⟩ := hc.one
  have hoc : oc.data = .cell (some v) := hoc.trans (by kernel_rfl)
  walk_at "open"
  refine st_assignComp (cl := [(("v" : Str), L + 1)]) (n := vs.length) (Pr := fun i w => vs[i]? = some w) (fun i ys P M G' => P = [] ∧ M = [(L + 1, oc)] ∧ G' = G ∧ ItsG T G ys ((its.take i).map midIt)) ?_ ?_ (by kernel_rfl) (by have : sizeLine = 16777216 := rfl; rw [e3.1]; omega)
  · walk_at "gos"
    refine run_cell (a := L + 1) (o := oc) (by kernel_rfl) (.head _) hoc ?_
    walk_at "gos"
    refine get_items T (VecL.up hl) ?_
    refine ⟨iter_frozen r.deep.h e1 e2, ⟨rfl, rfl, rfl, ItsG.nil⟩, ?_⟩
    rintro ys P' M' G1 d o ⟨rfl, rfl, rfl, hy⟩ ho
    rw [e3.1, List.take_length] at hy
    refine run_freeze fun G2 k2 q2 => ?_
    have hyl : ys.length = its.length := by rw [hy.1, List.length_map]
    refine st_assignComp (cl := [(("v" : Str), L + 1)]) (n := ys.length) (Pr := fun i w => ys[i]? = some w) (fun i zs P M G' => P = [] ∧ M = [(L + 1, oc)] ∧ G' = G2 ∧ DGs G2 zs ((its.take i).map seenIt)) ?_ ?_ (by kernel_rfl) (by have : sizeLine = 16777216 := rfl; omega)
    · walk_at "gos"
      refine ⟨iter_frozen r.deep.h q2 ho, ⟨rfl, rfl, rfl, .nil⟩, ?_⟩
      rintro zs P' M' G3 d2 o2 ⟨rfl, rfl, rfl, hz3⟩ ho2
      rw [hyl, List.take_length] at hz3
      refine run_freeze fun G4 k4 q4 => ?_
      walk_at "gos"
      have hl4 : VecL c.g.K T.cV (GA G4) v kd l at_ := hl.mono fun _ _ e => k4 _ _ (k2 _ _ e)
      refine run_cell (a := L + 1) (o := oc) (by kernel_rfl) (.head _) hoc ?_
      walk_at "gos"
      refine get_attrs T (VecL.up hl4) ?_
      walk_at "gos"
      cases ns with
      | none =>
        obtain rfl : at_ = .none := ha
        refine ifT (by rfl) ?_
        walk_at "gos"
        refine run_Tuple ?_
        walk_at "gos"
        refine run_cell (a := L + 1) (o := oc) (by kernel_rfl) (.head _) hoc ?_
        walk_at "gos"
        refine get_kind T (VecL.up hl4) fun tk => ?_
        walk_at "gos"
        refine ⟨by simp [sizeLine], fun tp => ?_⟩
        refine run_freeze fun G5 k5 q5 => ?_
        exact end0 (h _ _ ((k2.trans k4).trans k5) (.tuple q5 TO.mk (.cons (.str _ _) (.cons (.list (k5 _ _ q4) ho2 (DGs.mono (k4.trans k5) hz3)) (.cons .none .nil)))))
      | some xs =>
        obtain ⟨dd, od, nv, rfl, lo, a3, a4, at2, l2, e5, o5, ws, e6, e7, e8⟩ := ha
        refine ifF (by simp) ?_
        walk_at "gos"
        refine call_bn T (by simp) hv_list kp_type ?_
        walk_at "gos"
        refine run_cell (a := L + 1) (o := oc) (by kernel_rfl) (.head _) hoc ?_
        walk_at "gos"
        refine get_attrs T (VecL.up hl4) ?_
        walk_at "gos"
        refine sub_str (v := nv) (.inl (k4 _ _ (k2 _ _ a3))) a4 rfl ?_
        walk_at "gos"
        have hl5 : VecL c.g.K T.cV (GA G4) nv "character" l2 at2 := e5.mono fun _ _ e => k4 _ _ (k2 _ _ e)
        refine get_items T (VecL.up hl5) ?_
        walk_at "gos"
        have hxs := hz2 xs rfl
        refine call_listL (.inl (k4 _ _ (k2 _ _ e6))) e7 (by rw [e8.1]; omega) fun d3 o3 ho3 => ?_
        refine run_freeze fun G5 k5 q5 => ?_
        walk_at "gos"
        refine run_Tuple ?_
        walk_at "gos"
        have hl6 : VecL c.g.K T.cV (GA G5) v kd l (.ref dd) := hl4.mono fun _ _ e => k5 _ _ e
        refine run_cell (a := L + 1) (o := oc) (by kernel_rfl) (.head _) hoc ?_
        walk_at "gos"
        refine get_kind T (VecL.up hl6) fun tk => ?_
        walk_at "gos"
        refine ⟨by simp [sizeLine], fun tp => ?_⟩
        refine run_freeze fun G6 k6 q6 => ?_
        refine end0 (h _ _ (((k2.trans k4).trans k5).trans k6) (.tuple q6 TO.mk (.cons (.str _ _) (.cons (.list (k6 _ _ (k5 _ _ q4)) ho2 (DGs.mono ((k4.trans k5).trans k6) hz3)) (.cons (.list (k6 _ _ q5) ho3 ?_) .nil)))))
        exact DGs.ofPlain (T := T) (e8.mono (((k2.trans k4).trans k5).trans k6)) hxs.2
    · rintro i w zs P' M' G3 C Z' N' mC hi hw ⟨rfl, rfl, rfl, hzs⟩ hmx
      obtain ⟨it', hi1, hi2⟩ := hy.get hw
      rw [List.getElem?_map, Option.map_eq_some_iff] at hi1
      obtain ⟨it, hi1, rfl⟩ := hi1
      have hi2 : ItG T G3 w (midIt it) := hi2.mono k2
      have hl3 : VecL c.g.K T.cV (GA G3) v kd l at_ := hl.mono fun _ _ e => k2 _ _ e
      have fin : ∀ w', DG G3 w' (seenIt it) → DGs G3 (zs ++ [w']) ((its.take (i + 1)).map seenIt) := fun w' q => by rw [take_snoc hi1]; exact DGs.snoc hzs q
      refine tests_nil ?_
      refine ifT rfl ?_
      walk_at "gos"
      refine run_cell (a := L + 1) (o := oc) (by kernel_rfl) (.head _) hoc ?_
      walk_at "gos"
      refine get_kind T (VecL.up hl3) fun tk => ?_
      walk_at "gos"
      rcases hok it (List.mem_of_getElem? hi1) with ⟨rfl, hq⟩ | ⟨rfl, hq⟩
      · refine ifT (by rfl) ?_
        walk_at "gos"
        refine isTrue_value ?_
        refine call_bn T (by simp) hv_isi kp_builtin ?_
        walk_at "gos"
        refine nmB T (by simp) hv_int ?_
        walk_at "gos"
        rcases hq with ⟨j, rfl⟩ | rfl
        · cases hi2
          refine isi_int ?_
          walk_at "gos"
          refine ifF (by simp) ?_
          refine ifF (by simp) ?_
          walk_at "gos"
          exact ⟨rfl, rfl, rfl, fin _ (.int _ _)⟩
        · cases hi2 with
          | null b1 b2 b3 b4 =>
          refine isi_null T (.inl b1) (.inl b2) b3 ?_
          walk_at "gos"
          refine ifT rfl ?_
          walk_at "gos"
          refine ifT rfl ?_
          walk_at "gos"
          exact ⟨rfl, rfl, rfl, fin _ (.str _ _)⟩
      · refine ifF (by decide) ?_
        refine ifF (by decide) ?_
        walk_at "gos"
        refine ⟨rfl, rfl, rfl, fin _ ?_⟩
        rcases hq with ⟨j, rfl⟩ | rfl
        · cases hi2; exact .int _ _
        · cases hi2; exact .none
  · rintro i w ys P' M' G1 C Z' N' mC hi hw ⟨rfl, rfl, rfl, hys⟩ hmx
    obtain ⟨it, hi1, hi2⟩ := e3.get hw
    have fin : ∀ w', ItG T G1 w' (midIt it) → ItsG T G1 (ys ++ [w']) ((its.take (i + 1)).map midIt) := fun w' q => by rw [take_snoc hi1]; exact hys.snoc q
    refine tests_nil ?_
    refine ifT rfl ?_
    walk_at "gos"
    refine run_cell (a := L + 1) (o := oc) (by kernel_rfl) (.head _) hoc ?_
    walk_at "gos"
    refine get_kind T (VecL.up hl) fun tk => ?_
    walk_at "gos"
    rcases hok it (List.mem_of_getElem? hi1) with ⟨rfl, hq⟩ | ⟨rfl, hq⟩
    · refine ifT (by rfl) ?_
      walk_at "gos"
      rcases hq with ⟨j, rfl⟩ | rfl
      · cases hi2 with
        | box b1 b2 b3 =>
        refine get_kind T (VecL.up b1) fun tk2 => ?_
        walk_at "gos"
        refine ifT (by decide) ?_
        walk_at "gos"
        refine ifT rfl ?_
        walk_at "gos"
        refine get_items T (VecL.up b1) ?_
        walk_at "gos"
        refine sub_list (.inl b2) b3 (by omega) (by omega) rfl ?_
        exact ⟨rfl, rfl, rfl, fin _ (.int _ _)⟩
      · cases hi2 with
        | null b1 b2 b3 b4 =>
        refine get_nullkind T (.inl b1) (.inl b2) b3 b4 fun tk2 => ?_
        walk_at "gos"
        refine ifF (by decide) ?_
        refine ifF (by decide) ?_
        walk_at "gos"
        exact ⟨rfl, rfl, rfl, fin _ (.null b1 b2 b3 b4)⟩
    · refine ifF (by decide) ?_
      refine ifF (by decide) ?_
      walk_at "gos"
      refine ⟨rfl, rfl, rfl, fin _ ?_⟩
      rcases hq with ⟨j, rfl⟩ | rfl
      · exact hi2
      · exact hi2
end
section
variable {g : Gd} {c : Cx} {σ : Sg} {Q : Value → Sg → Prop} {U : Unit → Sg → Prop} {m : Str → Option Value} {P M : List (Addr × Obj)} {G G' : Hp} {n k : Nat} {v : Value} {kd x : Str} {its xs : List It} {ns : Option (List It)} {at_ : Value} {t : Tok} {l lp bx : Addr} {o : Obj} {ps : List (Option Nat)}
theorem endM1 {A : Around} {env : Env} {m' : Str → Option Value} {M' : List (Addr × Obj)} {fl : Flow} {Z G₀ : Hp} {s₀ : Shared} {N : List Addr} (h : Q (retOf fl) ⟨m, P, (bx, o) :: M, G'⟩) :
    run ⟨g, A, env, Z, s₀, G₀, N⟩ (pure fl) (fun fl σ' => ∃ o', σ'.P = [(bx, o')] ∧ Q (retOf fl) ⟨m, P, σ'.M ++ (bx, o') :: M, σ'.G⟩) ⟨m', [(bx, o)], M', G'⟩ := run_clear (run_pure ⟨o, rfl, h⟩)
def FormOK (f : Int) (xs : List (Option Int)) : Prop := (f = 0 → ∀ k, some k ∈ xs → 0 ≤ k) ∧ (f = 1 → ∀ x ∈ xs, ∃ k, x = some k ∧ k ≤ 0)
theorem FormOK.snoc {f : Int} {xs : List (Option Int)} {x : Option Int} (h : FormOK f xs) (h0 : f = 0 → ∀ k, x = some k → 0 ≤ k) (h1 : f = 1 → ∃ k, x = some k ∧ k ≤ 0) : FormOK f (xs ++ [x]) := by
  refine ⟨fun e k hk => ?_, fun e y hy => ?_⟩
  · rcases List.mem_append.mp hk with q | q
    · exact h.1 e k q
    · exact h0 e k (List.mem_singleton.mp q).symm
  · rcases List.mem_append.mp hy with q | q
    · exact h.2 e y q
    · rw [List.mem_singleton.mp q]; exact h1 e
theorem call_index {hi : Nat} {th : Tok} (T : TX c.g.K) (r : Rm c.A (n + 2)) (hb : BoxO c.g G o) (hhi : hi < 1000)
    (h : ∀ rv G' o' ix, Sub G G' → BoxO c.g G' o' → IxG T G' rv ix → ix.ok → ((∃ xs, ix = .logical xs ∧ xs.length < 8) ∨ ∃ xs, ix = .integer xs ∧ xs.length < 8) → Q rv ⟨m, P, (bx, o') :: M, G'⟩) : run c (call (.ref (T.fa 36)) [.ref bx, .int hi th]) Q ⟨m, P, (bx, o) :: M, G⟩ := by
  refine enterM1 (T.fn 36 (by simp)) r (binds := [("box", .ref bx), ("high", .int hi th)]) (fun _ _ _ _ _ => by kernel_rfl) (fun L Z s₀ cdv => ?_) (by kernel_rfl)
  walk_at "open"
  walk_at "gos"
  refine call_fn (T.fn 34 (by simp)) ?_
  walk_at "gos"
  refine call_drawP _ (by exact r.deep) (by exact hb) (by omega) fun form tf o1 f0 f1 hb1 => ?_
  walk_at "gos"
  refine call_fn (T.fn 34 (by simp)) ?_
  walk_at "gos"
  refine call_drawP _ (by exact r.deep) (by exact hb1) (by omega) fun many tm o2 m0 m1 hb2 => ?_
  walk_at "gos"
  refine run_List ?_
  walk_at "gos"
  refine ⟨by simp [sizeLine], fun d => ?_⟩
  walk_at "gos"
  refine st_for (n := many.toNat) (P := fun i v => ∃ t, v = .int (0 + i) t) (fun i σ => ∃ m' vs' o' ob xs G1, σ = ⟨m', [(bx, ob)], [(d, o')], G1⟩ ∧ Sub G G1 ∧ BoxO c.g G1 ob ∧ LO o' vs' ∧ ItsG T G1 vs' (xs.map ixIt) ∧ xs.length = i ∧ FormOK form xs ∧
    m' "found" = some (.ref d) ∧ m' "form" = some (.int form tf) ∧ m' "box" = some (.ref bx) ∧ m' "high" = some (.int hi th)) ?_ ?_ ?_
  · refine run_tail ?_
    refine call_bn T (by simp) hv_range kp_type ?_
    walk_at "gos"
    refine call_range1 fun rr t1 t2 t3 => ?_
    refine run_freeze fun G1 k1 q1 => ?_
    refine run_pure ⟨iter_range r.deep.h (fun s H => H.gg _ _ q1) (small_of (by omega) (by omega) (by omega) (by omega)) (size_of (by omega)), _, [], _, _, [], _, rfl, k1, hb2.mono k1, LO.mk, ItsG.nil, rfl, ⟨fun _ _ h => by simp at h, fun _ _ h => by simp at h⟩, ?_, ?_, ?_, ?_⟩ <;> walk_at "lk"
  · rintro i w σ Z' N' hi' ⟨tw, rfl⟩ ⟨m', vs', o', ob, xs, G1, rfl, k1, hbo, ho', hits, hxl, hfo, m1', m2, m3, m4⟩ hZ
    have hlo : vs'.length < 1000 := by rw [hits.1, List.length_map]; omega
    have fin : ∀ (y : Value) (ob2 o2 : Obj) (x : Option Int) (m2' : Str → Option Value), BoxO c.g G1 ob2 → ItG T G1 y (ixIt x) → LO o2 (vs' ++ [y]) → (form = 0 → ∀ k, x = some k → 0 ≤ k) → (form = 1 → ∃ k, x = some k ∧ k ≤ 0) →
        m2' "found" = some (.ref d) → m2' "form" = some (.int form tf) → m2' "box" = some (.ref bx) → m2' "high" = some (.int hi th) →
        ∃ m' vs' o' ob xs G1', (⟨m2', [(bx, ob2)], [(d, o2)], G1⟩ : Sg) = ⟨m', [(bx, ob)], [(d, o')], G1'⟩ ∧ Sub G G1' ∧ BoxO c.g G1' ob ∧ LO o' vs' ∧ ItsG T G1' vs' (xs.map ixIt) ∧ xs.length = i + 1 ∧ FormOK form xs ∧
          m' "found" = some (.ref d) ∧ m' "form" = some (.int form tf) ∧ m' "box" = some (.ref bx) ∧ m' "high" = some (.int hi th) := by
      intro y ob2 o2 x m2' a1 a2 a3 a4 a5 a6 a7 a8 a9
      exact ⟨_, _, _, _, xs ++ [x], _, rfl, k1, a1, a3, by rw [List.map_append]; exact hits.snoc a2, by simp [hxl], hfo.snoc a4 a5, a6, a7, a8, a9⟩
    walk_at "gos"
    by_cases c0 : form = 0
    · refine ifT (by simpa using c0) ?_
      walk_at "gos"
      refine call_fn (T.fn 34 (by simp)) ?_
      walk_at "gos"
      refine call_drawP _ (by exact r.deep) (by exact hbo) (by omega) fun ch tc ob2 q0 q1 hb3 => ?_
      walk_at "gos"
      refine run_appendCall ?_
      walk_at "gos"
      refine ⟨d, o', vs', rfl, .inr (.inl (.head _)), ho', ?_⟩
      walk_at "gos"
      by_cases c1 : ch = (hi : Int) + 3
      · refine ifT (by simpa using c1) ?_
        walk_at "gos"
        refine call_append (.own .head) ho' (by omega) fun o2 ho2 => ?_
        walk_at "gos"
        refine fin _ _ _ none _ hb3 .none ho2 (fun _ k e => by cases e) (fun e => by omega) ?_ ?_ ?_ ?_ <;> walk_at "lk"
      · refine ifF (by simpa using c1) ?_
        walk_at "gos"
        refine call_append (.own .head) ho' (by omega) fun o2 ho2 => ?_
        walk_at "gos"
        refine fin _ _ _ (some ch) _ hb3 (.int _ _) ho2 (fun _ k e => by cases e; exact q0) (fun e => by omega) ?_ ?_ ?_ ?_ <;> walk_at "lk"
    · refine ifF (by simpa using c0) ?_
      walk_at "gos"
      by_cases c1 : form = 1
      · refine ifT (by simpa using c1) ?_
        walk_at "gos"
        refine run_appendCall ?_
        walk_at "gos"
        refine ⟨d, o', vs', rfl, .inr (.inl (.head _)), ho', ?_⟩
        walk_at "gos"
        refine call_fn (T.fn 34 (by simp)) ?_
        walk_at "gos"
        refine call_drawP _ (by exact r.deep) (by exact hbo) (by omega) fun ch tc ob2 q0 q1 hb3 => ?_
        walk_at "gos"
        refine call_append (.own .head) ho' (by omega) fun o2 ho2 => ?_
        walk_at "gos"
        refine fin _ _ _ (some (0 - ch)) _ hb3 (.int _ _) ho2 (fun e => absurd e c0) (fun _ => ⟨_, rfl, by omega⟩) ?_ ?_ ?_ ?_ <;> walk_at "lk"
      · refine ifF (by simpa using c1) ?_
        walk_at "gos"
        refine run_appendCall ?_
        walk_at "gos"
        refine ⟨d, o', vs', rfl, .inr (.inl (.head _)), ho', ?_⟩
        walk_at "gos"
        refine run_List ?_
        walk_at "gos"
        refine ⟨by simp [sizeLine], fun d2 => ?_⟩
        refine call_fn (T.fn 34 (by simp)) ?_
        walk_at "gos"
        refine call_drawP _ (by exact r.deep) (by exact hbo) (by omega) fun ch tc ob2 q0 q1 hb3 => ?_
        have hch : ch = 0 ∨ ch = 1 ∨ ch = 2 ∨ ch = 3 := by omega
        rcases hch with rfl | rfl | rfl | rfl
        all_goals
          refine sub_list (.inr (.inl (.head _))) LO.mk (by omega) (by omega) rfl ?_
          refine run_drop ?_
          refine call_append (.own .head) ho' (by omega) fun o2 ho2 => ?_
          walk_at "gos"
        · refine fin _ _ _ (some 1) _ hb3 (.int _ _) ho2 (fun e => absurd e c0) (fun e => absurd e c1) ?_ ?_ ?_ ?_ <;> walk_at "lk"
        · refine fin _ _ _ (some 0) _ hb3 (.int _ _) ho2 (fun e => absurd e c0) (fun e => absurd e c1) ?_ ?_ ?_ ?_ <;> walk_at "lk"
        · refine fin _ _ _ (some 1) _ hb3 (.int _ _) ho2 (fun e => absurd e c0) (fun e => absurd e c1) ?_ ?_ ?_ ?_ <;> walk_at "lk"
        · refine fin _ _ _ none _ hb3 .none ho2 (fun e => absurd e c0) (fun e => absurd e c1) ?_ ?_ ?_ ?_ <;> walk_at "lk"
  · rintro σ ⟨m', vs', o', ob, xs, G1, rfl, k1, hbo, ho', hits, hxl, hfo, m1', m2, m3, m4⟩
    walk_at "gos"
    refine run_Call (run_global T.isV.ns ⟨kp_K T.isV.kp, ?_⟩)
    walk_at "gos"
    by_cases c2 : form = 2
    · refine ifT (by simpa using c2) ?_
      walk_at "gos"
      refine make_vec _ (by exact r.deep) fun x d2 o2 f h1 h2 h3 h4 => ?_
      refine run_freeze fun G2 k2 q2 => ?_
      refine run_freeze fun G3 k3 q3 => ?_
      refine run_freeze fun G4 k4 q4 => ?_
      obtain ⟨es, n0, b1, b2, b3⟩ := h1
      have kk := (k2.trans k3).trans k4
      exact endM1 (h _ _ _ (.logical xs) (k1.trans kk) (hbo.mono kk) ⟨.none, d, ⟨x, d2, o2, f, _, rfl, k4 _ _ (k3 _ _ q2), k4 _ _ q3, ⟨es, n0, b1, by omega, b3⟩, h2, h3, h4, rfl⟩, o', vs', q4, ho', hits.mono kk⟩ (show xs.length < 1000 by omega) (.inl ⟨xs, rfl, by omega⟩))
    · refine ifF (by simpa using c2) ?_
      walk_at "gos"
      refine make_vec _ (by exact r.deep) fun x d2 o2 f h1 h2 h3 h4 => ?_
      refine run_freeze fun G2 k2 q2 => ?_
      refine run_freeze fun G3 k3 q3 => ?_
      refine run_freeze fun G4 k4 q4 => ?_
      obtain ⟨es, n0, b1, b2, b3⟩ := h1
      have kk := (k2.trans k3).trans k4
      refine endM1 (h _ _ _ (.integer xs) (k1.trans kk) (hbo.mono kk) ⟨.none, d, ⟨x, d2, o2, f, _, rfl, k4 _ _ (k3 _ _ q2), k4 _ _ q3, ⟨es, n0, b1, by omega, b3⟩, h2, h3, h4, rfl⟩, o', vs', q4, ho', hits.mono kk⟩ ⟨?_, by omega⟩ (.inr ⟨xs, rfl, by omega⟩))
      have : form = 0 ∨ form = 1 := by omega
      rcases this with e | e
      · exact .inl (hfo.1 e)
      · exact .inr (hfo.2 e)
end
def kdOf (b : Bool) : Str := if b then "list" else "integer"
def subIt (b : Bool) (i : Nat) : It := if b then .box (100 + i) else .int (100 + i)
def subIts (b : Bool) (n : Nat) : List It := (List.range n).map (subIt b)
def nmIt (i : Nat) : It := .str ⟨#[(97 + (i : Int)).toNat]⟩
def subNs (w : Bool) (n : Nat) : Option (List It) := if w then some ((List.range n).map nmIt) else none
theorem rm_snoc {β : Type} (f : Nat → β) (i : Nat) : (List.range (i + 1)).map f = (List.range i).map f ++ [f i] := by
  rw [List.range_succ]; simp
section
variable {g : Gd} {c : Cx} {σ : Sg} {Q : Value → Sg → Prop} {F : Flow → Sg → Prop} {U : Unit → Sg → Prop} {m : Str → Option Value} {P M : List (Addr × Obj)} {G G' : Hp} {n k : Nat} {v : Value} {kd x : Str} {its xs : List It} {ns : Option (List It)} {at_ : Value} {t : Tok} {l lp bx : Addr} {o : Obj} {pos : Pos} {rest : List Stmt}
theorem st_ifJ (J : Sg → Prop) {t : Expr} {a b : List Stmt} (h : run c (isTrue t c.env (eval t c.env)) (fun r σ₁ => if r then run c (execs a c.env) (fun f σ₂ => f = .next ∧ J σ₂) σ₁ else run c (execs b c.env) (fun f σ₂ => f = .next ∧ J σ₂) σ₁) σ)
    (k : ∀ σ₁, J σ₁ → run c (execs rest c.env) F σ₁) : run c (execs (.If t a b pos :: rest) c.env) F σ :=
  st_if (run_mono h fun r σ₁ q => by
    cases r
    · exact run_mono q fun f σ₂ ⟨e, j⟩ => by subst e; exact k σ₂ j
    · exact run_mono q fun f σ₂ ⟨e, j⟩ => by subst e; exact k σ₂ j)
set_option maxHeartbeats 8000000 in
theorem call_subject (T : TX c.g.K) (r : Rm c.A (n + 2)) (hb : BoxO c.g G o)
    (h : ∀ rv G' o' b w nn, Sub G G' → BoxO c.g G' o' → nn < 10 → VecN T G' rv (kdOf b) (subIts b nn) (subNs w nn) → Q rv ⟨m, P, (bx, o') :: M, G'⟩) : run c (call (.ref (T.fa 35)) [.ref bx]) Q ⟨m, P, (bx, o) :: M, G⟩ := by
  refine enterM1 (T.fn 35 (by simp)) r (binds := [("box", .ref bx)]) (fun _ _ _ _ _ => by kernel_rfl) (fun L Z s₀ cdv => ?_) (by kernel_rfl)
  walk_at "open"
  walk_at "gos"
  refine call_fn (T.fn 34 (by simp)) ?_
  walk_at "gos"
  refine call_drawP _ (by exact r.deep) (by exact hb) (by omega) fun many tm o1 m0 m1 hb1 => ?_
  walk_at "go"
  refine st_ifJ (fun σ => ∃ b x d2 o2 f tk lst m' G1 ob, σ = ⟨m', [(bx, ob)], [(x, instObj T.cV d2), (d2, o2)], G1⟩ ∧ Sub G G1 ∧ BoxO c.g G1 ob ∧ FO o2 5 f ∧ f "kind" = some (.str (kdOf b) tk) ∧ f "items" = some (.ref lst) ∧ f "attrs" = some .none ∧ LstG T G1 lst (subIts b many.toNat) ∧
    m' "subject" = some (.ref x) ∧ m' "box" = some (.ref bx) ∧ m' "many" = some (.int many tm)) ?_ ?_
  · walk_at "gos"
    refine call_fn (T.fn 34 (by simp)) ?_
    walk_at "gos"
    refine call_drawP _ (by exact r.deep) (by exact hb1) (by omega) fun wh tw o2 w0 w1 hb2 => ?_
    walk_at "gos"
    by_cases c2 : wh = 2
    · refine ifT (by simpa using c2) ?_
      walk_at "gos"
      refine run_Call (run_global T.isV.ns ⟨kp_K T.isV.kp, ?_⟩)
      walk_at "gos"
      refine run_ListComp (cl := []) (n := many.toNat) (Pr := fun i v => ∃ t, v = .int (0 + i) t) (fun i ys P M G' => P = [(bx, o2)] ∧ M = [] ∧ Sub G G' ∧ ItsG T G' ys ((List.range i).map (subIt true))) ?_ ?_ (by kernel_rfl) (by have : sizeLine = 16777216 := rfl; omega)
      · refine run_tail ?_
        refine call_bn T (by simp) hv_range kp_type ?_
        walk_at "gos"
        refine call_range1 fun rr t1 t2 t3 => ?_
        refine run_freeze fun G1 k1 q1 => ?_
        refine run_pure ⟨iter_range r.deep.h (fun s H => H.gg _ _ q1) (small_of (by omega) (by omega) (by omega) (by omega)) (size_of (by omega)), ⟨rfl, rfl, k1, ItsG.nil⟩, ?_⟩
        rintro ys P' M' G2 d o3 ⟨rfl, rfl, k2, hy⟩ ho3
        refine run_freeze fun G3 k3 q3 => ?_
        walk_at "gos"
        refine make_vec _ (by exact r.deep) fun x d2 o4 f h1 h2 h3 h4 => ?_
        walk_at "gos"
        refine ⟨rfl, true, x, d2, o4, f, _, d, _, _, _, rfl, k2.trans k3, hb2.mono (k2.trans k3), h1, h2, h3, h4, ⟨_, _, q3, ho3, hy.mono k3⟩, ?_, ?_, ?_⟩ <;> walk_at "lk"
      · rintro i w ys P' M' G1 C Z' N' mC hi ⟨ti, rfl⟩ ⟨rfl, rfl, k1, hy⟩ hmx
        refine tests_nil ?_
        refine ifT rfl ?_
        walk_at "gos"
        refine run_Call (run_global T.isV.ns ⟨kp_K T.isV.kp, ?_⟩)
        walk_at "gos"
        refine run_List ?_
        walk_at "gos"
        refine ⟨by simp [sizeLine], fun d => ?_⟩
        refine run_freeze fun G2 k2 q2 => ?_
        walk_at "gos"
        refine run_tail ?_
        refine make_vec _ (by exact r.deep) fun x d2 o4 f h1 h2 h3 h4 => ?_
        refine run_freeze fun G3 k3 q3 => ?_
        refine run_freeze fun G4 k4 q4 => ?_
        obtain ⟨es, n0, b1, b2, b3⟩ := h1
        have kk := (k2.trans k3).trans k4
        refine run_pure ⟨rfl, rfl, k1.trans kk, ?_⟩
        rw [rm_snoc]
        refine (hy.mono kk).snoc ?_
        have e : (100 : Int) + (0 + (i : Int)) = 100 + i := by omega
        exact .box ⟨x, d2, o4, f, _, rfl, k4 _ _ q3, q4, ⟨es, n0, b1, by omega, b3⟩, h2, h3, h4, rfl⟩ (k4 _ _ (k3 _ _ q2)) (by rw [← e]; exact LO.mk)
    · refine ifF (by simpa using c2) ?_
      walk_at "gos"
      refine run_Call (run_global T.isV.ns ⟨kp_K T.isV.kp, ?_⟩)
      walk_at "gos"
      refine run_ListComp (cl := []) (n := many.toNat) (Pr := fun i v => ∃ t, v = .int (0 + i) t) (fun i ys P M G' => P = [(bx, o2)] ∧ M = [] ∧ Sub G G' ∧ ItsG T G' ys ((List.range i).map (subIt false))) ?_ ?_ (by kernel_rfl) (by have : sizeLine = 16777216 := rfl; omega)
      · refine run_tail ?_
        refine call_bn T (by simp) hv_range kp_type ?_
        walk_at "gos"
        refine call_range1 fun rr t1 t2 t3 => ?_
        refine run_freeze fun G1 k1 q1 => ?_
        refine run_pure ⟨iter_range r.deep.h (fun s H => H.gg _ _ q1) (small_of (by omega) (by omega) (by omega) (by omega)) (size_of (by omega)), ⟨rfl, rfl, k1, ItsG.nil⟩, ?_⟩
        rintro ys P' M' G2 d o3 ⟨rfl, rfl, k2, hy⟩ ho3
        refine run_freeze fun G3 k3 q3 => ?_
        walk_at "gos"
        refine make_vec _ (by exact r.deep) fun x d2 o4 f h1 h2 h3 h4 => ?_
        walk_at "gos"
        refine ⟨rfl, false, x, d2, o4, f, _, d, _, _, _, rfl, k2.trans k3, hb2.mono (k2.trans k3), h1, h2, h3, h4, ⟨_, _, q3, ho3, hy.mono k3⟩, ?_, ?_, ?_⟩ <;> walk_at "lk"
      · rintro i w ys P' M' G1 C Z' N' mC hi ⟨ti, rfl⟩ ⟨rfl, rfl, k1, hy⟩ hmx
        refine tests_nil ?_
        refine ifT rfl ?_
        walk_at "gos"
        refine ⟨rfl, rfl, k1, ?_⟩
        rw [rm_snoc]
        refine hy.snoc ?_
        have e : (100 : Int) + (0 + (i : Int)) = 100 + i := by omega
        rw [e]; exact .int _ _
  · rintro σ ⟨b, x, d2, o2, f, tk, lst, m', G1, ob, rfl, k1, hbo, h1, h2, h3, h4, hl, p1, p2, p3⟩
    walk_at "gos"
    refine call_fn (T.fn 34 (by simp)) ?_
    walk_at "gos"
    refine call_drawP _ (by exact r.deep) (by exact hbo) (by omega) fun wn twn ob2 w0 w1 hb2 => ?_
    walk_at "gos"
    by_cases c1 : wn = 1
    · refine ifT (by simpa using c1) ?_
      walk_at "gos"
      refine run_Dict1 fun dd od lo hd => ?_
      walk_at "gos"
      refine run_Call (run_global T.isV.ns ⟨kp_K T.isV.kp, ?_⟩)
      walk_at "gos"
      refine run_ListComp (cl := []) (n := many.toNat) (Pr := fun i v => ∃ t, v = .int (0 + i) t) (fun i ys P M G' => P = [(bx, ob2)] ∧ M = [(dd, od), (x, instObj T.cV d2), (d2, o2)] ∧ Sub G1 G' ∧ ItsG T G' ys ((List.range i).map nmIt)) ?_ ?_ (by kernel_rfl) (by have : sizeLine = 16777216 := rfl; omega)
      · refine run_tail ?_
        refine call_bn T (by simp) hv_range kp_type ?_
        walk_at "gos"
        refine call_range1 fun rr t1 t2 t3 => ?_
        refine run_freeze fun G2 k2 q2 => ?_
        refine run_pure ⟨iter_range r.deep.h (fun s H => H.gg _ _ q2) (small_of (by omega) (by omega) (by omega) (by omega)) (size_of (by omega)), ⟨rfl, rfl, k2, ItsG.nil⟩, ?_⟩
        rintro ys P' M' G3 d o3 ⟨rfl, rfl, k3, hy⟩ ho3
        refine run_freeze fun G4 k4 q4 => ?_
        walk_at "gos"
        refine run_tail ?_
        refine make_vec _ (by exact r.deep) fun xn dn on fn j1 j2 j3 j4 => ?_
        refine run_freeze fun G5 k5 q5 => ?_
        refine run_freeze fun G6 k6 q6 => ?_
        refine run_pure ⟨_, _, _, rfl, .head, fun od2 hod2 => ?_⟩
        refine run_freeze fun G7 k7 q7 => ?_
        walk_at "gos"
        refine setAttr_inst T.isV (.inr (.inl (.head _))) (.own (.tail .head)) h1 (by simp) (by omega) fun o5 h5 => ?_
        walk_at "gos"
        refine run_freeze fun G8 k8 q8 => ?_
        refine run_freeze fun G9 k9 q9 => ?_
        obtain ⟨es, n0, b1, b2, b3⟩ := j1
        obtain ⟨es', n0', b1', b2', b3'⟩ := h5
        have ka := ((k6.trans k7).trans k8).trans k9
        have kb := (k4.trans k5).trans ka
        refine endM1 (h _ _ _ b true many.toNat ((k1.trans k3).trans kb) (hb2.mono (k3.trans kb)) (by omega) ⟨.ref dd, ⟨lst, ⟨x, d2, o5, _, tk, rfl, k9 _ _ q8, q9, ⟨es', n0', b1', by omega, b3'⟩, ?_, ?_, upd_same, rfl⟩, hl.mono (k3.trans kb)⟩, dd, od2, .ref xn, rfl, lo, k9 _ _ (k8 _ _ q7), hod2, .none, d, ⟨xn, dn, on, fn, _, rfl, ka _ _ q5, ((k7.trans k8).trans k9) _ _ q6, ⟨es, n0, b1, by omega, b3⟩, j2, j3, j4, rfl⟩, o3, ys, (k5.trans ka) _ _ q4, ho3, hy.mono kb⟩)
        · exact (upd_ne (by kernel_rfl)).trans h2
        · exact (upd_ne (by kernel_rfl)).trans h3
      · rintro i w ys P' M' G2 C Z' N' mC hi ⟨ti, rfl⟩ ⟨rfl, rfl, k2, hy⟩ hmx
        refine tests_nil ?_
        refine ifT rfl ?_
        refine call_bn T (by simp) hv_chr kp_builtin ?_
        walk_at "gos"
        refine call_chr (by omega) (by omega) fun tc => ?_
        refine ⟨rfl, rfl, k2, ?_⟩
        rw [rm_snoc]
        refine hy.snoc ?_
        have e : (97 : Int) + (0 + (i : Int)) = 97 + i := by omega
        rw [e]; exact .str _ _
    · refine ifF (by simpa using c1) ?_
      walk_at "gos"
      refine run_freeze fun G8 k8 q8 => ?_
      refine run_freeze fun G9 k9 q9 => ?_
      obtain ⟨es, n0, b1, b2, b3⟩ := h1
      have kb := k8.trans k9
      exact endM1 (h _ _ _ b false many.toNat (k1.trans kb) (hb2.mono kb) (by omega) ⟨.none, ⟨lst, ⟨x, d2, o2, f, tk, rfl, k9 _ _ q8, q9, ⟨es, n0, b1, by omega, b3⟩, h2, h3, h4, rfl⟩, hl.mono kb⟩, rfl⟩)
end
section
variable {g : Gd} {c : Cx} {σ : Sg} {Q : Value → Sg → Prop} {F : Flow → Sg → Prop} {U : Unit → Sg → Prop} {m : Str → Option Value} {P M : List (Addr × Obj)} {G G' : Hp} {n k : Nat} {v : Value} {kd x : Str} {its xs : List It} {ns : Option (List It)} {at_ : Value} {t : Tok} {l lp bx : Addr} {o : Obj} {pos : Pos} {rest : List Stmt} {vs : List Value} {nl : List Int}
theorem run_keep1 {α : Type} {t : Sem α} {Q : α → Sg → Prop} {p : Addr × Obj} (h : run c t Q ⟨m, P, [p], G⟩) : run c t Q ⟨m, P, p :: M, G⟩ := fun s hs => h s (hs.sub (fun q hq => by rw [List.mem_singleton.mp hq]; exact .head _) (by simp))
theorem ints_get {vs : List Value} {ns : List Int} (h : IntsAre vs ns) {i : Nat} {w : Value} (e : vs[i]? = some w) : ∃ k t, w = .int k t := by
  obtain ⟨n, t, a, _⟩ := IntsAre.at h i w e
  exact ⟨n, t, a⟩
theorem call_feed (T : TX c.g.K) (r : Rm c.A (n + 1)) (hb : c.g.base.IsList l vs.toArray) (hi : IntsAre vs nl) (hz : vs.length ≤ 100)
    (h : ∀ bx o G', Sub G G' → BoxO c.g G' o → Q (.ref bx) ⟨m, P, (bx, o) :: M, G'⟩) : run c (call (.ref (T.fa 33)) [.ref l]) Q ⟨m, P, M, G⟩ := by
  refine enter0 (T.fn 33 (by simp)) r (binds := [("script", .ref l)]) (fun _ _ _ _ _ => by kernel_rfl) (fun L Z s₀ cdv => ?_) (by kernel_rfl)
  walk_at "open"
  walk_at "gos"
  refine run_List ?_
  walk_at "gos"
  refine ⟨by simp [sizeLine], fun d => ?_⟩
  walk_at "gos"
  refine st_for (n := (vs.take 30).length) (P := fun i v => (vs.take 30)[i]? = some v) (fun i σ => ∃ m' vs' o' ns G1, σ = ⟨m', [], [(d, o')], G1⟩ ∧ Sub G G1 ∧ LO o' vs' ∧ IntsAre vs' ns ∧ vs'.length ≤ 24 * i ∧ m' "feed" = some (.ref d)) ?_ ?_ ?_
  · refine run_tail ?_
    refine run_cut ?_
    walk_at "gos"
    refine ⟨l, vs, 30, _, rfl, rfl, fun s H => ?_, by omega, fun d2 o2 ho2 => ?_⟩
    · obtain ⟨ol, a, b⟩ := hb
      exact ⟨ol, H.base _ _ a, b⟩
    · refine run_freeze fun G1 k1 q1 => ?_
      refine run_pure ⟨iter_frozen r.deep.h q1 ho2, _, [], _, [], _, rfl, k1, LO.mk, .nil, Nat.zero_le _, ?_⟩
      walk_at "lk"
  · rintro i w σ Z' N' hi' hw ⟨m', vs', o', ns, G1, rfl, k1, ho', hns, hlen, m1⟩ hZ
    obtain ⟨cell, tc, rfl⟩ := ints_get (hi.take 30) hw
    have hi30 : i < 30 := by rw [List.length_take] at hi'; omega
    walk_at "gos"
    by_cases c0 : 0 ≤ cell
    all_goals
      first
        | (refine ifT (by simpa using c0) ?_)
        | (refine ifF (by simpa using c0) ?_)
      walk_at "gos"
      refine op_mul (IntMulOk.of_left (by decide)) fun t2 => ?_
      walk_at "gos"
    all_goals
      refine st_for (n := 24) (P := fun i v => ∃ t, v = .int (0 + i) t) (fun j σ => ∃ m' vs' o' ns G2, σ = ⟨m', [], [(d, o')], G2⟩ ∧ Sub G G2 ∧ LO o' vs' ∧ IntsAre vs' ns ∧ vs'.length ≤ 24 * i + j ∧ m' "feed" = some (.ref d) ∧ ∃ rest tr, m' "rest" = some (.int rest tr)) ?_ ?_ ?_
      · refine run_tail ?_
        refine call_bn T (by simp) hv_range kp_type ?_
        walk_at "gos"
        refine call_range1 fun rr t1 t2 t3 => ?_
        refine run_freeze fun G2 k2 q2 => ?_
        refine run_pure ⟨iter_range r.deep.h (fun s H => H.gg _ _ q2) (small_of (by omega) (by omega) (by omega) (by omega)) (size_of (by omega)), _, vs', _, ns, _, rfl, k1.trans k2, ho', hns, by omega, ?_, ?_⟩
        · walk_at "lk"
        · dsimp only; exact ⟨_, _, upd_same⟩
      · rintro j w2 σ2 Z2 N2 hj ⟨tj, rfl⟩ ⟨m2, vs2, o2, ns2, G2, rfl, k2, ho2, hns2, hlen2, p1, rest, tr, p2⟩ hZ2
        walk_at "gos"
        refine run_appendCall ?_
        walk_at "gos"
        refine ⟨d, o2, vs2, rfl, .inr (.inl (.head _)), ho2, ?_⟩
        walk_at "gos"
        refine op_mod (by omega) fun tq => ?_
        refine call_append (.own .head) ho2 (by omega) fun o3 ho3 => ?_
        walk_at "gos"
        refine op_fdiv (by omega) (by decide) fun tq2 => ?_
        walk_at "gos"
        have hn3 : IntsAre (vs2 ++ [.int (rest.fmod 509) tq]) (ns2 ++ [rest.fmod 509]) := hns2.append (.cons _ _ .nil)
        have hl3 : (vs2 ++ [Value.int (rest.fmod 509) tq]).length ≤ 24 * i + j + 1 := by simp; omega
        by_cases cz : rest.fdiv 509 = 0
        · refine ifT (by simpa using cz) ?_
          walk_at "gos"
          refine ⟨_, _, _, _, _, rfl, k2, ho3, hn3, by omega, ?_⟩
          walk_at "lk"
        · refine ifF (by simpa using cz) ?_
          walk_at "gos"
          refine ⟨_, _, _, _, _, rfl, k2, ho3, hn3, by omega, ?_, ?_⟩
          · walk_at "lk"
          · dsimp only; exact ⟨_, _, upd_same⟩
      · rintro σ2 ⟨m2, vs2, o2, ns2, G2, rfl, k2, ho2, hns2, hlen2, p1, rest, tr, p2⟩
        walk_at "gos"
        exact ⟨_, _, _, _, _, rfl, k2, ho2, hns2, by omega, p1⟩
  · rintro σ ⟨m', vs', o', ns, G1, rfl, k1, ho', hns, hlen, m1⟩
    have hl30 : (vs.take 30).length ≤ 30 := List.length_take_le 30 vs
    walk_at "gos"
    refine run_Dict2 fun dd od lo hd => ?_
    walk_at "go"
    refine run_cut ?_
    walk_at "gos"
    refine ⟨d, vs', 110, _, rfl, rfl, fun s H => H.list (.inr (.inl (.tail _ (.head _)))) ho', by omega, fun d2 o2 ho2 => ?_⟩
    refine run_freeze fun G2 k2 q2 => ?_
    walk_at "gos"
    refine ⟨_, _, _, _, _, rfl, rfl, .head, fun o3 ho3 => ?_⟩
    have es : ∀ a b : Value, stored [(("feed" : Str), a)] ("spot" : Str) b = [(("feed" : Str), a), (("spot" : Str), b)] := fun a b => by kernel_rfl
    rw [es] at ho3
    refine run_keep1 (run_pure ⟨rfl, ?_⟩)
    exact h dd o3 _ (k1.trans k2) ⟨d2, 0, _, _, _, _, ho3, q2, ho2, hns.take 110, by rw [List.length_take]; omega, by omega, by omega⟩
end
def spotOne (x : Option Int) (i : Nat) : Option (Option Int) := match x with
  | none => some none
  | some k => if k = 0 then none else some (some ((i : Int) + 1))
def spotsL (xs : List (Option Int)) (n : Nat) : List (Option Int) := if xs.length = 0 then [] else (List.range (max n xs.length)).filterMap fun i => spotOne (xs.getD (i % xs.length) none) i
def notZero (x : Option Int) : Bool := match x with
  | none => true
  | some k => decide (k ≠ 0)
def spotsI (xs : List (Option Int)) (n : Nat) : List (Option Int) :=
  if xs.any isNeg then ((List.range n).filter fun i : Nat => !xs.contains (some (-((i : Int) + 1)))).map (fun i : Nat => some ((i : Int) + 1)) else xs.filter notZero
def spotsOf (ix : Ix) (n : Nat) : List (Option Int) := match ix with
  | .missing => []
  | .logical xs => spotsL xs n
  | .integer xs => spotsI xs n
def ixDat : Option Int → Dat
  | none => .none
  | some k => .int k
theorem ft_snoc {α : Type} {f : α → Bool} {l : List α} {i : Nat} {a : α} (h : l[i]? = some a) : (l.take (i + 1)).filter f = (l.take i).filter f ++ (if f a then [a] else []) := by
  rw [List.take_add_one, h, List.filter_append]
  cases h2 : f a <;> simp [h2]
section
variable {g : Gd} {c : Cx} {σ : Sg} {Q : Value → Sg → Prop} {F : Flow → Sg → Prop} {U : Unit → Sg → Prop} {m : Str → Option Value} {P M : List (Addr × Obj)} {G G' : Hp} {n k : Nat} {v : Value} {kd x : Str} {its : List It} {ns : Option (List It)} {at_ : Value} {t : Tok} {l lp bx : Addr} {o : Obj} {pos : Pos} {rest : List Stmt} {vs : List Value} {xs : List (Option Int)}
theorem DGs.ofIx {T : TX g.K} (h : ItsG T G vs (xs.map ixIt)) : DGs G vs (xs.map ixDat) := by
  refine DGs.of_at (vs := vs) (by rw [h.1, List.length_map, List.length_map]) fun i w e => ?_
  obtain ⟨p, e1, e2⟩ := ix_at h e
  refine ⟨ixDat p, by rw [List.getElem?_map, e1]; rfl, ?_⟩
  rcases e2 with ⟨rfl, rfl⟩ | ⟨k, t, rfl, rfl⟩
  · exact .none
  · exact .int _ _
theorem ok_ix : kqdOk 8 (.list (xs.map ixDat)) = true := by
  rw [kqdOk, List.all_eq_true]
  intro d hd
  obtain ⟨p, _, rfl⟩ := List.mem_map.mp hd
  cases p <;> simp [ixDat, kqdOk]
theorem ints_ofIx {T : TX g.K} : ∀ {vs : List Value} {xs : List (Option Int)}, ItsG T G vs (xs.map ixIt) → (∀ x ∈ xs, isNeg x = true) → ∃ ns, IntsAre vs ns ∧ ∀ a, a ∈ ns ↔ some a ∈ xs
  | [], [], _, _ => ⟨[], .nil, by simp⟩
  | [], x :: xs, h, _ => by have := h.1; simp at this
  | v :: vs, [], h, _ => by have := h.1; simp at this
  | v :: vs, x :: xs, h, hn => by
    have h' : ItsG T G vs (xs.map ixIt) := ⟨by have := h.1; simpa using this, fun i w e => by
      obtain ⟨it, a, b⟩ := h.2 (i + 1) w (by simpa using e)
      exact ⟨it, by simpa using a, b⟩⟩
    obtain ⟨ns, q1, q2⟩ := ints_ofIx h' fun y hy => hn y (.tail _ hy)
    obtain ⟨p, e1, e2⟩ := ix_at (i := 0) h rfl
    cases e1
    rcases e2 with ⟨e, _⟩ | ⟨k, t, rfl, rfl⟩
    · have := hn x (.head _)
      rw [e] at this; simp [isNeg] at this
    · exact ⟨k :: ns, .cons k t q1, fun a => by simp [q2]⟩
theorem call_spots {ix : Ix} {nn : Nat} {th : Tok} (T : TX c.g.K) (r : Rm c.A (n + 2)) (hx : IxG T G v ix) (ok : ix.ok) (hm : ix ≠ .missing) (hn : nn < 1000)
    (h : ∀ d G', Sub G G' → LstG T G' d ((spotsOf ix nn).map ixIt) → Q (.ref d) ⟨m, P, M, G'⟩) : run c (call (.ref (T.fa 37)) [v, .int nn th]) Q ⟨m, P, M, G⟩ := by
  refine enterC0 (T.fn 37 (by simp)) r (binds := [("ix", v), ("high", .int nn th)]) (fun _ _ _ _ _ => by kernel_rfl) (fun L Z s₀ cdv cells hc => ?_) (by kernel_rfl)
  have hcf : cellsFrom (L + 1) (fnS 37).names [] = [(("out" : Str), L + 1)] := by kernel_rfl
  rw [hcf] at hc
  obtain ⟨oc, rfl, hoc⟩ := hc.one
  cases ix with
  | missing => exact absurd rfl hm
  | logical xs =>
    obtain ⟨at_, l, hl, ol, vs, e1, e2, e3⟩ := hx
    have hvl : vs.length = xs.length := by rw [e3.1, List.length_map]
    have hxl : xs.length < 1000 := ok
    walk_at "open"
    walk_at "gos"
    refine get_kind T (VecL.up hl) fun tk => ?_
    walk_at "gos"
    refine ifT (by decide) ?_
    walk_at "gos"
    refine get_items T (VecL.up hl) ?_
    refine run_List ?_
    walk_at "gos"
    refine ⟨by simp [sizeLine], fun d0 => ?_⟩
    refine run_freeze fun G1 k1 q1 => ?_
    refine cmpD_eq_nil r.deep (.list (k1 _ _ e1) e2 (DGs.mono k1 (DGs.ofIx (T := T) e3))) (.list q1 LO.mk .nil) ok_ix ?_
    walk_at "gos"
    by_cases h0 : xs.length = 0
    · refine ifT (by simpa using h0) ?_
      walk_at "gos"
      refine run_List ?_
      walk_at "gos"
      refine ⟨by simp [sizeLine], fun d => ?_⟩
      refine run_freeze fun G2 k2 q2 => ?_
      refine end0 (h _ _ (k1.trans k2) ⟨_, [], q2, LO.mk, ?_⟩)
      rw [spotsOf, spotsL, if_pos h0]
      exact ItsG.nil
    refine ifF (by simpa using h0) ?_
    walk_at "gos"
    refine run_List ?_
    walk_at "gos"
    refine ⟨by simp [sizeLine], fun d => ?_⟩
    walk_at "gos"
    have hmx : (if (xs.length : Int) > nn then (xs.length : Int) else nn) = ((max nn xs.length : Nat) : Int) := by
      rcases Nat.le_total nn xs.length with q | q
      · rw [Nat.max_eq_right q]; split <;> omega
      · rw [Nat.max_eq_left q]; split <;> omega
    refine st_for (n := max nn xs.length) (P := fun i v => ∃ t, v = .int (0 + i) t) (fun i σ => ∃ m' vs' o' G2, σ = ⟨m', [], [(d, o'), (L + 1, oc)], G2⟩ ∧ Sub G1 G2 ∧ LO o' vs' ∧ ItsG T G2 vs' (((List.range i).filterMap fun i => spotOne (xs.getD (i % xs.length) none) i).map ixIt) ∧ m' "spots" = some (.ref d) ∧ m' "ix" = some v) ?_ ?_ ?_
    · refine run_tail ?_
      refine call_bn T (by simp) hv_range kp_type ?_
      walk_at "gos"
      refine call_bn T (by simp) hv_max kp_builtin ?_
      walk_at "gos"
      walk_at "len"
      walk_at "gos"
      refine get_items T (VecL.up (hl.mono fun _ _ e => k1 _ _ e)) ?_
      walk_at "gos"
      refine call_lenE (.inl (k1 _ _ e1)) e2 hvl (by omega) fun tc => ?_
      walk_at "gos"
      refine call_max r.deep.h fun tm => ?_
      walk_at "gos"
      rw [hmx]
      refine call_range1 fun rr t1 t2 t3 => ?_
      refine run_freeze fun G2 k2 q2 => ?_
      refine run_pure ⟨iter_range r.deep.h (fun s H => H.gg _ _ q2) (small_of (by omega) (by omega) (by omega) (by omega)) (size_of (by omega)), _, [], _, _, rfl, k2, LO.mk, ItsG.nil, ?_, ?_⟩ <;> walk_at "lk"
    · rintro i w σ Z' N' hi ⟨tw, rfl⟩ ⟨m', vs', o', G2, rfl, k2, ho', hits, m1, m2⟩ hZ
      have hlo : vs'.length < 1000 := by
        have := fm_len (fun i => spotOne (xs.getD (i % xs.length) none) i) i
        rw [hits.1, List.length_map]; omega
      have hlt : i % xs.length < vs.length := by rw [hvl]; exact Nat.mod_lt _ (by omega)
      obtain ⟨p, hp, hpw⟩ := ix_at e3 (List.getElem?_eq_getElem hlt)
      have hgd : xs.getD (i % xs.length) none = p := by rw [List.getD_eq_getElem?_getD, hp]; rfl
      have hl2 : VecL c.g.K T.cV (GA G2) v "logical" l at_ := hl.mono fun _ _ e => k2 _ _ (k1 _ _ e)
      have fin : ∀ (vs2 : List Value) (o2 : Obj) (m2' : Str → Option Value), ItsG T G2 vs2 ((((List.range i).filterMap fun i => spotOne (xs.getD (i % xs.length) none) i) ++ (spotOne p i).toList).map ixIt) → LO o2 vs2 → m2' "spots" = some (.ref d) → m2' "ix" = some v →
          ∃ m' vs' o' G2', (⟨m2', [], [(d, o2), (L + 1, oc)], G2⟩ : Sg) = ⟨m', [], [(d, o'), (L + 1, oc)], G2'⟩ ∧ Sub G1 G2' ∧ LO o' vs' ∧ ItsG T G2' vs' (((List.range (i + 1)).filterMap fun i => spotOne (xs.getD (i % xs.length) none) i).map ixIt) ∧ m' "spots" = some (.ref d) ∧ m' "ix" = some v := by
        intro vs2 o2 m2' hy ho2 a b
        exact ⟨_, _, _, _, rfl, k2, ho2, by rw [fm_snoc, hgd]; exact hy, a, b⟩
      walk_at "gos"
      refine get_items T (VecL.up hl2) ?_
      walk_at "gos"
      walk_at "len"
      walk_at "gos"
      refine get_items T (VecL.up hl2) ?_
      walk_at "gos"
      refine call_lenE (.inl (k2 _ _ (k1 _ _ e1))) e2 hvl (by omega) fun tc => ?_
      refine op_mod (by omega) fun tq => ?_
      rw [Int.zero_add, fmod_nat]
      refine sub_list (v := vs[i % xs.length]) (.inl (k2 _ _ (k1 _ _ e1))) e2 (by omega) (by omega) (by rw [Int.toNat_natCast]; exact List.getElem?_eq_getElem hlt) ?_
      walk_at "gos"
      rcases hpw with ⟨rfl, hw⟩ | ⟨kk, tk, rfl, hw⟩
      · rw [hw]
        walk_at "gos"
        refine ifT (by rfl) ?_
        walk_at "gos"
        refine run_appendCall ?_
        walk_at "gos"
        refine ⟨d, o', vs', rfl, .inr (.inl (.head _)), ho', ?_⟩
        walk_at "gos"
        refine ifT (by rfl) ?_
        walk_at "gos"
        refine call_append (.own .head) ho' (by omega) fun o2 ho2 => ?_
        walk_at "gos"
        refine fin _ _ _ ?_ ho2 ?_ ?_
        · rw [List.map_append]; exact hits.snoc .none
        all_goals walk_at "lk"
      · rw [hw]
        walk_at "gos"
        by_cases hz : kk = 0
        · refine ifF (by simp [hz]) ?_
          walk_at "gos"
          refine fin _ _ _ ?_ ho' ?_ ?_
          · rw [show spotOne (some kk) i = none from by simp [spotOne, hz], Option.toList_none, List.append_nil]; exact hits
          all_goals walk_at "lk"
        · refine ifT (by simp [hz]) ?_
          walk_at "gos"
          refine run_appendCall ?_
          walk_at "gos"
          refine ⟨d, o', vs', rfl, .inr (.inl (.head _)), ho', ?_⟩
          walk_at "gos"
          refine ifF (by simp) ?_
          walk_at "gos"
          refine call_append (.own .head) ho' (by omega) fun o2 ho2 => ?_
          walk_at "gos"
          refine fin _ _ _ ?_ ho2 ?_ ?_
          · rw [show spotOne (some kk) i = some (some ((i : Int) + 1)) from by simp [spotOne, hz], Option.toList_some]
            rw [List.map_append]; exact hits.snoc (.int _ _)
          all_goals walk_at "lk"
    · rintro σ ⟨m', vs', o', G2, rfl, k2, ho', hits, m1, m2⟩
      walk_at "gos"
      refine run_freeze fun G3 k3 q3 => ?_
      refine end0 (h _ _ ((k1.trans k2).trans k3) ⟨_, _, q3, ho', ?_⟩)
      rw [spotsOf, spotsL, if_neg h0]
      exact hits.mono k3
  | integer xs =>
    obtain ⟨at_, l, hl, ol, vs, e1, e2, e3⟩ := hx
    have hvl : vs.length = xs.length := by rw [e3.1, List.length_map]
    have hxl : xs.length < 1000 := ok.2
    walk_at "open"
    walk_at "gos"
    refine get_kind T (VecL.up hl) fun tk => ?_
    walk_at "gos"
    refine ifF (by decide) ?_
    walk_at "go"
    refine st_assign ?_
    refine run_ListComp (cl := []) (n := vs.length) (Pr := fun i w => vs[i]? = some w) (fun i ys P M G' => P = [] ∧ M = [(L + 1, oc)] ∧ G' = G ∧ ItsG T G ys (((xs.take i).filter isNeg).map ixIt)) ?_ ?_ (by kernel_rfl) (by have : sizeLine = 16777216 := rfl; omega)
    · walk_at "gos"
      refine get_items T (VecL.up hl) ?_
      refine ⟨iter_frozen r.deep.h e1 e2, ⟨rfl, rfl, rfl, ItsG.nil⟩, ?_⟩
      rintro ys P' M' G1 d o1 ⟨rfl, rfl, rfl, hy⟩ ho1
      rw [hvl, List.take_length] at hy
      refine run_freeze fun G2 k2 q2 => ?_
      refine run_storeCell (a := L + 1) (by kernel_rfl) (by exact .own .head) hoc fun oc' hoc' => ?_
      have hy2 := hy.mono k2
      have hl2 : VecL c.g.K T.cV (GA G2) v "integer" l at_ := hl.mono fun _ _ e => k2 _ _ e
      walk_at "gos"
      refine run_cell (a := L + 1) (o := oc') (by kernel_rfl) (.head _) hoc' ?_
      walk_at "gos"
      refine run_List ?_
      walk_at "gos"
      refine ⟨by simp [sizeLine], fun d0 => ?_⟩
      refine run_freeze fun G3 k3 q3 => ?_
      refine cmpD_ne_nil r.deep (.list (k3 _ _ q2) ho1 (DGs.mono k3 (DGs.ofIx (T := T) hy2))) (.list q3 LO.mk .nil) ok_ix ?_
      walk_at "gos"
      have hl3 : VecL c.g.K T.cV (GA G3) v "integer" l at_ := hl2.mono fun _ _ e => k3 _ _ e
      have hemp : ((xs.filter isNeg).map ixDat).isEmpty = !xs.any isNeg := by
        rw [List.isEmpty_map]
        cases q : xs.any isNeg with
        | true =>
          obtain ⟨x, h1, h2⟩ := List.any_eq_true.mp q
          have : x ∈ xs.filter isNeg := List.mem_filter.mpr ⟨h1, h2⟩
          cases q2 : xs.filter isNeg with
          | nil => rw [q2] at this; simp at this
          | cons a b => rfl
        | false =>
          have : xs.filter isNeg = [] := List.filter_eq_nil_iff.mpr fun x hx => by
            have := List.any_eq_false.mp q x hx; simpa using this
          rw [this]; rfl
      by_cases hany : xs.any isNeg = true
      · refine ifT (by rw [hemp, hany]; rfl) ?_
        obtain ⟨nsl, hi1, hi2⟩ := ints_ofIx (T := T) hy2 fun x hx => (List.mem_filter.mp hx).2
        walk_at "gos"
        refine run_ListComp (cl := [(("out" : Str), L + 1)]) (n := nn) (Pr := fun i v => ∃ t, v = .int (1 + i) t) (fun i ys P M G' => P = [] ∧ M = [(L + 1, oc')] ∧ Sub G3 G' ∧ ItsG T G' ys ((((List.range i).filter fun i : Nat => !xs.contains (some (-((i : Int) + 1)))).map (fun i : Nat => some ((i : Int) + 1))).map ixIt)) ?_ ?_ (by kernel_rfl) (by have : sizeLine = 16777216 := rfl; omega)
        · refine run_tail ?_
          refine call_bn T (by simp) hv_range kp_type ?_
          walk_at "gos"
          refine call_range2 fun rr t1 t2 t3 => ?_
          refine run_freeze fun G4 k4 q4 => ?_
          refine run_pure ⟨iter_range r.deep.h (fun s H => H.gg _ _ q4) (small_of (by omega) (by omega) (by omega) (by omega)) (size_of (by omega)), ⟨rfl, rfl, k4, ItsG.nil⟩, ?_⟩
          rintro zs P' M' G5 d5 o5 ⟨rfl, rfl, k5, hz⟩ ho5
          refine run_freeze fun G6 k6 q6 => ?_
          refine end0 (h _ _ ((k2.trans k3).trans (k5.trans k6)) ⟨_, _, q6, ho5, ?_⟩)
          rw [spotsOf, spotsI, hany]
          exact hz.mono k6
        · rintro i w zs P' M' G4 C Z' N' mC hi ⟨tw, rfl⟩ ⟨rfl, rfl, k4, hz⟩ hmx
          refine tests_one ?_
          walk_at "gos"
          refine run_cell (a := L + 1) (o := oc') (by kernel_rfl) (.head _) hoc' ?_
          refine notIn_ints r.deep (.inl (k4 _ _ (k3 _ _ q2))) ho1 hi1 ?_
          walk_at "gos"
          have hmem : ((0 : Int) - (1 + (i : Int))) ∈ nsl ↔ some (-((i : Int) + 1)) ∈ xs := by
            rw [hi2, List.mem_filter, show (0 : Int) - (1 + (i : Int)) = -((i : Int) + 1) by omega]
            exact ⟨fun q => q.1, fun q => ⟨q, by simp only [isNeg, decide_eq_true_eq]; omega⟩⟩
          by_cases q : some (-((i : Int) + 1)) ∈ xs
          · refine ifF (by rw [decide_eq_true (hmem.mpr q)]; simp) ?_
            refine ⟨rfl, rfl, k4, ?_⟩
            rw [List.range_succ, List.filter_append, show List.filter (fun i : Nat => !xs.contains (some (-((i : Int) + 1)))) [i] = [] from by
              rw [List.filter_eq_nil_iff]; intro a ha; rw [List.mem_singleton.mp ha]; simp [q], List.append_nil]
            exact hz
          · refine ifT (by rw [decide_eq_false (fun z => q (hmem.mp z))]; simp) ?_
            walk_at "gos"
            refine ⟨rfl, rfl, k4, ?_⟩
            rw [List.range_succ, List.filter_append, show List.filter (fun i : Nat => !xs.contains (some (-((i : Int) + 1)))) [i] = [i] from by
              rw [List.filter_eq_self]; intro a ha; rw [List.mem_singleton.mp ha]; simp [q], List.map_append, List.map_append]
            refine hz.snoc ?_
            show ItG T G4 _ (.int ((i : Int) + 1))
            rw [Int.add_comm]; exact .int _ _
      · refine ifF (by rw [hemp]; simpa using hany) ?_
        walk_at "gos"
        refine run_ListComp (cl := []) (n := vs.length) (Pr := fun i w => vs[i]? = some w) (fun i ys P M G' => P = [] ∧ M = [(L + 1, oc')] ∧ G' = G3 ∧ ItsG T G3 ys (((xs.take i).filter notZero).map ixIt)) ?_ ?_ (by kernel_rfl) (by have : sizeLine = 16777216 := rfl; omega)
        · walk_at "gos"
          refine get_items T (VecL.up hl3) ?_
          refine ⟨iter_frozen r.deep.h (k3 _ _ (k2 _ _ e1)) e2, ⟨rfl, rfl, rfl, ItsG.nil⟩, ?_⟩
          rintro zs P' M' G5 d5 o5 ⟨rfl, rfl, rfl, hz⟩ ho5
          rw [hvl, List.take_length] at hz
          refine run_freeze fun G6 k6 q6 => ?_
          refine end0 (h _ _ ((k2.trans k3).trans k6) ⟨_, _, q6, ho5, ?_⟩)
          rw [spotsOf, spotsI, if_neg hany]
          exact hz.mono k6
        · rintro i w zs P' M' G4 C Z' N' mC hi hw ⟨rfl, rfl, rfl, hz⟩ hmx
          obtain ⟨p, hp, hpw⟩ := ix_at (e3.mono (k2.trans k3)) hw
          refine tests_one ?_
          rcases hpw with ⟨rfl, rfl⟩ | ⟨kk, tk, rfl, rfl⟩
          · walk_at "gos"
            refine ifT rfl ?_
            walk_at "gos"
            refine ⟨rfl, rfl, rfl, ?_⟩
            rw [ft_snoc hp, show notZero none = true from rfl, if_pos rfl, List.map_append]
            exact hz.snoc .none
          · walk_at "gos"
            by_cases c0 : kk = 0
            · refine ifF (by simp [c0]) ?_
              refine ⟨rfl, rfl, rfl, ?_⟩
              rw [ft_snoc hp, if_neg (by simp [notZero, c0]), List.append_nil]
              exact hz
            · refine ifT (by simp [c0]) ?_
              walk_at "gos"
              refine ⟨rfl, rfl, rfl, ?_⟩
              rw [ft_snoc hp, if_pos (by simp [notZero, c0]), List.map_append]
              exact hz.snoc (.int _ _)
    · rintro i w ys P' M' G1 C Z' N' mC hi hw ⟨rfl, rfl, rfl, hy⟩ hmx
      obtain ⟨p, hp, hpw⟩ := ix_at e3 hw
      refine tests_one ?_
      walk_at "gos"
      rcases hpw with ⟨rfl, rfl⟩ | ⟨kk, tk, rfl, rfl⟩
      · refine ifF (by simp) ?_
        refine ifF (by simp) ?_
        refine ⟨rfl, rfl, rfl, ?_⟩
        rw [ft_snoc hp, if_neg (by simp [isNeg]), List.append_nil]
        exact hy
      · refine ifT (by simp) ?_
        walk_at "gos"
        by_cases c0 : kk < 0
        · refine ifT (by simpa using c0) ?_
          walk_at "gos"
          refine ifT rfl ?_
          walk_at "gos"
          refine ⟨rfl, rfl, rfl, ?_⟩
          rw [ft_snoc hp, if_pos (by simp [isNeg, c0]), List.map_append]
          exact hy.snoc (.int _ _)
        · refine ifF (by simpa using c0) ?_
          refine ifF (by simp) ?_
          refine ⟨rfl, rfl, rfl, ?_⟩
          rw [ft_snoc hp, if_neg (by simpa [isNeg] using c0), List.append_nil]
          exact hy
end
section
variable {g : Gd} {c : Cx} {σ : Sg} {Q : Value → Sg → Prop} {F : Flow → Sg → Prop} {U : Unit → Sg → Prop} {m : Str → Option Value} {P M : List (Addr × Obj)} {G G' : Hp} {n k : Nat} {v : Value} {kd x : Str} {its : List It} {ns : Option (List It)} {at_ : Value} {t : Tok} {l lp bx : Addr} {o : Obj} {pos : Pos} {rest : List Stmt} {vs : List Value} {xs : List (Option Int)}
/-- what _law_seen hands back, taken apart -/
structure SeenG (G : Hp) (v : Value) (kd : Str) (ds : List Dat) (nd : Dat) : Prop where
  ex : ∃ a o k l nv ol vs, v = .ref a ∧ G a = some o ∧ TO o [k, .ref l, nv] ∧ G l = some ol ∧ LO ol vs ∧ DGs G vs ds ∧ DG G nv nd
theorem seen_open {ns : Option (List It)} (h : DG G v (seenD kd its ns)) : SeenG G v kd (its.map seenIt) (nmDat ns) := by
  unfold seenD at h
  cases h with
  | tuple h1 h2 h3 =>
    cases h3 with
    | cons a b =>
      cases b with
      | cons b c =>
        cases c with
        | cons c d =>
          cases d
          cases b with
          | list b1 b2 b3 => exact ⟨_, _, _, _, _, _, _, rfl, h1, h2, b1, b2, b3, c⟩
theorem DGs.ints : ∀ {vs : List Value} {ns : List Int}, DGs G vs (ns.map Dat.int) → IntsAre vs ns
  | _, [], .nil => .nil
  | _, _ :: _, .cons (.int _ _) r => .cons _ _ (DGs.ints r)

theorem sub_ok {b : Bool} {i : Nat} : ItOK (kdOf b) (subIt b i) := by
  cases b
  · exact .inr ⟨rfl, .inl ⟨_, rfl⟩⟩
  · exact .inl ⟨rfl, .inl ⟨_, rfl⟩⟩
theorem seen_sub {b : Bool} {ps : List Nat} : (ps.map (subIt b)).map seenIt = (ps.map fun i : Nat => (100 : Int) + i).map Dat.int := by
  rw [List.map_map, List.map_map]
  apply List.map_congr_left
  intro i _
  cases b <;> rfl
theorem nm_ok {ps : List Nat} : ∀ it ∈ ps.map nmIt, PlainIt it := fun it h => by
  obtain ⟨i, _, rfl⟩ := List.mem_map.mp h
  exact .inr (.inr ⟨_, rfl⟩)
theorem kd_or {b : Bool} : kdOf b = "list" ∨ kdOf b = "integer" := by cases b <;> simp [kdOf]
def nsAt (w : Bool) (ps : List Nat) : Option (List It) := if w then some (ps.map nmIt) else none
theorem nsAt_ok {w : Bool} {ps : List Nat} (h : ps.length < 1000) : ∀ xs, nsAt w ps = some xs → xs.length < 1000 ∧ ∀ it ∈ xs, PlainIt it := by
  intro xs e
  unfold nsAt at e
  cases w with
  | false => simp at e
  | true =>
    simp only [if_true, Option.some.injEq] at e
    subst e
    exact ⟨by simpa using h, nm_ok⟩
/-- a list of ints, seen as data -/
theorem DG.ints (h : G l = some o) (ho : LO o vs) {nl : List Int} (hi : IntsAre vs nl) : DG G (.ref l) (.list (nl.map Dat.int)) := by
  refine .list h ho ?_
  clear ho h
  induction hi with
  | nil => exact .nil
  | cons n t _ ih => exact .cons (.int _ _) ih
theorem ok_ints {nl : List Int} : kqdOk 8 (.list (nl.map Dat.int)) = true := by
  rw [kqdOk, List.all_eq_true]
  intro d hd
  obtain ⟨p, _, rfl⟩ := List.mem_map.mp hd
  simp [kqdOk]
set_option maxHeartbeats 8000000 in
theorem call_parted {sv tv lv : Value} {b w : Bool} {nn : Nat} {ps qs : List Nat} (T : TX c.g.K) (r : Rm c.A (n + 2)) (hn : nn < 10) (hs : VecN T G sv (kdOf b) ((List.range nn).map (subIt b)) (nsAt w (List.range nn)))
    (ht : VecN T G tv (kdOf b) (ps.map (subIt b)) (nsAt w ps)) (hl : VecN T G lv (kdOf b) (qs.map (subIt b)) (nsAt w qs)) (hp : (ps ++ qs).Perm (List.range nn)) (hq : qs.Pairwise (· < ·))
    (h : ∀ G', Sub G G' → Q (.bool true) ⟨m, P, M, G'⟩) : run c (call (.ref (T.fa 39)) [sv, tv, lv]) Q ⟨m, P, M, G⟩ := by
  have hlen : ps.length + qs.length = nn := by have := hp.length_eq; simpa using this
  refine enterC0 (T.fn 39 (by simp)) r (binds := [("subject", sv), ("taken", tv), ("left", lv)]) (fun _ _ _ _ _ => by kernel_rfl) (fun L Z s₀ cdv cells hc => ?_) (by kernel_rfl)
  have hcf : cellsFrom (L + 1) (fnS 39).names [] = [(("entire" : Str), L + 1)] := by kernel_rfl
  rw [hcf] at hc
  obtain ⟨oc, rfl, hoc⟩ := hc.one
  walk_at "open"
  walk_at "gos"
  refine call_fn (T.fn 38 (by simp)) ?_
  walk_at "gos"
  refine call_seen _ (by exact r.deep) (by exact ht) (fun it hi => by obtain ⟨i, _, rfl⟩ := List.mem_map.mp hi; exact sub_ok) kd_or (by simp; omega) (nsAt_ok (by omega)) fun r1 G1 k1 d1 => ?_
  walk_at "gos"
  refine call_fn (T.fn 38 (by simp)) ?_
  walk_at "gos"
  refine call_seen _ (by exact r.deep) (by exact hl.mono k1) (fun it hi => by obtain ⟨i, _, rfl⟩ := List.mem_map.mp hi; exact sub_ok) kd_or (by simp; omega) (nsAt_ok (by omega)) fun r2 G2 k2 d2 => ?_
  walk_at "gos"
  refine call_fn (T.fn 38 (by simp)) ?_
  walk_at "gos"
  refine call_seen _ (by exact r.deep) (by exact (hs.mono k1).mono k2) (fun it hi => by obtain ⟨i, _, rfl⟩ := List.mem_map.mp hi; exact sub_ok) kd_or (by simp; omega) (nsAt_ok (by simp; omega)) fun r3 G3 k3 d3 => ?_
  refine run_storeCell (a := L + 1) (by kernel_rfl) (by exact .own .head) hoc fun oc' hoc' => ?_
  obtain ⟨a1, o1, kk1, l1, n1, ol1, vs1, rfl, f1, f2, f3, f4, f5, f6⟩ := (seen_open (d1.mono (k2.trans k3))).ex
  obtain ⟨a2, o2, kk2, l2, n2, ol2, vs2, rfl, g1, g2, g3, g4, g5, g6⟩ := (seen_open (d2.mono k3)).ex
  obtain ⟨a3, o3, kk3, l3, n3, ol3, vs3, rfl, j1, j2, j3, j4, j5, j6⟩ := (seen_open d3).ex
  rw [seen_sub] at f5 g5 j5
  have i1 := DGs.ints f5
  have i2 := DGs.ints g5
  have i3 := DGs.ints j5
  have z1 : vs1.length = ps.length := by rw [i1.length, List.length_map]
  have z2 : vs2.length = qs.length := by rw [i2.length, List.length_map]
  have srt : ∀ (as : List Int) (bs : List Nat), as.Pairwise (· ≤ ·) → as.Perm (bs.map fun i : Nat => (100 : Int) + i) → bs.Pairwise (· < ·) → as = bs.map fun i : Nat => (100 : Int) + i := fun as bs h1 h2 h3 =>
    List.Perm.eq_of_pairwise (le := (· ≤ ·)) (fun a b _ _ h1 h2 => Int.le_antisymm h1 h2) h1 (List.pairwise_map.mpr (h3.imp fun h => by omega)) h2
  walk_at "gos"
  refine call_bn T (by simp) hv_sorted kp_builtin ?_
  walk_at "gos"
  refine sub_tup (v := .ref l1) (.inl f1) f2 (by omega) (by omega) rfl ?_
  walk_at "gos"
  refine sub_tup (v := .ref l2) (.inl g1) g2 (by omega) (by omega) rfl ?_
  refine add_lists2 (.inl f3) f4 (.inl g3) g4 (by omega) fun dA oA hA => ?_
  walk_at "gos"
  refine call_sorted (.inr (.inl (.head _))) hA (i1.append i2) (by rw [List.length_append]; omega) fun dB oB vsB nsB hB iB pB wB => ?_
  have eB : nsB = (List.range nn).map fun i : Nat => (100 : Int) + i := srt _ _ wB (pB.trans (by rw [← List.map_append]; exact hp.map _)) List.pairwise_lt_range
  subst eB
  refine run_freeze fun G4 k4 q4 => ?_
  walk_at "gos"
  refine run_cell (a := L + 1) (o := oc') (by kernel_rfl) (.tail _ (.head _)) hoc' ?_
  walk_at "gos"
  refine sub_tup (v := .ref l3) (.inl (k4 _ _ j1)) j2 (by omega) (by omega) rfl ?_
  refine cmpD_ne r.deep (DG.ints q4 hB iB) (DG.ints (k4 _ _ j3) j4 i3) ok_ints ?_
  walk_at "gos"
  refine ifF (by simp) ?_
  walk_at "gos"
  refine sub_tup (v := .ref l2) (.inl (k4 _ _ g1)) g2 (by omega) (by omega) rfl ?_
  refine call_bn T (by simp) hv_sorted kp_builtin ?_
  walk_at "gos"
  refine sub_tup (v := .ref l2) (.inl (k4 _ _ g1)) g2 (by omega) (by omega) rfl ?_
  walk_at "gos"
  refine call_sorted (.inl (k4 _ _ g3)) g4 i2 (by omega) fun dC oC vsC nsC hC iC pC wC => ?_
  have eC : nsC = qs.map fun i : Nat => (100 : Int) + i := srt _ _ wC pC hq
  subst eC
  refine run_freeze fun G5 k5 q5 => ?_
  refine cmpD_ne r.deep (DG.ints (k5 _ _ (k4 _ _ g3)) g4 i2) (DG.ints q5 hC iC) ok_ints ?_
  walk_at "gos"
  refine ifF (by simp) ?_
  walk_at "gos"
  refine ifF (by simp) ?_
  walk_at "gos"
  have kk := k4.trans k5
  refine run_cell (a := L + 1) (o := oc') (by kernel_rfl) (.tail _ (.head _)) hoc' ?_
  walk_at "gos"
  refine sub_tup (v := n3) (.inl (kk _ _ j1)) j2 (by omega) (by omega) rfl ?_
  walk_at "gos"
  cases w with
  | false =>
    have e1 : n1 = .none := by cases f6; rfl
    have e2 : n2 = .none := by cases g6; rfl
    have e3 : n3 = .none := by cases j6; rfl
    subst e1 e2 e3
    refine ifT (by rfl) ?_
    walk_at "gos"
    refine run_And2 ?_
    walk_at "gos"
    refine sub_tup (v := .none) (.inl (kk _ _ f1)) f2 (by omega) (by omega) rfl ?_
    walk_at "gos"
    refine ifT (by rfl) ?_
    walk_at "gos"
    refine sub_tup (v := .none) (.inl (kk _ _ g1)) g2 (by omega) (by omega) rfl ?_
    walk_at "gos"
    exact end0 (h _ (((k1.trans k2).trans k3).trans kk))
  | true =>
    have f6' : DG G3 n1 (.list ((ps.map nmIt).map seenIt)) := f6
    have g6' : DG G3 n2 (.list ((qs.map nmIt).map seenIt)) := g6
    have j6' : DG G3 n3 (.list (((List.range nn).map nmIt).map seenIt)) := j6
    cases j6' with
    | list b1 b2 b3 =>
    rename_i ln on vn
    refine ifF (by simp) ?_
    walk_at "gos"
    have kG : Sub G3 G5 := kk
    have hin : ∀ x, x ∈ ps ++ qs → x < nn := fun x hx => List.mem_range.mp (hp.mem_iff.mp hx)
    have sd : ∀ (i : Nat) (w : Value), [Value.ref a1, Value.ref a2][i]? = some w → ∃ a o kx lx nx olx vx, ∃ bs : List Nat, w = .ref a ∧ G3 a = some o ∧ TO o [kx, .ref lx, nx] ∧ G3 lx = some olx ∧ LO olx vx ∧ IntsAre vx (bs.map fun i : Nat => (100 : Int) + i) ∧ DG G3 nx (.list ((bs.map nmIt).map seenIt)) ∧ (∀ b ∈ bs, b < nn) ∧ bs.length ≤ nn := by
      intro i w e
      match i, e with
      | 0, e => cases e; exact ⟨_, _, _, _, _, _, _, ps, rfl, f1, f2, f3, f4, i1, f6', fun b hb => hin b (List.mem_append_left _ hb), by omega⟩
      | 1, e => cases e; exact ⟨_, _, _, _, _, _, _, qs, rfl, g1, g2, g3, g4, i2, g6', fun b hb => hin b (List.mem_append_right _ hb), by omega⟩
      | i + 2, e => simp at e
    refine st_for (n := 2) (P := fun i w => [Value.ref a1, Value.ref a2][i]? = some w) (fun i σ => ∃ m' G6, σ = ⟨m', [], [(dA, oA), (L + 1, oc')], G6⟩ ∧ Sub G5 G6) ?_ ?_ ?_
    · refine run_tail ?_
      refine run_List ?_
      walk_at "gos"
      refine ⟨by simp [sizeLine], fun d => ?_⟩
      refine run_freeze fun G6 k6 q6 => ?_
      exact run_pure ⟨iter_frozen (vs := [Value.ref a1, Value.ref a2]) r.deep.h q6 LO.mk, _, _, rfl, k6⟩
    · rintro i w σ Z' N' hi hw ⟨m', G6, rfl, k6⟩ hZ
      obtain ⟨a, o, kx, lx, nx, olx, vx, bs, rfl, t1, t2, t3, t4, t5, t6, t7, t8⟩ := sd i w hw
      have k36 : Sub G3 G6 := kG.trans k6
      have hvx : vx.length = bs.length := by rw [t5.length, List.length_map]
      walk_at "gos"
      refine sub_tup (v := nx) (.inl (k36 _ _ t1)) t2 (by omega) (by omega) rfl ?_
      refine run_ListComp (cl := [(("entire" : Str), L + 1)]) (n := vx.length) (Pr := fun i w => vx[i]? = some w) (fun i ys P M G' => P = [] ∧ M = [(dA, oA), (L + 1, oc')] ∧ G' = G6 ∧ DGs G6 ys (((bs.take i).map nmIt).map seenIt)) ?_ ?_ (by kernel_rfl) (by have : sizeLine = 16777216 := rfl; omega)
      · walk_at "gos"
        refine sub_tup (v := .ref lx) (.inl (k36 _ _ t1)) t2 (by omega) (by omega) rfl ?_
        refine ⟨iter_frozen r.deep.h (k36 _ _ t3) t4, ⟨rfl, rfl, rfl, .nil⟩, ?_⟩
        rintro ys P' M' G7 d7 o7 ⟨rfl, rfl, rfl, hy⟩ ho7
        rw [hvx, List.take_length] at hy
        refine run_freeze fun G8 k8 q8 => ?_
        refine cmpD_ne r.deep (DG.mono (k36.trans k8) t6) (.list q8 ho7 (DGs.mono k8 hy)) ?_ ?_
        · rw [kqdOk, List.all_eq_true]
          intro d hd
          obtain ⟨it, hit, rfl⟩ := List.mem_map.mp hd
          obtain ⟨b, hb, rfl⟩ := List.mem_map.mp hit
          have hb10 : b < 10 := Nat.lt_trans (t7 b hb) hn
          have key : ∀ b : Nat, b < 10 → PyData.strOk ⟨#[(97 + (b : Int)).toNat]⟩ = true := by decide +kernel
          show kqdOk 7 (.str _) = true
          rw [kqdOk]
          exact key b hb10
          all_goals (intros; simp)
        walk_at "gos"
        refine ifF (by simp) ?_
        walk_at "gos"
        exact ⟨_, _, rfl, k6.trans k8⟩
      · rintro j w2 ys P' M' G7 C Z2 N2 mC hj hw2 ⟨rfl, rfl, rfl, hy⟩ hmx
        obtain ⟨e, te, rfl, he⟩ := IntsAre.at t5 j w2 hw2
        rw [List.getElem?_map, Option.map_eq_some_iff] at he
        obtain ⟨b, hb, rfl⟩ := he
        have hbn : b < nn := t7 b (List.mem_of_getElem? hb)
        refine tests_nil ?_
        refine ifT rfl ?_
        walk_at "gos"
        refine run_cell (a := L + 1) (o := oc') (by kernel_rfl) (.tail _ (.head _)) hoc' ?_
        walk_at "gos"
        refine sub_tup (v := .ref ln) (.inl (k36 _ _ j1)) j2 (by omega) (by omega) rfl ?_
        walk_at "gos"
        have hlt : b < vn.length := by rw [DGs.length b3, List.length_map, List.length_map, List.length_range]; exact hbn
        obtain ⟨dd, e1, e2⟩ := DGs.get b3 (List.getElem?_eq_getElem hlt)
        refine sub_list (v := vn[b]) (.inl (k36 _ _ b1)) b2 (by omega) (by omega) (by rw [show ((100 : Int) + b - 100).toNat = b by omega]; exact List.getElem?_eq_getElem hlt) ?_
        refine ⟨rfl, rfl, rfl, ?_⟩
        rw [take_snoc hb, List.map_append]
        refine DGs.snoc hy ?_
        have : dd = seenIt (nmIt b) := by
          rw [List.getElem?_map, List.getElem?_map, List.getElem?_range hbn] at e1
          exact (Option.some.inj e1).symm
        rw [← this]; exact DG.mono k36 e2
    · rintro σ ⟨m', G6, rfl, k6⟩
      walk_at "gos"
      exact end0 (h _ ((((k1.trans k2).trans k3).trans kk).trans k6))
end
/-! ### the plain law -/
def up1 (p : Option Nat) : Option Int := p.map fun k : Nat => (k : Int) + 1
theorem spots_eq {ix : Ix} {n : Nat} (hm : ix ≠ .missing) (ok : ix.ok) : spotsOf ix n = (posP ix n).map up1 := by
  cases ix with
  | missing => exact absurd rfl hm
  | logical xs =>
    unfold spotsOf posP spotsL logP
    dsimp only
    split
    · rfl
    · rw [List.map_filterMap]
      congr 1
      funext i
      cases h : xs.getD (i % xs.length) none with
      | none => rfl
      | some k =>
        unfold spotOne logOne
        dsimp only
        split <;> rfl
  | integer xs =>
    unfold spotsOf posP spotsI wholeP
    dsimp only
    split
    · rw [List.map_map]
      have : (fun i : Nat => !xs.contains (some (-((i : Int) + 1)))) = fun i : Nat => !xs.contains (some (-(i : Int) - 1)) := by
        funext i; rw [show -((i : Int) + 1) = -(i : Int) - 1 by omega]
      rw [this]; rfl
    · rename_i h
      have hn : ∀ x ∈ xs, isNeg x = false := fun x hx => by
        cases q : isNeg x with
        | false => rfl
        | true => exact absurd (List.any_eq_true.mpr ⟨x, hx, q⟩) h
      clear h ok hm
      induction xs with
      | nil => rfl
      | cons x xs ih =>
        have ih := ih fun y hy => hn y (.tail _ hy)
        have hx := hn x (.head _)
        cases x with
        | none => rw [List.filter_cons_of_pos (by rfl), List.filterMap_cons_some (b := none) (by rfl), List.map_cons, ih]; rfl
        | some k =>
          have hk : 0 ≤ k := by simpa [isNeg] using hx
          by_cases h0 : k = 0
          · rw [List.filter_cons_of_neg (by simp [notZero, h0]), List.filterMap_cons_none (by simp [posOne, h0]), ih]
          · rw [List.filter_cons_of_pos (by simp [notZero, h0]), List.filterMap_cons_some (b := some (k - 1).toNat) (by simp [posOne]; omega), List.map_cons, ih]
            congr 1
            show some k = some (((k - 1).toNat : Int) + 1)
            congr 1; omega
def pick {α : Type} (ps : List (Option α)) (q : Option Nat) : Option α := match q with
  | none => none
  | some q => ps.getD q none
/-- the spots taken by places -/
theorem items_spots {sp : List (Option Int)} {qs : List (Option Nat)} : qs.map (itemAt "integer" (sp.map ixIt)) = (qs.map (pick sp)).map ixIt := by
  rw [List.map_map]
  apply List.map_congr_left
  intro q _
  cases q with
  | none => rfl
  | some q =>
    show (sp.map ixIt).getD q (lack "integer") = ixIt (sp.getD q none)
    rw [List.getD_eq_getElem?_getD, List.getD_eq_getElem?_getD, List.getElem?_map]
    cases sp[q]? <;> rfl
theorem pick_up {ps : List (Option Nat)} {qs : List (Option Nat)} : qs.map (pick (ps.map up1)) = (qs.map (pick ps)).map up1 := by
  rw [List.map_map]
  apply List.map_congr_left
  intro q _
  cases q with
  | none => rfl
  | some q =>
    show (ps.map up1).getD q none = up1 (ps.getD q none)
    rw [List.getD_eq_getElem?_getD, List.getD_eq_getElem?_getD, List.getElem?_map]
    cases ps[q]? <;> rfl
theorem whole_up {rs : List (Option Nat)} {n : Nat} : wholeP (rs.map up1) n = rs := by
  have h : (rs.map up1).any isNeg = false := by
    rw [List.any_eq_false]
    intro x hx
    obtain ⟨p, _, rfl⟩ := List.mem_map.mp hx
    cases p with
    | none => simp [up1, isNeg]
    | some k => simp [up1, isNeg]; omega
  rw [wholeP, h, if_neg (by simp)]
  clear h
  induction rs with
  | nil => rfl
  | cons x xs ih =>
    rw [List.map_cons, List.filterMap_cons_some (b := x) ?_, ih]
    cases x with
    | none => rfl
    | some k =>
      show posOne (some ((k : Int) + 1)) = some (some k)
      simp only [posOne]
      rw [if_pos (by omega)]
      congr 2; omega
theorem items_comm {kd : Str} {S : List It} {ps : List (Option Nat)} {qs : List (Option Nat)} : qs.map (itemAt kd (ps.map (itemAt kd S))) = (qs.map (pick ps)).map (itemAt kd S) := by
  rw [List.map_map]
  apply List.map_congr_left
  intro q _
  cases q with
  | none => rfl
  | some q =>
    show (ps.map (itemAt kd S)).getD q (lack kd) = itemAt kd S (ps.getD q none)
    rw [List.getD_eq_getElem?_getD, List.getD_eq_getElem?_getD, List.getElem?_map]
    cases ps[q]? <;> rfl
theorem names_comm {S : List It} {ps : List (Option Nat)} {qs : List (Option Nat)} : qs.map (nameAt (ps.map (nameAt S))) = (qs.map (pick ps)).map (nameAt S) := by
  rw [List.map_map]
  apply List.map_congr_left
  intro q _
  cases q with
  | none => rfl
  | some q =>
    show (ps.map (nameAt S)).getD q _ = nameAt S (ps.getD q none)
    rw [List.getD_eq_getElem?_getD, List.getD_eq_getElem?_getD, List.getElem?_map]
    cases ps[q]? <;> rfl
theorem item_sub {kd : Str} {b : Bool} {n i : Nat} (h : i < n) : itemAt kd ((List.range n).map (subIt b)) (some i) = subIt b i := by
  show List.getD _ i _ = _
  rw [List.getD_eq_getElem?_getD, List.getElem?_map, List.getElem?_range h]; rfl
theorem name_sub {n i : Nat} (h : i < n) : nameAt ((List.range n).map nmIt) (some i) = nmIt i := by
  show List.getD _ i _ = _
  rw [List.getD_eq_getElem?_getD, List.getElem?_map, List.getElem?_range h]; rfl
theorem items_sub {kd : Str} {b : Bool} {n : Nat} {ps : List Nat} (h : ∀ p ∈ ps, p < n) : (ps.map some).map (itemAt kd ((List.range n).map (subIt b))) = ps.map (subIt b) := by
  rw [List.map_map]
  exact List.map_congr_left fun i hi => item_sub (h i hi)
theorem names_sub {w : Bool} {n : Nat} {ps : List Nat} (h : ∀ p ∈ ps, p < n) : (nsAt w (List.range n)).map (fun xs => (ps.map some).map (nameAt xs)) = nsAt w ps := by
  cases w with
  | false => rfl
  | true =>
    show some ((ps.map some).map (nameAt ((List.range n).map nmIt))) = some (ps.map nmIt)
    rw [List.map_map]
    congr 1
    exact List.map_congr_left fun i hi => name_sub (h i hi)
theorem fm_congr {α β : Type} {f g : α → Option β} : ∀ {l : List α}, (∀ x ∈ l, f x = g x) → l.filterMap f = l.filterMap g
  | [], _ => rfl
  | x :: l, h => by
    have ih := fm_congr (l := l) fun y hy => h y (.tail _ hy)
    have hx := h x (.head _)
    simp only [List.filterMap_cons, hx, ih]
/-- the signs' places -/
theorem log_signs {ss : List Int} : logP (ss.map some) ss.length = ((List.range ss.length).filter fun i => decide (ss.getD i 0 ≠ 0)).map some := by
  unfold logP
  rw [List.length_map]
  split
  · rename_i h; rw [h]; rfl
  · rw [Nat.max_self, ← List.filterMap_eq_filter, List.map_filterMap]
    have : ∀ i ∈ List.range ss.length, logOne ((ss.map some).getD (i % ss.length) none) i = ((Option.guard (fun i => decide (ss.getD i 0 ≠ 0)) i).map some : Option (Option Nat)) := by
      intro i hi
      have hi := List.mem_range.mp hi
      have hg : ss.getD i 0 = ss[i] := by rw [List.getD_eq_getElem?_getD, List.getElem?_eq_getElem hi]; rfl
      rw [Nat.mod_eq_of_lt hi, List.getD_eq_getElem?_getD, List.getElem?_map, List.getElem?_eq_getElem hi]
      show (if ss[i] = 0 then none else some (some i)) = (if decide (ss.getD i 0 ≠ 0) = true then some i else none).map some
      rw [hg]
      by_cases q : ss[i] = 0
      · simp [q]
      · simp [q]
    exact fm_congr this
theorem picks_pos {ks : List Int} {n : Nat} (h : ∀ k ∈ ks, 1 ≤ k ∧ k ≤ n) : wholeP (ks.map some) n = (ks.map fun k => (k - 1).toNat).map some := by
  have := whole_up (rs := (ks.map fun k => (k - 1).toNat).map some) (n := n)
  rw [← this]
  congr 1
  rw [List.map_map, List.map_map]
  apply List.map_congr_left
  intro k hk
  show some k = some (((k - 1).toNat : Int) + 1)
  have := h k hk
  congr 1; omega
theorem picks_neg {ks : List Int} {n : Nat} (h : ∀ k ∈ ks, 1 ≤ k ∧ k ≤ n) (h0 : ks ≠ []) : wholeP ((ks.map fun k => 0 - k).map some) n = ((List.range n).filter fun i : Nat => !decide ((i : Int) + 1 ∈ ks)).map some := by
  have ha : ((ks.map fun k => 0 - k).map some).any isNeg = true := by
    cases ks with
    | nil => exact absurd rfl h0
    | cons k r => have := h k (.head _); simp [isNeg]; omega
  rw [wholeP, ha, if_pos rfl]
  congr 1
  apply List.filter_congr
  intro i _
  congr 1
  rw [List.contains_eq_mem, decide_eq_decide]
  constructor
  · intro q
    obtain ⟨x, hx, e⟩ := List.mem_map.mp q
    obtain ⟨k, hk, rfl⟩ := List.mem_map.mp hx
    have e := Option.some.inj e
    rw [show (i : Int) + 1 = k by omega]; exact hk
  · intro q
    refine List.mem_map.mpr ⟨0 - ((i : Int) + 1), List.mem_map.mpr ⟨_, q, rfl⟩, ?_⟩
    congr 1; omega
theorem picks_perm {ks : List Int} {n : Nat} (h : ∀ k ∈ ks, 1 ≤ k ∧ k ≤ n) (hd : ks.Nodup) : ((ks.map fun k => (k - 1).toNat) ++ (List.range n).filter fun i : Nat => !decide ((i : Int) + 1 ∈ ks)).Perm (List.range n) := by
  refine List.Perm.trans (List.Perm.append_right _ ?_) (List.filter_append_perm (fun i : Nat => decide ((i : Int) + 1 ∈ ks)) (List.range n))
  have n1 : (ks.map fun k => (k - 1).toNat).Nodup := by
    rw [List.nodup_iff_pairwise_ne] at *
    rw [List.pairwise_map]
    refine List.Pairwise.imp_of_mem (fun {a b} ha hb q => ?_) hd
    have := h a ha
    have := h b hb
    omega
  refine (List.perm_ext_iff_of_nodup n1 (List.nodup_range.filter _)).mpr fun i => ?_
  rw [List.mem_map, List.mem_filter, List.mem_range, decide_eq_true_eq]
  constructor
  · rintro ⟨k, hk, rfl⟩
    have := h k hk
    exact ⟨by omega, by rw [show (((k - 1).toNat : Nat) : Int) + 1 = k by omega]; exact hk⟩
  · rintro ⟨_, q⟩
    exact ⟨_, q, by omega⟩
def SOk (it : It) : Prop := ∀ x, it = .str x → PyData.strOk x = true
theorem kq_it {it : It} {k : Nat} (h : SOk it) : kqdOk k (seenIt it) = true := by
  cases it with
  | none => cases k <;> rfl
  | int i => cases k <;> rfl
  | str x => cases k <;> exact h x rfl
  | box i => cases k <;> rfl
  | null => cases k <;> (show PyData.strOk "lacks" = true; decide +kernel)
theorem kq_list {its : List It} {k : Nat} (h : ∀ it ∈ its, SOk it) : kqdOk (k + 1) (.list (its.map seenIt)) = true := by
  rw [kqdOk, List.all_eq_true]
  intro d hd
  obtain ⟨it, hit, rfl⟩ := List.mem_map.mp hd
  exact kq_it (h it hit)
theorem kq_seen {b : Bool} {its : List It} {ns : Option (List It)} (h : ∀ it ∈ its, SOk it) (h2 : ∀ xs, ns = some xs → ∀ it ∈ xs, SOk it) : kqdOk 8 (seenD (kdOf b) its ns) = true := by
  rw [seenD, kqdOk, List.all_eq_true]
  intro d hd
  rcases List.mem_cons.mp hd with rfl | hd
  · cases b <;> (show PyData.strOk _ = true; decide +kernel)
  · rcases List.mem_cons.mp hd with rfl | hd
    · exact kq_list h
    · rw [List.mem_singleton.mp hd]
      cases ns with
      | none => rfl
      | some xs => exact kq_list (h2 xs rfl)
theorem itemAt_mem {kd : Str} {S : List It} {p : Option Nat} : itemAt kd S p ∈ S ∨ itemAt kd S p = lack kd := by
  cases p with
  | none => exact .inr rfl
  | some k =>
    show List.getD S k _ ∈ S ∨ List.getD S k _ = _
    rw [List.getD_eq_getElem?_getD]
    cases h : S[k]? with
    | none => exact .inr rfl
    | some x => exact .inl (List.mem_of_getElem? h)
theorem nameAt_mem {S : List It} {p : Option Nat} : nameAt S p ∈ S ∨ nameAt S p = .str "<NA>" := by
  cases p with
  | none => exact .inr rfl
  | some k =>
    show List.getD S k _ ∈ S ∨ List.getD S k _ = _
    rw [List.getD_eq_getElem?_getD]
    cases h : S[k]? with
    | none => exact .inr rfl
    | some x => exact .inl (List.mem_of_getElem? h)
theorem lack_ok {kd : Str} (h : kd = "list" ∨ kd = "integer") : ItOK kd (lack kd) := by
  rcases h with rfl | rfl
  · exact .inl ⟨rfl, .inr rfl⟩
  · exact .inr ⟨rfl, .inr rfl⟩
theorem items_ok {kd : Str} {S : List It} {ps : List (Option Nat)} (hk : kd = "list" ∨ kd = "integer") (h : ∀ it ∈ S, ItOK kd it) : ∀ it ∈ ps.map (itemAt kd S), ItOK kd it := fun it hi => by
  obtain ⟨p, _, rfl⟩ := List.mem_map.mp hi
  rcases itemAt_mem (kd := kd) (S := S) (p := p) with q | q
  · exact h _ q
  · rw [q]; exact lack_ok hk
theorem lack_sok {kd : Str} : SOk (lack kd) := fun x e => by unfold lack at e; split at e <;> cases e
theorem items_sok {kd : Str} {S : List It} {ps : List (Option Nat)} (h : ∀ it ∈ S, SOk it) : ∀ it ∈ ps.map (itemAt kd S), SOk it := fun it hi => by
  obtain ⟨p, _, rfl⟩ := List.mem_map.mp hi
  rcases itemAt_mem (kd := kd) (S := S) (p := p) with q | q
  · exact h _ q
  · rw [q]; exact lack_sok
theorem na_sok : SOk (.str "<NA>") := fun x e => by cases e; decide +kernel
theorem names_ok {ns : Option (List It)} {ps : List (Option Nat)} (hz : ps.length < 1000) (h : ∀ xs, ns = some xs → xs.length < 1000 ∧ ∀ it ∈ xs, PlainIt it) : ∀ xs, (ns.map fun xs => ps.map (nameAt xs)) = some xs → xs.length < 1000 ∧ ∀ it ∈ xs, PlainIt it := fun xs e => by
  obtain ⟨ys, e1, rfl⟩ := Option.map_eq_some_iff.mp e
  refine ⟨by simpa using hz, fun it hi => ?_⟩
  obtain ⟨p, _, rfl⟩ := List.mem_map.mp hi
  rcases nameAt_mem (S := ys) (p := p) with q | q
  · exact (h ys e1).2 _ q
  · rw [q]; exact .inr (.inr ⟨_, rfl⟩)
theorem names_sok {ns : Option (List It)} {ps : List (Option Nat)} (h : ∀ xs, ns = some xs → ∀ it ∈ xs, SOk it) : ∀ xs, (ns.map fun xs => ps.map (nameAt xs)) = some xs → ∀ it ∈ xs, SOk it := fun xs e it hi => by
  obtain ⟨ys, e1, rfl⟩ := Option.map_eq_some_iff.mp e
  obtain ⟨p, _, rfl⟩ := List.mem_map.mp hi
  rcases nameAt_mem (S := ys) (p := p) with q | q
  · exact h ys e1 _ q
  · rw [q]; exact na_sok
/-- both roads to the items and the names -/
theorem seen_comm {kd : Str} {S : List It} {ns : Option (List It)} {ps qs : List (Option Nat)} : seenD kd (qs.map (itemAt kd (ps.map (itemAt kd S)))) ((ns.map fun xs => ps.map (nameAt xs)).map fun xs => qs.map (nameAt xs)) =
    seenD kd ((qs.map (pick ps)).map (itemAt kd S)) (ns.map fun xs => (qs.map (pick ps)).map (nameAt xs)) := by
  rw [items_comm]
  congr 1
  cases ns with
  | none => rfl
  | some xs =>
    show some (qs.map (nameAt (ps.map (nameAt xs)))) = some ((qs.map (pick ps)).map (nameAt xs))
    rw [names_comm]
theorem ix_vl {g : Gd} {T : TX g.K} {G : Hp} {v : Value} {ix : Ix} (h : IxG T G v ix) (f : (∃ xs, ix = .logical xs ∧ xs.length < 8) ∨ ∃ xs, ix = .integer xs ∧ xs.length < 8) : ∃ (kd : Str) (xs : List (Option Int)) (at_ : Value) (l : Addr), VecL g.K T.cV (GA G) v kd l at_ ∧ LstG T G l (xs.map ixIt) ∧ xs.length < 8 := by
  rcases f with ⟨xs, rfl, hz⟩ | ⟨xs, rfl, hz⟩
  · obtain ⟨at_, l, a, b⟩ := h; exact ⟨_, xs, at_, l, a, b, hz⟩
  · obtain ⟨at_, l, a, b⟩ := h; exact ⟨_, xs, at_, l, a, b, hz⟩
theorem up_ok {rs : List (Option Nat)} : WholeOK (rs.map up1) := .inl fun k hk => by
  obtain ⟨p, _, e⟩ := List.mem_map.mp hk
  cases p with
  | none => cases e
  | some q =>
    have : (q : Int) + 1 = k := Option.some.inj e
    omega
theorem kq_ix {n : Nat} {xs : List (Option Int)} : kqdOk (n + 1) (.list (xs.map ixDat)) = true := by
  rw [kqdOk, List.all_eq_true]
  intro d hd
  obtain ⟨p, _, rfl⟩ := List.mem_map.mp hd
  cases p <;> cases n <;> rfl
theorem kq_held {xs ys : List (Option Int)} : kqdOk 8 (.tuple [.list (xs.map ixDat), .list (ys.map ixDat)]) = true := by
  rw [kqdOk, List.all_eq_true]
  intro d hd
  rcases List.mem_cons.mp hd with rfl | hd
  · exact kq_ix
  · rw [List.mem_singleton.mp hd]; exact kq_ix
section
variable {g : Gd} {c : Cx} {σ : Sg} {Q : Value → Sg → Prop} {F : Flow → Sg → Prop} {U : Unit → Sg → Prop} {m : Str → Option Value} {P M : List (Addr × Obj)} {G G' : Hp} {n k : Nat} {v : Value} {kd x : Str} {its : List It} {ns : Option (List It)} {at_ : Value} {t : Tok} {l lp bx : Addr} {o : Obj} {pos : Pos} {rest : List Stmt} {vs : List Value} {nl : List Int}
theorem its_ints {T : TX g.K} {ws : List Value} {ks : List Int} (h : IntsAre ws ks) : ItsG T G ws ((ks.map some).map ixIt) := by
  refine ⟨by simp [h.length], fun i w e => ?_⟩
  obtain ⟨k, tk, rfl, hk⟩ := h.at i w e
  exact ⟨.int k, by rw [List.map_map, List.getElem?_map, hk]; rfl, .int k tk⟩
theorem vec_new {T : TX g.K} {x d l : Addr} {fo ol : Obj} {f : Str → Option Value} {ws : List Value} {ks : List Int} (h1 : FO fo 5 f) (h2 : f "kind" = some (.str kd t)) (h3 : f "items" = some (.ref l)) (h4 : f "attrs" = some .none)
    (a : G x = some (instObj T.cV d)) (b : G d = some fo) (e : G l = some ol) (e1 : LO ol ws) (e2 : IntsAre ws ks) : VL T G (.ref x) kd ((ks.map some).map ixIt) .none := by
  obtain ⟨es, n0, b1, b2, b3⟩ := h1
  exact ⟨l, ⟨x, d, fo, f, _, rfl, a, b, ⟨es, n0, b1, by omega, b3⟩, h2, h3, h4, rfl⟩, ⟨ol, ws, e, e1, its_ints e2⟩⟩
theorem len_subIts {b : Bool} {nn : Nat} : (subIts b nn).length = nn := by simp [subIts]
theorem subNs_eq {w : Bool} {nn : Nat} : subNs w nn = nsAt w (List.range nn) := rfl
/-- the signs' two subsets -/
def onesOf (ss : List Int) : List Nat := (List.range ss.length).filter fun i => decide (ss.getD i 0 ≠ 0)
theorem signs_two {ss : List Int} (h : ∀ s ∈ ss, s = 0 ∨ s = 1) : (onesOf ss ++ onesOf (ss.map fun s => 1 - s)).Perm (List.range ss.length) := by
  have e : onesOf (ss.map fun s => 1 - s) = (List.range ss.length).filter fun i => !decide (ss.getD i 0 ≠ 0) := by
    unfold onesOf
    rw [List.length_map]
    apply List.filter_congr
    intro i hi
    have hlt : i < ss.length := List.mem_range.mp hi
    rw [List.getD_eq_getElem?_getD, List.getD_eq_getElem?_getD, List.getElem?_map, List.getElem?_eq_getElem hlt]
    rcases h _ (List.getElem_mem hlt) with q | q <;> simp [q]
  rw [e]
  exact List.filter_append_perm _ _
theorem ones_lt {ss : List Int} : ∀ p ∈ onesOf ss, p < ss.length := fun p hp => List.mem_range.mp (List.mem_filter.mp hp).1
theorem ones_sorted {ss : List Int} : (onesOf ss).Pairwise (· < ·) := List.pairwise_lt_range.filter _
set_option maxHeartbeats 16000000 in
theorem law_signs {L : Addr} {Z : Hp} {s₀ : Shared} {G₀ : Hp} {cdv sv : Value} {oc : Obj} {b w : Bool} {nn : Nat} {tH : Tok} (T : TX c.g.K) (r : Rm c.A (n + 6)) (hoc : oc.data = .cell (some (.ref bx))) (hsv : VecN T G sv (kdOf b) (subIts b nn) (subNs w nn)) (hb : BoxO c.g G o) (hnn : nn < 10)
    (p1 : m "subject" = some sv) (p3 : m "high" = some (.int nn tH)) (hF : ∀ m M G', F (.ret (.bool true)) ⟨m, [], M, G'⟩) :
    run (cxC c (fnN 40) (fnS 40) (T.fa 40) L cdv Z s₀ G₀) (execs ((fnB 40).drop 11) (cxC c (fnN 40) (fnS 40) (T.fa 40) L cdv Z s₀ G₀).env) F ⟨m, [], [(bx, o), (L + 1, oc)], G⟩ := by
  walk_at "open"
  refine st_assignComp (cl := [(("box" : Str), L + 1)]) (n := nn) (Pr := fun i v => ∃ t, v = .int (0 + i) t) (fun i ys P M G' => ∃ o' ss, P = [] ∧ M = [(bx, o'), (L + 1, oc)] ∧ Sub G G' ∧ BoxO c.g G' o' ∧ IntsAre ys ss ∧ ss.length = i ∧ ∀ s ∈ ss, s = 0 ∨ s = 1) ?_ ?_ (by kernel_rfl) (by have : sizeLine = 16777216 := rfl; omega)
  · refine run_tail ?_
    refine call_bn T (by simp) hv_range kp_type ?_
    walk_at "gos"
    refine call_range1 fun rr t1 t2 t3 => ?_
    refine run_freeze fun G1 k1 q1 => ?_
    refine run_pure ⟨iter_range r.deep.h (fun s H => H.gg _ _ q1) (small_of (by omega) (by omega) (by omega) (by omega)) (size_of (by omega)), ⟨o, [], rfl, rfl, k1, hb.mono k1, .nil, rfl, by simp⟩, ?_⟩
    rintro ys P' M' G2 d od ⟨o', ss, rfl, rfl, k2, hb2, hys, hsl, hss⟩ hod
    refine run_freeze fun G3 k3 q3 => ?_
    have hl2 : (ss.map fun s => 1 - s).length = nn := by rw [List.length_map]; exact hsl
    have k03 : Sub G G3 := k2.trans k3
    have okS : (Ix.logical (ss.map some)).ok := by show (ss.map some).length < 1000; rw [List.length_map]; omega
    have okD : (Ix.logical ((ss.map fun s => 1 - s).map some)).ok := by show ((ss.map fun s => 1 - s).map some).length < 1000; rw [List.length_map]; omega
    have pS : posP (.logical (ss.map some)) (subIts b nn).length = (onesOf ss).map some := by
      rw [len_subIts, ← hsl]; exact log_signs
    have pD : posP (.logical ((ss.map fun s => 1 - s).map some)) (subIts b nn).length = (onesOf (ss.map fun s => 1 - s)).map some := by
      rw [len_subIts, ← hl2]; exact log_signs
    have nLen : ∀ xs, subNs w nn = some xs → xs.length < 1000 := fun xs e => (nsAt_ok (w := w) (ps := List.range nn) (by simp; omega) xs e).1
    walk_at "gos"
    refine call_fn (T.fn 31 (by simp)) ?_
    walk_at "gos"
    refine run_Call (run_global T.isV.ns ⟨kp_K T.isV.kp, ?_⟩)
    walk_at "gos"
    refine make_vec _ (by exact r.deep) fun x1 d1 o1 f1 v1 v2 v3 v4 => ?_
    refine run_freeze fun G4 k4 q4 => ?_
    refine run_freeze fun G5 k5 q5 => ?_
    walk_at "gos"
    refine call_subset (ix := .logical (ss.map some)) _ (by exact r.deep) (by exact (hsv.mono k03).mono (k4.trans k5)) kd_or (by exact ⟨_, vec_new v1 v2 v3 v4 (k5 _ _ q4) q5 (k5 _ _ (k4 _ _ q3)) hod hys⟩) okS (by rw [len_subIts]; omega) nLen fun tv G6 k6 htv => ?_
    rw [pS, subNs_eq, names_sub (fun p hp => hsl ▸ ones_lt p hp)] at htv
    have htv' : VecN T G6 tv (kdOf b) ((onesOf ss).map (subIt b)) (nsAt w (onesOf ss)) := by
      rw [subIts, items_sub (fun p hp => hsl ▸ ones_lt p hp)] at htv; exact htv
    walk_at "gos"
    refine call_fn (T.fn 31 (by simp)) ?_
    walk_at "gos"
    refine run_Call (run_global T.isV.ns ⟨kp_K T.isV.kp, ?_⟩)
    walk_at "gos"
    have k36 : Sub G3 G6 := (k4.trans k5).trans k6
    refine run_ListComp (cl := []) (n := ys.length) (Pr := fun i v => ys[i]? = some v) (fun i zs P M G' => P = [] ∧ M = [(bx, o'), (L + 1, oc)] ∧ G' = G6 ∧ IntsAre zs ((ss.take i).map fun s => 1 - s)) ?_ ?_ (by kernel_rfl) (by have : sizeLine = 16777216 := rfl; rw [hys.length]; omega)
    · walk_at "gos"
      refine ⟨iter_frozen r.deep.h (k36 _ _ q3) hod, ⟨rfl, rfl, rfl, .nil⟩, ?_⟩
      rintro zs P' M' G7 d7 o7 ⟨rfl, rfl, rfl, hzs⟩ ho7
      rw [hys.length, List.take_length] at hzs
      refine run_freeze fun G8 k8 q8 => ?_
      walk_at "gos"
      refine make_vec _ (by exact r.deep) fun x9 d9 o9 f9 w1 w2 w3 w4 => ?_
      refine run_freeze fun G9 k9 q9 => ?_
      refine run_freeze fun G10 k10 q10 => ?_
      walk_at "gos"
      have k610 : Sub G7 G10 := (k8.trans k9).trans k10
      refine call_subset (ix := .logical ((ss.map fun s => 1 - s).map some)) _ (by exact r.deep) (by exact (hsv.mono (k03.trans k36)).mono k610) kd_or (by exact ⟨_, vec_new w1 w2 w3 w4 (k10 _ _ q9) q10 (k10 _ _ (k9 _ _ q8)) ho7 hzs⟩) okD (by rw [len_subIts]; omega) nLen fun lv G11 k11 hlv => ?_
      rw [pD, subNs_eq, names_sub (fun p hp => hl2 ▸ ones_lt p hp)] at hlv
      have hlv' : VecN T G11 lv (kdOf b) ((onesOf (ss.map fun s => 1 - s)).map (subIt b)) (nsAt w (onesOf (ss.map fun s => 1 - s))) := by
        rw [subIts, items_sub (fun p hp => hl2 ▸ ones_lt p hp)] at hlv; exact hlv
      walk_at "gos"
      refine call_fn (T.fn 39 (by simp)) ?_
      walk_at "gos"
      refine call_parted _ (by exact r.deep) hnn (by exact ((hsv.mono (k03.trans k36)).mono k610).mono k11) (by exact (htv'.mono k610).mono k11) (by exact hlv') (by rw [← hsl]; exact signs_two hss) ones_sorted fun G12 k12 => ?_
      walk_at "gos"
      exact hF _ _ _
    · rintro i w zs P' M' G7 C Z' N' mC hi hw ⟨rfl, rfl, rfl, hzs⟩ hmx
      obtain ⟨e, te, rfl, he⟩ := hys.at i w hw
      refine tests_nil ?_
      refine ifT rfl ?_
      walk_at "gos"
      refine ⟨rfl, rfl, rfl, ?_⟩
      rw [take_snoc he]
      exact hzs.append (.cons _ _ .nil)
  · rintro i w ys P' M' G2 C Z' N' mC hi ⟨ti, rfl⟩ ⟨o', ss, rfl, rfl, k2, hb2, hys, hsl, hss⟩ hmx
    refine tests_nil ?_
    refine ifT rfl ?_
    refine call_fn (T.fn 34 (by simp)) ?_
    walk_at "go"
    refine run_cell (a := L + 1) (o := oc) (by kernel_rfl) (.tail _ (.head _)) hoc ?_
    walk_at "gos"
    refine run_tail ?_
    refine call_drawM _ (by exact r.deep) (by exact hb2) (by omega) fun v tv o2 v0 v1 hb3 => ?_
    refine run_pure ⟨o2, ss ++ [v], rfl, rfl, k2, hb3, hys.append (.cons v tv .nil), by simp [hsl], fun s hs => ?_⟩
    rcases List.mem_append.mp hs with h | h
    · exact hss s h
    · rw [List.mem_singleton.mp h]; omega
end
section
variable {g : Gd} {c : Cx} {σ : Sg} {Q : Value → Sg → Prop} {F : Flow → Sg → Prop} {U : Unit → Sg → Prop} {m : Str → Option Value} {P M : List (Addr × Obj)} {G G' : Hp} {n k : Nat} {v : Value} {kd x : Str} {its : List It} {ns : Option (List It)} {at_ : Value} {t : Tok} {l lp bx : Addr} {o : Obj} {pos : Pos} {rest : List Stmt} {vs : List Value} {nl : List Int}
/-- a for loop whose length is known only behind its head -/
theorem st_forE {g : Gd} {A : Around} {env : Env} {Z : Hp} {s₀ : Shared} {G₀ : Hp} {N : List Addr} {σ : Sg} {x : Str} {px pos : Pos} {iter : Expr} {body rest : List Stmt} {F : Flow → Sg → Prop} (Inv : Nat → Nat → Sg → Prop) {P : Nat → Nat → Value → Prop}
    (h : run ⟨g, A, env, Z, s₀, G₀, N⟩ (eval iter env) (fun v σ₁ => ∃ n, Iter ⟨g, A, env, Z, s₀, G₀, N⟩ σ₁ v n (P n) ∧ Inv n 0 σ₁) σ)
    (turn : ∀ n i v σ Z' N', i < n → P n i v → Inv n i σ → Sub Z Z' → run ⟨g, A, env, Z', s₀, G₀, N'⟩ (execs body env)
      (fun f σ' => match f with | .next | .cont => Inv n (i + 1) σ' | .brk => run ⟨g, A, env, Z, s₀, G₀, N⟩ (execs rest env) F σ' | .ret v => F (.ret v) σ') { σ with m := upd σ.m x v })
    (done : ∀ n σ, Inv n n σ → run ⟨g, A, env, Z, s₀, G₀, N⟩ (execs rest env) F σ)
    (hs : ∀ x, foldedSetIterable iter env x = pure x := by intro _; kernel_rfl)
    (hl : env.kindOf x = some .local := by kernel_rfl) (hp : (env.scope.kind == .class || (env.scope.kind == .module && env.locals != env.globals)) = false := by kernel_rfl) :
    run ⟨g, A, env, Z, s₀, G₀, N⟩ (execs (.For (.Name x px) iter body [] pos :: rest) env) F σ := by
  refine st_cons (c := ⟨g, A, env, Z, s₀, G₀, N⟩) fun s H => wpAny_For (mono' (c := ⟨g, A, env, Z, s₀, G₀, N⟩) h H fun v s₁ σ₁ h₁ q => ?_) hs
  obtain ⟨n, it, h0⟩ := q
  refine it s₁ h₁ _ fun s₂ I fp Sx h₂ W hst hlv hI hnew hfp kk => ?_
  have nz : ∀ {hp : Hp}, (∀ a o, hp a = some o → s₁.heap.get? a = some o) → hp I = none := fun {hp} k => by
    cases q : hp I with
    | none => rfl
    | some o => rw [k _ _ q] at hnew; cases hnew
  refine codeAny_mono (loop_run (px := px) (Inv n) (D := fun σ' => run ⟨g, A, env, Z, s₀, G₀, N⟩ (execs rest env) F σ') (V := fun v σ' => F (.ret v) σ') W hlv hI h₂ hst hfp (nz h₁.keep) (nz h₁.gg) (nz (hp := fun a => g.base.get? a) h₁.base) ?_ ?_ h0 (fun i v σ Z' N' hi hP hv hz => run_mono (turn n i v σ Z' N' hi hP hv hz) fun f σ' q => by cases f <;> exact q) (done n) hl hp) fun r s' hr => ?_
  · intro hm
    obtain ⟨⟨o, h⟩, _⟩ := h₁.nn I hm
    rw [h] at hnew; cases hnew
  · show s₀.heap.get? I = none
    cases q : s₀.heap.get? I with
    | none => rfl
    | some o => obtain ⟨o', h⟩ := h₁.live _ _ q; rw [h] at hnew; cases hnew
  · cases r with
    | error e => exact hr.elim
    | ok f =>
      cases f with
      | next => obtain ⟨σ', h', q⟩ := hr; exact ⟨σ', h', q⟩
      | ret v => obtain ⟨σ', h', q⟩ := hr; exact ⟨σ', h', q⟩
      | brk => exact hr.elim
      | cont => exact hr.elim
/-- the places of the picks, and the others -/
def inOf (ks : List Int) : List Nat := ks.map fun k => (k - 1).toNat
def outOf (ks : List Int) (n : Nat) : List Nat := if ks = [] then [] else (List.range n).filter fun i : Nat => !decide ((i : Int) + 1 ∈ ks)
theorem out_lt {ks : List Int} {n : Nat} : ∀ p ∈ outOf ks n, p < n := fun p hp => by
  unfold outOf at hp
  split at hp
  · cases hp
  · exact List.mem_range.mp (List.mem_filter.mp hp).1
theorem in_lt {ks : List Int} {n : Nat} (h : ∀ k ∈ ks, 1 ≤ k ∧ k ≤ n) : ∀ p ∈ inOf ks, p < n := fun p hp => by
  obtain ⟨k, hk, rfl⟩ := List.mem_map.mp hp
  have := h k hk
  omega
theorem out_neg {ks : List Int} {n : Nat} (h : ∀ k ∈ ks, 1 ≤ k ∧ k ≤ n) : wholeP ((ks.map fun k => 0 - k).map some) n = (outOf ks n).map some := by
  unfold outOf
  split
  · rename_i e; subst e; rfl
  · rename_i e; exact picks_neg h e
set_option maxHeartbeats 16000000 in
theorem law_picks {L : Addr} {Z : Hp} {s₀ : Shared} {G₀ : Hp} {cdv sv : Value} {oc : Obj} {b w : Bool} {nn : Nat} {tH : Tok} (T : TX c.g.K) (r : Rm c.A (n + 6)) (hoc : oc.data = .cell (some (.ref bx))) (hsv : VecN T G sv (kdOf b) (subIts b nn) (subNs w nn)) (hb : BoxO c.g G o) (hnn : nn < 10)
    (p1 : m "subject" = some sv) (p3 : m "high" = some (.int nn tH)) (hF : ∀ m M G', F (.ret (.bool true)) ⟨m, [], M, G'⟩) :
    run (cxC c (fnN 40) (fnS 40) (T.fa 40) L cdv Z s₀ G₀) (execs ((fnB 40).drop 6) (cxC c (fnN 40) (fnS 40) (T.fa 40) L cdv Z s₀ G₀).env) F ⟨m, [], [(bx, o), (L + 1, oc)], G⟩ := by
  walk_at "open"
  walk_at "go"
  refine run_List ?_
  walk_at "go"
  refine ⟨by simp [sizeLine], fun d => ?_⟩
  walk_at "go"
  refine run_swap ?_
  refine st_forE (P := fun n i v => ∃ t, v = .int (0 + i) t) (fun n i σ => ∃ m' ob vs' o' ks G1, σ = ⟨m', [], [(bx, ob), (d, o'), (L + 1, oc)], G1⟩ ∧ n ≤ 6 ∧ Sub G G1 ∧ BoxO c.g G1 ob ∧ LO o' vs' ∧ IntsAre vs' ks ∧ ks.length ≤ i ∧ (∀ k ∈ ks, 1 ≤ k ∧ k ≤ (nn : Int)) ∧ ks.Nodup ∧
    m' "subject" = some sv ∧ m' "high" = some (.int nn tH) ∧ m' "picks" = some (.ref d)) ?_ ?_ ?_
  · refine run_tail ?_
    refine call_bn T (by simp) hv_range kp_type ?_
    walk_at "go"
    refine call_fn (T.fn 34 (by simp)) ?_
    walk_at "go"
    refine run_cell (a := L + 1) (o := oc) (by kernel_rfl) (.tail _ (.tail _ (.head _))) hoc ?_
    walk_at "gos"
    refine call_drawM _ (by exact r.deep) (by exact hb) (by omega) fun many tv o2 v0 v1 hb3 => ?_
    walk_at "gos"
    refine call_range1 fun rr t1 t2 t3 => ?_
    refine run_freeze fun G1 k1 q1 => ?_
    refine run_pure ⟨many.toNat, iter_range r.deep.h (fun s H => H.gg _ _ q1) (small_of (by omega) (by omega) (by omega) (by omega)) (size_of (by omega)), _, o2, [], _, [], _, rfl, by omega, k1, hb3.mono k1, LO.mk, .nil, by simp, by simp, by simp, ?_, ?_, ?_⟩ <;> walk_at "lk"
  · rintro n i w σ Z' N' hi' ⟨tw, rfl⟩ ⟨m', ob, vs', o', ks, G1, rfl, hn6, k1, hb1, ho', hks, hkl, hkr, hkd, q1, q2, q3⟩ hZ
    walk_at "gos"
    refine call_fn (T.fn 34 (by simp)) ?_
    walk_at "go"
    refine run_cell (a := L + 1) (o := oc) (by kernel_rfl) (.tail _ (.tail _ (.head _))) hoc ?_
    walk_at "gos"
    refine call_drawM _ (by exact r.deep) (by exact hb1) (by omega) fun ch tv o2 v0 v1 hb3 => ?_
    walk_at "gos"
    by_cases c0 : 1 + ch ≤ (nn : Int)
    · refine ifT (by simpa using c0) ?_
      walk_at "gos"
      refine notIn_ints r.deep (.inr (.inl (.tail _ (.head _)))) ho' hks ?_
      walk_at "gos"
      by_cases c1 : 1 + ch ∈ ks
      · refine ifF (by simpa using c1) ?_
        refine ifF (by simp) ?_
        walk_at "gos"
        refine ⟨_, _, _, _, _, _, rfl, hn6, k1, hb3, ho', hks, by omega, hkr, hkd, ?_, ?_, ?_⟩ <;> walk_at "lk"
      · refine ifT (by simpa using c1) ?_
        walk_at "gos"
        refine ifT (by simp) ?_
        walk_at "gos"
        refine run_appendCall ?_
        walk_at "gos"
        refine ⟨d, o', vs', rfl, .inr (.inl (.tail _ (.head _))), ho', ?_⟩
        walk_at "gos"
        refine call_append (.own (.tail .head)) ho' (by have := hks.length; omega) fun o3 ho3 => ?_
        walk_at "gos"
        refine ⟨_, _, _, _, _, _, rfl, hn6, k1, hb3, ho3, hks.append (.cons _ _ .nil), by simp; omega, ?_, ?_, ?_, ?_, ?_⟩
        · intro k hk
          rcases List.mem_append.mp hk with h | h
          · exact hkr k h
          · rw [List.mem_singleton.mp h]; omega
        · rw [List.nodup_append]
          refine ⟨hkd, by simp, fun a ha b hb => ?_⟩
          rw [List.mem_singleton.mp hb]
          intro e; exact c1 (e ▸ ha)
        all_goals walk_at "lk"
    · refine ifF (by simpa using c0) ?_
      refine ifF (by simp) ?_
      walk_at "gos"
      refine ⟨_, _, _, _, _, _, rfl, hn6, k1, hb3, ho', hks, by omega, hkr, hkd, ?_, ?_, ?_⟩ <;> walk_at "lk"
  · rintro n σ ⟨m', ob, vs', o', ks, G1, rfl, hn6, k1, hb1, ho', hks, hkl, hkr, hkd, q1, q2, q3⟩
    refine run_swap ?_
    refine run_freeze fun G2 k2 f2 => ?_
    have kz : ks.length ≤ 6 := by omega
    have hvl : vs'.length = ks.length := hks.length
    have nLen : ∀ xs, subNs w nn = some xs → xs.length < 1000 := fun xs e => (nsAt_ok (w := w) (ps := List.range nn) (by simp; omega) xs e).1
    have okP : (Ix.integer (ks.map some)).ok := ⟨.inl fun k hk => by obtain ⟨k', h1, e⟩ := List.mem_map.mp hk; cases e; have := hkr k h1; omega, by rw [List.length_map]; omega⟩
    have okN : (Ix.integer ((ks.map fun k => 0 - k).map some)).ok := ⟨.inr fun x hx => by
      obtain ⟨k1, h1, rfl⟩ := List.mem_map.mp hx
      obtain ⟨k', h2, rfl⟩ := List.mem_map.mp h1
      exact ⟨_, rfl, by have := hkr k' h2; omega⟩, by rw [List.length_map, List.length_map]; omega⟩
    have pP : posP (.integer (ks.map some)) (subIts b nn).length = (inOf ks).map some := by rw [len_subIts]; exact picks_pos hkr
    have pN : posP (.integer ((ks.map fun k => 0 - k).map some)) (subIts b nn).length = (outOf ks nn).map some := by rw [len_subIts]; exact out_neg hkr
    have k02 : Sub G G2 := k1.trans k2
    walk_at "gos"
    refine call_fn (T.fn 31 (by simp)) ?_
    walk_at "gos"
    refine run_Call (run_global T.isV.ns ⟨kp_K T.isV.kp, ?_⟩)
    walk_at "gos"
    refine make_vec _ (by exact r.deep) fun x1 d1 o1 f1 v1 v2 v3 v4 => ?_
    refine run_freeze fun G4 k4 q4 => ?_
    refine run_freeze fun G5 k5 q5 => ?_
    walk_at "gos"
    refine call_subset (ix := .integer (ks.map some)) _ (by exact r.deep) (by exact (hsv.mono k02).mono (k4.trans k5)) kd_or (by exact ⟨_, vec_new v1 v2 v3 v4 (k5 _ _ q4) q5 (k5 _ _ (k4 _ _ f2)) ho' hks⟩) okP (by rw [len_subIts]; omega) nLen fun tv G6 k6 htv => ?_
    rw [pP, subNs_eq, names_sub (in_lt hkr)] at htv
    have htv' : VecN T G6 tv (kdOf b) ((inOf ks).map (subIt b)) (nsAt w (inOf ks)) := by
      rw [subIts, items_sub (in_lt hkr)] at htv; exact htv
    walk_at "gos"
    refine call_fn (T.fn 31 (by simp)) ?_
    walk_at "gos"
    refine run_Call (run_global T.isV.ns ⟨kp_K T.isV.kp, ?_⟩)
    walk_at "gos"
    have k26 : Sub G2 G6 := (k4.trans k5).trans k6
    refine run_ListComp (cl := []) (n := vs'.length) (Pr := fun i v => vs'[i]? = some v) (fun i zs P M G' => P = [] ∧ M = [(bx, ob), (L + 1, oc)] ∧ G' = G6 ∧ IntsAre zs ((ks.take i).map fun s => 0 - s)) ?_ ?_ (by kernel_rfl) (by have : sizeLine = 16777216 := rfl; omega)
    rotate_left
    · rintro i w zs P' M' G7 C Z' N' mC hi hw ⟨rfl, rfl, rfl, hzs⟩ hmx
      obtain ⟨e, te, rfl, he⟩ := hks.at i w hw
      refine tests_nil ?_
      refine ifT rfl ?_
      walk_at "gos"
      refine ⟨rfl, rfl, rfl, ?_⟩
      rw [take_snoc he]
      exact hzs.append (.cons _ _ .nil)
    walk_at "gos"
    refine ⟨iter_frozen r.deep.h (k26 _ _ f2) ho', ⟨rfl, rfl, rfl, .nil⟩, ?_⟩
    rintro zs P' M' G7 d7 o7 ⟨rfl, rfl, rfl, hzs⟩ ho7
    rw [hvl, List.take_length] at hzs
    refine run_freeze fun G8 k8 q8 => ?_
    walk_at "gos"
    refine make_vec _ (by exact r.deep) fun x9 d9 o9 f9 w1 w2 w3 w4 => ?_
    refine run_freeze fun G9 k9 q9 => ?_
    refine run_freeze fun G10 k10 q10 => ?_
    walk_at "gos"
    have k710 : Sub G7 G10 := (k8.trans k9).trans k10
    refine call_subset (ix := .integer ((ks.map fun k => 0 - k).map some)) _ (by exact r.deep) (by exact (hsv.mono (k02.trans k26)).mono k710) kd_or (by exact ⟨_, vec_new w1 w2 w3 w4 (k10 _ _ q9) q10 (k10 _ _ (k9 _ _ q8)) ho7 hzs⟩) okN (by rw [len_subIts]; omega) nLen fun lv G11 k11 hlv => ?_
    rw [pN, subNs_eq, names_sub out_lt] at hlv
    have hlv' : VecN T G11 lv (kdOf b) ((outOf ks nn).map (subIt b)) (nsAt w (outOf ks nn)) := by
      rw [subIts, items_sub out_lt] at hlv; exact hlv
    walk_at "go"
    have k211 : Sub G2 G11 := (k26.trans k710).trans k11
    have hsv11 : VecN T G11 sv (kdOf b) (subIts b nn) (subNs w nn) := (hsv.mono k02).mono k211
    have hb11 : BoxO c.g G11 ob := (hb1.mono k2).mono k211
    have k711 : Sub G7 G11 := k710.trans k11
    refine st_ifJ (fun σ => ∃ m' G', σ = ⟨m', [], [(bx, ob), (L + 1, oc)], G'⟩ ∧ Sub G11 G' ∧ m' "subject" = some sv ∧ m' "high" = some (.int nn tH)) ?_ ?_
    · walk_at "gos"
      refine run_List ?_
      walk_at "gos"
      refine ⟨by simp [sizeLine], fun dN => ?_⟩
      refine run_freeze fun G12 k12 q12 => ?_
      have k212 : Sub G2 G12 := k211.trans k12
      have k612 : Sub G7 G12 := k711.trans k12
      refine cmpD_eq_nil r.deep (DG.ints (k212 _ _ f2) ho' hks) (.list q12 LO.mk .nil) ok_ints ?_
      walk_at "gos"
      by_cases c0 : ks = []
      · subst c0
        refine ifT (by simp) ?_
        walk_at "gos"
        obtain ⟨ta, ⟨tl, t1, ot, wt, t2, t3, t4⟩, _⟩ := htv'
        obtain ⟨la, ⟨ll, l1, ol, wl, l2, l3, l4⟩, _⟩ := hlv'
        have et : wt = [] := List.length_eq_zero_iff.mp t4.1
        have el : wl = [] := List.length_eq_zero_iff.mp l4.1
        subst et el
        refine get_items T (VecL.up (t1.mono fun _ _ e => k612 _ _ e)) ?_
        walk_at "gos"
        refine run_List ?_
        walk_at "gos"
        refine ⟨by simp [sizeLine], fun dM => ?_⟩
        refine run_freeze fun G13 k13 q13 => ?_
        refine cmpD_ne_nil (ds := []) r.deep (.list (k13 _ _ (k612 _ _ t2)) t3 .nil) (.list q13 LO.mk .nil) (by rfl) ?_
        walk_at "gos"
        refine ifF (by simp) ?_
        walk_at "gos"
        refine get_items T (VecL.up (l1.mono fun _ _ e => (k12.trans k13) _ _ e)) ?_
        walk_at "gos"
        refine run_List ?_
        walk_at "gos"
        refine ⟨by simp [sizeLine], fun dO => ?_⟩
        refine run_freeze fun G14 k14 q14 => ?_
        refine cmpD_ne_nil (ds := []) r.deep (.list (k14 _ _ ((k12.trans k13) _ _ l2)) l3 .nil) (.list q14 LO.mk .nil) (by rfl) ?_
        walk_at "gos"
        refine ifF (by simp) ?_
        walk_at "gos"
        refine ifF (by simp) ?_
        walk_at "gos"
        refine ⟨rfl, _, _, rfl, (k12.trans k13).trans k14, ?_, ?_⟩ <;> walk_at "lk"
      · refine ifF (by simpa using c0) ?_
        walk_at "gos"
        refine isTrue_value ?_
        refine call_fn (T.fn 39 (by simp)) ?_
        walk_at "gos"
        refine call_parted _ (by exact r.deep) hnn (by exact hsv11.mono k12) (by exact htv'.mono k612) (by exact hlv'.mono k12) ?_ ?_ fun G13 k13 => ?_
        · unfold outOf; rw [if_neg c0]; exact picks_perm hkr hkd
        · unfold outOf; rw [if_neg c0]; exact List.pairwise_lt_range.filter _
        walk_at "gos"
        refine ifF (by simp) ?_
        walk_at "gos"
        refine ⟨rfl, _, _, rfl, k12.trans k13, ?_, ?_⟩ <;> walk_at "lk"
    · rintro σ ⟨m', G12, rfl, k12, s1, s3⟩
      exact law_signs T r hoc (hsv11.mono k12) (hb11.mono k12) hnn s1 s3 hF
end
section
variable {g : Gd} {c : Cx} {σ : Sg} {Q : Value → Sg → Prop} {F : Flow → Sg → Prop} {U : Unit → Sg → Prop} {m : Str → Option Value} {P M : List (Addr × Obj)} {G G' : Hp} {n k : Nat} {v : Value} {kd x : Str} {its : List It} {ns : Option (List It)} {at_ : Value} {t : Tok} {l lp bx : Addr} {o : Obj} {pos : Pos} {rest : List Stmt} {vs : List Value} {nl : List Int}
set_option maxHeartbeats 16000000 in
theorem law_body {L : Addr} {Z : Hp} {s₀ : Shared} {G₀ : Hp} {cdv : Value} {cells : List (Addr × Obj)} (T : TX c.g.K) (r : Rm c.A (n + 6)) (hb : c.g.base.IsList l vs.toArray) (hi : IntsAre vs nl) (hz : vs.length ≤ 100)
    (hc : CellsAre (bindC (envOfC (fnN 40) (fnS 40) L (T.fa 40) cdv).kindOf [("script", .ref l)] fun _ => none) (cellsFrom (L + 1) (fnS 40).names []) cells)
    (hF : ∀ m M G', F (.ret (.bool true)) ⟨m, [], M, G'⟩) : run (cxC c (fnN 40) (fnS 40) (T.fa 40) L cdv Z s₀ G₀) (execs (fnB 40) (cxC c (fnN 40) (fnS 40) (T.fa 40) L cdv Z s₀ G₀).env) F ⟨bindL (envOfC (fnN 40) (fnS 40) L (T.fa 40) cdv).kindOf [("script", .ref l)] fun _ => none, [], cells, G⟩ := by
  have hcf : cellsFrom (L + 1) (fnS 40).names [] = [(("box" : Str), L + 1)] := by kernel_rfl
  rw [hcf] at hc
  obtain ⟨oc, rfl, hoc⟩ := hc.one
  walk_at "open"
  walk_at "go"
  refine call_fn (T.fn 33 (by simp)) ?_
  walk_at "gos"
  refine call_feed _ (by exact r.deep) (by exact hb) hi hz fun bx ob G1 k1 hb1 => ?_
  refine run_storeCell (a := L + 1) (by kernel_rfl) (by exact .own (.tail .head)) hoc fun oc' hoc' => ?_
  walk_at "go"
  refine call_fn (T.fn 35 (by simp)) ?_
  walk_at "go"
  refine run_cell (a := L + 1) (o := oc') (by kernel_rfl) (.tail _ (.head _)) hoc' ?_
  walk_at "gos"
  refine call_subject _ (by exact r.deep) (by exact hb1) fun sv G2 ob2 b w nn k2 hb2 hnn hsv => ?_
  have nsE : subNs w nn = nsAt w (List.range nn) := rfl
  have sOK : ∀ it ∈ subIts b nn, ItOK (kdOf b) it := fun it hi => by obtain ⟨i, _, rfl⟩ := List.mem_map.mp hi; exact sub_ok
  have sLen : (subIts b nn).length = nn := by simp [subIts]
  have nLen : ∀ xs, subNs w nn = some xs → xs.length < 1000 ∧ ∀ it ∈ xs, PlainIt it := nsAt_ok (ps := List.range nn) (by simp; omega)
  walk_at "gos"
  refine call_fn (T.fn 38 (by simp)) ?_
  walk_at "gos"
  refine call_seen _ (by exact r.deep) (by exact hsv) sOK kd_or (by omega) nLen fun bv G3 k3 dB => ?_
  walk_at "gos"
  walk_at "len"
  walk_at "gos"
  have hsv3 := hsv.mono k3
  obtain ⟨at3, ⟨ls, hls, ols, vss, s1, s2, s3⟩, hat3⟩ := id hsv3
  refine get_items T (VecL.up hls) ?_
  walk_at "gos"
  refine call_lenE (.inl s1) s2 (s3.1.trans sLen) (by omega) fun tHi => ?_
  walk_at "gos"
  refine call_fn (T.fn 38 (by simp)) ?_
  walk_at "gos"
  refine call_fn (T.fn 31 (by simp)) ?_
  walk_at "gos"
  refine run_Call (run_global T.isM.ns ⟨kp_K T.isM.kp, ?_⟩)
  walk_at "gos"
  refine make_missing _ (by exact r.deep) fun xm dm om fm m1 m2 => ?_
  refine run_freeze fun G4 k4 q4 => ?_
  refine run_freeze fun G5 k5 q5 => ?_
  obtain ⟨tm, m2⟩ := m2
  walk_at "gos"
  refine call_subset (ix := .missing) _ (by exact r.deep) (by exact (hsv3.mono k4).mono k5) kd_or (by exact ⟨xm, dm, om, fm, tm, rfl, k5 _ _ q4, q5, m1, m2⟩) trivial (by omega) (fun xs e => (nLen xs e).1) fun rv G6 k6 hrv => ?_
  have hall : ((posP .missing (subIts b nn).length).map (itemAt (kdOf b) (subIts b nn))) = subIts b nn := by
    rw [sLen]
    exact items_sub fun p hp => List.mem_range.mp hp
  have hnm : (subNs w nn).map (fun xs => (posP .missing (subIts b nn).length).map (nameAt xs)) = subNs w nn := by
    rw [sLen, nsE]
    exact names_sub fun p hp => List.mem_range.mp hp
  rw [hall, hnm] at hrv
  walk_at "gos"
  refine call_seen _ (by exact r.deep) (by exact hrv) sOK kd_or (by omega) nLen fun bv2 G7 k7 dB2 => ?_
  walk_at "gos"
  have k37 := ((k4.trans k5).trans k6).trans k7
  have hS1 : ∀ it ∈ subIts b nn, SOk it := fun it hi x e => by
    obtain ⟨i, _, rfl⟩ := List.mem_map.mp hi
    cases b <;> simp [subIt] at e
  have hN1 : ∀ i : Nat, i < 10 → SOk (nmIt i) := by
    have key : ∀ b : Nat, b < 10 → PyData.strOk ⟨#[(97 + (b : Int)).toNat]⟩ = true := by decide +kernel
    intro i hi x e
    cases e
    exact key i hi
  have hS2 : ∀ xs, subNs w nn = some xs → ∀ it ∈ xs, SOk it := fun xs e it hit => by
    cases w with
    | false => simp [subNs] at e
    | true =>
      simp only [subNs, if_true, Option.some.injEq] at e
      subst e
      obtain ⟨i, hi, rfl⟩ := List.mem_map.mp hit
      exact hN1 i (Nat.lt_trans (List.mem_range.mp hi) hnn)
  refine cmpD_ne r.deep dB2 (dB.mono k37) (kq_seen hS1 hS2) ?_
  walk_at "gos"
  refine ifF (by simp) ?_
  walk_at "gos"
  refine st_for (n := 3) (P := fun i v => ∃ t, v = .int (0 + i) t) (fun i σ => ∃ m' ob' G', σ = ⟨m', [], [(bx, ob'), (L + 1, oc')], G'⟩ ∧ Sub G7 G' ∧ BoxO c.g G' ob' ∧ m' "subject" = some sv ∧ m' "before" = some bv ∧ m' "high" = some (.int nn tHi)) ?_ ?_ ?_
  · refine run_tail ?_
    refine call_bn T (by simp) hv_range kp_type ?_
    walk_at "gos"
    refine call_range1 fun rr t1 t2 t3 => ?_
    refine run_freeze fun G8 k8 q8 => ?_
    refine run_pure ⟨iter_range r.deep.h (fun s H => H.gg _ _ q8) (small_of (by omega) (by omega) (by omega) (by omega)) (size_of (by omega)), _, _, _, rfl, k8, hb2.mono ((k3.trans k37).trans k8), ?_, ?_, ?_⟩ <;> walk_at "lk"
  · rintro i w0 σ Z' N' hi' ⟨tw, rfl⟩ ⟨m', ob', G8, rfl, k8, hb8, p1, p2, p3⟩ hZ
    have k78 : Sub G3 G8 := k37.trans k8
    have hsv8 : VecN T G8 sv (kdOf b) (subIts b nn) (subNs w nn) := hsv3.mono k78
    walk_at "go"
    refine call_fn (T.fn 36 (by simp)) ?_
    walk_at "go"
    refine run_cell (a := L + 1) (o := oc') (by kernel_rfl) (.tail _ (.head _)) hoc' ?_
    walk_at "gos"
    refine call_index _ (by exact r.deep) (by exact hb8) (by omega) fun iv G9 ob9 ix k9 hb9 hix iok iform => ?_
    have him : ix ≠ .missing := by rcases iform with ⟨xs, rfl, _⟩ | ⟨xs, rfl, _⟩ <;> simp
    walk_at "gos"
    refine call_fn (T.fn 37 (by simp)) ?_
    walk_at "gos"
    refine call_spots _ (by exact r.deep) (by exact hix) iok him (by omega) fun sd G10 k10 hsd => ?_
    walk_at "gos"
    refine call_fn (T.fn 31 (by simp)) ?_
    walk_at "gos"
    refine call_subset _ (by exact r.deep) (by exact (hsv8.mono k9).mono k10) kd_or (by exact hix.mono k10) iok (by omega) (fun xs e => (nLen xs e).1) fun fv G11 k11 hfv => ?_
    walk_at "gos"
    have hpl : (posP ix nn).length < 1000 := posP_len iok (by omega)
    have hsl : (spotsOf ix nn).length = (posP ix nn).length := by rw [spots_eq him iok, List.length_map]
    obtain ⟨osp, vsp, sp1, sp2, sp3⟩ := id hsd
    have hvsp : vsp.length = (posP ix nn).length := by rw [sp3.1, List.length_map, hsl]
    refine call_fn (T.fn 36 (by simp)) ?_
    walk_at "go"
    refine run_cell (a := L + 1) (o := oc') (by kernel_rfl) (.tail _ (.head _)) hoc' ?_
    walk_at "go"
    walk_at "len"
    walk_at "gos"
    refine call_lenE (.inl (k11 _ _ sp1)) sp2 hvsp (by omega) fun tsl => ?_
    walk_at "gos"
    refine call_index _ (by exact r.deep) (by exact (hb9.mono k10).mono k11) hpl fun jv G12 ob12 jx k12 hb12 hjx jok jform => ?_
    walk_at "gos"
    obtain ⟨kdi, xi, ati, li, vi1, ⟨oi, wi, li1, li2, li3⟩, hzi⟩ := ix_vl hix iform
    obtain ⟨kdj, xj, atj, lj, vj1, ⟨oj, wj, lj1, lj2, lj3⟩, hzj⟩ := ix_vl hjx jform
    have k912 : Sub G9 G12 := (k10.trans k11).trans k12
    have hwi : wi.length < 8 := by rw [li3.1, List.length_map]; exact hzi
    have hwj : wj.length < 8 := by rw [lj3.1, List.length_map]; exact hzj
    refine run_Tuple ?_
    walk_at "gos"
    refine call_bn T (by simp) hv_list kp_type ?_
    walk_at "gos"
    refine get_items T (VecL.up (vi1.mono fun _ _ e => k912 _ _ e)) ?_
    walk_at "gos"
    refine call_listL (.inl (k912 _ _ li1)) li2 (by omega) fun dh oh hoh => ?_
    refine run_freeze fun G13 k13 q13 => ?_
    walk_at "gos"
    refine call_bn T (by simp) hv_list kp_type ?_
    walk_at "gos"
    refine get_items T (VecL.up (vj1.mono fun _ _ e => k13 _ _ e)) ?_
    walk_at "gos"
    refine call_listL (.inl (k13 _ _ lj1)) lj2 (by omega) fun dh2 oh2 hoh2 => ?_
    refine run_freeze fun G14 k14 q14 => ?_
    walk_at "gos"
    refine ⟨by simp [sizeLine], fun th => ?_⟩
    refine run_freeze fun G15 k15 q15 => ?_
    walk_at "gos"
    have dHeld : DG G15 (.ref th) (.tuple [.list (xi.map ixDat), .list (xj.map ixDat)]) := .tuple q15 TO.mk (.cons (.list ((k14.trans k15) _ _ q13) hoh (DGs.ofIx (T := T) (li3.mono (((k912.trans k13).trans k14).trans k15)))) (.cons (.list (k15 _ _ q14) hoh2 (DGs.ofIx (T := T) (lj3.mono ((k13.trans k14).trans k15)))) .nil))
    refine call_fn (T.fn 31 (by simp)) ?_
    walk_at "gos"
    refine run_Call (run_global T.isV.ns ⟨kp_K T.isV.kp, ?_⟩)
    walk_at "gos"
    refine make_vec _ (by exact r.deep) fun xv dv ov fv2 v1 v2 v3 v4 => ?_
    refine run_freeze fun G16 k16 q16 => ?_
    refine run_freeze fun G17 k17 q17 => ?_
    walk_at "gos"
    have k1517 := k16.trans k17
    have k1217 : Sub G12 G17 := ((k13.trans k14).trans k15).trans k1517
    have k1017 : Sub G10 G17 := (k11.trans k12).trans k1217
    have hVec : VecN T G17 (.ref xv) "integer" ((spotsOf ix nn).map ixIt) none := by
      obtain ⟨es, n0, b1, b2, b3⟩ := v1
      exact ⟨.none, ⟨sd, ⟨xv, dv, ov, fv2, _, rfl, k17 _ _ q16, q17, ⟨es, n0, b1, by omega, b3⟩, v2, v3, v4, rfl⟩, hsd.mono k1017⟩, rfl⟩
    refine call_subset _ (by exact r.deep) (by exact hVec) (.inr rfl) (by exact hjx.mono k1217) jok (by rw [List.length_map, hsl]; exact hpl) (fun xs e => by cases e) fun pv G18 k18 hpv => ?_
    have hpl' : ((spotsOf ix nn).map ixIt).length = (posP ix nn).length := by rw [List.length_map, hsl]
    rw [hpl', items_spots, spots_eq him iok, pick_up] at hpv
    have hqz : (posP jx (posP ix nn).length).length < 1000 := posP_len jok hpl
    have k1118 : Sub G11 G18 := (k12.trans k1217).trans k18
    have hpx : IxG T G18 pv (.integer (((posP jx (posP ix nn).length).map (pick (posP ix nn))).map up1)) := by
      obtain ⟨a0, b0, _⟩ := hpv; exact ⟨a0, b0⟩
    walk_at "gos"
    refine call_fn (T.fn 38 (by simp)) ?_
    walk_at "gos"
    refine call_fn (T.fn 31 (by simp)) ?_
    walk_at "gos"
    rw [sLen] at hfv
    refine call_subset _ (by exact r.deep) (by exact hfv.mono k1118) kd_or (by exact hjx.mono (k1217.trans k18)) jok (by rw [List.length_map]; exact hpl) (fun xs e => by obtain ⟨ys, _, rfl⟩ := Option.map_eq_some_iff.mp e; rw [List.length_map]; exact hpl) fun ev G19 k19 hev => ?_
    rw [List.length_map] at hev
    have hSz : ((posP jx (posP ix nn).length).map (pick (posP ix nn))).length < 1000 := by rw [List.length_map]; exact hqz
    walk_at "gos"
    refine call_seen _ (by exact r.deep) (by exact hev) (items_ok kd_or (items_ok kd_or sOK)) kd_or (by rw [List.length_map]; exact hqz) (names_ok hqz (names_ok hpl nLen)) fun eD G20 k20 dE => ?_
    walk_at "gos"
    refine call_fn (T.fn 38 (by simp)) ?_
    walk_at "gos"
    refine call_fn (T.fn 31 (by simp)) ?_
    walk_at "gos"
    have k1820 : Sub G18 G20 := k19.trans k20
    have k320 : Sub G3 G20 := (k78.trans ((k9.trans k10).trans k11)).trans (k1118.trans k1820)
    refine call_subset _ (by exact r.deep) (by exact hsv3.mono k320) kd_or (by exact hpx.mono k1820) (by exact ⟨up_ok, by rw [List.length_map]; exact hSz⟩) (by omega) (fun xs e => (nLen xs e).1) fun uv G21 k21 huv => ?_
    have hwu : posP (.integer (((posP jx (posP ix nn).length).map (pick (posP ix nn))).map up1)) (subIts b nn).length = (posP jx (posP ix nn).length).map (pick (posP ix nn)) := whole_up
    rw [hwu] at huv
    walk_at "gos"
    refine call_seen _ (by exact r.deep) (by exact huv) (items_ok kd_or sOK) kd_or (by rw [List.length_map]; exact hSz) (names_ok hSz nLen) fun uD G22 k22 dU => ?_
    rw [seen_comm] at dE
    walk_at "gos"
    refine cmpD_ne r.deep (dE.mono (k21.trans k22)) dU (kq_seen (items_sok hS1) (names_sok hS2)) ?_
    walk_at "gos"
    refine ifF (by simp) ?_
    walk_at "gos"
    have k2022 := k21.trans k22
    have k1022 : Sub G10 G22 := k11.trans (k1118.trans (k1820.trans k2022))
    have k1122 : Sub G11 G22 := k1118.trans (k1820.trans k2022)
    have k1222 : Sub G12 G22 := k1217.trans (k18.trans (k1820.trans k2022))
    have k1522 : Sub G15 G22 := k1517.trans (k18.trans (k1820.trans k2022))
    have k322 : Sub G3 G22 := k320.trans k2022
    obtain ⟨atf, ⟨lf, vf1, of, wf, lf1, lf2, lf3⟩, _⟩ := hfv
    have hwf : wf.length = (posP ix nn).length := by rw [lf3.1, List.length_map]
    walk_at "len"
    walk_at "gos"
    refine get_items T (VecL.up (vf1.mono fun _ _ e => k1122 _ _ e)) ?_
    walk_at "gos"
    refine call_lenE (.inl (k1122 _ _ lf1)) lf2 hwf (by omega) fun tf1 => ?_
    walk_at "gos"
    walk_at "len"
    walk_at "gos"
    refine call_lenE (.inl (k1022 _ _ sp1)) sp2 hvsp (by omega) fun tf2 => ?_
    walk_at "gos"
    refine ifF (by simp) ?_
    walk_at "gos"
    refine run_Tuple ?_
    walk_at "gos"
    refine get_items T (VecL.up (vi1.mono fun _ _ e => (k912.trans k1222) _ _ e)) ?_
    walk_at "gos"
    refine get_items T (VecL.up (vj1.mono fun _ _ e => k1222 _ _ e)) ?_
    walk_at "gos"
    refine ⟨by simp [sizeLine], fun th2 => ?_⟩
    refine run_freeze fun G23 k23 q23 => ?_
    have k1223 := k1222.trans k23
    have k923 : Sub G9 G23 := k912.trans k1223
    have dHeld2 : DG G23 (.ref th2) (.tuple [.list (xi.map ixDat), .list (xj.map ixDat)]) := .tuple q23 TO.mk (.cons (.list (k923 _ _ li1) li2 (DGs.ofIx (T := T) (li3.mono k923))) (.cons (.list (k1223 _ _ lj1) lj2 (DGs.ofIx (T := T) (lj3.mono k1223))) .nil))
    refine cmpD_ne r.deep (dHeld.mono (k1522.trans k23)) dHeld2 kq_held ?_
    walk_at "gos"
    refine ifF (by simp) ?_
    walk_at "gos"
    refine call_fn (T.fn 38 (by simp)) ?_
    walk_at "gos"
    refine call_seen _ (by exact r.deep) (by exact (hsv3.mono k322).mono k23) sOK kd_or (by omega) nLen fun bv3 G24 k24 dB3 => ?_
    walk_at "gos"
    refine cmpD_ne r.deep dB3 (dB.mono ((k322.trans k23).trans k24)) (kq_seen hS1 hS2) ?_
    walk_at "gos"
    refine ifF (by simp) ?_
    walk_at "gos"
    refine ifF (by simp) ?_
    walk_at "gos"
    refine ⟨_, _, _, rfl, (k8.trans (k9.trans k10)).trans ((k1022.trans k23).trans k24), (hb12.mono k1222).mono (k23.trans k24), ?_, ?_, ?_⟩ <;> walk_at "lk"
  · rintro σ ⟨m', ob', G8, rfl, k8, hb8, p1, p2, p3⟩
    exact law_picks T r hoc' (hsv3.mono (k37.trans k8)) hb8 hnn p1 p3 hF
end
noncomputable def hView : Program := { hPg with main := { hPg.main with body := [stm 0, stm 2, stm 3, stm 4, stm 5, stm 7, stm 8, stm 10, stm 11, stm 13, stm 14, stm 15, stm 16, stm 17, stm 18, stm 19, stm 21, stm 22, stm 23, stm 24, stm 25, stm 27, stm 28, stm 29, stm 30, stm 31, stm 33, stm 34, stm 35, stm 36, stm 37, stm 38, stm 39, stm 40] } }
-- loose [] lv 0 rows [] [] N 4278
noncomputable def hEnv : Env := { scope := hPg.main.scope, locals := mainNs, globals := mainNs, cells := [], code := (@Value.ref 13), frame := some 14 }
noncomputable def hQ : Pos := (@Pos.mk 0 0 0 0)
noncomputable def hAnn : Option Value := (some (@Value.ref 6))
noncomputable def hS0 (w : World) (os : OsState) : Shared := Shared.mk (boot_heap w.params) (hArr []) boot_drawn boot_toks os
noncomputable def ho0 (p : Params) : Obj := (@Obj.mk (@Value.type "tuple") none (@Data.seq (hArr []) 0) (hArr []))
noncomputable def ho1 (p : Params) : Obj := (@Obj.mk @Value.none none (@Data.fields (hArr [])) (hArr []))
noncomputable def ho2 (p : Params) : Obj := (@Obj.mk (@Value.type "code") none (@Data.fields (hArr [(@Value.str (hStr "<module>") 182), (@Value.str (hStr "<module>") 183), (@Value.str (hStr "/claim/cut.py") 184), (@Value.int (@OfNat.ofNat.{0} @Int (nat_lit 1) (@instOfNat (nat_lit 1))) 0), (@Value.int (@OfNat.ofNat.{0} @Int (nat_lit 0) (@instOfNat (nat_lit 0))) 0), (@Value.int (@OfNat.ofNat.{0} @Int (nat_lit 0) (@instOfNat (nat_lit 0))) 0), (@Value.int (@OfNat.ofNat.{0} @Int (nat_lit 0) (@instOfNat (nat_lit 0))) 0), (@Value.int (@OfNat.ofNat.{0} @Int (nat_lit 0) (@instOfNat (nat_lit 0))) 0), (@Value.ref 11), (@Value.bool @Bool.false), (@Value.int (@OfNat.ofNat.{0} @Int (nat_lit 181) (@instOfNat (nat_lit 181))) 0), (@Value.ref 12), @Value.none, @Value.none, @Value.none, @Value.none, (@Value.int (@OfNat.ofNat.{0} @Int (nat_lit 185) (@instOfNat (nat_lit 185))) 0), (@Value.int (@OfNat.ofNat.{0} @Int (nat_lit 1) (@instOfNat (nat_lit 1))) 0), (@Value.str (hStr "/claim/cut.py") 186)])) (hArr []))
noncomputable def ho3 (p : Params) : Obj := (@Obj.mk (@Value.type "frame") none @Data.plain (hArr [(some (@Value.ref 13)), (some (@Value.ref 3)), (some (@Value.ref 3)), none, (some (@Value.str (hStr "__main__") 164)), none, (some (@Value.ref 0))]))
noncomputable def hSah (p : Params) : Heap := Heap.mk (hArr [boot_o_0 p, boot_o_1 p, boot_o_2 p, boot_o_3 p, boot_o_4 p, boot_o_5 p, boot_o_6 p, boot_o_7 p, boot_o_8 p, boot_o_9 p, boot_o_10 p, ho0 p, ho1 p, ho2 p, ho3 p]) (@Life.mk [] [] [] 0 [] [] @Bool.false (hArr []) [] 0 @Bool.false @Bool.false @Bool.false (@OfNat.ofNat.{0} @Int (nat_lit 0) (@instOfNat (nat_lit 0))) [(@OfNat.ofNat.{0} @Int (nat_lit 2000) (@instOfNat (nat_lit 2000))), (@OfNat.ofNat.{0} @Int (nat_lit 10) (@instOfNat (nat_lit 10))), (@OfNat.ofNat.{0} @Int (nat_lit 10) (@instOfNat (nat_lit 10)))] @Bool.false 0 @Bool.true [] [] 0 @Bool.false)
noncomputable def hSa (w : World) (os : OsState) : Shared := Shared.mk (hSah w.params) (hArr []) (@Drawn.mk 0 0 0 0) 187 os
noncomputable def ht0 (p : Params) : BT := BT.node (boot_o_7 p) BT.nil BT.nil
noncomputable def ht1 (p : Params) : BT := BT.node (ho0 p) BT.nil BT.nil
noncomputable def ht2 (p : Params) : BT := BT.node (boot_o_3 p) (ht0 p) (ht1 p)
noncomputable def ht3 (p : Params) : BT := BT.node (boot_o_9 p) BT.nil BT.nil
noncomputable def ht4 (p : Params) : BT := BT.node (ho2 p) BT.nil BT.nil
noncomputable def ht5 (p : Params) : BT := BT.node (boot_o_5 p) (ht3 p) (ht4 p)
noncomputable def ht6 (p : Params) : BT := BT.node (boot_o_1 p) (ht2 p) (ht5 p)
noncomputable def ht7 (p : Params) : BT := BT.node (boot_o_8 p) BT.nil BT.nil
noncomputable def ht8 (p : Params) : BT := BT.node (ho1 p) BT.nil BT.nil
noncomputable def ht9 (p : Params) : BT := BT.node (boot_o_4 p) (ht7 p) (ht8 p)
noncomputable def ht10 (p : Params) : BT := BT.node (boot_o_10 p) BT.nil BT.nil
noncomputable def ht11 (p : Params) : BT := BT.node (ho3 p) BT.nil BT.nil
noncomputable def ht12 (p : Params) : BT := BT.node (boot_o_6 p) (ht10 p) (ht11 p)
noncomputable def ht13 (p : Params) : BT := BT.node (boot_o_2 p) (ht9 p) (ht12 p)
noncomputable def ht14 (p : Params) : BT := BT.node (boot_o_0 p) (ht6 p) (ht13 p)
noncomputable def hSb (w : World) (os : OsState) : SharedT := SharedT.mk ((fun (p : Params) => (ht14 p)) w.params) 15 (@Life.mk [] [] [] 0 [] [] @Bool.false (hArr []) [] 0 @Bool.false @Bool.false @Bool.false (@OfNat.ofNat.{0} @Int (nat_lit 0) (@instOfNat (nat_lit 0))) [(@OfNat.ofNat.{0} @Int (nat_lit 2000) (@instOfNat (nat_lit 2000))), (@OfNat.ofNat.{0} @Int (nat_lit 10) (@instOfNat (nat_lit 10))), (@OfNat.ofNat.{0} @Int (nat_lit 10) (@instOfNat (nat_lit 10)))] @Bool.false 0 @Bool.true [] [] 0 @Bool.false) (hArr []) (@Drawn.mk 0 0 0 0) 187 os
noncomputable def hs0 : List Stmt := [stm 0, stm 1, stm 2, stm 3, stm 4, stm 5, stm 6]
noncomputable def ho4 (p : Params) : Obj := (@Obj.mk (@Value.type "dict") none (@Data.dict (hArr [(@DictEntry.mk (@PyData.keyHash p (hStr "__name__")) (@Value.str (hStr "__name__") 165) (@Value.str (hStr "vectorcove.errors") 224)), (@DictEntry.mk (@PyData.keyHash p (hStr "__doc__")) (@Value.str (hStr "__doc__") 166) @Value.none), (@DictEntry.mk (@PyData.keyHash p (hStr "__package__")) (@Value.str (hStr "__package__") 167) @Value.none), (@DictEntry.mk (@PyData.keyHash p (hStr "__loader__")) (@Value.str (hStr "__loader__") 168) (@Value.builtin "__main__.__loader__#opaque")), (@DictEntry.mk (@PyData.keyHash p (hStr "__spec__")) (@Value.str (hStr "__spec__") 169) @Value.none), (@DictEntry.mk (@PyData.keyHash p (hStr "__annotations__")) (@Value.str (hStr "__annotations__") 170) (@Value.ref 6)), (@DictEntry.mk (@PyData.keyHash p (hStr "__builtins__")) (@Value.str (hStr "__builtins__") 171) (@Value.ref 4)), (@DictEntry.mk (@PyData.keyHash p (hStr "__file__")) (@Value.str (hStr "__file__") 173) (@Value.str (hStr "/claim/cut.py") 172)), (@DictEntry.mk (@PyData.keyHash p (hStr "__cached__")) (@Value.str (hStr "__cached__") 174) @Value.none), (@DictEntry.mk (@PyData.keyHash p (hStr "_wall")) (@Value.str (hStr "_wall") 193) (@Value.ref 21)), (@DictEntry.mk (@PyData.keyHash p (hStr "get_attr")) (@Value.str (hStr "get_attr") 203) (@Value.ref 28)), (@DictEntry.mk (@PyData.keyHash p (hStr "names_of")) (@Value.str (hStr "names_of") 209) (@Value.ref 33)), (@DictEntry.mk (@PyData.keyHash p (hStr "dim_of")) (@Value.str (hStr "dim_of") 217) (@Value.ref 40)), (@DictEntry.mk (@PyData.keyHash p (hStr "dimnames_of")) (@Value.str (hStr "dimnames_of") 223) (@Value.ref 45))]) 14) (hArr []))
noncomputable def ho5 (p : Params) : Obj := (@Obj.mk @Value.none none (@Data.fields (hArr [(@Value.int (@OfNat.ofNat.{0} @Int (nat_lit 1) (@instOfNat (nat_lit 1))) 0), (@Value.int (@OfNat.ofNat.{0} @Int (nat_lit 0) (@instOfNat (nat_lit 0))) 0), (@Value.ref 20), (@Value.int (@OfNat.ofNat.{0} @Int (nat_lit 5) (@instOfNat (nat_lit 5))) 0), (@Value.int (@OfNat.ofNat.{0} @Int (nat_lit 0) (@instOfNat (nat_lit 0))) 0), (@Value.ref 27), (@Value.int (@OfNat.ofNat.{0} @Int (nat_lit 9) (@instOfNat (nat_lit 9))) 0), (@Value.int (@OfNat.ofNat.{0} @Int (nat_lit 0) (@instOfNat (nat_lit 0))) 0), (@Value.ref 32), (@Value.int (@OfNat.ofNat.{0} @Int (nat_lit 25) (@instOfNat (nat_lit 25))) 0), (@Value.int (@OfNat.ofNat.{0} @Int (nat_lit 0) (@instOfNat (nat_lit 0))) 0), (@Value.ref 39), (@Value.int (@OfNat.ofNat.{0} @Int (nat_lit 30) (@instOfNat (nat_lit 30))) 0), (@Value.int (@OfNat.ofNat.{0} @Int (nat_lit 0) (@instOfNat (nat_lit 0))) 0), (@Value.ref 44)])) (hArr []))
noncomputable def ho6 (p : Params) : Obj := (@Obj.mk (@Value.type "tuple") none (@Data.seq (hArr []) 0) (hArr []))
noncomputable def ho7 (p : Params) : Obj := (@Obj.mk @Value.none none (@Data.fields (hArr [])) (hArr []))
noncomputable def ho8 (p : Params) : Obj := (@Obj.mk (@Value.type "tuple") none (@Data.seq (hArr [(@Value.str (hStr "k") 190)]) 0) (hArr []))
noncomputable def ho9 (p : Params) : Obj := (@Obj.mk (@Value.type "tuple") none (@Data.seq (hArr []) 0) (hArr []))
noncomputable def ho10 (p : Params) : Obj := (@Obj.mk @Value.none none (@Data.func (@FuncData.mk (hStr "_wall") (hStr "_wall") (fnA 0) (@FuncBody.stmts (fnB 0)) (fnS 0) 0 [] @Value.none @Value.none @Value.none @Value.none none @Value.none @Value.none 0)) (hArr []))
noncomputable def ho11 (p : Params) : Obj := (@Obj.mk (@Value.type "code") none (@Data.fields (hArr [(@Value.str (hStr "_wall") 187), (@Value.str (hStr "_wall") 188), (@Value.str (hStr "/claim/cut.py") 189), (@Value.int (@OfNat.ofNat.{0} @Int (nat_lit 1) (@instOfNat (nat_lit 1))) 0), (@Value.int (@OfNat.ofNat.{0} @Int (nat_lit 1) (@instOfNat (nat_lit 1))) 0), (@Value.int (@OfNat.ofNat.{0} @Int (nat_lit 0) (@instOfNat (nat_lit 0))) 0), (@Value.int (@OfNat.ofNat.{0} @Int (nat_lit 0) (@instOfNat (nat_lit 0))) 0), (@Value.int (@OfNat.ofNat.{0} @Int (nat_lit 3) (@instOfNat (nat_lit 3))) 0), (@Value.ref 15), (@Value.bool @Bool.true), (@Value.int (@OfNat.ofNat.{0} @Int (nat_lit 181) (@instOfNat (nat_lit 181))) 0), (@Value.ref 16), @Value.none, (@Value.ref 17), (@Value.ref 18), (@Value.ref 19), (@Value.int (@OfNat.ofNat.{0} @Int (nat_lit 191) (@instOfNat (nat_lit 191))) 0), (@Value.int (@OfNat.ofNat.{0} @Int (nat_lit 1) (@instOfNat (nat_lit 1))) 0), (@Value.str (hStr "/claim/cut.py") 192)])) (hArr []))
noncomputable def ho12 (p : Params) : Obj := (@Obj.mk (@Value.type "function") none (@Data.func (@FuncData.mk (hStr "_wall") (hStr "_wall") (fnA 0) (@FuncBody.stmts (fnB 0)) (fnS 0) 3 [] @Value.none @Value.none @Value.none (@Value.str (hStr "__main__") 164) none (@Value.ref 20) @Value.none 0)) (hArr []))
noncomputable def ho13 (p : Params) : Obj := (@Obj.mk (@Value.type "tuple") none (@Data.seq (hArr []) 0) (hArr []))
noncomputable def ho14 (p : Params) : Obj := (@Obj.mk @Value.none none (@Data.fields (hArr [])) (hArr []))
noncomputable def ho15 (p : Params) : Obj := (@Obj.mk (@Value.type "tuple") none (@Data.seq (hArr [(@Value.str (hStr "v") 199), (@Value.str (hStr "name") 200)]) 0) (hArr []))
noncomputable def ho16 (p : Params) : Obj := (@Obj.mk (@Value.type "tuple") none (@Data.seq (hArr []) 0) (hArr []))
noncomputable def ho17 (p : Params) : Obj := (@Obj.mk @Value.none none (@Data.func (@FuncData.mk (hStr "get_attr") (hStr "get_attr") (fnA 2) (@FuncBody.stmts (fnB 2)) (fnS 2) 0 [] @Value.none @Value.none @Value.none @Value.none none @Value.none @Value.none 0)) (hArr []))
noncomputable def ho18 (p : Params) : Obj := (@Obj.mk (@Value.type "code") none (@Data.fields (hArr [(@Value.str (hStr "get_attr") 196), (@Value.str (hStr "get_attr") 197), (@Value.str (hStr "/claim/cut.py") 198), (@Value.int (@OfNat.ofNat.{0} @Int (nat_lit 5) (@instOfNat (nat_lit 5))) 0), (@Value.int (@OfNat.ofNat.{0} @Int (nat_lit 2) (@instOfNat (nat_lit 2))) 0), (@Value.int (@OfNat.ofNat.{0} @Int (nat_lit 0) (@instOfNat (nat_lit 0))) 0), (@Value.int (@OfNat.ofNat.{0} @Int (nat_lit 0) (@instOfNat (nat_lit 0))) 0), (@Value.int (@OfNat.ofNat.{0} @Int (nat_lit 3) (@instOfNat (nat_lit 3))) 0), (@Value.ref 22), (@Value.bool @Bool.true), (@Value.int (@OfNat.ofNat.{0} @Int (nat_lit 181) (@instOfNat (nat_lit 181))) 0), (@Value.ref 23), @Value.none, (@Value.ref 24), (@Value.ref 25), (@Value.ref 26), (@Value.int (@OfNat.ofNat.{0} @Int (nat_lit 201) (@instOfNat (nat_lit 201))) 0), (@Value.int (@OfNat.ofNat.{0} @Int (nat_lit 5) (@instOfNat (nat_lit 5))) 0), (@Value.str (hStr "/claim/cut.py") 202)])) (hArr []))
noncomputable def ho19 (p : Params) : Obj := (@Obj.mk (@Value.type "function") none (@Data.func (@FuncData.mk (hStr "get_attr") (hStr "get_attr") (fnA 2) (@FuncBody.stmts (fnB 2)) (fnS 2) 3 [] @Value.none @Value.none @Value.none (@Value.str (hStr "vectorcove.attrs") 194) none (@Value.ref 27) @Value.none 0)) (hArr []))
noncomputable def ho20 (p : Params) : Obj := (@Obj.mk (@Value.type "tuple") none (@Data.seq (hArr []) 0) (hArr []))
noncomputable def ho21 (p : Params) : Obj := (@Obj.mk @Value.none none (@Data.fields (hArr [])) (hArr []))
noncomputable def ho22 (p : Params) : Obj := (@Obj.mk @Value.none none (@Data.func (@FuncData.mk (hStr "names_of") (hStr "names_of") (fnA 3) (@FuncBody.stmts (fnB 3)) (fnS 3) 0 [] @Value.none @Value.none @Value.none @Value.none none @Value.none @Value.none 0)) (hArr []))
noncomputable def ho23 (p : Params) : Obj := (@Obj.mk (@Value.type "code") none (@Data.fields (hArr [(@Value.str (hStr "names_of") 204), (@Value.str (hStr "names_of") 205), (@Value.str (hStr "/claim/cut.py") 206), (@Value.int (@OfNat.ofNat.{0} @Int (nat_lit 9) (@instOfNat (nat_lit 9))) 0), (@Value.int (@OfNat.ofNat.{0} @Int (nat_lit 1) (@instOfNat (nat_lit 1))) 0), (@Value.int (@OfNat.ofNat.{0} @Int (nat_lit 0) (@instOfNat (nat_lit 0))) 0), (@Value.int (@OfNat.ofNat.{0} @Int (nat_lit 0) (@instOfNat (nat_lit 0))) 0), (@Value.int (@OfNat.ofNat.{0} @Int (nat_lit 3) (@instOfNat (nat_lit 3))) 0), (@Value.ref 29), (@Value.bool @Bool.true), (@Value.int (@OfNat.ofNat.{0} @Int (nat_lit 181) (@instOfNat (nat_lit 181))) 0), (@Value.ref 30), @Value.none, @Value.none, @Value.none, (@Value.ref 31), (@Value.int (@OfNat.ofNat.{0} @Int (nat_lit 207) (@instOfNat (nat_lit 207))) 0), (@Value.int (@OfNat.ofNat.{0} @Int (nat_lit 9) (@instOfNat (nat_lit 9))) 0), (@Value.str (hStr "/claim/cut.py") 208)])) (hArr []))
noncomputable def ho24 (p : Params) : Obj := (@Obj.mk (@Value.type "function") none (@Data.func (@FuncData.mk (hStr "names_of") (hStr "names_of") (fnA 3) (@FuncBody.stmts (fnB 3)) (fnS 3) 3 [] @Value.none @Value.none @Value.none (@Value.str (hStr "vectorcove.attrs") 194) none (@Value.ref 32) @Value.none 0)) (hArr []))
noncomputable def ho25 (p : Params) : Obj := (@Obj.mk (@Value.type "tuple") none (@Data.seq (hArr []) 0) (hArr []))
noncomputable def ho26 (p : Params) : Obj := (@Obj.mk @Value.none none (@Data.fields (hArr [])) (hArr []))
noncomputable def ho27 (p : Params) : Obj := (@Obj.mk (@Value.type "tuple") none (@Data.seq (hArr [(@Value.str (hStr "v") 213), (@Value.str (hStr "dims") 214)]) 0) (hArr []))
noncomputable def ho28 (p : Params) : Obj := (@Obj.mk (@Value.type "tuple") none (@Data.seq (hArr []) 0) (hArr []))
noncomputable def ho29 (p : Params) : Obj := (@Obj.mk @Value.none none (@Data.func (@FuncData.mk (hStr "dim_of") (hStr "dim_of") (fnA 4) (@FuncBody.stmts (fnB 4)) (fnS 4) 0 [] @Value.none @Value.none @Value.none @Value.none none @Value.none @Value.none 0)) (hArr []))
noncomputable def ho30 (p : Params) : Obj := (@Obj.mk (@Value.type "code") none (@Data.fields (hArr [(@Value.str (hStr "dim_of") 210), (@Value.str (hStr "dim_of") 211), (@Value.str (hStr "/claim/cut.py") 212), (@Value.int (@OfNat.ofNat.{0} @Int (nat_lit 25) (@instOfNat (nat_lit 25))) 0), (@Value.int (@OfNat.ofNat.{0} @Int (nat_lit 1) (@instOfNat (nat_lit 1))) 0), (@Value.int (@OfNat.ofNat.{0} @Int (nat_lit 0) (@instOfNat (nat_lit 0))) 0), (@Value.int (@OfNat.ofNat.{0} @Int (nat_lit 0) (@instOfNat (nat_lit 0))) 0), (@Value.int (@OfNat.ofNat.{0} @Int (nat_lit 3) (@instOfNat (nat_lit 3))) 0), (@Value.ref 34), (@Value.bool @Bool.true), (@Value.int (@OfNat.ofNat.{0} @Int (nat_lit 181) (@instOfNat (nat_lit 181))) 0), (@Value.ref 35), @Value.none, (@Value.ref 36), (@Value.ref 37), (@Value.ref 38), (@Value.int (@OfNat.ofNat.{0} @Int (nat_lit 215) (@instOfNat (nat_lit 215))) 0), (@Value.int (@OfNat.ofNat.{0} @Int (nat_lit 25) (@instOfNat (nat_lit 25))) 0), (@Value.str (hStr "/claim/cut.py") 216)])) (hArr []))
noncomputable def ho31 (p : Params) : Obj := (@Obj.mk (@Value.type "function") none (@Data.func (@FuncData.mk (hStr "dim_of") (hStr "dim_of") (fnA 4) (@FuncBody.stmts (fnB 4)) (fnS 4) 3 [] @Value.none @Value.none @Value.none (@Value.str (hStr "vectorcove.attrs") 194) none (@Value.ref 39) @Value.none 0)) (hArr []))
noncomputable def ho32 (p : Params) : Obj := (@Obj.mk (@Value.type "tuple") none (@Data.seq (hArr []) 0) (hArr []))
noncomputable def ho33 (p : Params) : Obj := (@Obj.mk @Value.none none (@Data.fields (hArr [])) (hArr []))
noncomputable def ho34 (p : Params) : Obj := (@Obj.mk @Value.none none (@Data.func (@FuncData.mk (hStr "dimnames_of") (hStr "dimnames_of") (fnA 5) (@FuncBody.stmts (fnB 5)) (fnS 5) 0 [] @Value.none @Value.none @Value.none @Value.none none @Value.none @Value.none 0)) (hArr []))
noncomputable def ho35 (p : Params) : Obj := (@Obj.mk (@Value.type "code") none (@Data.fields (hArr [(@Value.str (hStr "dimnames_of") 218), (@Value.str (hStr "dimnames_of") 219), (@Value.str (hStr "/claim/cut.py") 220), (@Value.int (@OfNat.ofNat.{0} @Int (nat_lit 30) (@instOfNat (nat_lit 30))) 0), (@Value.int (@OfNat.ofNat.{0} @Int (nat_lit 1) (@instOfNat (nat_lit 1))) 0), (@Value.int (@OfNat.ofNat.{0} @Int (nat_lit 0) (@instOfNat (nat_lit 0))) 0), (@Value.int (@OfNat.ofNat.{0} @Int (nat_lit 0) (@instOfNat (nat_lit 0))) 0), (@Value.int (@OfNat.ofNat.{0} @Int (nat_lit 3) (@instOfNat (nat_lit 3))) 0), (@Value.ref 41), (@Value.bool @Bool.true), (@Value.int (@OfNat.ofNat.{0} @Int (nat_lit 181) (@instOfNat (nat_lit 181))) 0), (@Value.ref 42), @Value.none, @Value.none, @Value.none, (@Value.ref 43), (@Value.int (@OfNat.ofNat.{0} @Int (nat_lit 221) (@instOfNat (nat_lit 221))) 0), (@Value.int (@OfNat.ofNat.{0} @Int (nat_lit 30) (@instOfNat (nat_lit 30))) 0), (@Value.str (hStr "/claim/cut.py") 222)])) (hArr []))
noncomputable def ho36 (p : Params) : Obj := (@Obj.mk (@Value.type "function") none (@Data.func (@FuncData.mk (hStr "dimnames_of") (hStr "dimnames_of") (fnA 5) (@FuncBody.stmts (fnB 5)) (fnS 5) 3 [] @Value.none @Value.none @Value.none (@Value.str (hStr "vectorcove.attrs") 194) none (@Value.ref 44) @Value.none 0)) (hArr []))
noncomputable def ht15 (p : Params) : BT := BT.node (ho22 p) BT.nil BT.nil
noncomputable def ht16 (p : Params) : BT := BT.node (ho6 p) (ht15 p) BT.nil
noncomputable def ht17 (p : Params) : BT := BT.node (ho30 p) BT.nil BT.nil
noncomputable def ht18 (p : Params) : BT := BT.node (ho14 p) (ht17 p) BT.nil
noncomputable def ht19 (p : Params) : BT := BT.node (boot_o_7 p) (ht16 p) (ht18 p)
noncomputable def ht20 (p : Params) : BT := BT.node (ho26 p) BT.nil BT.nil
noncomputable def ht21 (p : Params) : BT := BT.node (ho10 p) (ht20 p) BT.nil
noncomputable def ht22 (p : Params) : BT := BT.node (ho34 p) BT.nil BT.nil
noncomputable def ht23 (p : Params) : BT := BT.node (ho18 p) (ht22 p) BT.nil
noncomputable def ht24 (p : Params) : BT := BT.node (ho0 p) (ht21 p) (ht23 p)
noncomputable def ht25 (p : Params) : BT := BT.node (ho4 p) (ht19 p) (ht24 p)
noncomputable def ht26 (p : Params) : BT := BT.node (ho24 p) BT.nil BT.nil
noncomputable def ht27 (p : Params) : BT := BT.node (ho8 p) (ht26 p) BT.nil
noncomputable def ht28 (p : Params) : BT := BT.node (ho32 p) BT.nil BT.nil
noncomputable def ht29 (p : Params) : BT := BT.node (ho16 p) (ht28 p) BT.nil
noncomputable def ht30 (p : Params) : BT := BT.node (boot_o_9 p) (ht27 p) (ht29 p)
noncomputable def ht31 (p : Params) : BT := BT.node (ho28 p) BT.nil BT.nil
noncomputable def ht32 (p : Params) : BT := BT.node (ho12 p) (ht31 p) BT.nil
noncomputable def ht33 (p : Params) : BT := BT.node (ho36 p) BT.nil BT.nil
noncomputable def ht34 (p : Params) : BT := BT.node (ho20 p) (ht33 p) BT.nil
noncomputable def ht35 (p : Params) : BT := BT.node (ho2 p) (ht32 p) (ht34 p)
noncomputable def ht36 (p : Params) : BT := BT.node (boot_o_5 p) (ht30 p) (ht35 p)
noncomputable def ht37 (p : Params) : BT := BT.node (boot_o_1 p) (ht25 p) (ht36 p)
noncomputable def ht38 (p : Params) : BT := BT.node (ho23 p) BT.nil BT.nil
noncomputable def ht39 (p : Params) : BT := BT.node (ho7 p) (ht38 p) BT.nil
noncomputable def ht40 (p : Params) : BT := BT.node (ho31 p) BT.nil BT.nil
noncomputable def ht41 (p : Params) : BT := BT.node (ho15 p) (ht40 p) BT.nil
noncomputable def ht42 (p : Params) : BT := BT.node (boot_o_8 p) (ht39 p) (ht41 p)
noncomputable def ht43 (p : Params) : BT := BT.node (ho27 p) BT.nil BT.nil
noncomputable def ht44 (p : Params) : BT := BT.node (ho11 p) (ht43 p) BT.nil
noncomputable def ht45 (p : Params) : BT := BT.node (ho35 p) BT.nil BT.nil
noncomputable def ht46 (p : Params) : BT := BT.node (ho19 p) (ht45 p) BT.nil
noncomputable def ht47 (p : Params) : BT := BT.node (ho5 p) (ht44 p) (ht46 p)
noncomputable def ht48 (p : Params) : BT := BT.node (boot_o_4 p) (ht42 p) (ht47 p)
noncomputable def ht49 (p : Params) : BT := BT.node (ho25 p) BT.nil BT.nil
noncomputable def ht50 (p : Params) : BT := BT.node (ho9 p) (ht49 p) BT.nil
noncomputable def ht51 (p : Params) : BT := BT.node (ho33 p) BT.nil BT.nil
noncomputable def ht52 (p : Params) : BT := BT.node (ho17 p) (ht51 p) BT.nil
noncomputable def ht53 (p : Params) : BT := BT.node (boot_o_10 p) (ht50 p) (ht52 p)
noncomputable def ht54 (p : Params) : BT := BT.node (ho29 p) BT.nil BT.nil
noncomputable def ht55 (p : Params) : BT := BT.node (ho13 p) (ht54 p) BT.nil
noncomputable def ht56 (p : Params) : BT := BT.node (ho21 p) BT.nil BT.nil
noncomputable def ht57 (p : Params) : BT := BT.node (ho3 p) (ht55 p) (ht56 p)
noncomputable def ht58 (p : Params) : BT := BT.node (boot_o_6 p) (ht53 p) (ht57 p)
noncomputable def ht59 (p : Params) : BT := BT.node (boot_o_2 p) (ht48 p) (ht58 p)
noncomputable def ht60 (p : Params) : BT := BT.node (boot_o_0 p) (ht37 p) (ht59 p)
noncomputable def hS1 (w : World) (os : OsState) : SharedT := SharedT.mk ((fun (p : Params) => (ht60 p)) w.params) 46 (@Life.mk [] [] [] 0 [] [] @Bool.false (hArr []) [] 0 @Bool.false @Bool.false @Bool.false (@OfNat.ofNat.{0} @Int (nat_lit 0) (@instOfNat (nat_lit 0))) [(@OfNat.ofNat.{0} @Int (nat_lit 2000) (@instOfNat (nat_lit 2000))), (@OfNat.ofNat.{0} @Int (nat_lit 10) (@instOfNat (nat_lit 10))), (@OfNat.ofNat.{0} @Int (nat_lit 10) (@instOfNat (nat_lit 10)))] @Bool.false 0 @Bool.true [] [] 0 @Bool.false) (hArr []) (@Drawn.mk 0 0 0 0) 226 os
noncomputable def hq1 : Pos := (@Pos.mk 35 0 35 8)
noncomputable def hs1 : List Stmt := [stm 7]
noncomputable def ho37 (p : Params) : Obj := (@Obj.mk @Value.none none (@Data.dict (hArr [(@DictEntry.mk (@PyData.keyHash p (hStr "type.__subclasses__.Exception.0")) (@Value.str (hStr "type.__subclasses__.Exception.0") 242) (@Value.int (@OfNat.ofNat.{0} @Int (nat_lit 55) (@instOfNat (nat_lit 55))) 0)), (@DictEntry.mk (@PyData.keyHash p (hStr "type.__subclasses__.Exception.n")) (@Value.str (hStr "type.__subclasses__.Exception.n") 243) (@Value.int (@OfNat.ofNat.{0} @Int (nat_lit 1) (@instOfNat (nat_lit 1))) 0))]) 2) (hArr []))
noncomputable def ho38 (p : Params) : Obj := (@Obj.mk (@Value.type "dict") none (@Data.dict (hArr [(@DictEntry.mk (@PyData.keyHash p (hStr "__name__")) (@Value.str (hStr "__name__") 165) (@Value.str (hStr "vectorcove.errors") 224)), (@DictEntry.mk (@PyData.keyHash p (hStr "__doc__")) (@Value.str (hStr "__doc__") 166) @Value.none), (@DictEntry.mk (@PyData.keyHash p (hStr "__package__")) (@Value.str (hStr "__package__") 167) @Value.none), (@DictEntry.mk (@PyData.keyHash p (hStr "__loader__")) (@Value.str (hStr "__loader__") 168) (@Value.builtin "__main__.__loader__#opaque")), (@DictEntry.mk (@PyData.keyHash p (hStr "__spec__")) (@Value.str (hStr "__spec__") 169) @Value.none), (@DictEntry.mk (@PyData.keyHash p (hStr "__annotations__")) (@Value.str (hStr "__annotations__") 170) (@Value.ref 6)), (@DictEntry.mk (@PyData.keyHash p (hStr "__builtins__")) (@Value.str (hStr "__builtins__") 171) (@Value.ref 4)), (@DictEntry.mk (@PyData.keyHash p (hStr "__file__")) (@Value.str (hStr "__file__") 173) (@Value.str (hStr "/claim/cut.py") 172)), (@DictEntry.mk (@PyData.keyHash p (hStr "__cached__")) (@Value.str (hStr "__cached__") 174) @Value.none), (@DictEntry.mk (@PyData.keyHash p (hStr "_wall")) (@Value.str (hStr "_wall") 193) (@Value.ref 21)), (@DictEntry.mk (@PyData.keyHash p (hStr "get_attr")) (@Value.str (hStr "get_attr") 203) (@Value.ref 28)), (@DictEntry.mk (@PyData.keyHash p (hStr "names_of")) (@Value.str (hStr "names_of") 209) (@Value.ref 33)), (@DictEntry.mk (@PyData.keyHash p (hStr "dim_of")) (@Value.str (hStr "dim_of") 217) (@Value.ref 40)), (@DictEntry.mk (@PyData.keyHash p (hStr "dimnames_of")) (@Value.str (hStr "dimnames_of") 223) (@Value.ref 45)), (@DictEntry.mk (@PyData.keyHash p (hStr "CoveError")) (@Value.str (hStr "CoveError") 245) (@Value.ref 55))]) 15) (hArr []))
noncomputable def ho39 (p : Params) : Obj := (@Obj.mk @Value.none none (@Data.fields (hArr [(@Value.int (@OfNat.ofNat.{0} @Int (nat_lit 1) (@instOfNat (nat_lit 1))) 0), (@Value.int (@OfNat.ofNat.{0} @Int (nat_lit 0) (@instOfNat (nat_lit 0))) 0), (@Value.ref 20), (@Value.int (@OfNat.ofNat.{0} @Int (nat_lit 5) (@instOfNat (nat_lit 5))) 0), (@Value.int (@OfNat.ofNat.{0} @Int (nat_lit 0) (@instOfNat (nat_lit 0))) 0), (@Value.ref 27), (@Value.int (@OfNat.ofNat.{0} @Int (nat_lit 9) (@instOfNat (nat_lit 9))) 0), (@Value.int (@OfNat.ofNat.{0} @Int (nat_lit 0) (@instOfNat (nat_lit 0))) 0), (@Value.ref 32), (@Value.int (@OfNat.ofNat.{0} @Int (nat_lit 25) (@instOfNat (nat_lit 25))) 0), (@Value.int (@OfNat.ofNat.{0} @Int (nat_lit 0) (@instOfNat (nat_lit 0))) 0), (@Value.ref 39), (@Value.int (@OfNat.ofNat.{0} @Int (nat_lit 30) (@instOfNat (nat_lit 30))) 0), (@Value.int (@OfNat.ofNat.{0} @Int (nat_lit 0) (@instOfNat (nat_lit 0))) 0), (@Value.ref 44), (@Value.int (@OfNat.ofNat.{0} @Int (nat_lit 36) (@instOfNat (nat_lit 36))) 0), (@Value.int (@OfNat.ofNat.{0} @Int (nat_lit 0) (@instOfNat (nat_lit 0))) 0), (@Value.ref 51)])) (hArr []))
noncomputable def ho40 (p : Params) : Obj := (@Obj.mk (@Value.type "tuple") none (@Data.seq (hArr [(@Value.type "Exception")]) 0) (hArr []))
noncomputable def ho41 (p : Params) : Obj := (@Obj.mk (@Value.type "builtin_function_or_method") none (@Data.fields (hArr [(@Value.builtin "type.__prepare__"), (@Value.type "type")])) (hArr []))
noncomputable def ho42 (p : Params) : Obj := (@Obj.mk (@Value.type "dict") none (@Data.dict (hArr [(@DictEntry.mk (@PyData.keyHash p (hStr "__module__")) (@Value.str (hStr "__module__") 233) (@Value.str (hStr "vectorcove.errors") 224)), (@DictEntry.mk (@PyData.keyHash p (hStr "__qualname__")) (@Value.str (hStr "__qualname__") 235) (@Value.str (hStr "CoveError") 234)), (@DictEntry.mk (@PyData.keyHash p (hStr "__firstlineno__")) (@Value.str (hStr "__firstlineno__") 237) (@Value.int (@OfNat.ofNat.{0} @Int (nat_lit 36) (@instOfNat (nat_lit 36))) 236)), (@DictEntry.mk (@PyData.keyHash p (hStr "__static_attributes__")) (@Value.str (hStr "__static_attributes__") 238) (@Value.ref 53))]) 4) (hArr []))
noncomputable def ho43 (p : Params) : Obj := (@Obj.mk (@Value.type "tuple") none (@Data.seq (hArr []) 0) (hArr []))
noncomputable def ho44 (p : Params) : Obj := (@Obj.mk @Value.none none (@Data.fields (hArr [])) (hArr []))
noncomputable def ho45 (p : Params) : Obj := (@Obj.mk (@Value.type "code") none (@Data.fields (hArr [(@Value.str (hStr "CoveError") 228), (@Value.str (hStr "CoveError") 229), (@Value.str (hStr "/claim/cut.py") 230), (@Value.int (@OfNat.ofNat.{0} @Int (nat_lit 36) (@instOfNat (nat_lit 36))) 0), (@Value.int (@OfNat.ofNat.{0} @Int (nat_lit 0) (@instOfNat (nat_lit 0))) 0), (@Value.int (@OfNat.ofNat.{0} @Int (nat_lit 0) (@instOfNat (nat_lit 0))) 0), (@Value.int (@OfNat.ofNat.{0} @Int (nat_lit 0) (@instOfNat (nat_lit 0))) 0), (@Value.int (@OfNat.ofNat.{0} @Int (nat_lit 0) (@instOfNat (nat_lit 0))) 0), (@Value.ref 49), (@Value.bool @Bool.false), (@Value.int (@OfNat.ofNat.{0} @Int (nat_lit 181) (@instOfNat (nat_lit 181))) 0), (@Value.ref 50), @Value.none, @Value.none, @Value.none, @Value.none, (@Value.int (@OfNat.ofNat.{0} @Int (nat_lit 231) (@instOfNat (nat_lit 231))) 0), (@Value.int (@OfNat.ofNat.{0} @Int (nat_lit 36) (@instOfNat (nat_lit 36))) 0), (@Value.str (hStr "/claim/cut.py") 232)])) (hArr []))
noncomputable def ho46 (p : Params) : Obj := (@Obj.mk (@Value.type "frame") none @Data.plain (hArr [(some (@Value.ref 51)), (some (@Value.ref 3)), (some (@Value.ref 48)), none, (some (@Value.str (hStr "vectorcove.errors") 224)), none, (some (@Value.ref 0))]))
noncomputable def ho47 (p : Params) : Obj := (@Obj.mk (@Value.type "tuple") none (@Data.seq (hArr []) 0) (hArr []))
noncomputable def ho48 (p : Params) : Obj := (@Obj.mk (@Value.type "dict") none (@Data.dict (hArr [(@DictEntry.mk (@PyData.keyHash p (hStr "__module__")) (@Value.str (hStr "__module__") 233) (@Value.str (hStr "vectorcove.errors") 224)), (@DictEntry.mk (@PyData.keyHash p (hStr "__firstlineno__")) (@Value.str (hStr "__firstlineno__") 237) (@Value.int (@OfNat.ofNat.{0} @Int (nat_lit 36) (@instOfNat (nat_lit 36))) 236)), (@DictEntry.mk (@PyData.keyHash p (hStr "__static_attributes__")) (@Value.str (hStr "__static_attributes__") 238) (@Value.ref 53)), (@DictEntry.mk (@PyData.keyHash p (hStr "__weakref__")) (@Value.str (hStr "__weakref__") 240) (@Value.ref 56)), (@DictEntry.mk (@PyData.keyHash p (hStr "__doc__")) (@Value.str (hStr "__doc__") 241) @Value.none)]) 3) (hArr []))
noncomputable def ho49 (p : Params) : Obj := (@Obj.mk (@Value.type "type") none (@Data.cls (@ClassData.mk (hStr "CoveError") [(@Value.type "Exception")] [(@Value.ref 55), (@Value.type "Exception"), (@Value.type "BaseException"), (@Value.type "object")] 54 (hStr "CoveError") @Bool.true [] [] @Bool.false none @Bool.false)) (hArr [(some (@Value.ref 46)), none, (some (@Value.str (hStr "CoveError") 226)), (some (@Value.str (hStr "CoveError") 234)), (some (@Value.builtin "Exception.__new__")), (some (@Value.bool @Bool.true))]))
noncomputable def ho50 (p : Params) : Obj := (@Obj.mk (@Value.type "getset_descriptor") none (@Data.fields (hArr [(@Value.str (hStr "__weakref__") 239), (@Value.ref 55), (@Value.builtin "ExceptionGroup.__weakref__"), @Value.none])) (hArr []))
noncomputable def ho51 (p : Params) : Obj := (@Obj.mk (@Value.type "super") none (@Data.fields (hArr [(@Value.ref 55), (@Value.ref 55), (@Value.ref 55)])) (hArr []))
noncomputable def ho52 (p : Params) : Obj := (@Obj.mk (@Value.type "builtin_function_or_method") none (@Data.fields (hArr [(@Value.builtin "object.__init_subclass__"), (@Value.ref 55)])) (hArr []))
noncomputable def ht61 (p : Params) : BT := BT.node (ho41 p) BT.nil BT.nil
noncomputable def ht62 (p : Params) : BT := BT.node (ho6 p) (ht15 p) (ht61 p)
noncomputable def ht63 (p : Params) : BT := BT.node (ho49 p) BT.nil BT.nil
noncomputable def ht64 (p : Params) : BT := BT.node (ho14 p) (ht17 p) (ht63 p)
noncomputable def ht65 (p : Params) : BT := BT.node (boot_o_7 p) (ht62 p) (ht64 p)
noncomputable def ht66 (p : Params) : BT := BT.node (ho45 p) BT.nil BT.nil
noncomputable def ht67 (p : Params) : BT := BT.node (ho10 p) (ht20 p) (ht66 p)
noncomputable def ht68 (p : Params) : BT := BT.node (ho0 p) (ht67 p) (ht23 p)
noncomputable def ht69 (p : Params) : BT := BT.node (ho38 p) (ht65 p) (ht68 p)
noncomputable def ht70 (p : Params) : BT := BT.node (ho43 p) BT.nil BT.nil
noncomputable def ht71 (p : Params) : BT := BT.node (ho8 p) (ht26 p) (ht70 p)
noncomputable def ht72 (p : Params) : BT := BT.node (ho51 p) BT.nil BT.nil
noncomputable def ht73 (p : Params) : BT := BT.node (ho16 p) (ht28 p) (ht72 p)
noncomputable def ht74 (p : Params) : BT := BT.node (boot_o_9 p) (ht71 p) (ht73 p)
noncomputable def ht75 (p : Params) : BT := BT.node (ho47 p) BT.nil BT.nil
noncomputable def ht76 (p : Params) : BT := BT.node (ho12 p) (ht31 p) (ht75 p)
noncomputable def ht77 (p : Params) : BT := BT.node (ho2 p) (ht76 p) (ht34 p)
noncomputable def ht78 (p : Params) : BT := BT.node (boot_o_5 p) (ht74 p) (ht77 p)
noncomputable def ht79 (p : Params) : BT := BT.node (boot_o_1 p) (ht69 p) (ht78 p)
noncomputable def ht80 (p : Params) : BT := BT.node (ho42 p) BT.nil BT.nil
noncomputable def ht81 (p : Params) : BT := BT.node (ho7 p) (ht38 p) (ht80 p)
noncomputable def ht82 (p : Params) : BT := BT.node (ho50 p) BT.nil BT.nil
noncomputable def ht83 (p : Params) : BT := BT.node (ho15 p) (ht40 p) (ht82 p)
noncomputable def ht84 (p : Params) : BT := BT.node (boot_o_8 p) (ht81 p) (ht83 p)
noncomputable def ht85 (p : Params) : BT := BT.node (ho46 p) BT.nil BT.nil
noncomputable def ht86 (p : Params) : BT := BT.node (ho11 p) (ht43 p) (ht85 p)
noncomputable def ht87 (p : Params) : BT := BT.node (ho39 p) (ht86 p) (ht46 p)
noncomputable def ht88 (p : Params) : BT := BT.node (boot_o_4 p) (ht84 p) (ht87 p)
noncomputable def ht89 (p : Params) : BT := BT.node (ho44 p) BT.nil BT.nil
noncomputable def ht90 (p : Params) : BT := BT.node (ho9 p) (ht49 p) (ht89 p)
noncomputable def ht91 (p : Params) : BT := BT.node (ho52 p) BT.nil BT.nil
noncomputable def ht92 (p : Params) : BT := BT.node (ho17 p) (ht51 p) (ht91 p)
noncomputable def ht93 (p : Params) : BT := BT.node (boot_o_10 p) (ht90 p) (ht92 p)
noncomputable def ht94 (p : Params) : BT := BT.node (ho48 p) BT.nil BT.nil
noncomputable def ht95 (p : Params) : BT := BT.node (ho13 p) (ht54 p) (ht94 p)
noncomputable def ht96 (p : Params) : BT := BT.node (ho40 p) BT.nil BT.nil
noncomputable def ht97 (p : Params) : BT := BT.node (ho21 p) (ht96 p) BT.nil
noncomputable def ht98 (p : Params) : BT := BT.node (ho3 p) (ht95 p) (ht97 p)
noncomputable def ht99 (p : Params) : BT := BT.node (boot_o_6 p) (ht93 p) (ht98 p)
noncomputable def ht100 (p : Params) : BT := BT.node (ho37 p) (ht88 p) (ht99 p)
noncomputable def ht101 (p : Params) : BT := BT.node (boot_o_0 p) (ht79 p) (ht100 p)
noncomputable def hS2 (w : World) (os : OsState) : SharedT := SharedT.mk ((fun (p : Params) => (ht101 p)) w.params) 59 (@Life.mk [] [] [] 0 [] [] @Bool.false (hArr []) [] 0 @Bool.false @Bool.false @Bool.false (@OfNat.ofNat.{0} @Int (nat_lit 0) (@instOfNat (nat_lit 0))) [(@OfNat.ofNat.{0} @Int (nat_lit 2000) (@instOfNat (nat_lit 2000))), (@OfNat.ofNat.{0} @Int (nat_lit 10) (@instOfNat (nat_lit 10))), (@OfNat.ofNat.{0} @Int (nat_lit 10) (@instOfNat (nat_lit 10)))] @Bool.false 0 @Bool.true [] [] 0 @Bool.false) (hArr []) (@Drawn.mk 0 0 0 0) 246 os
noncomputable def hq2 : Pos := (@Pos.mk 36 0 37 8)
noncomputable def hs2 : List Stmt := [stm 8, stm 9]
noncomputable def ho53 (p : Params) : Obj := (@Obj.mk (@Value.type "dict") none (@Data.dict (hArr [(@DictEntry.mk (@PyData.keyHash p (hStr "__name__")) (@Value.str (hStr "__name__") 165) (@Value.str (hStr "vectorcove.rational") 271)), (@DictEntry.mk (@PyData.keyHash p (hStr "__doc__")) (@Value.str (hStr "__doc__") 166) @Value.none), (@DictEntry.mk (@PyData.keyHash p (hStr "__package__")) (@Value.str (hStr "__package__") 167) @Value.none), (@DictEntry.mk (@PyData.keyHash p (hStr "__loader__")) (@Value.str (hStr "__loader__") 168) (@Value.builtin "__main__.__loader__#opaque")), (@DictEntry.mk (@PyData.keyHash p (hStr "__spec__")) (@Value.str (hStr "__spec__") 169) @Value.none), (@DictEntry.mk (@PyData.keyHash p (hStr "__annotations__")) (@Value.str (hStr "__annotations__") 170) (@Value.ref 6)), (@DictEntry.mk (@PyData.keyHash p (hStr "__builtins__")) (@Value.str (hStr "__builtins__") 171) (@Value.ref 4)), (@DictEntry.mk (@PyData.keyHash p (hStr "__file__")) (@Value.str (hStr "__file__") 173) (@Value.str (hStr "/claim/cut.py") 172)), (@DictEntry.mk (@PyData.keyHash p (hStr "__cached__")) (@Value.str (hStr "__cached__") 174) @Value.none), (@DictEntry.mk (@PyData.keyHash p (hStr "_wall")) (@Value.str (hStr "_wall") 193) (@Value.ref 21)), (@DictEntry.mk (@PyData.keyHash p (hStr "get_attr")) (@Value.str (hStr "get_attr") 203) (@Value.ref 28)), (@DictEntry.mk (@PyData.keyHash p (hStr "names_of")) (@Value.str (hStr "names_of") 209) (@Value.ref 33)), (@DictEntry.mk (@PyData.keyHash p (hStr "dim_of")) (@Value.str (hStr "dim_of") 217) (@Value.ref 40)), (@DictEntry.mk (@PyData.keyHash p (hStr "dimnames_of")) (@Value.str (hStr "dimnames_of") 223) (@Value.ref 45)), (@DictEntry.mk (@PyData.keyHash p (hStr "CoveError")) (@Value.str (hStr "CoveError") 245) (@Value.ref 55)), (@DictEntry.mk (@PyData.keyHash p (hStr "Refusal")) (@Value.str (hStr "Refusal") 270) (@Value.ref 75))]) 16) (hArr []))
noncomputable def ho54 (p : Params) : Obj := (@Obj.mk @Value.none none (@Data.fields (hArr [(@Value.int (@OfNat.ofNat.{0} @Int (nat_lit 1) (@instOfNat (nat_lit 1))) 0), (@Value.int (@OfNat.ofNat.{0} @Int (nat_lit 0) (@instOfNat (nat_lit 0))) 0), (@Value.ref 20), (@Value.int (@OfNat.ofNat.{0} @Int (nat_lit 5) (@instOfNat (nat_lit 5))) 0), (@Value.int (@OfNat.ofNat.{0} @Int (nat_lit 0) (@instOfNat (nat_lit 0))) 0), (@Value.ref 27), (@Value.int (@OfNat.ofNat.{0} @Int (nat_lit 9) (@instOfNat (nat_lit 9))) 0), (@Value.int (@OfNat.ofNat.{0} @Int (nat_lit 0) (@instOfNat (nat_lit 0))) 0), (@Value.ref 32), (@Value.int (@OfNat.ofNat.{0} @Int (nat_lit 25) (@instOfNat (nat_lit 25))) 0), (@Value.int (@OfNat.ofNat.{0} @Int (nat_lit 0) (@instOfNat (nat_lit 0))) 0), (@Value.ref 39), (@Value.int (@OfNat.ofNat.{0} @Int (nat_lit 30) (@instOfNat (nat_lit 30))) 0), (@Value.int (@OfNat.ofNat.{0} @Int (nat_lit 0) (@instOfNat (nat_lit 0))) 0), (@Value.ref 44), (@Value.int (@OfNat.ofNat.{0} @Int (nat_lit 36) (@instOfNat (nat_lit 36))) 0), (@Value.int (@OfNat.ofNat.{0} @Int (nat_lit 0) (@instOfNat (nat_lit 0))) 0), (@Value.ref 51), (@Value.int (@OfNat.ofNat.{0} @Int (nat_lit 38) (@instOfNat (nat_lit 38))) 0), (@Value.int (@OfNat.ofNat.{0} @Int (nat_lit 0) (@instOfNat (nat_lit 0))) 0), (@Value.ref 64)])) (hArr []))
noncomputable def ho55 (p : Params) : Obj := (@Obj.mk (@Value.type "type") none (@Data.cls (@ClassData.mk (hStr "CoveError") [(@Value.type "Exception")] [(@Value.ref 55), (@Value.type "Exception"), (@Value.type "BaseException"), (@Value.type "object")] 54 (hStr "CoveError") @Bool.true [] [(@Value.ref 75)] @Bool.false none @Bool.false)) (hArr [(some (@Value.ref 46)), none, (some (@Value.str (hStr "CoveError") 226)), (some (@Value.str (hStr "CoveError") 234)), (some (@Value.builtin "Exception.__new__")), (some (@Value.bool @Bool.true))]))
noncomputable def ho56 (p : Params) : Obj := (@Obj.mk (@Value.type "tuple") none (@Data.seq (hArr [(@Value.ref 55)]) 0) (hArr []))
noncomputable def ho57 (p : Params) : Obj := (@Obj.mk (@Value.type "builtin_function_or_method") none (@Data.fields (hArr [(@Value.builtin "type.__prepare__"), (@Value.type "type")])) (hArr []))
noncomputable def ho58 (p : Params) : Obj := (@Obj.mk (@Value.type "dict") none (@Data.dict (hArr [(@DictEntry.mk (@PyData.keyHash p (hStr "__module__")) (@Value.str (hStr "__module__") 253) (@Value.str (hStr "vectorcove.errors") 224)), (@DictEntry.mk (@PyData.keyHash p (hStr "__qualname__")) (@Value.str (hStr "__qualname__") 255) (@Value.str (hStr "Refusal") 254)), (@DictEntry.mk (@PyData.keyHash p (hStr "__firstlineno__")) (@Value.str (hStr "__firstlineno__") 257) (@Value.int (@OfNat.ofNat.{0} @Int (nat_lit 38) (@instOfNat (nat_lit 38))) 256)), (@DictEntry.mk (@PyData.keyHash p (hStr "__init__")) (@Value.str (hStr "__init__") 265) (@Value.ref 72)), (@DictEntry.mk (@PyData.keyHash p (hStr "__static_attributes__")) (@Value.str (hStr "__static_attributes__") 267) (@Value.ref 73))]) 5) (hArr []))
noncomputable def ho59 (p : Params) : Obj := (@Obj.mk (@Value.type "tuple") none (@Data.seq (hArr []) 0) (hArr []))
noncomputable def ho60 (p : Params) : Obj := (@Obj.mk @Value.none none (@Data.fields (hArr [(@Value.int (@OfNat.ofNat.{0} @Int (nat_lit 40) (@instOfNat (nat_lit 40))) 0), (@Value.int (@OfNat.ofNat.{0} @Int (nat_lit 4) (@instOfNat (nat_lit 4))) 0), (@Value.ref 71)])) (hArr []))
noncomputable def ho61 (p : Params) : Obj := (@Obj.mk (@Value.type "code") none (@Data.fields (hArr [(@Value.str (hStr "Refusal") 248), (@Value.str (hStr "Refusal") 249), (@Value.str (hStr "/claim/cut.py") 250), (@Value.int (@OfNat.ofNat.{0} @Int (nat_lit 38) (@instOfNat (nat_lit 38))) 0), (@Value.int (@OfNat.ofNat.{0} @Int (nat_lit 0) (@instOfNat (nat_lit 0))) 0), (@Value.int (@OfNat.ofNat.{0} @Int (nat_lit 0) (@instOfNat (nat_lit 0))) 0), (@Value.int (@OfNat.ofNat.{0} @Int (nat_lit 0) (@instOfNat (nat_lit 0))) 0), (@Value.int (@OfNat.ofNat.{0} @Int (nat_lit 0) (@instOfNat (nat_lit 0))) 0), (@Value.ref 62), (@Value.bool @Bool.false), (@Value.int (@OfNat.ofNat.{0} @Int (nat_lit 181) (@instOfNat (nat_lit 181))) 0), (@Value.ref 63), @Value.none, @Value.none, @Value.none, @Value.none, (@Value.int (@OfNat.ofNat.{0} @Int (nat_lit 251) (@instOfNat (nat_lit 251))) 0), (@Value.int (@OfNat.ofNat.{0} @Int (nat_lit 38) (@instOfNat (nat_lit 38))) 0), (@Value.str (hStr "/claim/cut.py") 252)])) (hArr []))
noncomputable def ho62 (p : Params) : Obj := (@Obj.mk (@Value.type "frame") none @Data.plain (hArr [(some (@Value.ref 64)), (some (@Value.ref 3)), (some (@Value.ref 61)), none, (some (@Value.str (hStr "vectorcove.errors") 224)), none, (some (@Value.ref 0))]))
noncomputable def ho63 (p : Params) : Obj := (@Obj.mk (@Value.type "tuple") none (@Data.seq (hArr []) 0) (hArr []))
noncomputable def ho64 (p : Params) : Obj := (@Obj.mk @Value.none none (@Data.fields (hArr [])) (hArr []))
noncomputable def ho65 (p : Params) : Obj := (@Obj.mk (@Value.type "tuple") none (@Data.seq (hArr [(@Value.str (hStr "self") 261), (@Value.str (hStr "message") 262)]) 0) (hArr []))
noncomputable def ho66 (p : Params) : Obj := (@Obj.mk (@Value.type "tuple") none (@Data.seq (hArr []) 0) (hArr []))
noncomputable def ho67 (p : Params) : Obj := (@Obj.mk @Value.none none (@Data.func (@FuncData.mk (hStr "__init__") (hStr "Refusal.__init__") (meA 8) (@FuncBody.stmts (meB 8)) (meS 8) 0 [] @Value.none @Value.none @Value.none @Value.none none @Value.none @Value.none 0)) (hArr []))
noncomputable def ho68 (p : Params) : Obj := (@Obj.mk (@Value.type "code") none (@Data.fields (hArr [(@Value.str (hStr "__init__") 258), (@Value.str (hStr "Refusal.__init__") 259), (@Value.str (hStr "/claim/cut.py") 260), (@Value.int (@OfNat.ofNat.{0} @Int (nat_lit 40) (@instOfNat (nat_lit 40))) 0), (@Value.int (@OfNat.ofNat.{0} @Int (nat_lit 2) (@instOfNat (nat_lit 2))) 0), (@Value.int (@OfNat.ofNat.{0} @Int (nat_lit 0) (@instOfNat (nat_lit 0))) 0), (@Value.int (@OfNat.ofNat.{0} @Int (nat_lit 0) (@instOfNat (nat_lit 0))) 0), (@Value.int (@OfNat.ofNat.{0} @Int (nat_lit 3) (@instOfNat (nat_lit 3))) 0), (@Value.ref 66), (@Value.bool @Bool.true), (@Value.int (@OfNat.ofNat.{0} @Int (nat_lit 181) (@instOfNat (nat_lit 181))) 0), (@Value.ref 67), @Value.none, (@Value.ref 68), (@Value.ref 69), (@Value.ref 70), (@Value.int (@OfNat.ofNat.{0} @Int (nat_lit 263) (@instOfNat (nat_lit 263))) 0), (@Value.int (@OfNat.ofNat.{0} @Int (nat_lit 40) (@instOfNat (nat_lit 40))) 0), (@Value.str (hStr "/claim/cut.py") 264)])) (hArr []))
noncomputable def ho69 (p : Params) : Obj := (@Obj.mk (@Value.type "function") none (@Data.func (@FuncData.mk (hStr "__init__") (hStr "Refusal.__init__") (meA 8) (@FuncBody.stmts (meB 8)) (meS 8) 3 [] @Value.none @Value.none @Value.none (@Value.str (hStr "vectorcove.errors") 224) none (@Value.ref 71) @Value.none 0)) (hArr []))
noncomputable def ho70 (p : Params) : Obj := (@Obj.mk (@Value.type "tuple") none (@Data.seq (hArr [(@Value.str (hStr "message") 266)]) 0) (hArr []))
noncomputable def ho71 (p : Params) : Obj := (@Obj.mk (@Value.type "dict") none (@Data.dict (hArr [(@DictEntry.mk (@PyData.keyHash p (hStr "__module__")) (@Value.str (hStr "__module__") 253) (@Value.str (hStr "vectorcove.errors") 224)), (@DictEntry.mk (@PyData.keyHash p (hStr "__firstlineno__")) (@Value.str (hStr "__firstlineno__") 257) (@Value.int (@OfNat.ofNat.{0} @Int (nat_lit 38) (@instOfNat (nat_lit 38))) 256)), (@DictEntry.mk (@PyData.keyHash p (hStr "__init__")) (@Value.str (hStr "__init__") 265) (@Value.ref 72)), (@DictEntry.mk (@PyData.keyHash p (hStr "__static_attributes__")) (@Value.str (hStr "__static_attributes__") 267) (@Value.ref 73)), (@DictEntry.mk (@PyData.keyHash p (hStr "__doc__")) (@Value.str (hStr "__doc__") 268) @Value.none)]) 2) (hArr []))
noncomputable def ho72 (p : Params) : Obj := (@Obj.mk (@Value.type "type") none (@Data.cls (@ClassData.mk (hStr "Refusal") [(@Value.ref 55)] [(@Value.ref 75), (@Value.ref 55), (@Value.type "Exception"), (@Value.type "BaseException"), (@Value.type "object")] 74 (hStr "Refusal") @Bool.true [] [] @Bool.false none @Bool.false)) (hArr [(some (@Value.ref 59)), none, (some (@Value.str (hStr "Refusal") 246)), (some (@Value.str (hStr "Refusal") 254)), (some (@Value.builtin "Exception.__new__")), (some (@Value.bool @Bool.true))]))
noncomputable def ho73 (p : Params) : Obj := (@Obj.mk (@Value.type "super") none (@Data.fields (hArr [(@Value.ref 75), (@Value.ref 75), (@Value.ref 75)])) (hArr []))
noncomputable def ho74 (p : Params) : Obj := (@Obj.mk (@Value.type "builtin_function_or_method") none (@Data.fields (hArr [(@Value.builtin "object.__init_subclass__"), (@Value.ref 75)])) (hArr []))
noncomputable def ht102 (p : Params) : BT := BT.node (ho60 p) BT.nil BT.nil
noncomputable def ht103 (p : Params) : BT := BT.node (ho22 p) (ht102 p) BT.nil
noncomputable def ht104 (p : Params) : BT := BT.node (ho6 p) (ht103 p) (ht61 p)
noncomputable def ht105 (p : Params) : BT := BT.node (ho68 p) BT.nil BT.nil
noncomputable def ht106 (p : Params) : BT := BT.node (ho30 p) (ht105 p) BT.nil
noncomputable def ht107 (p : Params) : BT := BT.node (ho55 p) BT.nil BT.nil
noncomputable def ht108 (p : Params) : BT := BT.node (ho14 p) (ht106 p) (ht107 p)
noncomputable def ht109 (p : Params) : BT := BT.node (boot_o_7 p) (ht104 p) (ht108 p)
noncomputable def ht110 (p : Params) : BT := BT.node (ho64 p) BT.nil BT.nil
noncomputable def ht111 (p : Params) : BT := BT.node (ho26 p) (ht110 p) BT.nil
noncomputable def ht112 (p : Params) : BT := BT.node (ho10 p) (ht111 p) (ht66 p)
noncomputable def ht113 (p : Params) : BT := BT.node (ho72 p) BT.nil BT.nil
noncomputable def ht114 (p : Params) : BT := BT.node (ho34 p) (ht113 p) BT.nil
noncomputable def ht115 (p : Params) : BT := BT.node (ho56 p) BT.nil BT.nil
noncomputable def ht116 (p : Params) : BT := BT.node (ho18 p) (ht114 p) (ht115 p)
noncomputable def ht117 (p : Params) : BT := BT.node (ho0 p) (ht112 p) (ht116 p)
noncomputable def ht118 (p : Params) : BT := BT.node (ho53 p) (ht109 p) (ht117 p)
noncomputable def ht119 (p : Params) : BT := BT.node (ho62 p) BT.nil BT.nil
noncomputable def ht120 (p : Params) : BT := BT.node (ho24 p) (ht119 p) BT.nil
noncomputable def ht121 (p : Params) : BT := BT.node (ho8 p) (ht120 p) (ht70 p)
noncomputable def ht122 (p : Params) : BT := BT.node (ho70 p) BT.nil BT.nil
noncomputable def ht123 (p : Params) : BT := BT.node (ho32 p) (ht122 p) BT.nil
noncomputable def ht124 (p : Params) : BT := BT.node (ho16 p) (ht123 p) (ht72 p)
noncomputable def ht125 (p : Params) : BT := BT.node (boot_o_9 p) (ht121 p) (ht124 p)
noncomputable def ht126 (p : Params) : BT := BT.node (ho66 p) BT.nil BT.nil
noncomputable def ht127 (p : Params) : BT := BT.node (ho28 p) (ht126 p) BT.nil
noncomputable def ht128 (p : Params) : BT := BT.node (ho12 p) (ht127 p) (ht75 p)
noncomputable def ht129 (p : Params) : BT := BT.node (ho74 p) BT.nil BT.nil
noncomputable def ht130 (p : Params) : BT := BT.node (ho36 p) (ht129 p) BT.nil
noncomputable def ht131 (p : Params) : BT := BT.node (ho58 p) BT.nil BT.nil
noncomputable def ht132 (p : Params) : BT := BT.node (ho20 p) (ht130 p) (ht131 p)
noncomputable def ht133 (p : Params) : BT := BT.node (ho2 p) (ht128 p) (ht132 p)
noncomputable def ht134 (p : Params) : BT := BT.node (boot_o_5 p) (ht125 p) (ht133 p)
noncomputable def ht135 (p : Params) : BT := BT.node (boot_o_1 p) (ht118 p) (ht134 p)
noncomputable def ht136 (p : Params) : BT := BT.node (ho61 p) BT.nil BT.nil
noncomputable def ht137 (p : Params) : BT := BT.node (ho23 p) (ht136 p) BT.nil
noncomputable def ht138 (p : Params) : BT := BT.node (ho7 p) (ht137 p) (ht80 p)
noncomputable def ht139 (p : Params) : BT := BT.node (ho69 p) BT.nil BT.nil
noncomputable def ht140 (p : Params) : BT := BT.node (ho31 p) (ht139 p) BT.nil
noncomputable def ht141 (p : Params) : BT := BT.node (ho15 p) (ht140 p) (ht82 p)
noncomputable def ht142 (p : Params) : BT := BT.node (boot_o_8 p) (ht138 p) (ht141 p)
noncomputable def ht143 (p : Params) : BT := BT.node (ho65 p) BT.nil BT.nil
noncomputable def ht144 (p : Params) : BT := BT.node (ho27 p) (ht143 p) BT.nil
noncomputable def ht145 (p : Params) : BT := BT.node (ho11 p) (ht144 p) (ht85 p)
noncomputable def ht146 (p : Params) : BT := BT.node (ho73 p) BT.nil BT.nil
noncomputable def ht147 (p : Params) : BT := BT.node (ho35 p) (ht146 p) BT.nil
noncomputable def ht148 (p : Params) : BT := BT.node (ho57 p) BT.nil BT.nil
noncomputable def ht149 (p : Params) : BT := BT.node (ho19 p) (ht147 p) (ht148 p)
noncomputable def ht150 (p : Params) : BT := BT.node (ho54 p) (ht145 p) (ht149 p)
noncomputable def ht151 (p : Params) : BT := BT.node (boot_o_4 p) (ht142 p) (ht150 p)
noncomputable def ht152 (p : Params) : BT := BT.node (ho63 p) BT.nil BT.nil
noncomputable def ht153 (p : Params) : BT := BT.node (ho25 p) (ht152 p) BT.nil
noncomputable def ht154 (p : Params) : BT := BT.node (ho9 p) (ht153 p) (ht89 p)
noncomputable def ht155 (p : Params) : BT := BT.node (ho71 p) BT.nil BT.nil
noncomputable def ht156 (p : Params) : BT := BT.node (ho33 p) (ht155 p) BT.nil
noncomputable def ht157 (p : Params) : BT := BT.node (ho17 p) (ht156 p) (ht91 p)
noncomputable def ht158 (p : Params) : BT := BT.node (boot_o_10 p) (ht154 p) (ht157 p)
noncomputable def ht159 (p : Params) : BT := BT.node (ho67 p) BT.nil BT.nil
noncomputable def ht160 (p : Params) : BT := BT.node (ho29 p) (ht159 p) BT.nil
noncomputable def ht161 (p : Params) : BT := BT.node (ho13 p) (ht160 p) (ht94 p)
noncomputable def ht162 (p : Params) : BT := BT.node (ho59 p) BT.nil BT.nil
noncomputable def ht163 (p : Params) : BT := BT.node (ho21 p) (ht96 p) (ht162 p)
noncomputable def ht164 (p : Params) : BT := BT.node (ho3 p) (ht161 p) (ht163 p)
noncomputable def ht165 (p : Params) : BT := BT.node (boot_o_6 p) (ht158 p) (ht164 p)
noncomputable def ht166 (p : Params) : BT := BT.node (ho37 p) (ht151 p) (ht165 p)
noncomputable def ht167 (p : Params) : BT := BT.node (boot_o_0 p) (ht135 p) (ht166 p)
noncomputable def hS3 (w : World) (os : OsState) : SharedT := SharedT.mk ((fun (p : Params) => (ht167 p)) w.params) 78 (@Life.mk [] [] [] 0 [] [] @Bool.false (hArr []) [] 0 @Bool.false @Bool.false @Bool.false (@OfNat.ofNat.{0} @Int (nat_lit 0) (@instOfNat (nat_lit 0))) [(@OfNat.ofNat.{0} @Int (nat_lit 2000) (@instOfNat (nat_lit 2000))), (@OfNat.ofNat.{0} @Int (nat_lit 10) (@instOfNat (nat_lit 10))), (@OfNat.ofNat.{0} @Int (nat_lit 10) (@instOfNat (nat_lit 10)))] @Bool.false 0 @Bool.true [] [] 0 @Bool.false) (hArr []) (@Drawn.mk 0 0 0 0) 273 os
noncomputable def hq3 : Pos := (@Pos.mk 42 0 42 8)
noncomputable def hs3 : List Stmt := [stm 10, stm 11, stm 12, stm 13, stm 14, stm 15, stm 16, stm 17, stm 18]
noncomputable def ho75 (p : Params) : Obj := (@Obj.mk (@Value.type "dict") none (@Data.dict (hArr [(@DictEntry.mk (@PyData.keyHash p (hStr "__name__")) (@Value.str (hStr "__name__") 165) (@Value.str (hStr "vectorcove.index") 288)), (@DictEntry.mk (@PyData.keyHash p (hStr "__doc__")) (@Value.str (hStr "__doc__") 166) @Value.none), (@DictEntry.mk (@PyData.keyHash p (hStr "__package__")) (@Value.str (hStr "__package__") 167) @Value.none), (@DictEntry.mk (@PyData.keyHash p (hStr "__loader__")) (@Value.str (hStr "__loader__") 168) (@Value.builtin "__main__.__loader__#opaque")), (@DictEntry.mk (@PyData.keyHash p (hStr "__spec__")) (@Value.str (hStr "__spec__") 169) @Value.none), (@DictEntry.mk (@PyData.keyHash p (hStr "__annotations__")) (@Value.str (hStr "__annotations__") 170) (@Value.ref 6)), (@DictEntry.mk (@PyData.keyHash p (hStr "__builtins__")) (@Value.str (hStr "__builtins__") 171) (@Value.ref 4)), (@DictEntry.mk (@PyData.keyHash p (hStr "__file__")) (@Value.str (hStr "__file__") 173) (@Value.str (hStr "/claim/cut.py") 172)), (@DictEntry.mk (@PyData.keyHash p (hStr "__cached__")) (@Value.str (hStr "__cached__") 174) @Value.none), (@DictEntry.mk (@PyData.keyHash p (hStr "_wall")) (@Value.str (hStr "_wall") 193) (@Value.ref 21)), (@DictEntry.mk (@PyData.keyHash p (hStr "get_attr")) (@Value.str (hStr "get_attr") 203) (@Value.ref 28)), (@DictEntry.mk (@PyData.keyHash p (hStr "names_of")) (@Value.str (hStr "names_of") 209) (@Value.ref 33)), (@DictEntry.mk (@PyData.keyHash p (hStr "dim_of")) (@Value.str (hStr "dim_of") 217) (@Value.ref 40)), (@DictEntry.mk (@PyData.keyHash p (hStr "dimnames_of")) (@Value.str (hStr "dimnames_of") 223) (@Value.ref 45)), (@DictEntry.mk (@PyData.keyHash p (hStr "CoveError")) (@Value.str (hStr "CoveError") 245) (@Value.ref 55)), (@DictEntry.mk (@PyData.keyHash p (hStr "Refusal")) (@Value.str (hStr "Refusal") 270) (@Value.ref 75)), (@DictEntry.mk (@PyData.keyHash p (hStr "is_finite")) (@Value.str (hStr "is_finite") 279) (@Value.ref 84)), (@DictEntry.mk (@PyData.keyHash p (hStr "to_whole")) (@Value.str (hStr "to_whole") 287) (@Value.ref 91)), (@DictEntry.mk (@PyData.keyHash p (hStr "whole_subscripts")) (@Value.str (hStr "whole_subscripts") 298) (@Value.ref 98)), (@DictEntry.mk (@PyData.keyHash p (hStr "logical_places")) (@Value.str (hStr "logical_places") 310) (@Value.ref 105)), (@DictEntry.mk (@PyData.keyHash p (hStr "whole_places")) (@Value.str (hStr "whole_places") 316) (@Value.ref 110)), (@DictEntry.mk (@PyData.keyHash p (hStr "first_places")) (@Value.str (hStr "first_places") 326) (@Value.ref 117)), (@DictEntry.mk (@PyData.keyHash p (hStr "name_places")) (@Value.str (hStr "name_places") 337) (@Value.ref 124)), (@DictEntry.mk (@PyData.keyHash p (hStr "extending_places")) (@Value.str (hStr "extending_places") 351) (@Value.ref 131))]) 24) (hArr []))
noncomputable def ho76 (p : Params) : Obj := (@Obj.mk @Value.none none (@Data.fields (hArr [(@Value.int (@OfNat.ofNat.{0} @Int (nat_lit 1) (@instOfNat (nat_lit 1))) 0), (@Value.int (@OfNat.ofNat.{0} @Int (nat_lit 0) (@instOfNat (nat_lit 0))) 0), (@Value.ref 20), (@Value.int (@OfNat.ofNat.{0} @Int (nat_lit 5) (@instOfNat (nat_lit 5))) 0), (@Value.int (@OfNat.ofNat.{0} @Int (nat_lit 0) (@instOfNat (nat_lit 0))) 0), (@Value.ref 27), (@Value.int (@OfNat.ofNat.{0} @Int (nat_lit 9) (@instOfNat (nat_lit 9))) 0), (@Value.int (@OfNat.ofNat.{0} @Int (nat_lit 0) (@instOfNat (nat_lit 0))) 0), (@Value.ref 32), (@Value.int (@OfNat.ofNat.{0} @Int (nat_lit 25) (@instOfNat (nat_lit 25))) 0), (@Value.int (@OfNat.ofNat.{0} @Int (nat_lit 0) (@instOfNat (nat_lit 0))) 0), (@Value.ref 39), (@Value.int (@OfNat.ofNat.{0} @Int (nat_lit 30) (@instOfNat (nat_lit 30))) 0), (@Value.int (@OfNat.ofNat.{0} @Int (nat_lit 0) (@instOfNat (nat_lit 0))) 0), (@Value.ref 44), (@Value.int (@OfNat.ofNat.{0} @Int (nat_lit 36) (@instOfNat (nat_lit 36))) 0), (@Value.int (@OfNat.ofNat.{0} @Int (nat_lit 0) (@instOfNat (nat_lit 0))) 0), (@Value.ref 51), (@Value.int (@OfNat.ofNat.{0} @Int (nat_lit 38) (@instOfNat (nat_lit 38))) 0), (@Value.int (@OfNat.ofNat.{0} @Int (nat_lit 0) (@instOfNat (nat_lit 0))) 0), (@Value.ref 64), (@Value.int (@OfNat.ofNat.{0} @Int (nat_lit 43) (@instOfNat (nat_lit 43))) 0), (@Value.int (@OfNat.ofNat.{0} @Int (nat_lit 0) (@instOfNat (nat_lit 0))) 0), (@Value.ref 83), (@Value.int (@OfNat.ofNat.{0} @Int (nat_lit 45) (@instOfNat (nat_lit 45))) 0), (@Value.int (@OfNat.ofNat.{0} @Int (nat_lit 0) (@instOfNat (nat_lit 0))) 0), (@Value.ref 90), (@Value.int (@OfNat.ofNat.{0} @Int (nat_lit 51) (@instOfNat (nat_lit 51))) 0), (@Value.int (@OfNat.ofNat.{0} @Int (nat_lit 0) (@instOfNat (nat_lit 0))) 0), (@Value.ref 97), (@Value.int (@OfNat.ofNat.{0} @Int (nat_lit 61) (@instOfNat (nat_lit 61))) 0), (@Value.int (@OfNat.ofNat.{0} @Int (nat_lit 0) (@instOfNat (nat_lit 0))) 0), (@Value.ref 104), (@Value.int (@OfNat.ofNat.{0} @Int (nat_lit 73) (@instOfNat (nat_lit 73))) 0), (@Value.int (@OfNat.ofNat.{0} @Int (nat_lit 0) (@instOfNat (nat_lit 0))) 0), (@Value.ref 109), (@Value.int (@OfNat.ofNat.{0} @Int (nat_lit 92) (@instOfNat (nat_lit 92))) 0), (@Value.int (@OfNat.ofNat.{0} @Int (nat_lit 0) (@instOfNat (nat_lit 0))) 0), (@Value.ref 116), (@Value.int (@OfNat.ofNat.{0} @Int (nat_lit 100) (@instOfNat (nat_lit 100))) 0), (@Value.int (@OfNat.ofNat.{0} @Int (nat_lit 0) (@instOfNat (nat_lit 0))) 0), (@Value.ref 123), (@Value.int (@OfNat.ofNat.{0} @Int (nat_lit 109) (@instOfNat (nat_lit 109))) 0), (@Value.int (@OfNat.ofNat.{0} @Int (nat_lit 0) (@instOfNat (nat_lit 0))) 0), (@Value.ref 130)])) (hArr []))
noncomputable def ho77 (p : Params) : Obj := (@Obj.mk (@Value.type "tuple") none (@Data.seq (hArr []) 0) (hArr []))
noncomputable def ho78 (p : Params) : Obj := (@Obj.mk @Value.none none (@Data.fields (hArr [])) (hArr []))
noncomputable def ho79 (p : Params) : Obj := (@Obj.mk (@Value.type "tuple") none (@Data.seq (hArr [(@Value.str (hStr "x") 276)]) 0) (hArr []))
noncomputable def ho80 (p : Params) : Obj := (@Obj.mk (@Value.type "tuple") none (@Data.seq (hArr []) 0) (hArr []))
noncomputable def ho81 (p : Params) : Obj := (@Obj.mk @Value.none none (@Data.func (@FuncData.mk (hStr "is_finite") (hStr "is_finite") (fnA 10) (@FuncBody.stmts (fnB 10)) (fnS 10) 0 [] @Value.none @Value.none @Value.none @Value.none none @Value.none @Value.none 0)) (hArr []))
noncomputable def ho82 (p : Params) : Obj := (@Obj.mk (@Value.type "code") none (@Data.fields (hArr [(@Value.str (hStr "is_finite") 273), (@Value.str (hStr "is_finite") 274), (@Value.str (hStr "/claim/cut.py") 275), (@Value.int (@OfNat.ofNat.{0} @Int (nat_lit 43) (@instOfNat (nat_lit 43))) 0), (@Value.int (@OfNat.ofNat.{0} @Int (nat_lit 1) (@instOfNat (nat_lit 1))) 0), (@Value.int (@OfNat.ofNat.{0} @Int (nat_lit 0) (@instOfNat (nat_lit 0))) 0), (@Value.int (@OfNat.ofNat.{0} @Int (nat_lit 0) (@instOfNat (nat_lit 0))) 0), (@Value.int (@OfNat.ofNat.{0} @Int (nat_lit 3) (@instOfNat (nat_lit 3))) 0), (@Value.ref 78), (@Value.bool @Bool.true), (@Value.int (@OfNat.ofNat.{0} @Int (nat_lit 181) (@instOfNat (nat_lit 181))) 0), (@Value.ref 79), @Value.none, (@Value.ref 80), (@Value.ref 81), (@Value.ref 82), (@Value.int (@OfNat.ofNat.{0} @Int (nat_lit 277) (@instOfNat (nat_lit 277))) 0), (@Value.int (@OfNat.ofNat.{0} @Int (nat_lit 43) (@instOfNat (nat_lit 43))) 0), (@Value.str (hStr "/claim/cut.py") 278)])) (hArr []))
noncomputable def ho83 (p : Params) : Obj := (@Obj.mk (@Value.type "function") none (@Data.func (@FuncData.mk (hStr "is_finite") (hStr "is_finite") (fnA 10) (@FuncBody.stmts (fnB 10)) (fnS 10) 3 [] @Value.none @Value.none @Value.none (@Value.str (hStr "vectorcove.rational") 271) none (@Value.ref 83) @Value.none 0)) (hArr []))
noncomputable def ho84 (p : Params) : Obj := (@Obj.mk (@Value.type "tuple") none (@Data.seq (hArr []) 0) (hArr []))
noncomputable def ho85 (p : Params) : Obj := (@Obj.mk @Value.none none (@Data.fields (hArr [])) (hArr []))
noncomputable def ho86 (p : Params) : Obj := (@Obj.mk (@Value.type "tuple") none (@Data.seq (hArr [(@Value.str (hStr "x") 283), (@Value.str (hStr "found") 284)]) 0) (hArr []))
noncomputable def ho87 (p : Params) : Obj := (@Obj.mk (@Value.type "tuple") none (@Data.seq (hArr []) 0) (hArr []))
noncomputable def ho88 (p : Params) : Obj := (@Obj.mk @Value.none none (@Data.func (@FuncData.mk (hStr "to_whole") (hStr "to_whole") (fnA 11) (@FuncBody.stmts (fnB 11)) (fnS 11) 0 [] @Value.none @Value.none @Value.none @Value.none none @Value.none @Value.none 0)) (hArr []))
noncomputable def ho89 (p : Params) : Obj := (@Obj.mk (@Value.type "code") none (@Data.fields (hArr [(@Value.str (hStr "to_whole") 280), (@Value.str (hStr "to_whole") 281), (@Value.str (hStr "/claim/cut.py") 282), (@Value.int (@OfNat.ofNat.{0} @Int (nat_lit 45) (@instOfNat (nat_lit 45))) 0), (@Value.int (@OfNat.ofNat.{0} @Int (nat_lit 1) (@instOfNat (nat_lit 1))) 0), (@Value.int (@OfNat.ofNat.{0} @Int (nat_lit 0) (@instOfNat (nat_lit 0))) 0), (@Value.int (@OfNat.ofNat.{0} @Int (nat_lit 0) (@instOfNat (nat_lit 0))) 0), (@Value.int (@OfNat.ofNat.{0} @Int (nat_lit 3) (@instOfNat (nat_lit 3))) 0), (@Value.ref 85), (@Value.bool @Bool.true), (@Value.int (@OfNat.ofNat.{0} @Int (nat_lit 181) (@instOfNat (nat_lit 181))) 0), (@Value.ref 86), @Value.none, (@Value.ref 87), (@Value.ref 88), (@Value.ref 89), (@Value.int (@OfNat.ofNat.{0} @Int (nat_lit 285) (@instOfNat (nat_lit 285))) 0), (@Value.int (@OfNat.ofNat.{0} @Int (nat_lit 45) (@instOfNat (nat_lit 45))) 0), (@Value.str (hStr "/claim/cut.py") 286)])) (hArr []))
noncomputable def ho90 (p : Params) : Obj := (@Obj.mk (@Value.type "function") none (@Data.func (@FuncData.mk (hStr "to_whole") (hStr "to_whole") (fnA 11) (@FuncBody.stmts (fnB 11)) (fnS 11) 3 [] @Value.none @Value.none @Value.none (@Value.str (hStr "vectorcove.rational") 271) none (@Value.ref 90) @Value.none 0)) (hArr []))
noncomputable def ho91 (p : Params) : Obj := (@Obj.mk (@Value.type "tuple") none (@Data.seq (hArr []) 0) (hArr []))
noncomputable def ho92 (p : Params) : Obj := (@Obj.mk @Value.none none (@Data.fields (hArr [])) (hArr []))
noncomputable def ho93 (p : Params) : Obj := (@Obj.mk (@Value.type "tuple") none (@Data.seq (hArr [(@Value.str (hStr "ix") 293), (@Value.str (hStr "found") 294), (@Value.str (hStr "item") 295)]) 0) (hArr []))
noncomputable def ho94 (p : Params) : Obj := (@Obj.mk (@Value.type "tuple") none (@Data.seq (hArr []) 0) (hArr []))
noncomputable def ho95 (p : Params) : Obj := (@Obj.mk @Value.none none (@Data.func (@FuncData.mk (hStr "whole_subscripts") (hStr "whole_subscripts") (fnA 13) (@FuncBody.stmts (fnB 13)) (fnS 13) 0 [] @Value.none @Value.none @Value.none @Value.none none @Value.none @Value.none 0)) (hArr []))
noncomputable def ho96 (p : Params) : Obj := (@Obj.mk (@Value.type "code") none (@Data.fields (hArr [(@Value.str (hStr "whole_subscripts") 290), (@Value.str (hStr "whole_subscripts") 291), (@Value.str (hStr "/claim/cut.py") 292), (@Value.int (@OfNat.ofNat.{0} @Int (nat_lit 51) (@instOfNat (nat_lit 51))) 0), (@Value.int (@OfNat.ofNat.{0} @Int (nat_lit 1) (@instOfNat (nat_lit 1))) 0), (@Value.int (@OfNat.ofNat.{0} @Int (nat_lit 0) (@instOfNat (nat_lit 0))) 0), (@Value.int (@OfNat.ofNat.{0} @Int (nat_lit 0) (@instOfNat (nat_lit 0))) 0), (@Value.int (@OfNat.ofNat.{0} @Int (nat_lit 3) (@instOfNat (nat_lit 3))) 0), (@Value.ref 92), (@Value.bool @Bool.true), (@Value.int (@OfNat.ofNat.{0} @Int (nat_lit 181) (@instOfNat (nat_lit 181))) 0), (@Value.ref 93), @Value.none, (@Value.ref 94), (@Value.ref 95), (@Value.ref 96), (@Value.int (@OfNat.ofNat.{0} @Int (nat_lit 296) (@instOfNat (nat_lit 296))) 0), (@Value.int (@OfNat.ofNat.{0} @Int (nat_lit 51) (@instOfNat (nat_lit 51))) 0), (@Value.str (hStr "/claim/cut.py") 297)])) (hArr []))
noncomputable def ho97 (p : Params) : Obj := (@Obj.mk (@Value.type "function") none (@Data.func (@FuncData.mk (hStr "whole_subscripts") (hStr "whole_subscripts") (fnA 13) (@FuncBody.stmts (fnB 13)) (fnS 13) 3 [] @Value.none @Value.none @Value.none (@Value.str (hStr "vectorcove.index") 288) none (@Value.ref 97) @Value.none 0)) (hArr []))
noncomputable def ho98 (p : Params) : Obj := (@Obj.mk (@Value.type "tuple") none (@Data.seq (hArr []) 0) (hArr []))
noncomputable def ho99 (p : Params) : Obj := (@Obj.mk @Value.none none (@Data.fields (hArr [])) (hArr []))
noncomputable def ho100 (p : Params) : Obj := (@Obj.mk (@Value.type "tuple") none (@Data.seq (hArr [(@Value.str (hStr "items") 302), (@Value.str (hStr "n") 303), (@Value.str (hStr "count") 304), (@Value.str (hStr "places") 305), (@Value.str (hStr "i") 306), (@Value.str (hStr "item") 307)]) 0) (hArr []))
noncomputable def ho101 (p : Params) : Obj := (@Obj.mk (@Value.type "tuple") none (@Data.seq (hArr []) 0) (hArr []))
noncomputable def ho102 (p : Params) : Obj := (@Obj.mk @Value.none none (@Data.func (@FuncData.mk (hStr "logical_places") (hStr "logical_places") (fnA 14) (@FuncBody.stmts (fnB 14)) (fnS 14) 0 [] @Value.none @Value.none @Value.none @Value.none none @Value.none @Value.none 0)) (hArr []))
noncomputable def ho103 (p : Params) : Obj := (@Obj.mk (@Value.type "code") none (@Data.fields (hArr [(@Value.str (hStr "logical_places") 299), (@Value.str (hStr "logical_places") 300), (@Value.str (hStr "/claim/cut.py") 301), (@Value.int (@OfNat.ofNat.{0} @Int (nat_lit 61) (@instOfNat (nat_lit 61))) 0), (@Value.int (@OfNat.ofNat.{0} @Int (nat_lit 2) (@instOfNat (nat_lit 2))) 0), (@Value.int (@OfNat.ofNat.{0} @Int (nat_lit 0) (@instOfNat (nat_lit 0))) 0), (@Value.int (@OfNat.ofNat.{0} @Int (nat_lit 0) (@instOfNat (nat_lit 0))) 0), (@Value.int (@OfNat.ofNat.{0} @Int (nat_lit 3) (@instOfNat (nat_lit 3))) 0), (@Value.ref 99), (@Value.bool @Bool.true), (@Value.int (@OfNat.ofNat.{0} @Int (nat_lit 181) (@instOfNat (nat_lit 181))) 0), (@Value.ref 100), @Value.none, (@Value.ref 101), (@Value.ref 102), (@Value.ref 103), (@Value.int (@OfNat.ofNat.{0} @Int (nat_lit 308) (@instOfNat (nat_lit 308))) 0), (@Value.int (@OfNat.ofNat.{0} @Int (nat_lit 61) (@instOfNat (nat_lit 61))) 0), (@Value.str (hStr "/claim/cut.py") 309)])) (hArr []))
noncomputable def ho104 (p : Params) : Obj := (@Obj.mk (@Value.type "function") none (@Data.func (@FuncData.mk (hStr "logical_places") (hStr "logical_places") (fnA 14) (@FuncBody.stmts (fnB 14)) (fnS 14) 3 [] @Value.none @Value.none @Value.none (@Value.str (hStr "vectorcove.index") 288) none (@Value.ref 104) @Value.none 0)) (hArr []))
noncomputable def ho105 (p : Params) : Obj := (@Obj.mk (@Value.type "tuple") none (@Data.seq (hArr []) 0) (hArr []))
noncomputable def ho106 (p : Params) : Obj := (@Obj.mk @Value.none none (@Data.fields (hArr [])) (hArr []))
noncomputable def ho107 (p : Params) : Obj := (@Obj.mk @Value.none none (@Data.func (@FuncData.mk (hStr "whole_places") (hStr "whole_places") (fnA 15) (@FuncBody.stmts (fnB 15)) (fnS 15) 0 [] @Value.none @Value.none @Value.none @Value.none none @Value.none @Value.none 0)) (hArr []))
noncomputable def ho108 (p : Params) : Obj := (@Obj.mk (@Value.type "code") none (@Data.fields (hArr [(@Value.str (hStr "whole_places") 311), (@Value.str (hStr "whole_places") 312), (@Value.str (hStr "/claim/cut.py") 313), (@Value.int (@OfNat.ofNat.{0} @Int (nat_lit 73) (@instOfNat (nat_lit 73))) 0), (@Value.int (@OfNat.ofNat.{0} @Int (nat_lit 2) (@instOfNat (nat_lit 2))) 0), (@Value.int (@OfNat.ofNat.{0} @Int (nat_lit 0) (@instOfNat (nat_lit 0))) 0), (@Value.int (@OfNat.ofNat.{0} @Int (nat_lit 0) (@instOfNat (nat_lit 0))) 0), (@Value.int (@OfNat.ofNat.{0} @Int (nat_lit 3) (@instOfNat (nat_lit 3))) 0), (@Value.ref 106), (@Value.bool @Bool.true), (@Value.int (@OfNat.ofNat.{0} @Int (nat_lit 181) (@instOfNat (nat_lit 181))) 0), (@Value.ref 107), @Value.none, @Value.none, @Value.none, (@Value.ref 108), (@Value.int (@OfNat.ofNat.{0} @Int (nat_lit 314) (@instOfNat (nat_lit 314))) 0), (@Value.int (@OfNat.ofNat.{0} @Int (nat_lit 73) (@instOfNat (nat_lit 73))) 0), (@Value.str (hStr "/claim/cut.py") 315)])) (hArr []))
noncomputable def ho109 (p : Params) : Obj := (@Obj.mk (@Value.type "function") none (@Data.func (@FuncData.mk (hStr "whole_places") (hStr "whole_places") (fnA 15) (@FuncBody.stmts (fnB 15)) (fnS 15) 3 [] @Value.none @Value.none @Value.none (@Value.str (hStr "vectorcove.index") 288) none (@Value.ref 109) @Value.none 0)) (hArr []))
noncomputable def ho110 (p : Params) : Obj := (@Obj.mk (@Value.type "tuple") none (@Data.seq (hArr []) 0) (hArr []))
noncomputable def ho111 (p : Params) : Obj := (@Obj.mk @Value.none none (@Data.fields (hArr [])) (hArr []))
noncomputable def ho112 (p : Params) : Obj := (@Obj.mk (@Value.type "tuple") none (@Data.seq (hArr [(@Value.str (hStr "names") 320), (@Value.str (hStr "table") 321), (@Value.str (hStr "i") 322), (@Value.str (hStr "name") 323)]) 0) (hArr []))
noncomputable def ho113 (p : Params) : Obj := (@Obj.mk (@Value.type "tuple") none (@Data.seq (hArr []) 0) (hArr []))
noncomputable def ho114 (p : Params) : Obj := (@Obj.mk @Value.none none (@Data.func (@FuncData.mk (hStr "first_places") (hStr "first_places") (fnA 16) (@FuncBody.stmts (fnB 16)) (fnS 16) 0 [] @Value.none @Value.none @Value.none @Value.none none @Value.none @Value.none 0)) (hArr []))
noncomputable def ho115 (p : Params) : Obj := (@Obj.mk (@Value.type "code") none (@Data.fields (hArr [(@Value.str (hStr "first_places") 317), (@Value.str (hStr "first_places") 318), (@Value.str (hStr "/claim/cut.py") 319), (@Value.int (@OfNat.ofNat.{0} @Int (nat_lit 92) (@instOfNat (nat_lit 92))) 0), (@Value.int (@OfNat.ofNat.{0} @Int (nat_lit 1) (@instOfNat (nat_lit 1))) 0), (@Value.int (@OfNat.ofNat.{0} @Int (nat_lit 0) (@instOfNat (nat_lit 0))) 0), (@Value.int (@OfNat.ofNat.{0} @Int (nat_lit 0) (@instOfNat (nat_lit 0))) 0), (@Value.int (@OfNat.ofNat.{0} @Int (nat_lit 3) (@instOfNat (nat_lit 3))) 0), (@Value.ref 111), (@Value.bool @Bool.true), (@Value.int (@OfNat.ofNat.{0} @Int (nat_lit 181) (@instOfNat (nat_lit 181))) 0), (@Value.ref 112), @Value.none, (@Value.ref 113), (@Value.ref 114), (@Value.ref 115), (@Value.int (@OfNat.ofNat.{0} @Int (nat_lit 324) (@instOfNat (nat_lit 324))) 0), (@Value.int (@OfNat.ofNat.{0} @Int (nat_lit 92) (@instOfNat (nat_lit 92))) 0), (@Value.str (hStr "/claim/cut.py") 325)])) (hArr []))
noncomputable def ho116 (p : Params) : Obj := (@Obj.mk (@Value.type "function") none (@Data.func (@FuncData.mk (hStr "first_places") (hStr "first_places") (fnA 16) (@FuncBody.stmts (fnB 16)) (fnS 16) 3 [] @Value.none @Value.none @Value.none (@Value.str (hStr "vectorcove.index") 288) none (@Value.ref 116) @Value.none 0)) (hArr []))
noncomputable def ho117 (p : Params) : Obj := (@Obj.mk (@Value.type "tuple") none (@Data.seq (hArr []) 0) (hArr []))
noncomputable def ho118 (p : Params) : Obj := (@Obj.mk @Value.none none (@Data.fields (hArr [])) (hArr []))
noncomputable def ho119 (p : Params) : Obj := (@Obj.mk (@Value.type "tuple") none (@Data.seq (hArr [(@Value.str (hStr "texts") 330), (@Value.str (hStr "names") 331), (@Value.str (hStr "table") 332), (@Value.str (hStr "places") 333), (@Value.str (hStr "item") 334)]) 0) (hArr []))
noncomputable def ho120 (p : Params) : Obj := (@Obj.mk (@Value.type "tuple") none (@Data.seq (hArr []) 0) (hArr []))
noncomputable def ho121 (p : Params) : Obj := (@Obj.mk @Value.none none (@Data.func (@FuncData.mk (hStr "name_places") (hStr "name_places") (fnA 17) (@FuncBody.stmts (fnB 17)) (fnS 17) 0 [] @Value.none @Value.none @Value.none @Value.none none @Value.none @Value.none 0)) (hArr []))
noncomputable def ho122 (p : Params) : Obj := (@Obj.mk (@Value.type "code") none (@Data.fields (hArr [(@Value.str (hStr "name_places") 327), (@Value.str (hStr "name_places") 328), (@Value.str (hStr "/claim/cut.py") 329), (@Value.int (@OfNat.ofNat.{0} @Int (nat_lit 100) (@instOfNat (nat_lit 100))) 0), (@Value.int (@OfNat.ofNat.{0} @Int (nat_lit 2) (@instOfNat (nat_lit 2))) 0), (@Value.int (@OfNat.ofNat.{0} @Int (nat_lit 0) (@instOfNat (nat_lit 0))) 0), (@Value.int (@OfNat.ofNat.{0} @Int (nat_lit 0) (@instOfNat (nat_lit 0))) 0), (@Value.int (@OfNat.ofNat.{0} @Int (nat_lit 3) (@instOfNat (nat_lit 3))) 0), (@Value.ref 118), (@Value.bool @Bool.true), (@Value.int (@OfNat.ofNat.{0} @Int (nat_lit 181) (@instOfNat (nat_lit 181))) 0), (@Value.ref 119), @Value.none, (@Value.ref 120), (@Value.ref 121), (@Value.ref 122), (@Value.int (@OfNat.ofNat.{0} @Int (nat_lit 335) (@instOfNat (nat_lit 335))) 0), (@Value.int (@OfNat.ofNat.{0} @Int (nat_lit 100) (@instOfNat (nat_lit 100))) 0), (@Value.str (hStr "/claim/cut.py") 336)])) (hArr []))
noncomputable def ho123 (p : Params) : Obj := (@Obj.mk (@Value.type "function") none (@Data.func (@FuncData.mk (hStr "name_places") (hStr "name_places") (fnA 17) (@FuncBody.stmts (fnB 17)) (fnS 17) 3 [] @Value.none @Value.none @Value.none (@Value.str (hStr "vectorcove.index") 288) none (@Value.ref 123) @Value.none 0)) (hArr []))
noncomputable def ho124 (p : Params) : Obj := (@Obj.mk (@Value.type "tuple") none (@Data.seq (hArr []) 0) (hArr []))
noncomputable def ho125 (p : Params) : Obj := (@Obj.mk @Value.none none (@Data.fields (hArr [])) (hArr []))
noncomputable def ho126 (p : Params) : Obj := (@Obj.mk (@Value.type "tuple") none (@Data.seq (hArr [(@Value.str (hStr "texts") 341), (@Value.str (hStr "n") 342), (@Value.str (hStr "names") 343), (@Value.str (hStr "table") 344), (@Value.str (hStr "places") 345), (@Value.str (hStr "added") 346), (@Value.str (hStr "item") 347), (@Value.str (hStr "place") 348)]) 0) (hArr []))
noncomputable def ho127 (p : Params) : Obj := (@Obj.mk (@Value.type "tuple") none (@Data.seq (hArr []) 0) (hArr []))
noncomputable def ho128 (p : Params) : Obj := (@Obj.mk @Value.none none (@Data.func (@FuncData.mk (hStr "extending_places") (hStr "extending_places") (fnA 18) (@FuncBody.stmts (fnB 18)) (fnS 18) 0 [] @Value.none @Value.none @Value.none @Value.none none @Value.none @Value.none 0)) (hArr []))
noncomputable def ho129 (p : Params) : Obj := (@Obj.mk (@Value.type "code") none (@Data.fields (hArr [(@Value.str (hStr "extending_places") 338), (@Value.str (hStr "extending_places") 339), (@Value.str (hStr "/claim/cut.py") 340), (@Value.int (@OfNat.ofNat.{0} @Int (nat_lit 109) (@instOfNat (nat_lit 109))) 0), (@Value.int (@OfNat.ofNat.{0} @Int (nat_lit 3) (@instOfNat (nat_lit 3))) 0), (@Value.int (@OfNat.ofNat.{0} @Int (nat_lit 0) (@instOfNat (nat_lit 0))) 0), (@Value.int (@OfNat.ofNat.{0} @Int (nat_lit 0) (@instOfNat (nat_lit 0))) 0), (@Value.int (@OfNat.ofNat.{0} @Int (nat_lit 3) (@instOfNat (nat_lit 3))) 0), (@Value.ref 125), (@Value.bool @Bool.true), (@Value.int (@OfNat.ofNat.{0} @Int (nat_lit 181) (@instOfNat (nat_lit 181))) 0), (@Value.ref 126), @Value.none, (@Value.ref 127), (@Value.ref 128), (@Value.ref 129), (@Value.int (@OfNat.ofNat.{0} @Int (nat_lit 349) (@instOfNat (nat_lit 349))) 0), (@Value.int (@OfNat.ofNat.{0} @Int (nat_lit 109) (@instOfNat (nat_lit 109))) 0), (@Value.str (hStr "/claim/cut.py") 350)])) (hArr []))
noncomputable def ho130 (p : Params) : Obj := (@Obj.mk (@Value.type "function") none (@Data.func (@FuncData.mk (hStr "extending_places") (hStr "extending_places") (fnA 18) (@FuncBody.stmts (fnB 18)) (fnS 18) 3 [] @Value.none @Value.none @Value.none (@Value.str (hStr "vectorcove.index") 288) none (@Value.ref 130) @Value.none 0)) (hArr []))
noncomputable def ht168 (p : Params) : BT := BT.node (ho126 p) BT.nil BT.nil
noncomputable def ht169 (p : Params) : BT := BT.node (ho60 p) (ht168 p) BT.nil
noncomputable def ht170 (p : Params) : BT := BT.node (ho94 p) BT.nil BT.nil
noncomputable def ht171 (p : Params) : BT := BT.node (ho22 p) (ht169 p) (ht170 p)
noncomputable def ht172 (p : Params) : BT := BT.node (ho78 p) BT.nil BT.nil
noncomputable def ht173 (p : Params) : BT := BT.node (ho110 p) BT.nil BT.nil
noncomputable def ht174 (p : Params) : BT := BT.node (ho41 p) (ht172 p) (ht173 p)
noncomputable def ht175 (p : Params) : BT := BT.node (ho6 p) (ht171 p) (ht174 p)
noncomputable def ht176 (p : Params) : BT := BT.node (ho102 p) BT.nil BT.nil
noncomputable def ht177 (p : Params) : BT := BT.node (ho30 p) (ht105 p) (ht176 p)
noncomputable def ht178 (p : Params) : BT := BT.node (ho86 p) BT.nil BT.nil
noncomputable def ht179 (p : Params) : BT := BT.node (ho118 p) BT.nil BT.nil
noncomputable def ht180 (p : Params) : BT := BT.node (ho55 p) (ht178 p) (ht179 p)
noncomputable def ht181 (p : Params) : BT := BT.node (ho14 p) (ht177 p) (ht180 p)
noncomputable def ht182 (p : Params) : BT := BT.node (boot_o_7 p) (ht175 p) (ht181 p)
noncomputable def ht183 (p : Params) : BT := BT.node (ho130 p) BT.nil BT.nil
noncomputable def ht184 (p : Params) : BT := BT.node (ho64 p) (ht183 p) BT.nil
noncomputable def ht185 (p : Params) : BT := BT.node (ho98 p) BT.nil BT.nil
noncomputable def ht186 (p : Params) : BT := BT.node (ho26 p) (ht184 p) (ht185 p)
noncomputable def ht187 (p : Params) : BT := BT.node (ho82 p) BT.nil BT.nil
noncomputable def ht188 (p : Params) : BT := BT.node (ho114 p) BT.nil BT.nil
noncomputable def ht189 (p : Params) : BT := BT.node (ho45 p) (ht187 p) (ht188 p)
noncomputable def ht190 (p : Params) : BT := BT.node (ho10 p) (ht186 p) (ht189 p)
noncomputable def ht191 (p : Params) : BT := BT.node (ho106 p) BT.nil BT.nil
noncomputable def ht192 (p : Params) : BT := BT.node (ho34 p) (ht113 p) (ht191 p)
noncomputable def ht193 (p : Params) : BT := BT.node (ho90 p) BT.nil BT.nil
noncomputable def ht194 (p : Params) : BT := BT.node (ho122 p) BT.nil BT.nil
noncomputable def ht195 (p : Params) : BT := BT.node (ho56 p) (ht193 p) (ht194 p)
noncomputable def ht196 (p : Params) : BT := BT.node (ho18 p) (ht192 p) (ht195 p)
noncomputable def ht197 (p : Params) : BT := BT.node (ho0 p) (ht190 p) (ht196 p)
noncomputable def ht198 (p : Params) : BT := BT.node (ho75 p) (ht182 p) (ht197 p)
noncomputable def ht199 (p : Params) : BT := BT.node (ho128 p) BT.nil BT.nil
noncomputable def ht200 (p : Params) : BT := BT.node (ho62 p) (ht199 p) BT.nil
noncomputable def ht201 (p : Params) : BT := BT.node (ho96 p) BT.nil BT.nil
noncomputable def ht202 (p : Params) : BT := BT.node (ho24 p) (ht200 p) (ht201 p)
noncomputable def ht203 (p : Params) : BT := BT.node (ho80 p) BT.nil BT.nil
noncomputable def ht204 (p : Params) : BT := BT.node (ho112 p) BT.nil BT.nil
noncomputable def ht205 (p : Params) : BT := BT.node (ho43 p) (ht203 p) (ht204 p)
noncomputable def ht206 (p : Params) : BT := BT.node (ho8 p) (ht202 p) (ht205 p)
noncomputable def ht207 (p : Params) : BT := BT.node (ho104 p) BT.nil BT.nil
noncomputable def ht208 (p : Params) : BT := BT.node (ho32 p) (ht122 p) (ht207 p)
noncomputable def ht209 (p : Params) : BT := BT.node (ho88 p) BT.nil BT.nil
noncomputable def ht210 (p : Params) : BT := BT.node (ho120 p) BT.nil BT.nil
noncomputable def ht211 (p : Params) : BT := BT.node (ho51 p) (ht209 p) (ht210 p)
noncomputable def ht212 (p : Params) : BT := BT.node (ho16 p) (ht208 p) (ht211 p)
noncomputable def ht213 (p : Params) : BT := BT.node (boot_o_9 p) (ht206 p) (ht212 p)
noncomputable def ht214 (p : Params) : BT := BT.node (ho100 p) BT.nil BT.nil
noncomputable def ht215 (p : Params) : BT := BT.node (ho28 p) (ht126 p) (ht214 p)
noncomputable def ht216 (p : Params) : BT := BT.node (ho84 p) BT.nil BT.nil
noncomputable def ht217 (p : Params) : BT := BT.node (ho116 p) BT.nil BT.nil
noncomputable def ht218 (p : Params) : BT := BT.node (ho47 p) (ht216 p) (ht217 p)
noncomputable def ht219 (p : Params) : BT := BT.node (ho12 p) (ht215 p) (ht218 p)
noncomputable def ht220 (p : Params) : BT := BT.node (ho108 p) BT.nil BT.nil
noncomputable def ht221 (p : Params) : BT := BT.node (ho36 p) (ht129 p) (ht220 p)
noncomputable def ht222 (p : Params) : BT := BT.node (ho92 p) BT.nil BT.nil
noncomputable def ht223 (p : Params) : BT := BT.node (ho124 p) BT.nil BT.nil
noncomputable def ht224 (p : Params) : BT := BT.node (ho58 p) (ht222 p) (ht223 p)
noncomputable def ht225 (p : Params) : BT := BT.node (ho20 p) (ht221 p) (ht224 p)
noncomputable def ht226 (p : Params) : BT := BT.node (ho2 p) (ht219 p) (ht225 p)
noncomputable def ht227 (p : Params) : BT := BT.node (boot_o_5 p) (ht213 p) (ht226 p)
noncomputable def ht228 (p : Params) : BT := BT.node (boot_o_1 p) (ht198 p) (ht227 p)
noncomputable def ht229 (p : Params) : BT := BT.node (ho127 p) BT.nil BT.nil
noncomputable def ht230 (p : Params) : BT := BT.node (ho61 p) (ht229 p) BT.nil
noncomputable def ht231 (p : Params) : BT := BT.node (ho95 p) BT.nil BT.nil
noncomputable def ht232 (p : Params) : BT := BT.node (ho23 p) (ht230 p) (ht231 p)
noncomputable def ht233 (p : Params) : BT := BT.node (ho79 p) BT.nil BT.nil
noncomputable def ht234 (p : Params) : BT := BT.node (ho111 p) BT.nil BT.nil
noncomputable def ht235 (p : Params) : BT := BT.node (ho42 p) (ht233 p) (ht234 p)
noncomputable def ht236 (p : Params) : BT := BT.node (ho7 p) (ht232 p) (ht235 p)
noncomputable def ht237 (p : Params) : BT := BT.node (ho103 p) BT.nil BT.nil
noncomputable def ht238 (p : Params) : BT := BT.node (ho31 p) (ht139 p) (ht237 p)
noncomputable def ht239 (p : Params) : BT := BT.node (ho87 p) BT.nil BT.nil
noncomputable def ht240 (p : Params) : BT := BT.node (ho119 p) BT.nil BT.nil
noncomputable def ht241 (p : Params) : BT := BT.node (ho50 p) (ht239 p) (ht240 p)
noncomputable def ht242 (p : Params) : BT := BT.node (ho15 p) (ht238 p) (ht241 p)
noncomputable def ht243 (p : Params) : BT := BT.node (boot_o_8 p) (ht236 p) (ht242 p)
noncomputable def ht244 (p : Params) : BT := BT.node (ho99 p) BT.nil BT.nil
noncomputable def ht245 (p : Params) : BT := BT.node (ho27 p) (ht143 p) (ht244 p)
noncomputable def ht246 (p : Params) : BT := BT.node (ho83 p) BT.nil BT.nil
noncomputable def ht247 (p : Params) : BT := BT.node (ho115 p) BT.nil BT.nil
noncomputable def ht248 (p : Params) : BT := BT.node (ho46 p) (ht246 p) (ht247 p)
noncomputable def ht249 (p : Params) : BT := BT.node (ho11 p) (ht245 p) (ht248 p)
noncomputable def ht250 (p : Params) : BT := BT.node (ho107 p) BT.nil BT.nil
noncomputable def ht251 (p : Params) : BT := BT.node (ho35 p) (ht146 p) (ht250 p)
noncomputable def ht252 (p : Params) : BT := BT.node (ho91 p) BT.nil BT.nil
noncomputable def ht253 (p : Params) : BT := BT.node (ho123 p) BT.nil BT.nil
noncomputable def ht254 (p : Params) : BT := BT.node (ho57 p) (ht252 p) (ht253 p)
noncomputable def ht255 (p : Params) : BT := BT.node (ho19 p) (ht251 p) (ht254 p)
noncomputable def ht256 (p : Params) : BT := BT.node (ho76 p) (ht249 p) (ht255 p)
noncomputable def ht257 (p : Params) : BT := BT.node (boot_o_4 p) (ht243 p) (ht256 p)
noncomputable def ht258 (p : Params) : BT := BT.node (ho129 p) BT.nil BT.nil
noncomputable def ht259 (p : Params) : BT := BT.node (ho63 p) (ht258 p) BT.nil
noncomputable def ht260 (p : Params) : BT := BT.node (ho97 p) BT.nil BT.nil
noncomputable def ht261 (p : Params) : BT := BT.node (ho25 p) (ht259 p) (ht260 p)
noncomputable def ht262 (p : Params) : BT := BT.node (ho81 p) BT.nil BT.nil
noncomputable def ht263 (p : Params) : BT := BT.node (ho113 p) BT.nil BT.nil
noncomputable def ht264 (p : Params) : BT := BT.node (ho44 p) (ht262 p) (ht263 p)
noncomputable def ht265 (p : Params) : BT := BT.node (ho9 p) (ht261 p) (ht264 p)
noncomputable def ht266 (p : Params) : BT := BT.node (ho105 p) BT.nil BT.nil
noncomputable def ht267 (p : Params) : BT := BT.node (ho33 p) (ht155 p) (ht266 p)
noncomputable def ht268 (p : Params) : BT := BT.node (ho89 p) BT.nil BT.nil
noncomputable def ht269 (p : Params) : BT := BT.node (ho121 p) BT.nil BT.nil
noncomputable def ht270 (p : Params) : BT := BT.node (ho52 p) (ht268 p) (ht269 p)
noncomputable def ht271 (p : Params) : BT := BT.node (ho17 p) (ht267 p) (ht270 p)
noncomputable def ht272 (p : Params) : BT := BT.node (boot_o_10 p) (ht265 p) (ht271 p)
noncomputable def ht273 (p : Params) : BT := BT.node (ho101 p) BT.nil BT.nil
noncomputable def ht274 (p : Params) : BT := BT.node (ho29 p) (ht159 p) (ht273 p)
noncomputable def ht275 (p : Params) : BT := BT.node (ho85 p) BT.nil BT.nil
noncomputable def ht276 (p : Params) : BT := BT.node (ho117 p) BT.nil BT.nil
noncomputable def ht277 (p : Params) : BT := BT.node (ho48 p) (ht275 p) (ht276 p)
noncomputable def ht278 (p : Params) : BT := BT.node (ho13 p) (ht274 p) (ht277 p)
noncomputable def ht279 (p : Params) : BT := BT.node (ho77 p) BT.nil BT.nil
noncomputable def ht280 (p : Params) : BT := BT.node (ho109 p) BT.nil BT.nil
noncomputable def ht281 (p : Params) : BT := BT.node (ho40 p) (ht279 p) (ht280 p)
noncomputable def ht282 (p : Params) : BT := BT.node (ho93 p) BT.nil BT.nil
noncomputable def ht283 (p : Params) : BT := BT.node (ho125 p) BT.nil BT.nil
noncomputable def ht284 (p : Params) : BT := BT.node (ho59 p) (ht282 p) (ht283 p)
noncomputable def ht285 (p : Params) : BT := BT.node (ho21 p) (ht281 p) (ht284 p)
noncomputable def ht286 (p : Params) : BT := BT.node (ho3 p) (ht278 p) (ht285 p)
noncomputable def ht287 (p : Params) : BT := BT.node (boot_o_6 p) (ht272 p) (ht286 p)
noncomputable def ht288 (p : Params) : BT := BT.node (ho37 p) (ht257 p) (ht287 p)
noncomputable def ht289 (p : Params) : BT := BT.node (boot_o_0 p) (ht228 p) (ht288 p)
noncomputable def hS4 (w : World) (os : OsState) : SharedT := SharedT.mk ((fun (p : Params) => (ht289 p)) w.params) 132 (@Life.mk [] [] [] 0 [] [] @Bool.false (hArr []) [] 0 @Bool.false @Bool.false @Bool.false (@OfNat.ofNat.{0} @Int (nat_lit 0) (@instOfNat (nat_lit 0))) [(@OfNat.ofNat.{0} @Int (nat_lit 2000) (@instOfNat (nat_lit 2000))), (@OfNat.ofNat.{0} @Int (nat_lit 10) (@instOfNat (nat_lit 10))), (@OfNat.ofNat.{0} @Int (nat_lit 10) (@instOfNat (nat_lit 10)))] @Bool.false 0 @Bool.true [] [] 0 @Bool.false) (hArr []) (@Drawn.mk 0 0 0 0) 352 os
noncomputable def hq4 : Pos := (@Pos.mk 109 0 122 26)
noncomputable def hs4 : List Stmt := [stm 19, stm 20]
noncomputable def ho131 (p : Params) : Obj := (@Obj.mk (@Value.type "dict") none (@Data.dict (hArr [(@DictEntry.mk (@PyData.keyHash p (hStr "__name__")) (@Value.str (hStr "__name__") 165) (@Value.str (hStr "vectorcove.values") 363)), (@DictEntry.mk (@PyData.keyHash p (hStr "__doc__")) (@Value.str (hStr "__doc__") 166) @Value.none), (@DictEntry.mk (@PyData.keyHash p (hStr "__package__")) (@Value.str (hStr "__package__") 167) @Value.none), (@DictEntry.mk (@PyData.keyHash p (hStr "__loader__")) (@Value.str (hStr "__loader__") 168) (@Value.builtin "__main__.__loader__#opaque")), (@DictEntry.mk (@PyData.keyHash p (hStr "__spec__")) (@Value.str (hStr "__spec__") 169) @Value.none), (@DictEntry.mk (@PyData.keyHash p (hStr "__annotations__")) (@Value.str (hStr "__annotations__") 170) (@Value.ref 6)), (@DictEntry.mk (@PyData.keyHash p (hStr "__builtins__")) (@Value.str (hStr "__builtins__") 171) (@Value.ref 4)), (@DictEntry.mk (@PyData.keyHash p (hStr "__file__")) (@Value.str (hStr "__file__") 173) (@Value.str (hStr "/claim/cut.py") 172)), (@DictEntry.mk (@PyData.keyHash p (hStr "__cached__")) (@Value.str (hStr "__cached__") 174) @Value.none), (@DictEntry.mk (@PyData.keyHash p (hStr "_wall")) (@Value.str (hStr "_wall") 193) (@Value.ref 21)), (@DictEntry.mk (@PyData.keyHash p (hStr "get_attr")) (@Value.str (hStr "get_attr") 203) (@Value.ref 28)), (@DictEntry.mk (@PyData.keyHash p (hStr "names_of")) (@Value.str (hStr "names_of") 209) (@Value.ref 33)), (@DictEntry.mk (@PyData.keyHash p (hStr "dim_of")) (@Value.str (hStr "dim_of") 217) (@Value.ref 40)), (@DictEntry.mk (@PyData.keyHash p (hStr "dimnames_of")) (@Value.str (hStr "dimnames_of") 223) (@Value.ref 45)), (@DictEntry.mk (@PyData.keyHash p (hStr "CoveError")) (@Value.str (hStr "CoveError") 245) (@Value.ref 55)), (@DictEntry.mk (@PyData.keyHash p (hStr "Refusal")) (@Value.str (hStr "Refusal") 270) (@Value.ref 75)), (@DictEntry.mk (@PyData.keyHash p (hStr "is_finite")) (@Value.str (hStr "is_finite") 279) (@Value.ref 84)), (@DictEntry.mk (@PyData.keyHash p (hStr "to_whole")) (@Value.str (hStr "to_whole") 287) (@Value.ref 91)), (@DictEntry.mk (@PyData.keyHash p (hStr "whole_subscripts")) (@Value.str (hStr "whole_subscripts") 298) (@Value.ref 98)), (@DictEntry.mk (@PyData.keyHash p (hStr "logical_places")) (@Value.str (hStr "logical_places") 310) (@Value.ref 105)), (@DictEntry.mk (@PyData.keyHash p (hStr "whole_places")) (@Value.str (hStr "whole_places") 316) (@Value.ref 110)), (@DictEntry.mk (@PyData.keyHash p (hStr "first_places")) (@Value.str (hStr "first_places") 326) (@Value.ref 117)), (@DictEntry.mk (@PyData.keyHash p (hStr "name_places")) (@Value.str (hStr "name_places") 337) (@Value.ref 124)), (@DictEntry.mk (@PyData.keyHash p (hStr "extending_places")) (@Value.str (hStr "extending_places") 351) (@Value.ref 131)), (@DictEntry.mk (@PyData.keyHash p (hStr "positions")) (@Value.str (hStr "positions") 362) (@Value.ref 138))]) 25) (hArr []))
noncomputable def ho132 (p : Params) : Obj := (@Obj.mk @Value.none none (@Data.fields (hArr [(@Value.int (@OfNat.ofNat.{0} @Int (nat_lit 1) (@instOfNat (nat_lit 1))) 0), (@Value.int (@OfNat.ofNat.{0} @Int (nat_lit 0) (@instOfNat (nat_lit 0))) 0), (@Value.ref 20), (@Value.int (@OfNat.ofNat.{0} @Int (nat_lit 5) (@instOfNat (nat_lit 5))) 0), (@Value.int (@OfNat.ofNat.{0} @Int (nat_lit 0) (@instOfNat (nat_lit 0))) 0), (@Value.ref 27), (@Value.int (@OfNat.ofNat.{0} @Int (nat_lit 9) (@instOfNat (nat_lit 9))) 0), (@Value.int (@OfNat.ofNat.{0} @Int (nat_lit 0) (@instOfNat (nat_lit 0))) 0), (@Value.ref 32), (@Value.int (@OfNat.ofNat.{0} @Int (nat_lit 25) (@instOfNat (nat_lit 25))) 0), (@Value.int (@OfNat.ofNat.{0} @Int (nat_lit 0) (@instOfNat (nat_lit 0))) 0), (@Value.ref 39), (@Value.int (@OfNat.ofNat.{0} @Int (nat_lit 30) (@instOfNat (nat_lit 30))) 0), (@Value.int (@OfNat.ofNat.{0} @Int (nat_lit 0) (@instOfNat (nat_lit 0))) 0), (@Value.ref 44), (@Value.int (@OfNat.ofNat.{0} @Int (nat_lit 36) (@instOfNat (nat_lit 36))) 0), (@Value.int (@OfNat.ofNat.{0} @Int (nat_lit 0) (@instOfNat (nat_lit 0))) 0), (@Value.ref 51), (@Value.int (@OfNat.ofNat.{0} @Int (nat_lit 38) (@instOfNat (nat_lit 38))) 0), (@Value.int (@OfNat.ofNat.{0} @Int (nat_lit 0) (@instOfNat (nat_lit 0))) 0), (@Value.ref 64), (@Value.int (@OfNat.ofNat.{0} @Int (nat_lit 43) (@instOfNat (nat_lit 43))) 0), (@Value.int (@OfNat.ofNat.{0} @Int (nat_lit 0) (@instOfNat (nat_lit 0))) 0), (@Value.ref 83), (@Value.int (@OfNat.ofNat.{0} @Int (nat_lit 45) (@instOfNat (nat_lit 45))) 0), (@Value.int (@OfNat.ofNat.{0} @Int (nat_lit 0) (@instOfNat (nat_lit 0))) 0), (@Value.ref 90), (@Value.int (@OfNat.ofNat.{0} @Int (nat_lit 51) (@instOfNat (nat_lit 51))) 0), (@Value.int (@OfNat.ofNat.{0} @Int (nat_lit 0) (@instOfNat (nat_lit 0))) 0), (@Value.ref 97), (@Value.int (@OfNat.ofNat.{0} @Int (nat_lit 61) (@instOfNat (nat_lit 61))) 0), (@Value.int (@OfNat.ofNat.{0} @Int (nat_lit 0) (@instOfNat (nat_lit 0))) 0), (@Value.ref 104), (@Value.int (@OfNat.ofNat.{0} @Int (nat_lit 73) (@instOfNat (nat_lit 73))) 0), (@Value.int (@OfNat.ofNat.{0} @Int (nat_lit 0) (@instOfNat (nat_lit 0))) 0), (@Value.ref 109), (@Value.int (@OfNat.ofNat.{0} @Int (nat_lit 92) (@instOfNat (nat_lit 92))) 0), (@Value.int (@OfNat.ofNat.{0} @Int (nat_lit 0) (@instOfNat (nat_lit 0))) 0), (@Value.ref 116), (@Value.int (@OfNat.ofNat.{0} @Int (nat_lit 100) (@instOfNat (nat_lit 100))) 0), (@Value.int (@OfNat.ofNat.{0} @Int (nat_lit 0) (@instOfNat (nat_lit 0))) 0), (@Value.ref 123), (@Value.int (@OfNat.ofNat.{0} @Int (nat_lit 109) (@instOfNat (nat_lit 109))) 0), (@Value.int (@OfNat.ofNat.{0} @Int (nat_lit 0) (@instOfNat (nat_lit 0))) 0), (@Value.ref 130), (@Value.int (@OfNat.ofNat.{0} @Int (nat_lit 123) (@instOfNat (nat_lit 123))) 0), (@Value.int (@OfNat.ofNat.{0} @Int (nat_lit 0) (@instOfNat (nat_lit 0))) 0), (@Value.ref 137)])) (hArr []))
noncomputable def ho133 (p : Params) : Obj := (@Obj.mk (@Value.type "tuple") none (@Data.seq (hArr []) 0) (hArr []))
noncomputable def ho134 (p : Params) : Obj := (@Obj.mk @Value.none none (@Data.fields (hArr [])) (hArr []))
noncomputable def ho135 (p : Params) : Obj := (@Obj.mk (@Value.type "tuple") none (@Data.seq (hArr [(@Value.str (hStr "ix") 355), (@Value.str (hStr "n") 356), (@Value.str (hStr "names") 357), (@Value.str (hStr "extend") 358), (@Value.str (hStr "kind") 359)]) 0) (hArr []))
noncomputable def ho136 (p : Params) : Obj := (@Obj.mk (@Value.type "tuple") none (@Data.seq (hArr []) 0) (hArr []))
noncomputable def ho137 (p : Params) : Obj := (@Obj.mk @Value.none none (@Data.func (@FuncData.mk (hStr "positions") (hStr "positions") (fnA 19) (@FuncBody.stmts (fnB 19)) (fnS 19) 0 [] @Value.none @Value.none @Value.none @Value.none none @Value.none @Value.none 0)) (hArr []))
noncomputable def ho138 (p : Params) : Obj := (@Obj.mk (@Value.type "code") none (@Data.fields (hArr [(@Value.str (hStr "positions") 352), (@Value.str (hStr "positions") 353), (@Value.str (hStr "/claim/cut.py") 354), (@Value.int (@OfNat.ofNat.{0} @Int (nat_lit 123) (@instOfNat (nat_lit 123))) 0), (@Value.int (@OfNat.ofNat.{0} @Int (nat_lit 4) (@instOfNat (nat_lit 4))) 0), (@Value.int (@OfNat.ofNat.{0} @Int (nat_lit 0) (@instOfNat (nat_lit 0))) 0), (@Value.int (@OfNat.ofNat.{0} @Int (nat_lit 0) (@instOfNat (nat_lit 0))) 0), (@Value.int (@OfNat.ofNat.{0} @Int (nat_lit 3) (@instOfNat (nat_lit 3))) 0), (@Value.ref 132), (@Value.bool @Bool.true), (@Value.int (@OfNat.ofNat.{0} @Int (nat_lit 181) (@instOfNat (nat_lit 181))) 0), (@Value.ref 133), @Value.none, (@Value.ref 134), (@Value.ref 135), (@Value.ref 136), (@Value.int (@OfNat.ofNat.{0} @Int (nat_lit 360) (@instOfNat (nat_lit 360))) 0), (@Value.int (@OfNat.ofNat.{0} @Int (nat_lit 123) (@instOfNat (nat_lit 123))) 0), (@Value.str (hStr "/claim/cut.py") 361)])) (hArr []))
noncomputable def ho139 (p : Params) : Obj := (@Obj.mk (@Value.type "function") none (@Data.func (@FuncData.mk (hStr "positions") (hStr "positions") (fnA 19) (@FuncBody.stmts (fnB 19)) (fnS 19) 3 [] @Value.none @Value.none @Value.none (@Value.str (hStr "vectorcove.index") 288) none (@Value.ref 137) @Value.none 0)) (hArr []))
noncomputable def ht290 (p : Params) : BT := BT.node (ho136 p) BT.nil BT.nil
noncomputable def ht291 (p : Params) : BT := BT.node (ho68 p) (ht290 p) BT.nil
noncomputable def ht292 (p : Params) : BT := BT.node (ho30 p) (ht291 p) (ht176 p)
noncomputable def ht293 (p : Params) : BT := BT.node (ho14 p) (ht292 p) (ht180 p)
noncomputable def ht294 (p : Params) : BT := BT.node (boot_o_7 p) (ht175 p) (ht293 p)
noncomputable def ht295 (p : Params) : BT := BT.node (ho131 p) (ht294 p) (ht197 p)
noncomputable def ht296 (p : Params) : BT := BT.node (ho138 p) BT.nil BT.nil
noncomputable def ht297 (p : Params) : BT := BT.node (ho70 p) (ht296 p) BT.nil
noncomputable def ht298 (p : Params) : BT := BT.node (ho32 p) (ht297 p) (ht207 p)
noncomputable def ht299 (p : Params) : BT := BT.node (ho16 p) (ht298 p) (ht211 p)
noncomputable def ht300 (p : Params) : BT := BT.node (boot_o_9 p) (ht206 p) (ht299 p)
noncomputable def ht301 (p : Params) : BT := BT.node (ho134 p) BT.nil BT.nil
noncomputable def ht302 (p : Params) : BT := BT.node (ho66 p) (ht301 p) BT.nil
noncomputable def ht303 (p : Params) : BT := BT.node (ho28 p) (ht302 p) (ht214 p)
noncomputable def ht304 (p : Params) : BT := BT.node (ho12 p) (ht303 p) (ht218 p)
noncomputable def ht305 (p : Params) : BT := BT.node (ho2 p) (ht304 p) (ht225 p)
noncomputable def ht306 (p : Params) : BT := BT.node (boot_o_5 p) (ht300 p) (ht305 p)
noncomputable def ht307 (p : Params) : BT := BT.node (boot_o_1 p) (ht295 p) (ht306 p)
noncomputable def ht308 (p : Params) : BT := BT.node (ho137 p) BT.nil BT.nil
noncomputable def ht309 (p : Params) : BT := BT.node (ho69 p) (ht308 p) BT.nil
noncomputable def ht310 (p : Params) : BT := BT.node (ho31 p) (ht309 p) (ht237 p)
noncomputable def ht311 (p : Params) : BT := BT.node (ho15 p) (ht310 p) (ht241 p)
noncomputable def ht312 (p : Params) : BT := BT.node (boot_o_8 p) (ht236 p) (ht311 p)
noncomputable def ht313 (p : Params) : BT := BT.node (ho133 p) BT.nil BT.nil
noncomputable def ht314 (p : Params) : BT := BT.node (ho65 p) (ht313 p) BT.nil
noncomputable def ht315 (p : Params) : BT := BT.node (ho27 p) (ht314 p) (ht244 p)
noncomputable def ht316 (p : Params) : BT := BT.node (ho11 p) (ht315 p) (ht248 p)
noncomputable def ht317 (p : Params) : BT := BT.node (ho132 p) (ht316 p) (ht255 p)
noncomputable def ht318 (p : Params) : BT := BT.node (boot_o_4 p) (ht312 p) (ht317 p)
noncomputable def ht319 (p : Params) : BT := BT.node (ho139 p) BT.nil BT.nil
noncomputable def ht320 (p : Params) : BT := BT.node (ho71 p) (ht319 p) BT.nil
noncomputable def ht321 (p : Params) : BT := BT.node (ho33 p) (ht320 p) (ht266 p)
noncomputable def ht322 (p : Params) : BT := BT.node (ho17 p) (ht321 p) (ht270 p)
noncomputable def ht323 (p : Params) : BT := BT.node (boot_o_10 p) (ht265 p) (ht322 p)
noncomputable def ht324 (p : Params) : BT := BT.node (ho135 p) BT.nil BT.nil
noncomputable def ht325 (p : Params) : BT := BT.node (ho67 p) (ht324 p) BT.nil
noncomputable def ht326 (p : Params) : BT := BT.node (ho29 p) (ht325 p) (ht273 p)
noncomputable def ht327 (p : Params) : BT := BT.node (ho13 p) (ht326 p) (ht277 p)
noncomputable def ht328 (p : Params) : BT := BT.node (ho3 p) (ht327 p) (ht285 p)
noncomputable def ht329 (p : Params) : BT := BT.node (boot_o_6 p) (ht323 p) (ht328 p)
noncomputable def ht330 (p : Params) : BT := BT.node (ho37 p) (ht318 p) (ht329 p)
noncomputable def ht331 (p : Params) : BT := BT.node (boot_o_0 p) (ht307 p) (ht330 p)
noncomputable def hS5 (w : World) (os : OsState) : SharedT := SharedT.mk ((fun (p : Params) => (ht331 p)) w.params) 139 (@Life.mk [] [] [] 0 [] [] @Bool.false (hArr []) [] 0 @Bool.false @Bool.false @Bool.false (@OfNat.ofNat.{0} @Int (nat_lit 0) (@instOfNat (nat_lit 0))) [(@OfNat.ofNat.{0} @Int (nat_lit 2000) (@instOfNat (nat_lit 2000))), (@OfNat.ofNat.{0} @Int (nat_lit 10) (@instOfNat (nat_lit 10))), (@OfNat.ofNat.{0} @Int (nat_lit 10) (@instOfNat (nat_lit 10)))] @Bool.false 0 @Bool.true [] [] 0 @Bool.false) (hArr []) (@Drawn.mk 0 0 0 0) 365 os
noncomputable def hq5 : Pos := (@Pos.mk 138 0 138 8)
noncomputable def hs5 : List Stmt := [stm 21]
noncomputable def ho140 (p : Params) : Obj := (@Obj.mk (@Value.type "dict") none (@Data.dict (hArr [(@DictEntry.mk (@PyData.keyHash p (hStr "__name__")) (@Value.str (hStr "__name__") 165) (@Value.str (hStr "vectorcove.values") 363)), (@DictEntry.mk (@PyData.keyHash p (hStr "__doc__")) (@Value.str (hStr "__doc__") 166) @Value.none), (@DictEntry.mk (@PyData.keyHash p (hStr "__package__")) (@Value.str (hStr "__package__") 167) @Value.none), (@DictEntry.mk (@PyData.keyHash p (hStr "__loader__")) (@Value.str (hStr "__loader__") 168) (@Value.builtin "__main__.__loader__#opaque")), (@DictEntry.mk (@PyData.keyHash p (hStr "__spec__")) (@Value.str (hStr "__spec__") 169) @Value.none), (@DictEntry.mk (@PyData.keyHash p (hStr "__annotations__")) (@Value.str (hStr "__annotations__") 170) (@Value.ref 6)), (@DictEntry.mk (@PyData.keyHash p (hStr "__builtins__")) (@Value.str (hStr "__builtins__") 171) (@Value.ref 4)), (@DictEntry.mk (@PyData.keyHash p (hStr "__file__")) (@Value.str (hStr "__file__") 173) (@Value.str (hStr "/claim/cut.py") 172)), (@DictEntry.mk (@PyData.keyHash p (hStr "__cached__")) (@Value.str (hStr "__cached__") 174) @Value.none), (@DictEntry.mk (@PyData.keyHash p (hStr "_wall")) (@Value.str (hStr "_wall") 193) (@Value.ref 21)), (@DictEntry.mk (@PyData.keyHash p (hStr "get_attr")) (@Value.str (hStr "get_attr") 203) (@Value.ref 28)), (@DictEntry.mk (@PyData.keyHash p (hStr "names_of")) (@Value.str (hStr "names_of") 209) (@Value.ref 33)), (@DictEntry.mk (@PyData.keyHash p (hStr "dim_of")) (@Value.str (hStr "dim_of") 217) (@Value.ref 40)), (@DictEntry.mk (@PyData.keyHash p (hStr "dimnames_of")) (@Value.str (hStr "dimnames_of") 223) (@Value.ref 45)), (@DictEntry.mk (@PyData.keyHash p (hStr "CoveError")) (@Value.str (hStr "CoveError") 245) (@Value.ref 55)), (@DictEntry.mk (@PyData.keyHash p (hStr "Refusal")) (@Value.str (hStr "Refusal") 270) (@Value.ref 75)), (@DictEntry.mk (@PyData.keyHash p (hStr "is_finite")) (@Value.str (hStr "is_finite") 279) (@Value.ref 84)), (@DictEntry.mk (@PyData.keyHash p (hStr "to_whole")) (@Value.str (hStr "to_whole") 287) (@Value.ref 91)), (@DictEntry.mk (@PyData.keyHash p (hStr "whole_subscripts")) (@Value.str (hStr "whole_subscripts") 298) (@Value.ref 98)), (@DictEntry.mk (@PyData.keyHash p (hStr "logical_places")) (@Value.str (hStr "logical_places") 310) (@Value.ref 105)), (@DictEntry.mk (@PyData.keyHash p (hStr "whole_places")) (@Value.str (hStr "whole_places") 316) (@Value.ref 110)), (@DictEntry.mk (@PyData.keyHash p (hStr "first_places")) (@Value.str (hStr "first_places") 326) (@Value.ref 117)), (@DictEntry.mk (@PyData.keyHash p (hStr "name_places")) (@Value.str (hStr "name_places") 337) (@Value.ref 124)), (@DictEntry.mk (@PyData.keyHash p (hStr "extending_places")) (@Value.str (hStr "extending_places") 351) (@Value.ref 131)), (@DictEntry.mk (@PyData.keyHash p (hStr "positions")) (@Value.str (hStr "positions") 362) (@Value.ref 138)), (@DictEntry.mk (@PyData.keyHash p (hStr "Null")) (@Value.str (hStr "Null") 393) (@Value.ref 155))]) 26) (hArr []))
noncomputable def ho141 (p : Params) : Obj := (@Obj.mk @Value.none none (@Data.fields (hArr [(@Value.int (@OfNat.ofNat.{0} @Int (nat_lit 1) (@instOfNat (nat_lit 1))) 0), (@Value.int (@OfNat.ofNat.{0} @Int (nat_lit 0) (@instOfNat (nat_lit 0))) 0), (@Value.ref 20), (@Value.int (@OfNat.ofNat.{0} @Int (nat_lit 5) (@instOfNat (nat_lit 5))) 0), (@Value.int (@OfNat.ofNat.{0} @Int (nat_lit 0) (@instOfNat (nat_lit 0))) 0), (@Value.ref 27), (@Value.int (@OfNat.ofNat.{0} @Int (nat_lit 9) (@instOfNat (nat_lit 9))) 0), (@Value.int (@OfNat.ofNat.{0} @Int (nat_lit 0) (@instOfNat (nat_lit 0))) 0), (@Value.ref 32), (@Value.int (@OfNat.ofNat.{0} @Int (nat_lit 25) (@instOfNat (nat_lit 25))) 0), (@Value.int (@OfNat.ofNat.{0} @Int (nat_lit 0) (@instOfNat (nat_lit 0))) 0), (@Value.ref 39), (@Value.int (@OfNat.ofNat.{0} @Int (nat_lit 30) (@instOfNat (nat_lit 30))) 0), (@Value.int (@OfNat.ofNat.{0} @Int (nat_lit 0) (@instOfNat (nat_lit 0))) 0), (@Value.ref 44), (@Value.int (@OfNat.ofNat.{0} @Int (nat_lit 36) (@instOfNat (nat_lit 36))) 0), (@Value.int (@OfNat.ofNat.{0} @Int (nat_lit 0) (@instOfNat (nat_lit 0))) 0), (@Value.ref 51), (@Value.int (@OfNat.ofNat.{0} @Int (nat_lit 38) (@instOfNat (nat_lit 38))) 0), (@Value.int (@OfNat.ofNat.{0} @Int (nat_lit 0) (@instOfNat (nat_lit 0))) 0), (@Value.ref 64), (@Value.int (@OfNat.ofNat.{0} @Int (nat_lit 43) (@instOfNat (nat_lit 43))) 0), (@Value.int (@OfNat.ofNat.{0} @Int (nat_lit 0) (@instOfNat (nat_lit 0))) 0), (@Value.ref 83), (@Value.int (@OfNat.ofNat.{0} @Int (nat_lit 45) (@instOfNat (nat_lit 45))) 0), (@Value.int (@OfNat.ofNat.{0} @Int (nat_lit 0) (@instOfNat (nat_lit 0))) 0), (@Value.ref 90), (@Value.int (@OfNat.ofNat.{0} @Int (nat_lit 51) (@instOfNat (nat_lit 51))) 0), (@Value.int (@OfNat.ofNat.{0} @Int (nat_lit 0) (@instOfNat (nat_lit 0))) 0), (@Value.ref 97), (@Value.int (@OfNat.ofNat.{0} @Int (nat_lit 61) (@instOfNat (nat_lit 61))) 0), (@Value.int (@OfNat.ofNat.{0} @Int (nat_lit 0) (@instOfNat (nat_lit 0))) 0), (@Value.ref 104), (@Value.int (@OfNat.ofNat.{0} @Int (nat_lit 73) (@instOfNat (nat_lit 73))) 0), (@Value.int (@OfNat.ofNat.{0} @Int (nat_lit 0) (@instOfNat (nat_lit 0))) 0), (@Value.ref 109), (@Value.int (@OfNat.ofNat.{0} @Int (nat_lit 92) (@instOfNat (nat_lit 92))) 0), (@Value.int (@OfNat.ofNat.{0} @Int (nat_lit 0) (@instOfNat (nat_lit 0))) 0), (@Value.ref 116), (@Value.int (@OfNat.ofNat.{0} @Int (nat_lit 100) (@instOfNat (nat_lit 100))) 0), (@Value.int (@OfNat.ofNat.{0} @Int (nat_lit 0) (@instOfNat (nat_lit 0))) 0), (@Value.ref 123), (@Value.int (@OfNat.ofNat.{0} @Int (nat_lit 109) (@instOfNat (nat_lit 109))) 0), (@Value.int (@OfNat.ofNat.{0} @Int (nat_lit 0) (@instOfNat (nat_lit 0))) 0), (@Value.ref 130), (@Value.int (@OfNat.ofNat.{0} @Int (nat_lit 123) (@instOfNat (nat_lit 123))) 0), (@Value.int (@OfNat.ofNat.{0} @Int (nat_lit 0) (@instOfNat (nat_lit 0))) 0), (@Value.ref 137), (@Value.int (@OfNat.ofNat.{0} @Int (nat_lit 139) (@instOfNat (nat_lit 139))) 0), (@Value.int (@OfNat.ofNat.{0} @Int (nat_lit 0) (@instOfNat (nat_lit 0))) 0), (@Value.ref 144)])) (hArr []))
noncomputable def ho142 (p : Params) : Obj := (@Obj.mk (@Value.type "tuple") none (@Data.seq (hArr []) 0) (hArr []))
noncomputable def ho143 (p : Params) : Obj := (@Obj.mk (@Value.type "builtin_function_or_method") none (@Data.fields (hArr [(@Value.builtin "type.__prepare__"), (@Value.type "type")])) (hArr []))
noncomputable def ho144 (p : Params) : Obj := (@Obj.mk (@Value.type "dict") none (@Data.dict (hArr [(@DictEntry.mk (@PyData.keyHash p (hStr "__module__")) (@Value.str (hStr "__module__") 372) (@Value.str (hStr "vectorcove.values") 363)), (@DictEntry.mk (@PyData.keyHash p (hStr "__qualname__")) (@Value.str (hStr "__qualname__") 374) (@Value.str (hStr "Null") 373)), (@DictEntry.mk (@PyData.keyHash p (hStr "__firstlineno__")) (@Value.str (hStr "__firstlineno__") 376) (@Value.int (@OfNat.ofNat.{0} @Int (nat_lit 139) (@instOfNat (nat_lit 139))) 375)), (@DictEntry.mk (@PyData.keyHash p (hStr "__init__")) (@Value.str (hStr "__init__") 383) (@Value.ref 152)), (@DictEntry.mk (@PyData.keyHash p (hStr "__static_attributes__")) (@Value.str (hStr "__static_attributes__") 386) (@Value.ref 153))]) 5) (hArr []))
noncomputable def ho145 (p : Params) : Obj := (@Obj.mk (@Value.type "tuple") none (@Data.seq (hArr []) 0) (hArr []))
noncomputable def ho146 (p : Params) : Obj := (@Obj.mk @Value.none none (@Data.fields (hArr [(@Value.int (@OfNat.ofNat.{0} @Int (nat_lit 141) (@instOfNat (nat_lit 141))) 0), (@Value.int (@OfNat.ofNat.{0} @Int (nat_lit 4) (@instOfNat (nat_lit 4))) 0), (@Value.ref 151)])) (hArr []))
noncomputable def ho147 (p : Params) : Obj := (@Obj.mk (@Value.type "code") none (@Data.fields (hArr [(@Value.str (hStr "Null") 367), (@Value.str (hStr "Null") 368), (@Value.str (hStr "/claim/cut.py") 369), (@Value.int (@OfNat.ofNat.{0} @Int (nat_lit 139) (@instOfNat (nat_lit 139))) 0), (@Value.int (@OfNat.ofNat.{0} @Int (nat_lit 0) (@instOfNat (nat_lit 0))) 0), (@Value.int (@OfNat.ofNat.{0} @Int (nat_lit 0) (@instOfNat (nat_lit 0))) 0), (@Value.int (@OfNat.ofNat.{0} @Int (nat_lit 0) (@instOfNat (nat_lit 0))) 0), (@Value.int (@OfNat.ofNat.{0} @Int (nat_lit 0) (@instOfNat (nat_lit 0))) 0), (@Value.ref 142), (@Value.bool @Bool.false), (@Value.int (@OfNat.ofNat.{0} @Int (nat_lit 181) (@instOfNat (nat_lit 181))) 0), (@Value.ref 143), @Value.none, @Value.none, @Value.none, @Value.none, (@Value.int (@OfNat.ofNat.{0} @Int (nat_lit 370) (@instOfNat (nat_lit 370))) 0), (@Value.int (@OfNat.ofNat.{0} @Int (nat_lit 139) (@instOfNat (nat_lit 139))) 0), (@Value.str (hStr "/claim/cut.py") 371)])) (hArr []))
noncomputable def ho148 (p : Params) : Obj := (@Obj.mk (@Value.type "frame") none @Data.plain (hArr [(some (@Value.ref 144)), (some (@Value.ref 3)), (some (@Value.ref 141)), none, (some (@Value.str (hStr "vectorcove.values") 363)), none, (some (@Value.ref 0))]))
noncomputable def ho149 (p : Params) : Obj := (@Obj.mk (@Value.type "tuple") none (@Data.seq (hArr []) 0) (hArr []))
noncomputable def ho150 (p : Params) : Obj := (@Obj.mk @Value.none none (@Data.fields (hArr [])) (hArr []))
noncomputable def ho151 (p : Params) : Obj := (@Obj.mk (@Value.type "tuple") none (@Data.seq (hArr [(@Value.str (hStr "self") 380)]) 0) (hArr []))
noncomputable def ho152 (p : Params) : Obj := (@Obj.mk (@Value.type "tuple") none (@Data.seq (hArr []) 0) (hArr []))
noncomputable def ho153 (p : Params) : Obj := (@Obj.mk @Value.none none (@Data.func (@FuncData.mk (hStr "__init__") (hStr "Null.__init__") (meA 21) (@FuncBody.stmts (meB 21)) (meS 21) 0 [] @Value.none @Value.none @Value.none @Value.none none @Value.none @Value.none 0)) (hArr []))
noncomputable def ho154 (p : Params) : Obj := (@Obj.mk (@Value.type "code") none (@Data.fields (hArr [(@Value.str (hStr "__init__") 377), (@Value.str (hStr "Null.__init__") 378), (@Value.str (hStr "/claim/cut.py") 379), (@Value.int (@OfNat.ofNat.{0} @Int (nat_lit 141) (@instOfNat (nat_lit 141))) 0), (@Value.int (@OfNat.ofNat.{0} @Int (nat_lit 1) (@instOfNat (nat_lit 1))) 0), (@Value.int (@OfNat.ofNat.{0} @Int (nat_lit 0) (@instOfNat (nat_lit 0))) 0), (@Value.int (@OfNat.ofNat.{0} @Int (nat_lit 0) (@instOfNat (nat_lit 0))) 0), (@Value.int (@OfNat.ofNat.{0} @Int (nat_lit 3) (@instOfNat (nat_lit 3))) 0), (@Value.ref 146), (@Value.bool @Bool.true), (@Value.int (@OfNat.ofNat.{0} @Int (nat_lit 181) (@instOfNat (nat_lit 181))) 0), (@Value.ref 147), @Value.none, (@Value.ref 148), (@Value.ref 149), (@Value.ref 150), (@Value.int (@OfNat.ofNat.{0} @Int (nat_lit 381) (@instOfNat (nat_lit 381))) 0), (@Value.int (@OfNat.ofNat.{0} @Int (nat_lit 141) (@instOfNat (nat_lit 141))) 0), (@Value.str (hStr "/claim/cut.py") 382)])) (hArr []))
noncomputable def ho155 (p : Params) : Obj := (@Obj.mk (@Value.type "function") none (@Data.func (@FuncData.mk (hStr "__init__") (hStr "Null.__init__") (meA 21) (@FuncBody.stmts (meB 21)) (meS 21) 3 [] @Value.none @Value.none @Value.none (@Value.str (hStr "vectorcove.values") 363) none (@Value.ref 151) @Value.none 0)) (hArr []))
noncomputable def ho156 (p : Params) : Obj := (@Obj.mk (@Value.type "tuple") none (@Data.seq (hArr [(@Value.str (hStr "attrs") 384), (@Value.str (hStr "kind") 385)]) 0) (hArr []))
noncomputable def ho157 (p : Params) : Obj := (@Obj.mk (@Value.type "dict") none (@Data.dict (hArr [(@DictEntry.mk (@PyData.keyHash p (hStr "__module__")) (@Value.str (hStr "__module__") 372) (@Value.str (hStr "vectorcove.values") 363)), (@DictEntry.mk (@PyData.keyHash p (hStr "__firstlineno__")) (@Value.str (hStr "__firstlineno__") 376) (@Value.int (@OfNat.ofNat.{0} @Int (nat_lit 139) (@instOfNat (nat_lit 139))) 375)), (@DictEntry.mk (@PyData.keyHash p (hStr "__init__")) (@Value.str (hStr "__init__") 383) (@Value.ref 152)), (@DictEntry.mk (@PyData.keyHash p (hStr "__static_attributes__")) (@Value.str (hStr "__static_attributes__") 386) (@Value.ref 153)), (@DictEntry.mk (@PyData.keyHash p (hStr "__dict__")) (@Value.str (hStr "__dict__") 388) (@Value.ref 156)), (@DictEntry.mk (@PyData.keyHash p (hStr "__weakref__")) (@Value.str (hStr "__weakref__") 390) (@Value.ref 157)), (@DictEntry.mk (@PyData.keyHash p (hStr "__doc__")) (@Value.str (hStr "__doc__") 391) @Value.none)]) 4) (hArr []))
noncomputable def ho158 (p : Params) : Obj := (@Obj.mk (@Value.type "type") none (@Data.cls (@ClassData.mk (hStr "Null") [(@Value.type "object")] [(@Value.ref 155), (@Value.type "object")] 154 (hStr "Null") @Bool.true [] [] @Bool.false none @Bool.false)) (hArr [none, none, (some (@Value.str (hStr "Null") 365)), (some (@Value.str (hStr "Null") 373)), (some (@Value.builtin "object.__new__")), (some (@Value.bool @Bool.true))]))
noncomputable def ho159 (p : Params) : Obj := (@Obj.mk (@Value.type "getset_descriptor") none (@Data.fields (hArr [(@Value.str (hStr "__dict__") 387), (@Value.ref 155), (@Value.builtin "function.__dict__"), (@Value.builtin "function.__dict__#set")])) (hArr []))
noncomputable def ho160 (p : Params) : Obj := (@Obj.mk (@Value.type "getset_descriptor") none (@Data.fields (hArr [(@Value.str (hStr "__weakref__") 389), (@Value.ref 155), (@Value.builtin "ExceptionGroup.__weakref__"), @Value.none])) (hArr []))
noncomputable def ho161 (p : Params) : Obj := (@Obj.mk (@Value.type "super") none (@Data.fields (hArr [(@Value.ref 155), (@Value.ref 155), (@Value.ref 155)])) (hArr []))
noncomputable def ho162 (p : Params) : Obj := (@Obj.mk (@Value.type "builtin_function_or_method") none (@Data.fields (hArr [(@Value.builtin "object.__init_subclass__"), (@Value.ref 155)])) (hArr []))
noncomputable def ht332 (p : Params) : BT := BT.node (ho162 p) BT.nil BT.nil
noncomputable def ht333 (p : Params) : BT := BT.node (ho94 p) (ht332 p) BT.nil
noncomputable def ht334 (p : Params) : BT := BT.node (ho22 p) (ht169 p) (ht333 p)
noncomputable def ht335 (p : Params) : BT := BT.node (ho146 p) BT.nil BT.nil
noncomputable def ht336 (p : Params) : BT := BT.node (ho78 p) (ht335 p) BT.nil
noncomputable def ht337 (p : Params) : BT := BT.node (ho41 p) (ht336 p) (ht173 p)
noncomputable def ht338 (p : Params) : BT := BT.node (ho6 p) (ht334 p) (ht337 p)
noncomputable def ht339 (p : Params) : BT := BT.node (ho154 p) BT.nil BT.nil
noncomputable def ht340 (p : Params) : BT := BT.node (ho86 p) (ht339 p) BT.nil
noncomputable def ht341 (p : Params) : BT := BT.node (ho55 p) (ht340 p) (ht179 p)
noncomputable def ht342 (p : Params) : BT := BT.node (ho14 p) (ht292 p) (ht341 p)
noncomputable def ht343 (p : Params) : BT := BT.node (boot_o_7 p) (ht338 p) (ht342 p)
noncomputable def ht344 (p : Params) : BT := BT.node (ho150 p) BT.nil BT.nil
noncomputable def ht345 (p : Params) : BT := BT.node (ho82 p) (ht344 p) BT.nil
noncomputable def ht346 (p : Params) : BT := BT.node (ho45 p) (ht345 p) (ht188 p)
noncomputable def ht347 (p : Params) : BT := BT.node (ho10 p) (ht186 p) (ht346 p)
noncomputable def ht348 (p : Params) : BT := BT.node (ho142 p) BT.nil BT.nil
noncomputable def ht349 (p : Params) : BT := BT.node (ho72 p) (ht348 p) BT.nil
noncomputable def ht350 (p : Params) : BT := BT.node (ho34 p) (ht349 p) (ht191 p)
noncomputable def ht351 (p : Params) : BT := BT.node (ho158 p) BT.nil BT.nil
noncomputable def ht352 (p : Params) : BT := BT.node (ho90 p) (ht351 p) BT.nil
noncomputable def ht353 (p : Params) : BT := BT.node (ho56 p) (ht352 p) (ht194 p)
noncomputable def ht354 (p : Params) : BT := BT.node (ho18 p) (ht350 p) (ht353 p)
noncomputable def ht355 (p : Params) : BT := BT.node (ho0 p) (ht347 p) (ht354 p)
noncomputable def ht356 (p : Params) : BT := BT.node (ho140 p) (ht343 p) (ht355 p)
noncomputable def ht357 (p : Params) : BT := BT.node (ho148 p) BT.nil BT.nil
noncomputable def ht358 (p : Params) : BT := BT.node (ho80 p) (ht357 p) BT.nil
noncomputable def ht359 (p : Params) : BT := BT.node (ho43 p) (ht358 p) (ht204 p)
noncomputable def ht360 (p : Params) : BT := BT.node (ho8 p) (ht202 p) (ht359 p)
noncomputable def ht361 (p : Params) : BT := BT.node (ho156 p) BT.nil BT.nil
noncomputable def ht362 (p : Params) : BT := BT.node (ho88 p) (ht361 p) BT.nil
noncomputable def ht363 (p : Params) : BT := BT.node (ho51 p) (ht362 p) (ht210 p)
noncomputable def ht364 (p : Params) : BT := BT.node (ho16 p) (ht298 p) (ht363 p)
noncomputable def ht365 (p : Params) : BT := BT.node (boot_o_9 p) (ht360 p) (ht364 p)
noncomputable def ht366 (p : Params) : BT := BT.node (ho152 p) BT.nil BT.nil
noncomputable def ht367 (p : Params) : BT := BT.node (ho84 p) (ht366 p) BT.nil
noncomputable def ht368 (p : Params) : BT := BT.node (ho47 p) (ht367 p) (ht217 p)
noncomputable def ht369 (p : Params) : BT := BT.node (ho12 p) (ht303 p) (ht368 p)
noncomputable def ht370 (p : Params) : BT := BT.node (ho144 p) BT.nil BT.nil
noncomputable def ht371 (p : Params) : BT := BT.node (ho74 p) (ht370 p) BT.nil
noncomputable def ht372 (p : Params) : BT := BT.node (ho36 p) (ht371 p) (ht220 p)
noncomputable def ht373 (p : Params) : BT := BT.node (ho160 p) BT.nil BT.nil
noncomputable def ht374 (p : Params) : BT := BT.node (ho92 p) (ht373 p) BT.nil
noncomputable def ht375 (p : Params) : BT := BT.node (ho58 p) (ht374 p) (ht223 p)
noncomputable def ht376 (p : Params) : BT := BT.node (ho20 p) (ht372 p) (ht375 p)
noncomputable def ht377 (p : Params) : BT := BT.node (ho2 p) (ht369 p) (ht376 p)
noncomputable def ht378 (p : Params) : BT := BT.node (boot_o_5 p) (ht365 p) (ht377 p)
noncomputable def ht379 (p : Params) : BT := BT.node (boot_o_1 p) (ht356 p) (ht378 p)
noncomputable def ht380 (p : Params) : BT := BT.node (ho147 p) BT.nil BT.nil
noncomputable def ht381 (p : Params) : BT := BT.node (ho79 p) (ht380 p) BT.nil
noncomputable def ht382 (p : Params) : BT := BT.node (ho42 p) (ht381 p) (ht234 p)
noncomputable def ht383 (p : Params) : BT := BT.node (ho7 p) (ht232 p) (ht382 p)
noncomputable def ht384 (p : Params) : BT := BT.node (ho155 p) BT.nil BT.nil
noncomputable def ht385 (p : Params) : BT := BT.node (ho87 p) (ht384 p) BT.nil
noncomputable def ht386 (p : Params) : BT := BT.node (ho50 p) (ht385 p) (ht240 p)
noncomputable def ht387 (p : Params) : BT := BT.node (ho15 p) (ht310 p) (ht386 p)
noncomputable def ht388 (p : Params) : BT := BT.node (boot_o_8 p) (ht383 p) (ht387 p)
noncomputable def ht389 (p : Params) : BT := BT.node (ho151 p) BT.nil BT.nil
noncomputable def ht390 (p : Params) : BT := BT.node (ho83 p) (ht389 p) BT.nil
noncomputable def ht391 (p : Params) : BT := BT.node (ho46 p) (ht390 p) (ht247 p)
noncomputable def ht392 (p : Params) : BT := BT.node (ho11 p) (ht315 p) (ht391 p)
noncomputable def ht393 (p : Params) : BT := BT.node (ho143 p) BT.nil BT.nil
noncomputable def ht394 (p : Params) : BT := BT.node (ho73 p) (ht393 p) BT.nil
noncomputable def ht395 (p : Params) : BT := BT.node (ho35 p) (ht394 p) (ht250 p)
noncomputable def ht396 (p : Params) : BT := BT.node (ho159 p) BT.nil BT.nil
noncomputable def ht397 (p : Params) : BT := BT.node (ho91 p) (ht396 p) BT.nil
noncomputable def ht398 (p : Params) : BT := BT.node (ho57 p) (ht397 p) (ht253 p)
noncomputable def ht399 (p : Params) : BT := BT.node (ho19 p) (ht395 p) (ht398 p)
noncomputable def ht400 (p : Params) : BT := BT.node (ho141 p) (ht392 p) (ht399 p)
noncomputable def ht401 (p : Params) : BT := BT.node (boot_o_4 p) (ht388 p) (ht400 p)
noncomputable def ht402 (p : Params) : BT := BT.node (ho149 p) BT.nil BT.nil
noncomputable def ht403 (p : Params) : BT := BT.node (ho81 p) (ht402 p) BT.nil
noncomputable def ht404 (p : Params) : BT := BT.node (ho44 p) (ht403 p) (ht263 p)
noncomputable def ht405 (p : Params) : BT := BT.node (ho9 p) (ht261 p) (ht404 p)
noncomputable def ht406 (p : Params) : BT := BT.node (ho157 p) BT.nil BT.nil
noncomputable def ht407 (p : Params) : BT := BT.node (ho89 p) (ht406 p) BT.nil
noncomputable def ht408 (p : Params) : BT := BT.node (ho52 p) (ht407 p) (ht269 p)
noncomputable def ht409 (p : Params) : BT := BT.node (ho17 p) (ht321 p) (ht408 p)
noncomputable def ht410 (p : Params) : BT := BT.node (boot_o_10 p) (ht405 p) (ht409 p)
noncomputable def ht411 (p : Params) : BT := BT.node (ho153 p) BT.nil BT.nil
noncomputable def ht412 (p : Params) : BT := BT.node (ho85 p) (ht411 p) BT.nil
noncomputable def ht413 (p : Params) : BT := BT.node (ho48 p) (ht412 p) (ht276 p)
noncomputable def ht414 (p : Params) : BT := BT.node (ho13 p) (ht326 p) (ht413 p)
noncomputable def ht415 (p : Params) : BT := BT.node (ho145 p) BT.nil BT.nil
noncomputable def ht416 (p : Params) : BT := BT.node (ho77 p) (ht415 p) BT.nil
noncomputable def ht417 (p : Params) : BT := BT.node (ho40 p) (ht416 p) (ht280 p)
noncomputable def ht418 (p : Params) : BT := BT.node (ho161 p) BT.nil BT.nil
noncomputable def ht419 (p : Params) : BT := BT.node (ho93 p) (ht418 p) BT.nil
noncomputable def ht420 (p : Params) : BT := BT.node (ho59 p) (ht419 p) (ht283 p)
noncomputable def ht421 (p : Params) : BT := BT.node (ho21 p) (ht417 p) (ht420 p)
noncomputable def ht422 (p : Params) : BT := BT.node (ho3 p) (ht414 p) (ht421 p)
noncomputable def ht423 (p : Params) : BT := BT.node (boot_o_6 p) (ht410 p) (ht422 p)
noncomputable def ht424 (p : Params) : BT := BT.node (ho37 p) (ht401 p) (ht423 p)
noncomputable def ht425 (p : Params) : BT := BT.node (boot_o_0 p) (ht379 p) (ht424 p)
noncomputable def hS6 (w : World) (os : OsState) : SharedT := SharedT.mk ((fun (p : Params) => (ht425 p)) w.params) 160 (@Life.mk [] [] [] 0 [] [] @Bool.false (hArr []) [] 0 @Bool.false @Bool.false @Bool.false (@OfNat.ofNat.{0} @Int (nat_lit 0) (@instOfNat (nat_lit 0))) [(@OfNat.ofNat.{0} @Int (nat_lit 2000) (@instOfNat (nat_lit 2000))), (@OfNat.ofNat.{0} @Int (nat_lit 10) (@instOfNat (nat_lit 10))), (@OfNat.ofNat.{0} @Int (nat_lit 10) (@instOfNat (nat_lit 10)))] @Bool.false 0 @Bool.true [] [] 0 @Bool.false) (hArr []) (@Drawn.mk 0 0 0 0) 394 os
noncomputable def hq6 : Pos := (@Pos.mk 139 0 143 25)
noncomputable def hs6 : List Stmt := [stm 22]
noncomputable def ho163 (p : Params) : Obj := (@Obj.mk (@Value.type "dict") none (@Data.dict (hArr [(@DictEntry.mk (@PyData.keyHash p (hStr "__name__")) (@Value.str (hStr "__name__") 165) (@Value.str (hStr "vectorcove.values") 363)), (@DictEntry.mk (@PyData.keyHash p (hStr "__doc__")) (@Value.str (hStr "__doc__") 166) @Value.none), (@DictEntry.mk (@PyData.keyHash p (hStr "__package__")) (@Value.str (hStr "__package__") 167) @Value.none), (@DictEntry.mk (@PyData.keyHash p (hStr "__loader__")) (@Value.str (hStr "__loader__") 168) (@Value.builtin "__main__.__loader__#opaque")), (@DictEntry.mk (@PyData.keyHash p (hStr "__spec__")) (@Value.str (hStr "__spec__") 169) @Value.none), (@DictEntry.mk (@PyData.keyHash p (hStr "__annotations__")) (@Value.str (hStr "__annotations__") 170) (@Value.ref 6)), (@DictEntry.mk (@PyData.keyHash p (hStr "__builtins__")) (@Value.str (hStr "__builtins__") 171) (@Value.ref 4)), (@DictEntry.mk (@PyData.keyHash p (hStr "__file__")) (@Value.str (hStr "__file__") 173) (@Value.str (hStr "/claim/cut.py") 172)), (@DictEntry.mk (@PyData.keyHash p (hStr "__cached__")) (@Value.str (hStr "__cached__") 174) @Value.none), (@DictEntry.mk (@PyData.keyHash p (hStr "_wall")) (@Value.str (hStr "_wall") 193) (@Value.ref 21)), (@DictEntry.mk (@PyData.keyHash p (hStr "get_attr")) (@Value.str (hStr "get_attr") 203) (@Value.ref 28)), (@DictEntry.mk (@PyData.keyHash p (hStr "names_of")) (@Value.str (hStr "names_of") 209) (@Value.ref 33)), (@DictEntry.mk (@PyData.keyHash p (hStr "dim_of")) (@Value.str (hStr "dim_of") 217) (@Value.ref 40)), (@DictEntry.mk (@PyData.keyHash p (hStr "dimnames_of")) (@Value.str (hStr "dimnames_of") 223) (@Value.ref 45)), (@DictEntry.mk (@PyData.keyHash p (hStr "CoveError")) (@Value.str (hStr "CoveError") 245) (@Value.ref 55)), (@DictEntry.mk (@PyData.keyHash p (hStr "Refusal")) (@Value.str (hStr "Refusal") 270) (@Value.ref 75)), (@DictEntry.mk (@PyData.keyHash p (hStr "is_finite")) (@Value.str (hStr "is_finite") 279) (@Value.ref 84)), (@DictEntry.mk (@PyData.keyHash p (hStr "to_whole")) (@Value.str (hStr "to_whole") 287) (@Value.ref 91)), (@DictEntry.mk (@PyData.keyHash p (hStr "whole_subscripts")) (@Value.str (hStr "whole_subscripts") 298) (@Value.ref 98)), (@DictEntry.mk (@PyData.keyHash p (hStr "logical_places")) (@Value.str (hStr "logical_places") 310) (@Value.ref 105)), (@DictEntry.mk (@PyData.keyHash p (hStr "whole_places")) (@Value.str (hStr "whole_places") 316) (@Value.ref 110)), (@DictEntry.mk (@PyData.keyHash p (hStr "first_places")) (@Value.str (hStr "first_places") 326) (@Value.ref 117)), (@DictEntry.mk (@PyData.keyHash p (hStr "name_places")) (@Value.str (hStr "name_places") 337) (@Value.ref 124)), (@DictEntry.mk (@PyData.keyHash p (hStr "extending_places")) (@Value.str (hStr "extending_places") 351) (@Value.ref 131)), (@DictEntry.mk (@PyData.keyHash p (hStr "positions")) (@Value.str (hStr "positions") 362) (@Value.ref 138)), (@DictEntry.mk (@PyData.keyHash p (hStr "Null")) (@Value.str (hStr "Null") 393) (@Value.ref 155)), (@DictEntry.mk (@PyData.keyHash p (hStr "Missing")) (@Value.str (hStr "Missing") 422) (@Value.ref 176))]) 27) (hArr []))
noncomputable def ho164 (p : Params) : Obj := (@Obj.mk @Value.none none (@Data.fields (hArr [(@Value.int (@OfNat.ofNat.{0} @Int (nat_lit 1) (@instOfNat (nat_lit 1))) 0), (@Value.int (@OfNat.ofNat.{0} @Int (nat_lit 0) (@instOfNat (nat_lit 0))) 0), (@Value.ref 20), (@Value.int (@OfNat.ofNat.{0} @Int (nat_lit 5) (@instOfNat (nat_lit 5))) 0), (@Value.int (@OfNat.ofNat.{0} @Int (nat_lit 0) (@instOfNat (nat_lit 0))) 0), (@Value.ref 27), (@Value.int (@OfNat.ofNat.{0} @Int (nat_lit 9) (@instOfNat (nat_lit 9))) 0), (@Value.int (@OfNat.ofNat.{0} @Int (nat_lit 0) (@instOfNat (nat_lit 0))) 0), (@Value.ref 32), (@Value.int (@OfNat.ofNat.{0} @Int (nat_lit 25) (@instOfNat (nat_lit 25))) 0), (@Value.int (@OfNat.ofNat.{0} @Int (nat_lit 0) (@instOfNat (nat_lit 0))) 0), (@Value.ref 39), (@Value.int (@OfNat.ofNat.{0} @Int (nat_lit 30) (@instOfNat (nat_lit 30))) 0), (@Value.int (@OfNat.ofNat.{0} @Int (nat_lit 0) (@instOfNat (nat_lit 0))) 0), (@Value.ref 44), (@Value.int (@OfNat.ofNat.{0} @Int (nat_lit 36) (@instOfNat (nat_lit 36))) 0), (@Value.int (@OfNat.ofNat.{0} @Int (nat_lit 0) (@instOfNat (nat_lit 0))) 0), (@Value.ref 51), (@Value.int (@OfNat.ofNat.{0} @Int (nat_lit 38) (@instOfNat (nat_lit 38))) 0), (@Value.int (@OfNat.ofNat.{0} @Int (nat_lit 0) (@instOfNat (nat_lit 0))) 0), (@Value.ref 64), (@Value.int (@OfNat.ofNat.{0} @Int (nat_lit 43) (@instOfNat (nat_lit 43))) 0), (@Value.int (@OfNat.ofNat.{0} @Int (nat_lit 0) (@instOfNat (nat_lit 0))) 0), (@Value.ref 83), (@Value.int (@OfNat.ofNat.{0} @Int (nat_lit 45) (@instOfNat (nat_lit 45))) 0), (@Value.int (@OfNat.ofNat.{0} @Int (nat_lit 0) (@instOfNat (nat_lit 0))) 0), (@Value.ref 90), (@Value.int (@OfNat.ofNat.{0} @Int (nat_lit 51) (@instOfNat (nat_lit 51))) 0), (@Value.int (@OfNat.ofNat.{0} @Int (nat_lit 0) (@instOfNat (nat_lit 0))) 0), (@Value.ref 97), (@Value.int (@OfNat.ofNat.{0} @Int (nat_lit 61) (@instOfNat (nat_lit 61))) 0), (@Value.int (@OfNat.ofNat.{0} @Int (nat_lit 0) (@instOfNat (nat_lit 0))) 0), (@Value.ref 104), (@Value.int (@OfNat.ofNat.{0} @Int (nat_lit 73) (@instOfNat (nat_lit 73))) 0), (@Value.int (@OfNat.ofNat.{0} @Int (nat_lit 0) (@instOfNat (nat_lit 0))) 0), (@Value.ref 109), (@Value.int (@OfNat.ofNat.{0} @Int (nat_lit 92) (@instOfNat (nat_lit 92))) 0), (@Value.int (@OfNat.ofNat.{0} @Int (nat_lit 0) (@instOfNat (nat_lit 0))) 0), (@Value.ref 116), (@Value.int (@OfNat.ofNat.{0} @Int (nat_lit 100) (@instOfNat (nat_lit 100))) 0), (@Value.int (@OfNat.ofNat.{0} @Int (nat_lit 0) (@instOfNat (nat_lit 0))) 0), (@Value.ref 123), (@Value.int (@OfNat.ofNat.{0} @Int (nat_lit 109) (@instOfNat (nat_lit 109))) 0), (@Value.int (@OfNat.ofNat.{0} @Int (nat_lit 0) (@instOfNat (nat_lit 0))) 0), (@Value.ref 130), (@Value.int (@OfNat.ofNat.{0} @Int (nat_lit 123) (@instOfNat (nat_lit 123))) 0), (@Value.int (@OfNat.ofNat.{0} @Int (nat_lit 0) (@instOfNat (nat_lit 0))) 0), (@Value.ref 137), (@Value.int (@OfNat.ofNat.{0} @Int (nat_lit 139) (@instOfNat (nat_lit 139))) 0), (@Value.int (@OfNat.ofNat.{0} @Int (nat_lit 0) (@instOfNat (nat_lit 0))) 0), (@Value.ref 144), (@Value.int (@OfNat.ofNat.{0} @Int (nat_lit 144) (@instOfNat (nat_lit 144))) 0), (@Value.int (@OfNat.ofNat.{0} @Int (nat_lit 0) (@instOfNat (nat_lit 0))) 0), (@Value.ref 165)])) (hArr []))
noncomputable def ho165 (p : Params) : Obj := (@Obj.mk (@Value.type "tuple") none (@Data.seq (hArr []) 0) (hArr []))
noncomputable def ho166 (p : Params) : Obj := (@Obj.mk (@Value.type "builtin_function_or_method") none (@Data.fields (hArr [(@Value.builtin "type.__prepare__"), (@Value.type "type")])) (hArr []))
noncomputable def ho167 (p : Params) : Obj := (@Obj.mk (@Value.type "dict") none (@Data.dict (hArr [(@DictEntry.mk (@PyData.keyHash p (hStr "__module__")) (@Value.str (hStr "__module__") 401) (@Value.str (hStr "vectorcove.values") 363)), (@DictEntry.mk (@PyData.keyHash p (hStr "__qualname__")) (@Value.str (hStr "__qualname__") 403) (@Value.str (hStr "Missing") 402)), (@DictEntry.mk (@PyData.keyHash p (hStr "__firstlineno__")) (@Value.str (hStr "__firstlineno__") 405) (@Value.int (@OfNat.ofNat.{0} @Int (nat_lit 144) (@instOfNat (nat_lit 144))) 404)), (@DictEntry.mk (@PyData.keyHash p (hStr "__init__")) (@Value.str (hStr "__init__") 412) (@Value.ref 173)), (@DictEntry.mk (@PyData.keyHash p (hStr "__static_attributes__")) (@Value.str (hStr "__static_attributes__") 415) (@Value.ref 174))]) 5) (hArr []))
noncomputable def ho168 (p : Params) : Obj := (@Obj.mk (@Value.type "tuple") none (@Data.seq (hArr []) 0) (hArr []))
noncomputable def ho169 (p : Params) : Obj := (@Obj.mk @Value.none none (@Data.fields (hArr [(@Value.int (@OfNat.ofNat.{0} @Int (nat_lit 146) (@instOfNat (nat_lit 146))) 0), (@Value.int (@OfNat.ofNat.{0} @Int (nat_lit 4) (@instOfNat (nat_lit 4))) 0), (@Value.ref 172)])) (hArr []))
noncomputable def ho170 (p : Params) : Obj := (@Obj.mk (@Value.type "code") none (@Data.fields (hArr [(@Value.str (hStr "Missing") 396), (@Value.str (hStr "Missing") 397), (@Value.str (hStr "/claim/cut.py") 398), (@Value.int (@OfNat.ofNat.{0} @Int (nat_lit 144) (@instOfNat (nat_lit 144))) 0), (@Value.int (@OfNat.ofNat.{0} @Int (nat_lit 0) (@instOfNat (nat_lit 0))) 0), (@Value.int (@OfNat.ofNat.{0} @Int (nat_lit 0) (@instOfNat (nat_lit 0))) 0), (@Value.int (@OfNat.ofNat.{0} @Int (nat_lit 0) (@instOfNat (nat_lit 0))) 0), (@Value.int (@OfNat.ofNat.{0} @Int (nat_lit 0) (@instOfNat (nat_lit 0))) 0), (@Value.ref 163), (@Value.bool @Bool.false), (@Value.int (@OfNat.ofNat.{0} @Int (nat_lit 181) (@instOfNat (nat_lit 181))) 0), (@Value.ref 164), @Value.none, @Value.none, @Value.none, @Value.none, (@Value.int (@OfNat.ofNat.{0} @Int (nat_lit 399) (@instOfNat (nat_lit 399))) 0), (@Value.int (@OfNat.ofNat.{0} @Int (nat_lit 144) (@instOfNat (nat_lit 144))) 0), (@Value.str (hStr "/claim/cut.py") 400)])) (hArr []))
noncomputable def ho171 (p : Params) : Obj := (@Obj.mk (@Value.type "frame") none @Data.plain (hArr [(some (@Value.ref 165)), (some (@Value.ref 3)), (some (@Value.ref 162)), none, (some (@Value.str (hStr "vectorcove.values") 363)), none, (some (@Value.ref 0))]))
noncomputable def ho172 (p : Params) : Obj := (@Obj.mk (@Value.type "tuple") none (@Data.seq (hArr []) 0) (hArr []))
noncomputable def ho173 (p : Params) : Obj := (@Obj.mk @Value.none none (@Data.fields (hArr [])) (hArr []))
noncomputable def ho174 (p : Params) : Obj := (@Obj.mk (@Value.type "tuple") none (@Data.seq (hArr [(@Value.str (hStr "self") 409)]) 0) (hArr []))
noncomputable def ho175 (p : Params) : Obj := (@Obj.mk (@Value.type "tuple") none (@Data.seq (hArr []) 0) (hArr []))
noncomputable def ho176 (p : Params) : Obj := (@Obj.mk @Value.none none (@Data.func (@FuncData.mk (hStr "__init__") (hStr "Missing.__init__") (meA 22) (@FuncBody.stmts (meB 22)) (meS 22) 0 [] @Value.none @Value.none @Value.none @Value.none none @Value.none @Value.none 0)) (hArr []))
noncomputable def ho177 (p : Params) : Obj := (@Obj.mk (@Value.type "code") none (@Data.fields (hArr [(@Value.str (hStr "__init__") 406), (@Value.str (hStr "Missing.__init__") 407), (@Value.str (hStr "/claim/cut.py") 408), (@Value.int (@OfNat.ofNat.{0} @Int (nat_lit 146) (@instOfNat (nat_lit 146))) 0), (@Value.int (@OfNat.ofNat.{0} @Int (nat_lit 1) (@instOfNat (nat_lit 1))) 0), (@Value.int (@OfNat.ofNat.{0} @Int (nat_lit 0) (@instOfNat (nat_lit 0))) 0), (@Value.int (@OfNat.ofNat.{0} @Int (nat_lit 0) (@instOfNat (nat_lit 0))) 0), (@Value.int (@OfNat.ofNat.{0} @Int (nat_lit 3) (@instOfNat (nat_lit 3))) 0), (@Value.ref 167), (@Value.bool @Bool.true), (@Value.int (@OfNat.ofNat.{0} @Int (nat_lit 181) (@instOfNat (nat_lit 181))) 0), (@Value.ref 168), @Value.none, (@Value.ref 169), (@Value.ref 170), (@Value.ref 171), (@Value.int (@OfNat.ofNat.{0} @Int (nat_lit 410) (@instOfNat (nat_lit 410))) 0), (@Value.int (@OfNat.ofNat.{0} @Int (nat_lit 146) (@instOfNat (nat_lit 146))) 0), (@Value.str (hStr "/claim/cut.py") 411)])) (hArr []))
noncomputable def ho178 (p : Params) : Obj := (@Obj.mk (@Value.type "function") none (@Data.func (@FuncData.mk (hStr "__init__") (hStr "Missing.__init__") (meA 22) (@FuncBody.stmts (meB 22)) (meS 22) 3 [] @Value.none @Value.none @Value.none (@Value.str (hStr "vectorcove.values") 363) none (@Value.ref 172) @Value.none 0)) (hArr []))
noncomputable def ho179 (p : Params) : Obj := (@Obj.mk (@Value.type "tuple") none (@Data.seq (hArr [(@Value.str (hStr "attrs") 413), (@Value.str (hStr "kind") 414)]) 0) (hArr []))
noncomputable def ho180 (p : Params) : Obj := (@Obj.mk (@Value.type "dict") none (@Data.dict (hArr [(@DictEntry.mk (@PyData.keyHash p (hStr "__module__")) (@Value.str (hStr "__module__") 401) (@Value.str (hStr "vectorcove.values") 363)), (@DictEntry.mk (@PyData.keyHash p (hStr "__firstlineno__")) (@Value.str (hStr "__firstlineno__") 405) (@Value.int (@OfNat.ofNat.{0} @Int (nat_lit 144) (@instOfNat (nat_lit 144))) 404)), (@DictEntry.mk (@PyData.keyHash p (hStr "__init__")) (@Value.str (hStr "__init__") 412) (@Value.ref 173)), (@DictEntry.mk (@PyData.keyHash p (hStr "__static_attributes__")) (@Value.str (hStr "__static_attributes__") 415) (@Value.ref 174)), (@DictEntry.mk (@PyData.keyHash p (hStr "__dict__")) (@Value.str (hStr "__dict__") 417) (@Value.ref 177)), (@DictEntry.mk (@PyData.keyHash p (hStr "__weakref__")) (@Value.str (hStr "__weakref__") 419) (@Value.ref 178)), (@DictEntry.mk (@PyData.keyHash p (hStr "__doc__")) (@Value.str (hStr "__doc__") 420) @Value.none)]) 4) (hArr []))
noncomputable def ho181 (p : Params) : Obj := (@Obj.mk (@Value.type "type") none (@Data.cls (@ClassData.mk (hStr "Missing") [(@Value.type "object")] [(@Value.ref 176), (@Value.type "object")] 175 (hStr "Missing") @Bool.true [] [] @Bool.false none @Bool.false)) (hArr [none, none, (some (@Value.str (hStr "Missing") 394)), (some (@Value.str (hStr "Missing") 402)), (some (@Value.builtin "object.__new__")), (some (@Value.bool @Bool.true))]))
noncomputable def ho182 (p : Params) : Obj := (@Obj.mk (@Value.type "getset_descriptor") none (@Data.fields (hArr [(@Value.str (hStr "__dict__") 416), (@Value.ref 176), (@Value.builtin "function.__dict__"), (@Value.builtin "function.__dict__#set")])) (hArr []))
noncomputable def ho183 (p : Params) : Obj := (@Obj.mk (@Value.type "getset_descriptor") none (@Data.fields (hArr [(@Value.str (hStr "__weakref__") 418), (@Value.ref 176), (@Value.builtin "ExceptionGroup.__weakref__"), @Value.none])) (hArr []))
noncomputable def ho184 (p : Params) : Obj := (@Obj.mk (@Value.type "super") none (@Data.fields (hArr [(@Value.ref 176), (@Value.ref 176), (@Value.ref 176)])) (hArr []))
noncomputable def ho185 (p : Params) : Obj := (@Obj.mk (@Value.type "builtin_function_or_method") none (@Data.fields (hArr [(@Value.builtin "object.__init_subclass__"), (@Value.ref 176)])) (hArr []))
noncomputable def ht426 (p : Params) : BT := BT.node (ho180 p) BT.nil BT.nil
noncomputable def ht427 (p : Params) : BT := BT.node (ho110 p) (ht426 p) BT.nil
noncomputable def ht428 (p : Params) : BT := BT.node (ho41 p) (ht336 p) (ht427 p)
noncomputable def ht429 (p : Params) : BT := BT.node (ho6 p) (ht334 p) (ht428 p)
noncomputable def ht430 (p : Params) : BT := BT.node (ho172 p) BT.nil BT.nil
noncomputable def ht431 (p : Params) : BT := BT.node (ho102 p) (ht430 p) BT.nil
noncomputable def ht432 (p : Params) : BT := BT.node (ho30 p) (ht291 p) (ht431 p)
noncomputable def ht433 (p : Params) : BT := BT.node (ho14 p) (ht432 p) (ht341 p)
noncomputable def ht434 (p : Params) : BT := BT.node (boot_o_7 p) (ht429 p) (ht433 p)
noncomputable def ht435 (p : Params) : BT := BT.node (ho168 p) BT.nil BT.nil
noncomputable def ht436 (p : Params) : BT := BT.node (ho98 p) (ht435 p) BT.nil
noncomputable def ht437 (p : Params) : BT := BT.node (ho26 p) (ht184 p) (ht436 p)
noncomputable def ht438 (p : Params) : BT := BT.node (ho184 p) BT.nil BT.nil
noncomputable def ht439 (p : Params) : BT := BT.node (ho114 p) (ht438 p) BT.nil
noncomputable def ht440 (p : Params) : BT := BT.node (ho45 p) (ht345 p) (ht439 p)
noncomputable def ht441 (p : Params) : BT := BT.node (ho10 p) (ht437 p) (ht440 p)
noncomputable def ht442 (p : Params) : BT := BT.node (ho176 p) BT.nil BT.nil
noncomputable def ht443 (p : Params) : BT := BT.node (ho106 p) (ht442 p) BT.nil
noncomputable def ht444 (p : Params) : BT := BT.node (ho34 p) (ht349 p) (ht443 p)
noncomputable def ht445 (p : Params) : BT := BT.node (ho18 p) (ht444 p) (ht353 p)
noncomputable def ht446 (p : Params) : BT := BT.node (ho0 p) (ht441 p) (ht445 p)
noncomputable def ht447 (p : Params) : BT := BT.node (ho163 p) (ht434 p) (ht446 p)
noncomputable def ht448 (p : Params) : BT := BT.node (ho166 p) BT.nil BT.nil
noncomputable def ht449 (p : Params) : BT := BT.node (ho96 p) (ht448 p) BT.nil
noncomputable def ht450 (p : Params) : BT := BT.node (ho24 p) (ht200 p) (ht449 p)
noncomputable def ht451 (p : Params) : BT := BT.node (ho182 p) BT.nil BT.nil
noncomputable def ht452 (p : Params) : BT := BT.node (ho112 p) (ht451 p) BT.nil
noncomputable def ht453 (p : Params) : BT := BT.node (ho43 p) (ht358 p) (ht452 p)
noncomputable def ht454 (p : Params) : BT := BT.node (ho8 p) (ht450 p) (ht453 p)
noncomputable def ht455 (p : Params) : BT := BT.node (ho174 p) BT.nil BT.nil
noncomputable def ht456 (p : Params) : BT := BT.node (ho104 p) (ht455 p) BT.nil
noncomputable def ht457 (p : Params) : BT := BT.node (ho32 p) (ht297 p) (ht456 p)
noncomputable def ht458 (p : Params) : BT := BT.node (ho16 p) (ht457 p) (ht363 p)
noncomputable def ht459 (p : Params) : BT := BT.node (boot_o_9 p) (ht454 p) (ht458 p)
noncomputable def ht460 (p : Params) : BT := BT.node (ho170 p) BT.nil BT.nil
noncomputable def ht461 (p : Params) : BT := BT.node (ho100 p) (ht460 p) BT.nil
noncomputable def ht462 (p : Params) : BT := BT.node (ho28 p) (ht302 p) (ht461 p)
noncomputable def ht463 (p : Params) : BT := BT.node (ho12 p) (ht462 p) (ht368 p)
noncomputable def ht464 (p : Params) : BT := BT.node (ho178 p) BT.nil BT.nil
noncomputable def ht465 (p : Params) : BT := BT.node (ho108 p) (ht464 p) BT.nil
noncomputable def ht466 (p : Params) : BT := BT.node (ho36 p) (ht371 p) (ht465 p)
noncomputable def ht467 (p : Params) : BT := BT.node (ho20 p) (ht466 p) (ht375 p)
noncomputable def ht468 (p : Params) : BT := BT.node (ho2 p) (ht463 p) (ht467 p)
noncomputable def ht469 (p : Params) : BT := BT.node (boot_o_5 p) (ht459 p) (ht468 p)
noncomputable def ht470 (p : Params) : BT := BT.node (boot_o_1 p) (ht447 p) (ht469 p)
noncomputable def ht471 (p : Params) : BT := BT.node (ho165 p) BT.nil BT.nil
noncomputable def ht472 (p : Params) : BT := BT.node (ho95 p) (ht471 p) BT.nil
noncomputable def ht473 (p : Params) : BT := BT.node (ho23 p) (ht230 p) (ht472 p)
noncomputable def ht474 (p : Params) : BT := BT.node (ho181 p) BT.nil BT.nil
noncomputable def ht475 (p : Params) : BT := BT.node (ho111 p) (ht474 p) BT.nil
noncomputable def ht476 (p : Params) : BT := BT.node (ho42 p) (ht381 p) (ht475 p)
noncomputable def ht477 (p : Params) : BT := BT.node (ho7 p) (ht473 p) (ht476 p)
noncomputable def ht478 (p : Params) : BT := BT.node (ho173 p) BT.nil BT.nil
noncomputable def ht479 (p : Params) : BT := BT.node (ho103 p) (ht478 p) BT.nil
noncomputable def ht480 (p : Params) : BT := BT.node (ho31 p) (ht309 p) (ht479 p)
noncomputable def ht481 (p : Params) : BT := BT.node (ho15 p) (ht480 p) (ht386 p)
noncomputable def ht482 (p : Params) : BT := BT.node (boot_o_8 p) (ht477 p) (ht481 p)
noncomputable def ht483 (p : Params) : BT := BT.node (ho169 p) BT.nil BT.nil
noncomputable def ht484 (p : Params) : BT := BT.node (ho99 p) (ht483 p) BT.nil
noncomputable def ht485 (p : Params) : BT := BT.node (ho27 p) (ht314 p) (ht484 p)
noncomputable def ht486 (p : Params) : BT := BT.node (ho185 p) BT.nil BT.nil
noncomputable def ht487 (p : Params) : BT := BT.node (ho115 p) (ht486 p) BT.nil
noncomputable def ht488 (p : Params) : BT := BT.node (ho46 p) (ht390 p) (ht487 p)
noncomputable def ht489 (p : Params) : BT := BT.node (ho11 p) (ht485 p) (ht488 p)
noncomputable def ht490 (p : Params) : BT := BT.node (ho177 p) BT.nil BT.nil
noncomputable def ht491 (p : Params) : BT := BT.node (ho107 p) (ht490 p) BT.nil
noncomputable def ht492 (p : Params) : BT := BT.node (ho35 p) (ht394 p) (ht491 p)
noncomputable def ht493 (p : Params) : BT := BT.node (ho19 p) (ht492 p) (ht398 p)
noncomputable def ht494 (p : Params) : BT := BT.node (ho164 p) (ht489 p) (ht493 p)
noncomputable def ht495 (p : Params) : BT := BT.node (boot_o_4 p) (ht482 p) (ht494 p)
noncomputable def ht496 (p : Params) : BT := BT.node (ho167 p) BT.nil BT.nil
noncomputable def ht497 (p : Params) : BT := BT.node (ho97 p) (ht496 p) BT.nil
noncomputable def ht498 (p : Params) : BT := BT.node (ho25 p) (ht259 p) (ht497 p)
noncomputable def ht499 (p : Params) : BT := BT.node (ho183 p) BT.nil BT.nil
noncomputable def ht500 (p : Params) : BT := BT.node (ho113 p) (ht499 p) BT.nil
noncomputable def ht501 (p : Params) : BT := BT.node (ho44 p) (ht403 p) (ht500 p)
noncomputable def ht502 (p : Params) : BT := BT.node (ho9 p) (ht498 p) (ht501 p)
noncomputable def ht503 (p : Params) : BT := BT.node (ho175 p) BT.nil BT.nil
noncomputable def ht504 (p : Params) : BT := BT.node (ho105 p) (ht503 p) BT.nil
noncomputable def ht505 (p : Params) : BT := BT.node (ho33 p) (ht320 p) (ht504 p)
noncomputable def ht506 (p : Params) : BT := BT.node (ho17 p) (ht505 p) (ht408 p)
noncomputable def ht507 (p : Params) : BT := BT.node (boot_o_10 p) (ht502 p) (ht506 p)
noncomputable def ht508 (p : Params) : BT := BT.node (ho171 p) BT.nil BT.nil
noncomputable def ht509 (p : Params) : BT := BT.node (ho101 p) (ht508 p) BT.nil
noncomputable def ht510 (p : Params) : BT := BT.node (ho29 p) (ht325 p) (ht509 p)
noncomputable def ht511 (p : Params) : BT := BT.node (ho13 p) (ht510 p) (ht413 p)
noncomputable def ht512 (p : Params) : BT := BT.node (ho179 p) BT.nil BT.nil
noncomputable def ht513 (p : Params) : BT := BT.node (ho109 p) (ht512 p) BT.nil
noncomputable def ht514 (p : Params) : BT := BT.node (ho40 p) (ht416 p) (ht513 p)
noncomputable def ht515 (p : Params) : BT := BT.node (ho21 p) (ht514 p) (ht420 p)
noncomputable def ht516 (p : Params) : BT := BT.node (ho3 p) (ht511 p) (ht515 p)
noncomputable def ht517 (p : Params) : BT := BT.node (boot_o_6 p) (ht507 p) (ht516 p)
noncomputable def ht518 (p : Params) : BT := BT.node (ho37 p) (ht495 p) (ht517 p)
noncomputable def ht519 (p : Params) : BT := BT.node (boot_o_0 p) (ht470 p) (ht518 p)
noncomputable def hS7 (w : World) (os : OsState) : SharedT := SharedT.mk ((fun (p : Params) => (ht519 p)) w.params) 181 (@Life.mk [] [] [] 0 [] [] @Bool.false (hArr []) [] 0 @Bool.false @Bool.false @Bool.false (@OfNat.ofNat.{0} @Int (nat_lit 0) (@instOfNat (nat_lit 0))) [(@OfNat.ofNat.{0} @Int (nat_lit 2000) (@instOfNat (nat_lit 2000))), (@OfNat.ofNat.{0} @Int (nat_lit 10) (@instOfNat (nat_lit 10))), (@OfNat.ofNat.{0} @Int (nat_lit 10) (@instOfNat (nat_lit 10)))] @Bool.false 0 @Bool.true [] [] 0 @Bool.false) (hArr []) (@Drawn.mk 0 0 0 0) 423 os
noncomputable def hq7 : Pos := (@Pos.mk 144 0 148 25)
noncomputable def hs7 : List Stmt := [stm 23]
noncomputable def ho186 (p : Params) : Obj := (@Obj.mk (@Value.type "dict") none (@Data.dict (hArr [(@DictEntry.mk (@PyData.keyHash p (hStr "__name__")) (@Value.str (hStr "__name__") 165) (@Value.str (hStr "vectorcove.values") 363)), (@DictEntry.mk (@PyData.keyHash p (hStr "__doc__")) (@Value.str (hStr "__doc__") 166) @Value.none), (@DictEntry.mk (@PyData.keyHash p (hStr "__package__")) (@Value.str (hStr "__package__") 167) @Value.none), (@DictEntry.mk (@PyData.keyHash p (hStr "__loader__")) (@Value.str (hStr "__loader__") 168) (@Value.builtin "__main__.__loader__#opaque")), (@DictEntry.mk (@PyData.keyHash p (hStr "__spec__")) (@Value.str (hStr "__spec__") 169) @Value.none), (@DictEntry.mk (@PyData.keyHash p (hStr "__annotations__")) (@Value.str (hStr "__annotations__") 170) (@Value.ref 6)), (@DictEntry.mk (@PyData.keyHash p (hStr "__builtins__")) (@Value.str (hStr "__builtins__") 171) (@Value.ref 4)), (@DictEntry.mk (@PyData.keyHash p (hStr "__file__")) (@Value.str (hStr "__file__") 173) (@Value.str (hStr "/claim/cut.py") 172)), (@DictEntry.mk (@PyData.keyHash p (hStr "__cached__")) (@Value.str (hStr "__cached__") 174) @Value.none), (@DictEntry.mk (@PyData.keyHash p (hStr "_wall")) (@Value.str (hStr "_wall") 193) (@Value.ref 21)), (@DictEntry.mk (@PyData.keyHash p (hStr "get_attr")) (@Value.str (hStr "get_attr") 203) (@Value.ref 28)), (@DictEntry.mk (@PyData.keyHash p (hStr "names_of")) (@Value.str (hStr "names_of") 209) (@Value.ref 33)), (@DictEntry.mk (@PyData.keyHash p (hStr "dim_of")) (@Value.str (hStr "dim_of") 217) (@Value.ref 40)), (@DictEntry.mk (@PyData.keyHash p (hStr "dimnames_of")) (@Value.str (hStr "dimnames_of") 223) (@Value.ref 45)), (@DictEntry.mk (@PyData.keyHash p (hStr "CoveError")) (@Value.str (hStr "CoveError") 245) (@Value.ref 55)), (@DictEntry.mk (@PyData.keyHash p (hStr "Refusal")) (@Value.str (hStr "Refusal") 270) (@Value.ref 75)), (@DictEntry.mk (@PyData.keyHash p (hStr "is_finite")) (@Value.str (hStr "is_finite") 279) (@Value.ref 84)), (@DictEntry.mk (@PyData.keyHash p (hStr "to_whole")) (@Value.str (hStr "to_whole") 287) (@Value.ref 91)), (@DictEntry.mk (@PyData.keyHash p (hStr "whole_subscripts")) (@Value.str (hStr "whole_subscripts") 298) (@Value.ref 98)), (@DictEntry.mk (@PyData.keyHash p (hStr "logical_places")) (@Value.str (hStr "logical_places") 310) (@Value.ref 105)), (@DictEntry.mk (@PyData.keyHash p (hStr "whole_places")) (@Value.str (hStr "whole_places") 316) (@Value.ref 110)), (@DictEntry.mk (@PyData.keyHash p (hStr "first_places")) (@Value.str (hStr "first_places") 326) (@Value.ref 117)), (@DictEntry.mk (@PyData.keyHash p (hStr "name_places")) (@Value.str (hStr "name_places") 337) (@Value.ref 124)), (@DictEntry.mk (@PyData.keyHash p (hStr "extending_places")) (@Value.str (hStr "extending_places") 351) (@Value.ref 131)), (@DictEntry.mk (@PyData.keyHash p (hStr "positions")) (@Value.str (hStr "positions") 362) (@Value.ref 138)), (@DictEntry.mk (@PyData.keyHash p (hStr "Null")) (@Value.str (hStr "Null") 393) (@Value.ref 155)), (@DictEntry.mk (@PyData.keyHash p (hStr "Missing")) (@Value.str (hStr "Missing") 422) (@Value.ref 176)), (@DictEntry.mk (@PyData.keyHash p (hStr "Vector")) (@Value.str (hStr "Vector") 464) (@Value.ref 205))]) 28) (hArr []))
noncomputable def ho187 (p : Params) : Obj := (@Obj.mk @Value.none none (@Data.fields (hArr [(@Value.int (@OfNat.ofNat.{0} @Int (nat_lit 1) (@instOfNat (nat_lit 1))) 0), (@Value.int (@OfNat.ofNat.{0} @Int (nat_lit 0) (@instOfNat (nat_lit 0))) 0), (@Value.ref 20), (@Value.int (@OfNat.ofNat.{0} @Int (nat_lit 5) (@instOfNat (nat_lit 5))) 0), (@Value.int (@OfNat.ofNat.{0} @Int (nat_lit 0) (@instOfNat (nat_lit 0))) 0), (@Value.ref 27), (@Value.int (@OfNat.ofNat.{0} @Int (nat_lit 9) (@instOfNat (nat_lit 9))) 0), (@Value.int (@OfNat.ofNat.{0} @Int (nat_lit 0) (@instOfNat (nat_lit 0))) 0), (@Value.ref 32), (@Value.int (@OfNat.ofNat.{0} @Int (nat_lit 25) (@instOfNat (nat_lit 25))) 0), (@Value.int (@OfNat.ofNat.{0} @Int (nat_lit 0) (@instOfNat (nat_lit 0))) 0), (@Value.ref 39), (@Value.int (@OfNat.ofNat.{0} @Int (nat_lit 30) (@instOfNat (nat_lit 30))) 0), (@Value.int (@OfNat.ofNat.{0} @Int (nat_lit 0) (@instOfNat (nat_lit 0))) 0), (@Value.ref 44), (@Value.int (@OfNat.ofNat.{0} @Int (nat_lit 36) (@instOfNat (nat_lit 36))) 0), (@Value.int (@OfNat.ofNat.{0} @Int (nat_lit 0) (@instOfNat (nat_lit 0))) 0), (@Value.ref 51), (@Value.int (@OfNat.ofNat.{0} @Int (nat_lit 38) (@instOfNat (nat_lit 38))) 0), (@Value.int (@OfNat.ofNat.{0} @Int (nat_lit 0) (@instOfNat (nat_lit 0))) 0), (@Value.ref 64), (@Value.int (@OfNat.ofNat.{0} @Int (nat_lit 43) (@instOfNat (nat_lit 43))) 0), (@Value.int (@OfNat.ofNat.{0} @Int (nat_lit 0) (@instOfNat (nat_lit 0))) 0), (@Value.ref 83), (@Value.int (@OfNat.ofNat.{0} @Int (nat_lit 45) (@instOfNat (nat_lit 45))) 0), (@Value.int (@OfNat.ofNat.{0} @Int (nat_lit 0) (@instOfNat (nat_lit 0))) 0), (@Value.ref 90), (@Value.int (@OfNat.ofNat.{0} @Int (nat_lit 51) (@instOfNat (nat_lit 51))) 0), (@Value.int (@OfNat.ofNat.{0} @Int (nat_lit 0) (@instOfNat (nat_lit 0))) 0), (@Value.ref 97), (@Value.int (@OfNat.ofNat.{0} @Int (nat_lit 61) (@instOfNat (nat_lit 61))) 0), (@Value.int (@OfNat.ofNat.{0} @Int (nat_lit 0) (@instOfNat (nat_lit 0))) 0), (@Value.ref 104), (@Value.int (@OfNat.ofNat.{0} @Int (nat_lit 73) (@instOfNat (nat_lit 73))) 0), (@Value.int (@OfNat.ofNat.{0} @Int (nat_lit 0) (@instOfNat (nat_lit 0))) 0), (@Value.ref 109), (@Value.int (@OfNat.ofNat.{0} @Int (nat_lit 92) (@instOfNat (nat_lit 92))) 0), (@Value.int (@OfNat.ofNat.{0} @Int (nat_lit 0) (@instOfNat (nat_lit 0))) 0), (@Value.ref 116), (@Value.int (@OfNat.ofNat.{0} @Int (nat_lit 100) (@instOfNat (nat_lit 100))) 0), (@Value.int (@OfNat.ofNat.{0} @Int (nat_lit 0) (@instOfNat (nat_lit 0))) 0), (@Value.ref 123), (@Value.int (@OfNat.ofNat.{0} @Int (nat_lit 109) (@instOfNat (nat_lit 109))) 0), (@Value.int (@OfNat.ofNat.{0} @Int (nat_lit 0) (@instOfNat (nat_lit 0))) 0), (@Value.ref 130), (@Value.int (@OfNat.ofNat.{0} @Int (nat_lit 123) (@instOfNat (nat_lit 123))) 0), (@Value.int (@OfNat.ofNat.{0} @Int (nat_lit 0) (@instOfNat (nat_lit 0))) 0), (@Value.ref 137), (@Value.int (@OfNat.ofNat.{0} @Int (nat_lit 139) (@instOfNat (nat_lit 139))) 0), (@Value.int (@OfNat.ofNat.{0} @Int (nat_lit 0) (@instOfNat (nat_lit 0))) 0), (@Value.ref 144), (@Value.int (@OfNat.ofNat.{0} @Int (nat_lit 144) (@instOfNat (nat_lit 144))) 0), (@Value.int (@OfNat.ofNat.{0} @Int (nat_lit 0) (@instOfNat (nat_lit 0))) 0), (@Value.ref 165), (@Value.int (@OfNat.ofNat.{0} @Int (nat_lit 149) (@instOfNat (nat_lit 149))) 0), (@Value.int (@OfNat.ofNat.{0} @Int (nat_lit 0) (@instOfNat (nat_lit 0))) 0), (@Value.ref 186)])) (hArr []))
noncomputable def ho188 (p : Params) : Obj := (@Obj.mk (@Value.type "tuple") none (@Data.seq (hArr []) 0) (hArr []))
noncomputable def ho189 (p : Params) : Obj := (@Obj.mk (@Value.type "builtin_function_or_method") none (@Data.fields (hArr [(@Value.builtin "type.__prepare__"), (@Value.type "type")])) (hArr []))
noncomputable def ho190 (p : Params) : Obj := (@Obj.mk (@Value.type "dict") none (@Data.dict (hArr [(@DictEntry.mk (@PyData.keyHash p (hStr "__module__")) (@Value.str (hStr "__module__") 430) (@Value.str (hStr "vectorcove.values") 363)), (@DictEntry.mk (@PyData.keyHash p (hStr "__qualname__")) (@Value.str (hStr "__qualname__") 432) (@Value.str (hStr "Vector") 431)), (@DictEntry.mk (@PyData.keyHash p (hStr "__firstlineno__")) (@Value.str (hStr "__firstlineno__") 434) (@Value.int (@OfNat.ofNat.{0} @Int (nat_lit 149) (@instOfNat (nat_lit 149))) 433)), (@DictEntry.mk (@PyData.keyHash p (hStr "__init__")) (@Value.str (hStr "__init__") 444) (@Value.ref 195)), (@DictEntry.mk (@PyData.keyHash p (hStr "copy")) (@Value.str (hStr "copy") 451) (@Value.ref 202)), (@DictEntry.mk (@PyData.keyHash p (hStr "__static_attributes__")) (@Value.str (hStr "__static_attributes__") 457) (@Value.ref 203))]) 6) (hArr []))
noncomputable def ho191 (p : Params) : Obj := (@Obj.mk (@Value.type "tuple") none (@Data.seq (hArr []) 0) (hArr []))
noncomputable def ho192 (p : Params) : Obj := (@Obj.mk @Value.none none (@Data.fields (hArr [(@Value.int (@OfNat.ofNat.{0} @Int (nat_lit 151) (@instOfNat (nat_lit 151))) 0), (@Value.int (@OfNat.ofNat.{0} @Int (nat_lit 4) (@instOfNat (nat_lit 4))) 0), (@Value.ref 194), (@Value.int (@OfNat.ofNat.{0} @Int (nat_lit 158) (@instOfNat (nat_lit 158))) 0), (@Value.int (@OfNat.ofNat.{0} @Int (nat_lit 4) (@instOfNat (nat_lit 4))) 0), (@Value.ref 201)])) (hArr []))
noncomputable def ho193 (p : Params) : Obj := (@Obj.mk (@Value.type "code") none (@Data.fields (hArr [(@Value.str (hStr "Vector") 425), (@Value.str (hStr "Vector") 426), (@Value.str (hStr "/claim/cut.py") 427), (@Value.int (@OfNat.ofNat.{0} @Int (nat_lit 149) (@instOfNat (nat_lit 149))) 0), (@Value.int (@OfNat.ofNat.{0} @Int (nat_lit 0) (@instOfNat (nat_lit 0))) 0), (@Value.int (@OfNat.ofNat.{0} @Int (nat_lit 0) (@instOfNat (nat_lit 0))) 0), (@Value.int (@OfNat.ofNat.{0} @Int (nat_lit 0) (@instOfNat (nat_lit 0))) 0), (@Value.int (@OfNat.ofNat.{0} @Int (nat_lit 0) (@instOfNat (nat_lit 0))) 0), (@Value.ref 184), (@Value.bool @Bool.false), (@Value.int (@OfNat.ofNat.{0} @Int (nat_lit 181) (@instOfNat (nat_lit 181))) 0), (@Value.ref 185), @Value.none, @Value.none, @Value.none, @Value.none, (@Value.int (@OfNat.ofNat.{0} @Int (nat_lit 428) (@instOfNat (nat_lit 428))) 0), (@Value.int (@OfNat.ofNat.{0} @Int (nat_lit 149) (@instOfNat (nat_lit 149))) 0), (@Value.str (hStr "/claim/cut.py") 429)])) (hArr []))
noncomputable def ho194 (p : Params) : Obj := (@Obj.mk (@Value.type "frame") none @Data.plain (hArr [(some (@Value.ref 186)), (some (@Value.ref 3)), (some (@Value.ref 183)), none, (some (@Value.str (hStr "vectorcove.values") 363)), none, (some (@Value.ref 0))]))
noncomputable def ho195 (p : Params) : Obj := (@Obj.mk (@Value.type "tuple") none (@Data.seq (hArr [@Value.none]) 0) (hArr []))
noncomputable def ho196 (p : Params) : Obj := (@Obj.mk (@Value.type "tuple") none (@Data.seq (hArr []) 0) (hArr []))
noncomputable def ho197 (p : Params) : Obj := (@Obj.mk @Value.none none (@Data.fields (hArr [])) (hArr []))
noncomputable def ho198 (p : Params) : Obj := (@Obj.mk (@Value.type "tuple") none (@Data.seq (hArr [(@Value.str (hStr "self") 438), (@Value.str (hStr "kind") 439), (@Value.str (hStr "items") 440), (@Value.str (hStr "attrs") 441)]) 0) (hArr []))
noncomputable def ho199 (p : Params) : Obj := (@Obj.mk (@Value.type "tuple") none (@Data.seq (hArr []) 0) (hArr []))
noncomputable def ho200 (p : Params) : Obj := (@Obj.mk @Value.none none (@Data.func (@FuncData.mk (hStr "__init__") (hStr "Vector.__init__") (meA 23) (@FuncBody.stmts (meB 23)) (meS 23) 0 [] @Value.none @Value.none @Value.none @Value.none none @Value.none @Value.none 0)) (hArr []))
noncomputable def ho201 (p : Params) : Obj := (@Obj.mk (@Value.type "code") none (@Data.fields (hArr [(@Value.str (hStr "__init__") 435), (@Value.str (hStr "Vector.__init__") 436), (@Value.str (hStr "/claim/cut.py") 437), (@Value.int (@OfNat.ofNat.{0} @Int (nat_lit 151) (@instOfNat (nat_lit 151))) 0), (@Value.int (@OfNat.ofNat.{0} @Int (nat_lit 4) (@instOfNat (nat_lit 4))) 0), (@Value.int (@OfNat.ofNat.{0} @Int (nat_lit 0) (@instOfNat (nat_lit 0))) 0), (@Value.int (@OfNat.ofNat.{0} @Int (nat_lit 0) (@instOfNat (nat_lit 0))) 0), (@Value.int (@OfNat.ofNat.{0} @Int (nat_lit 3) (@instOfNat (nat_lit 3))) 0), (@Value.ref 189), (@Value.bool @Bool.true), (@Value.int (@OfNat.ofNat.{0} @Int (nat_lit 181) (@instOfNat (nat_lit 181))) 0), (@Value.ref 190), @Value.none, (@Value.ref 191), (@Value.ref 192), (@Value.ref 193), (@Value.int (@OfNat.ofNat.{0} @Int (nat_lit 442) (@instOfNat (nat_lit 442))) 0), (@Value.int (@OfNat.ofNat.{0} @Int (nat_lit 151) (@instOfNat (nat_lit 151))) 0), (@Value.str (hStr "/claim/cut.py") 443)])) (hArr []))
noncomputable def ho202 (p : Params) : Obj := (@Obj.mk (@Value.type "function") none (@Data.func (@FuncData.mk (hStr "__init__") (hStr "Vector.__init__") (meA 23) (@FuncBody.stmts (meB 23)) (meS 23) 3 [] (@Value.ref 188) @Value.none @Value.none (@Value.str (hStr "vectorcove.values") 363) none (@Value.ref 194) @Value.none 0)) (hArr []))
noncomputable def ho203 (p : Params) : Obj := (@Obj.mk (@Value.type "tuple") none (@Data.seq (hArr []) 0) (hArr []))
noncomputable def ho204 (p : Params) : Obj := (@Obj.mk @Value.none none (@Data.fields (hArr [])) (hArr []))
noncomputable def ho205 (p : Params) : Obj := (@Obj.mk (@Value.type "tuple") none (@Data.seq (hArr [(@Value.str (hStr "self") 448)]) 0) (hArr []))
noncomputable def ho206 (p : Params) : Obj := (@Obj.mk (@Value.type "tuple") none (@Data.seq (hArr []) 0) (hArr []))
noncomputable def ho207 (p : Params) : Obj := (@Obj.mk @Value.none none (@Data.func (@FuncData.mk (hStr "copy") (hStr "Vector.copy") (cpA 23) (@FuncBody.stmts (cpB 23)) (cpS 23) 0 [] @Value.none @Value.none @Value.none @Value.none none @Value.none @Value.none 0)) (hArr []))
noncomputable def ho208 (p : Params) : Obj := (@Obj.mk (@Value.type "code") none (@Data.fields (hArr [(@Value.str (hStr "copy") 445), (@Value.str (hStr "Vector.copy") 446), (@Value.str (hStr "/claim/cut.py") 447), (@Value.int (@OfNat.ofNat.{0} @Int (nat_lit 158) (@instOfNat (nat_lit 158))) 0), (@Value.int (@OfNat.ofNat.{0} @Int (nat_lit 1) (@instOfNat (nat_lit 1))) 0), (@Value.int (@OfNat.ofNat.{0} @Int (nat_lit 0) (@instOfNat (nat_lit 0))) 0), (@Value.int (@OfNat.ofNat.{0} @Int (nat_lit 0) (@instOfNat (nat_lit 0))) 0), (@Value.int (@OfNat.ofNat.{0} @Int (nat_lit 3) (@instOfNat (nat_lit 3))) 0), (@Value.ref 196), (@Value.bool @Bool.true), (@Value.int (@OfNat.ofNat.{0} @Int (nat_lit 181) (@instOfNat (nat_lit 181))) 0), (@Value.ref 197), @Value.none, (@Value.ref 198), (@Value.ref 199), (@Value.ref 200), (@Value.int (@OfNat.ofNat.{0} @Int (nat_lit 449) (@instOfNat (nat_lit 449))) 0), (@Value.int (@OfNat.ofNat.{0} @Int (nat_lit 158) (@instOfNat (nat_lit 158))) 0), (@Value.str (hStr "/claim/cut.py") 450)])) (hArr []))
noncomputable def ho209 (p : Params) : Obj := (@Obj.mk (@Value.type "function") none (@Data.func (@FuncData.mk (hStr "copy") (hStr "Vector.copy") (cpA 23) (@FuncBody.stmts (cpB 23)) (cpS 23) 3 [] @Value.none @Value.none @Value.none (@Value.str (hStr "vectorcove.values") 363) none (@Value.ref 201) @Value.none 0)) (hArr []))
noncomputable def ho210 (p : Params) : Obj := (@Obj.mk (@Value.type "tuple") none (@Data.seq (hArr [(@Value.str (hStr "attrs") 452), (@Value.str (hStr "items") 453), (@Value.str (hStr "kind") 454), (@Value.str (hStr "loose") 455), (@Value.str (hStr "shared") 456)]) 0) (hArr []))
noncomputable def ho211 (p : Params) : Obj := (@Obj.mk (@Value.type "dict") none (@Data.dict (hArr [(@DictEntry.mk (@PyData.keyHash p (hStr "__module__")) (@Value.str (hStr "__module__") 430) (@Value.str (hStr "vectorcove.values") 363)), (@DictEntry.mk (@PyData.keyHash p (hStr "__firstlineno__")) (@Value.str (hStr "__firstlineno__") 434) (@Value.int (@OfNat.ofNat.{0} @Int (nat_lit 149) (@instOfNat (nat_lit 149))) 433)), (@DictEntry.mk (@PyData.keyHash p (hStr "__init__")) (@Value.str (hStr "__init__") 444) (@Value.ref 195)), (@DictEntry.mk (@PyData.keyHash p (hStr "copy")) (@Value.str (hStr "copy") 451) (@Value.ref 202)), (@DictEntry.mk (@PyData.keyHash p (hStr "__static_attributes__")) (@Value.str (hStr "__static_attributes__") 457) (@Value.ref 203)), (@DictEntry.mk (@PyData.keyHash p (hStr "__dict__")) (@Value.str (hStr "__dict__") 459) (@Value.ref 206)), (@DictEntry.mk (@PyData.keyHash p (hStr "__weakref__")) (@Value.str (hStr "__weakref__") 461) (@Value.ref 207)), (@DictEntry.mk (@PyData.keyHash p (hStr "__doc__")) (@Value.str (hStr "__doc__") 462) @Value.none)]) 4) (hArr []))
noncomputable def ho212 (p : Params) : Obj := (@Obj.mk (@Value.type "type") none (@Data.cls (@ClassData.mk (hStr "Vector") [(@Value.type "object")] [(@Value.ref 205), (@Value.type "object")] 204 (hStr "Vector") @Bool.true [] [] @Bool.false none @Bool.false)) (hArr [none, none, (some (@Value.str (hStr "Vector") 423)), (some (@Value.str (hStr "Vector") 431)), (some (@Value.builtin "object.__new__")), (some (@Value.bool @Bool.true))]))
noncomputable def ho213 (p : Params) : Obj := (@Obj.mk (@Value.type "getset_descriptor") none (@Data.fields (hArr [(@Value.str (hStr "__dict__") 458), (@Value.ref 205), (@Value.builtin "function.__dict__"), (@Value.builtin "function.__dict__#set")])) (hArr []))
noncomputable def ho214 (p : Params) : Obj := (@Obj.mk (@Value.type "getset_descriptor") none (@Data.fields (hArr [(@Value.str (hStr "__weakref__") 460), (@Value.ref 205), (@Value.builtin "ExceptionGroup.__weakref__"), @Value.none])) (hArr []))
noncomputable def ho215 (p : Params) : Obj := (@Obj.mk (@Value.type "super") none (@Data.fields (hArr [(@Value.ref 205), (@Value.ref 205), (@Value.ref 205)])) (hArr []))
noncomputable def ho216 (p : Params) : Obj := (@Obj.mk (@Value.type "builtin_function_or_method") none (@Data.fields (hArr [(@Value.builtin "object.__init_subclass__"), (@Value.ref 205)])) (hArr []))
noncomputable def ht520 (p : Params) : BT := BT.node (ho198 p) BT.nil BT.nil
noncomputable def ht521 (p : Params) : BT := BT.node (ho60 p) (ht168 p) (ht520 p)
noncomputable def ht522 (p : Params) : BT := BT.node (ho22 p) (ht521 p) (ht333 p)
noncomputable def ht523 (p : Params) : BT := BT.node (ho214 p) BT.nil BT.nil
noncomputable def ht524 (p : Params) : BT := BT.node (ho78 p) (ht335 p) (ht523 p)
noncomputable def ht525 (p : Params) : BT := BT.node (ho41 p) (ht524 p) (ht427 p)
noncomputable def ht526 (p : Params) : BT := BT.node (ho6 p) (ht522 p) (ht525 p)
noncomputable def ht527 (p : Params) : BT := BT.node (ho206 p) BT.nil BT.nil
noncomputable def ht528 (p : Params) : BT := BT.node (ho68 p) (ht290 p) (ht527 p)
noncomputable def ht529 (p : Params) : BT := BT.node (ho30 p) (ht528 p) (ht431 p)
noncomputable def ht530 (p : Params) : BT := BT.node (ho190 p) BT.nil BT.nil
noncomputable def ht531 (p : Params) : BT := BT.node (ho118 p) (ht530 p) BT.nil
noncomputable def ht532 (p : Params) : BT := BT.node (ho55 p) (ht340 p) (ht531 p)
noncomputable def ht533 (p : Params) : BT := BT.node (ho14 p) (ht529 p) (ht532 p)
noncomputable def ht534 (p : Params) : BT := BT.node (boot_o_7 p) (ht526 p) (ht533 p)
noncomputable def ht535 (p : Params) : BT := BT.node (ho202 p) BT.nil BT.nil
noncomputable def ht536 (p : Params) : BT := BT.node (ho64 p) (ht183 p) (ht535 p)
noncomputable def ht537 (p : Params) : BT := BT.node (ho26 p) (ht536 p) (ht436 p)
noncomputable def ht538 (p : Params) : BT := BT.node (ho10 p) (ht537 p) (ht440 p)
noncomputable def ht539 (p : Params) : BT := BT.node (ho210 p) BT.nil BT.nil
noncomputable def ht540 (p : Params) : BT := BT.node (ho72 p) (ht348 p) (ht539 p)
noncomputable def ht541 (p : Params) : BT := BT.node (ho34 p) (ht540 p) (ht443 p)
noncomputable def ht542 (p : Params) : BT := BT.node (ho194 p) BT.nil BT.nil
noncomputable def ht543 (p : Params) : BT := BT.node (ho122 p) (ht542 p) BT.nil
noncomputable def ht544 (p : Params) : BT := BT.node (ho56 p) (ht352 p) (ht543 p)
noncomputable def ht545 (p : Params) : BT := BT.node (ho18 p) (ht541 p) (ht544 p)
noncomputable def ht546 (p : Params) : BT := BT.node (ho0 p) (ht538 p) (ht545 p)
noncomputable def ht547 (p : Params) : BT := BT.node (ho186 p) (ht534 p) (ht546 p)
noncomputable def ht548 (p : Params) : BT := BT.node (ho200 p) BT.nil BT.nil
noncomputable def ht549 (p : Params) : BT := BT.node (ho62 p) (ht199 p) (ht548 p)
noncomputable def ht550 (p : Params) : BT := BT.node (ho24 p) (ht549 p) (ht449 p)
noncomputable def ht551 (p : Params) : BT := BT.node (ho216 p) BT.nil BT.nil
noncomputable def ht552 (p : Params) : BT := BT.node (ho80 p) (ht357 p) (ht551 p)
noncomputable def ht553 (p : Params) : BT := BT.node (ho43 p) (ht552 p) (ht452 p)
noncomputable def ht554 (p : Params) : BT := BT.node (ho8 p) (ht550 p) (ht553 p)
noncomputable def ht555 (p : Params) : BT := BT.node (ho208 p) BT.nil BT.nil
noncomputable def ht556 (p : Params) : BT := BT.node (ho70 p) (ht296 p) (ht555 p)
noncomputable def ht557 (p : Params) : BT := BT.node (ho32 p) (ht556 p) (ht456 p)
noncomputable def ht558 (p : Params) : BT := BT.node (ho192 p) BT.nil BT.nil
noncomputable def ht559 (p : Params) : BT := BT.node (ho120 p) (ht558 p) BT.nil
noncomputable def ht560 (p : Params) : BT := BT.node (ho51 p) (ht362 p) (ht559 p)
noncomputable def ht561 (p : Params) : BT := BT.node (ho16 p) (ht557 p) (ht560 p)
noncomputable def ht562 (p : Params) : BT := BT.node (boot_o_9 p) (ht554 p) (ht561 p)
noncomputable def ht563 (p : Params) : BT := BT.node (ho204 p) BT.nil BT.nil
noncomputable def ht564 (p : Params) : BT := BT.node (ho66 p) (ht301 p) (ht563 p)
noncomputable def ht565 (p : Params) : BT := BT.node (ho28 p) (ht564 p) (ht461 p)
noncomputable def ht566 (p : Params) : BT := BT.node (ho188 p) BT.nil BT.nil
noncomputable def ht567 (p : Params) : BT := BT.node (ho116 p) (ht566 p) BT.nil
noncomputable def ht568 (p : Params) : BT := BT.node (ho47 p) (ht367 p) (ht567 p)
noncomputable def ht569 (p : Params) : BT := BT.node (ho12 p) (ht565 p) (ht568 p)
noncomputable def ht570 (p : Params) : BT := BT.node (ho212 p) BT.nil BT.nil
noncomputable def ht571 (p : Params) : BT := BT.node (ho74 p) (ht370 p) (ht570 p)
noncomputable def ht572 (p : Params) : BT := BT.node (ho36 p) (ht571 p) (ht465 p)
noncomputable def ht573 (p : Params) : BT := BT.node (ho196 p) BT.nil BT.nil
noncomputable def ht574 (p : Params) : BT := BT.node (ho124 p) (ht573 p) BT.nil
noncomputable def ht575 (p : Params) : BT := BT.node (ho58 p) (ht374 p) (ht574 p)
noncomputable def ht576 (p : Params) : BT := BT.node (ho20 p) (ht572 p) (ht575 p)
noncomputable def ht577 (p : Params) : BT := BT.node (ho2 p) (ht569 p) (ht576 p)
noncomputable def ht578 (p : Params) : BT := BT.node (boot_o_5 p) (ht562 p) (ht577 p)
noncomputable def ht579 (p : Params) : BT := BT.node (boot_o_1 p) (ht547 p) (ht578 p)
noncomputable def ht580 (p : Params) : BT := BT.node (ho199 p) BT.nil BT.nil
noncomputable def ht581 (p : Params) : BT := BT.node (ho61 p) (ht229 p) (ht580 p)
noncomputable def ht582 (p : Params) : BT := BT.node (ho23 p) (ht581 p) (ht472 p)
noncomputable def ht583 (p : Params) : BT := BT.node (ho215 p) BT.nil BT.nil
noncomputable def ht584 (p : Params) : BT := BT.node (ho79 p) (ht380 p) (ht583 p)
noncomputable def ht585 (p : Params) : BT := BT.node (ho42 p) (ht584 p) (ht475 p)
noncomputable def ht586 (p : Params) : BT := BT.node (ho7 p) (ht582 p) (ht585 p)
noncomputable def ht587 (p : Params) : BT := BT.node (ho207 p) BT.nil BT.nil
noncomputable def ht588 (p : Params) : BT := BT.node (ho69 p) (ht308 p) (ht587 p)
noncomputable def ht589 (p : Params) : BT := BT.node (ho31 p) (ht588 p) (ht479 p)
noncomputable def ht590 (p : Params) : BT := BT.node (ho191 p) BT.nil BT.nil
noncomputable def ht591 (p : Params) : BT := BT.node (ho119 p) (ht590 p) BT.nil
noncomputable def ht592 (p : Params) : BT := BT.node (ho50 p) (ht385 p) (ht591 p)
noncomputable def ht593 (p : Params) : BT := BT.node (ho15 p) (ht589 p) (ht592 p)
noncomputable def ht594 (p : Params) : BT := BT.node (boot_o_8 p) (ht586 p) (ht593 p)
noncomputable def ht595 (p : Params) : BT := BT.node (ho203 p) BT.nil BT.nil
noncomputable def ht596 (p : Params) : BT := BT.node (ho65 p) (ht313 p) (ht595 p)
noncomputable def ht597 (p : Params) : BT := BT.node (ho27 p) (ht596 p) (ht484 p)
noncomputable def ht598 (p : Params) : BT := BT.node (ho11 p) (ht597 p) (ht488 p)
noncomputable def ht599 (p : Params) : BT := BT.node (ho211 p) BT.nil BT.nil
noncomputable def ht600 (p : Params) : BT := BT.node (ho73 p) (ht393 p) (ht599 p)
noncomputable def ht601 (p : Params) : BT := BT.node (ho35 p) (ht600 p) (ht491 p)
noncomputable def ht602 (p : Params) : BT := BT.node (ho195 p) BT.nil BT.nil
noncomputable def ht603 (p : Params) : BT := BT.node (ho123 p) (ht602 p) BT.nil
noncomputable def ht604 (p : Params) : BT := BT.node (ho57 p) (ht397 p) (ht603 p)
noncomputable def ht605 (p : Params) : BT := BT.node (ho19 p) (ht601 p) (ht604 p)
noncomputable def ht606 (p : Params) : BT := BT.node (ho187 p) (ht598 p) (ht605 p)
noncomputable def ht607 (p : Params) : BT := BT.node (boot_o_4 p) (ht594 p) (ht606 p)
noncomputable def ht608 (p : Params) : BT := BT.node (ho201 p) BT.nil BT.nil
noncomputable def ht609 (p : Params) : BT := BT.node (ho63 p) (ht258 p) (ht608 p)
noncomputable def ht610 (p : Params) : BT := BT.node (ho25 p) (ht609 p) (ht497 p)
noncomputable def ht611 (p : Params) : BT := BT.node (ho9 p) (ht610 p) (ht501 p)
noncomputable def ht612 (p : Params) : BT := BT.node (ho209 p) BT.nil BT.nil
noncomputable def ht613 (p : Params) : BT := BT.node (ho71 p) (ht319 p) (ht612 p)
noncomputable def ht614 (p : Params) : BT := BT.node (ho33 p) (ht613 p) (ht504 p)
noncomputable def ht615 (p : Params) : BT := BT.node (ho193 p) BT.nil BT.nil
noncomputable def ht616 (p : Params) : BT := BT.node (ho121 p) (ht615 p) BT.nil
noncomputable def ht617 (p : Params) : BT := BT.node (ho52 p) (ht407 p) (ht616 p)
noncomputable def ht618 (p : Params) : BT := BT.node (ho17 p) (ht614 p) (ht617 p)
noncomputable def ht619 (p : Params) : BT := BT.node (boot_o_10 p) (ht611 p) (ht618 p)
noncomputable def ht620 (p : Params) : BT := BT.node (ho205 p) BT.nil BT.nil
noncomputable def ht621 (p : Params) : BT := BT.node (ho67 p) (ht324 p) (ht620 p)
noncomputable def ht622 (p : Params) : BT := BT.node (ho29 p) (ht621 p) (ht509 p)
noncomputable def ht623 (p : Params) : BT := BT.node (ho189 p) BT.nil BT.nil
noncomputable def ht624 (p : Params) : BT := BT.node (ho117 p) (ht623 p) BT.nil
noncomputable def ht625 (p : Params) : BT := BT.node (ho48 p) (ht412 p) (ht624 p)
noncomputable def ht626 (p : Params) : BT := BT.node (ho13 p) (ht622 p) (ht625 p)
noncomputable def ht627 (p : Params) : BT := BT.node (ho213 p) BT.nil BT.nil
noncomputable def ht628 (p : Params) : BT := BT.node (ho77 p) (ht415 p) (ht627 p)
noncomputable def ht629 (p : Params) : BT := BT.node (ho40 p) (ht628 p) (ht513 p)
noncomputable def ht630 (p : Params) : BT := BT.node (ho197 p) BT.nil BT.nil
noncomputable def ht631 (p : Params) : BT := BT.node (ho125 p) (ht630 p) BT.nil
noncomputable def ht632 (p : Params) : BT := BT.node (ho59 p) (ht419 p) (ht631 p)
noncomputable def ht633 (p : Params) : BT := BT.node (ho21 p) (ht629 p) (ht632 p)
noncomputable def ht634 (p : Params) : BT := BT.node (ho3 p) (ht626 p) (ht633 p)
noncomputable def ht635 (p : Params) : BT := BT.node (boot_o_6 p) (ht619 p) (ht634 p)
noncomputable def ht636 (p : Params) : BT := BT.node (ho37 p) (ht607 p) (ht635 p)
noncomputable def ht637 (p : Params) : BT := BT.node (boot_o_0 p) (ht579 p) (ht636 p)
noncomputable def hS8 (w : World) (os : OsState) : SharedT := SharedT.mk ((fun (p : Params) => (ht637 p)) w.params) 210 (@Life.mk [] [] [] 0 [] [] @Bool.false (hArr []) [] 0 @Bool.false @Bool.false @Bool.false (@OfNat.ofNat.{0} @Int (nat_lit 0) (@instOfNat (nat_lit 0))) [(@OfNat.ofNat.{0} @Int (nat_lit 2000) (@instOfNat (nat_lit 2000))), (@OfNat.ofNat.{0} @Int (nat_lit 10) (@instOfNat (nat_lit 10))), (@OfNat.ofNat.{0} @Int (nat_lit 10) (@instOfNat (nat_lit 10)))] @Bool.false 0 @Bool.true [] [] 0 @Bool.false) (hArr []) (@Drawn.mk 0 0 0 0) 465 os
noncomputable def hq8 : Pos := (@Pos.mk 149 0 159 16)
noncomputable def hs8 : List Stmt := [stm 24, stm 25, stm 26, stm 27, stm 28, stm 29, stm 30, stm 31, stm 32]
noncomputable def ho217 (p : Params) : Obj := (@Obj.mk (@Value.type "dict") none (@Data.dict (hArr [(@DictEntry.mk (@PyData.keyHash p (hStr "__name__")) (@Value.str (hStr "__name__") 165) (@Value.str (hStr "law_ov0061_01") 528)), (@DictEntry.mk (@PyData.keyHash p (hStr "__doc__")) (@Value.str (hStr "__doc__") 166) @Value.none), (@DictEntry.mk (@PyData.keyHash p (hStr "__package__")) (@Value.str (hStr "__package__") 167) @Value.none), (@DictEntry.mk (@PyData.keyHash p (hStr "__loader__")) (@Value.str (hStr "__loader__") 168) (@Value.builtin "__main__.__loader__#opaque")), (@DictEntry.mk (@PyData.keyHash p (hStr "__spec__")) (@Value.str (hStr "__spec__") 169) @Value.none), (@DictEntry.mk (@PyData.keyHash p (hStr "__annotations__")) (@Value.str (hStr "__annotations__") 170) (@Value.ref 6)), (@DictEntry.mk (@PyData.keyHash p (hStr "__builtins__")) (@Value.str (hStr "__builtins__") 171) (@Value.ref 4)), (@DictEntry.mk (@PyData.keyHash p (hStr "__file__")) (@Value.str (hStr "__file__") 173) (@Value.str (hStr "/claim/cut.py") 172)), (@DictEntry.mk (@PyData.keyHash p (hStr "__cached__")) (@Value.str (hStr "__cached__") 174) @Value.none), (@DictEntry.mk (@PyData.keyHash p (hStr "_wall")) (@Value.str (hStr "_wall") 193) (@Value.ref 21)), (@DictEntry.mk (@PyData.keyHash p (hStr "get_attr")) (@Value.str (hStr "get_attr") 203) (@Value.ref 28)), (@DictEntry.mk (@PyData.keyHash p (hStr "names_of")) (@Value.str (hStr "names_of") 209) (@Value.ref 33)), (@DictEntry.mk (@PyData.keyHash p (hStr "dim_of")) (@Value.str (hStr "dim_of") 217) (@Value.ref 40)), (@DictEntry.mk (@PyData.keyHash p (hStr "dimnames_of")) (@Value.str (hStr "dimnames_of") 223) (@Value.ref 45)), (@DictEntry.mk (@PyData.keyHash p (hStr "CoveError")) (@Value.str (hStr "CoveError") 245) (@Value.ref 55)), (@DictEntry.mk (@PyData.keyHash p (hStr "Refusal")) (@Value.str (hStr "Refusal") 270) (@Value.ref 75)), (@DictEntry.mk (@PyData.keyHash p (hStr "is_finite")) (@Value.str (hStr "is_finite") 279) (@Value.ref 84)), (@DictEntry.mk (@PyData.keyHash p (hStr "to_whole")) (@Value.str (hStr "to_whole") 287) (@Value.ref 91)), (@DictEntry.mk (@PyData.keyHash p (hStr "whole_subscripts")) (@Value.str (hStr "whole_subscripts") 298) (@Value.ref 98)), (@DictEntry.mk (@PyData.keyHash p (hStr "logical_places")) (@Value.str (hStr "logical_places") 310) (@Value.ref 105)), (@DictEntry.mk (@PyData.keyHash p (hStr "whole_places")) (@Value.str (hStr "whole_places") 316) (@Value.ref 110)), (@DictEntry.mk (@PyData.keyHash p (hStr "first_places")) (@Value.str (hStr "first_places") 326) (@Value.ref 117)), (@DictEntry.mk (@PyData.keyHash p (hStr "name_places")) (@Value.str (hStr "name_places") 337) (@Value.ref 124)), (@DictEntry.mk (@PyData.keyHash p (hStr "extending_places")) (@Value.str (hStr "extending_places") 351) (@Value.ref 131)), (@DictEntry.mk (@PyData.keyHash p (hStr "positions")) (@Value.str (hStr "positions") 362) (@Value.ref 138)), (@DictEntry.mk (@PyData.keyHash p (hStr "Null")) (@Value.str (hStr "Null") 393) (@Value.ref 155)), (@DictEntry.mk (@PyData.keyHash p (hStr "Missing")) (@Value.str (hStr "Missing") 422) (@Value.ref 176)), (@DictEntry.mk (@PyData.keyHash p (hStr "Vector")) (@Value.str (hStr "Vector") 464) (@Value.ref 205)), (@DictEntry.mk (@PyData.keyHash p (hStr "character")) (@Value.str (hStr "character") 471) (@Value.ref 216)), (@DictEntry.mk (@PyData.keyHash p (hStr "named")) (@Value.str (hStr "named") 479) (@Value.ref 223)), (@DictEntry.mk (@PyData.keyHash p (hStr "lacking_item")) (@Value.str (hStr "lacking_item") 488) (@Value.ref 230)), (@DictEntry.mk (@PyData.keyHash p (hStr "result_kind")) (@Value.str (hStr "result_kind") 495) (@Value.ref 237)), (@DictEntry.mk (@PyData.keyHash p (hStr "items_at")) (@Value.str (hStr "items_at") 506) (@Value.ref 244)), (@DictEntry.mk (@PyData.keyHash p (hStr "names_at")) (@Value.str (hStr "names_at") 516) (@Value.ref 251)), (@DictEntry.mk (@PyData.keyHash p (hStr "subset_vector")) (@Value.str (hStr "subset_vector") 527) (@Value.ref 258))]) 35) (hArr []))
noncomputable def ho218 (p : Params) : Obj := (@Obj.mk @Value.none none (@Data.fields (hArr [(@Value.int (@OfNat.ofNat.{0} @Int (nat_lit 1) (@instOfNat (nat_lit 1))) 0), (@Value.int (@OfNat.ofNat.{0} @Int (nat_lit 0) (@instOfNat (nat_lit 0))) 0), (@Value.ref 20), (@Value.int (@OfNat.ofNat.{0} @Int (nat_lit 5) (@instOfNat (nat_lit 5))) 0), (@Value.int (@OfNat.ofNat.{0} @Int (nat_lit 0) (@instOfNat (nat_lit 0))) 0), (@Value.ref 27), (@Value.int (@OfNat.ofNat.{0} @Int (nat_lit 9) (@instOfNat (nat_lit 9))) 0), (@Value.int (@OfNat.ofNat.{0} @Int (nat_lit 0) (@instOfNat (nat_lit 0))) 0), (@Value.ref 32), (@Value.int (@OfNat.ofNat.{0} @Int (nat_lit 25) (@instOfNat (nat_lit 25))) 0), (@Value.int (@OfNat.ofNat.{0} @Int (nat_lit 0) (@instOfNat (nat_lit 0))) 0), (@Value.ref 39), (@Value.int (@OfNat.ofNat.{0} @Int (nat_lit 30) (@instOfNat (nat_lit 30))) 0), (@Value.int (@OfNat.ofNat.{0} @Int (nat_lit 0) (@instOfNat (nat_lit 0))) 0), (@Value.ref 44), (@Value.int (@OfNat.ofNat.{0} @Int (nat_lit 36) (@instOfNat (nat_lit 36))) 0), (@Value.int (@OfNat.ofNat.{0} @Int (nat_lit 0) (@instOfNat (nat_lit 0))) 0), (@Value.ref 51), (@Value.int (@OfNat.ofNat.{0} @Int (nat_lit 38) (@instOfNat (nat_lit 38))) 0), (@Value.int (@OfNat.ofNat.{0} @Int (nat_lit 0) (@instOfNat (nat_lit 0))) 0), (@Value.ref 64), (@Value.int (@OfNat.ofNat.{0} @Int (nat_lit 43) (@instOfNat (nat_lit 43))) 0), (@Value.int (@OfNat.ofNat.{0} @Int (nat_lit 0) (@instOfNat (nat_lit 0))) 0), (@Value.ref 83), (@Value.int (@OfNat.ofNat.{0} @Int (nat_lit 45) (@instOfNat (nat_lit 45))) 0), (@Value.int (@OfNat.ofNat.{0} @Int (nat_lit 0) (@instOfNat (nat_lit 0))) 0), (@Value.ref 90), (@Value.int (@OfNat.ofNat.{0} @Int (nat_lit 51) (@instOfNat (nat_lit 51))) 0), (@Value.int (@OfNat.ofNat.{0} @Int (nat_lit 0) (@instOfNat (nat_lit 0))) 0), (@Value.ref 97), (@Value.int (@OfNat.ofNat.{0} @Int (nat_lit 61) (@instOfNat (nat_lit 61))) 0), (@Value.int (@OfNat.ofNat.{0} @Int (nat_lit 0) (@instOfNat (nat_lit 0))) 0), (@Value.ref 104), (@Value.int (@OfNat.ofNat.{0} @Int (nat_lit 73) (@instOfNat (nat_lit 73))) 0), (@Value.int (@OfNat.ofNat.{0} @Int (nat_lit 0) (@instOfNat (nat_lit 0))) 0), (@Value.ref 109), (@Value.int (@OfNat.ofNat.{0} @Int (nat_lit 92) (@instOfNat (nat_lit 92))) 0), (@Value.int (@OfNat.ofNat.{0} @Int (nat_lit 0) (@instOfNat (nat_lit 0))) 0), (@Value.ref 116), (@Value.int (@OfNat.ofNat.{0} @Int (nat_lit 100) (@instOfNat (nat_lit 100))) 0), (@Value.int (@OfNat.ofNat.{0} @Int (nat_lit 0) (@instOfNat (nat_lit 0))) 0), (@Value.ref 123), (@Value.int (@OfNat.ofNat.{0} @Int (nat_lit 109) (@instOfNat (nat_lit 109))) 0), (@Value.int (@OfNat.ofNat.{0} @Int (nat_lit 0) (@instOfNat (nat_lit 0))) 0), (@Value.ref 130), (@Value.int (@OfNat.ofNat.{0} @Int (nat_lit 123) (@instOfNat (nat_lit 123))) 0), (@Value.int (@OfNat.ofNat.{0} @Int (nat_lit 0) (@instOfNat (nat_lit 0))) 0), (@Value.ref 137), (@Value.int (@OfNat.ofNat.{0} @Int (nat_lit 139) (@instOfNat (nat_lit 139))) 0), (@Value.int (@OfNat.ofNat.{0} @Int (nat_lit 0) (@instOfNat (nat_lit 0))) 0), (@Value.ref 144), (@Value.int (@OfNat.ofNat.{0} @Int (nat_lit 144) (@instOfNat (nat_lit 144))) 0), (@Value.int (@OfNat.ofNat.{0} @Int (nat_lit 0) (@instOfNat (nat_lit 0))) 0), (@Value.ref 165), (@Value.int (@OfNat.ofNat.{0} @Int (nat_lit 149) (@instOfNat (nat_lit 149))) 0), (@Value.int (@OfNat.ofNat.{0} @Int (nat_lit 0) (@instOfNat (nat_lit 0))) 0), (@Value.ref 186), (@Value.int (@OfNat.ofNat.{0} @Int (nat_lit 160) (@instOfNat (nat_lit 160))) 0), (@Value.int (@OfNat.ofNat.{0} @Int (nat_lit 0) (@instOfNat (nat_lit 0))) 0), (@Value.ref 215), (@Value.int (@OfNat.ofNat.{0} @Int (nat_lit 162) (@instOfNat (nat_lit 162))) 0), (@Value.int (@OfNat.ofNat.{0} @Int (nat_lit 0) (@instOfNat (nat_lit 0))) 0), (@Value.ref 222), (@Value.int (@OfNat.ofNat.{0} @Int (nat_lit 167) (@instOfNat (nat_lit 167))) 0), (@Value.int (@OfNat.ofNat.{0} @Int (nat_lit 0) (@instOfNat (nat_lit 0))) 0), (@Value.ref 229), (@Value.int (@OfNat.ofNat.{0} @Int (nat_lit 171) (@instOfNat (nat_lit 171))) 0), (@Value.int (@OfNat.ofNat.{0} @Int (nat_lit 0) (@instOfNat (nat_lit 0))) 0), (@Value.ref 236), (@Value.int (@OfNat.ofNat.{0} @Int (nat_lit 175) (@instOfNat (nat_lit 175))) 0), (@Value.int (@OfNat.ofNat.{0} @Int (nat_lit 0) (@instOfNat (nat_lit 0))) 0), (@Value.ref 243), (@Value.int (@OfNat.ofNat.{0} @Int (nat_lit 184) (@instOfNat (nat_lit 184))) 0), (@Value.int (@OfNat.ofNat.{0} @Int (nat_lit 0) (@instOfNat (nat_lit 0))) 0), (@Value.ref 250), (@Value.int (@OfNat.ofNat.{0} @Int (nat_lit 192) (@instOfNat (nat_lit 192))) 0), (@Value.int (@OfNat.ofNat.{0} @Int (nat_lit 0) (@instOfNat (nat_lit 0))) 0), (@Value.ref 257)])) (hArr []))
noncomputable def ho219 (p : Params) : Obj := (@Obj.mk (@Value.type "tuple") none (@Data.seq (hArr []) 0) (hArr []))
noncomputable def ho220 (p : Params) : Obj := (@Obj.mk @Value.none none (@Data.fields (hArr [])) (hArr []))
noncomputable def ho221 (p : Params) : Obj := (@Obj.mk (@Value.type "tuple") none (@Data.seq (hArr [(@Value.str (hStr "items") 468)]) 0) (hArr []))
noncomputable def ho222 (p : Params) : Obj := (@Obj.mk (@Value.type "tuple") none (@Data.seq (hArr []) 0) (hArr []))
noncomputable def ho223 (p : Params) : Obj := (@Obj.mk @Value.none none (@Data.func (@FuncData.mk (hStr "character") (hStr "character") (fnA 24) (@FuncBody.stmts (fnB 24)) (fnS 24) 0 [] @Value.none @Value.none @Value.none @Value.none none @Value.none @Value.none 0)) (hArr []))
noncomputable def ho224 (p : Params) : Obj := (@Obj.mk (@Value.type "code") none (@Data.fields (hArr [(@Value.str (hStr "character") 465), (@Value.str (hStr "character") 466), (@Value.str (hStr "/claim/cut.py") 467), (@Value.int (@OfNat.ofNat.{0} @Int (nat_lit 160) (@instOfNat (nat_lit 160))) 0), (@Value.int (@OfNat.ofNat.{0} @Int (nat_lit 1) (@instOfNat (nat_lit 1))) 0), (@Value.int (@OfNat.ofNat.{0} @Int (nat_lit 0) (@instOfNat (nat_lit 0))) 0), (@Value.int (@OfNat.ofNat.{0} @Int (nat_lit 0) (@instOfNat (nat_lit 0))) 0), (@Value.int (@OfNat.ofNat.{0} @Int (nat_lit 3) (@instOfNat (nat_lit 3))) 0), (@Value.ref 210), (@Value.bool @Bool.true), (@Value.int (@OfNat.ofNat.{0} @Int (nat_lit 181) (@instOfNat (nat_lit 181))) 0), (@Value.ref 211), @Value.none, (@Value.ref 212), (@Value.ref 213), (@Value.ref 214), (@Value.int (@OfNat.ofNat.{0} @Int (nat_lit 469) (@instOfNat (nat_lit 469))) 0), (@Value.int (@OfNat.ofNat.{0} @Int (nat_lit 160) (@instOfNat (nat_lit 160))) 0), (@Value.str (hStr "/claim/cut.py") 470)])) (hArr []))
noncomputable def ho225 (p : Params) : Obj := (@Obj.mk (@Value.type "function") none (@Data.func (@FuncData.mk (hStr "character") (hStr "character") (fnA 24) (@FuncBody.stmts (fnB 24)) (fnS 24) 3 [] @Value.none @Value.none @Value.none (@Value.str (hStr "vectorcove.values") 363) none (@Value.ref 215) @Value.none 0)) (hArr []))
noncomputable def ho226 (p : Params) : Obj := (@Obj.mk (@Value.type "tuple") none (@Data.seq (hArr []) 0) (hArr []))
noncomputable def ho227 (p : Params) : Obj := (@Obj.mk @Value.none none (@Data.fields (hArr [])) (hArr []))
noncomputable def ho228 (p : Params) : Obj := (@Obj.mk (@Value.type "tuple") none (@Data.seq (hArr [(@Value.str (hStr "v") 475), (@Value.str (hStr "names") 476)]) 0) (hArr []))
noncomputable def ho229 (p : Params) : Obj := (@Obj.mk (@Value.type "tuple") none (@Data.seq (hArr []) 0) (hArr []))
noncomputable def ho230 (p : Params) : Obj := (@Obj.mk @Value.none none (@Data.func (@FuncData.mk (hStr "named") (hStr "named") (fnA 25) (@FuncBody.stmts (fnB 25)) (fnS 25) 0 [] @Value.none @Value.none @Value.none @Value.none none @Value.none @Value.none 0)) (hArr []))
noncomputable def ho231 (p : Params) : Obj := (@Obj.mk (@Value.type "code") none (@Data.fields (hArr [(@Value.str (hStr "named") 472), (@Value.str (hStr "named") 473), (@Value.str (hStr "/claim/cut.py") 474), (@Value.int (@OfNat.ofNat.{0} @Int (nat_lit 162) (@instOfNat (nat_lit 162))) 0), (@Value.int (@OfNat.ofNat.{0} @Int (nat_lit 2) (@instOfNat (nat_lit 2))) 0), (@Value.int (@OfNat.ofNat.{0} @Int (nat_lit 0) (@instOfNat (nat_lit 0))) 0), (@Value.int (@OfNat.ofNat.{0} @Int (nat_lit 0) (@instOfNat (nat_lit 0))) 0), (@Value.int (@OfNat.ofNat.{0} @Int (nat_lit 3) (@instOfNat (nat_lit 3))) 0), (@Value.ref 217), (@Value.bool @Bool.true), (@Value.int (@OfNat.ofNat.{0} @Int (nat_lit 181) (@instOfNat (nat_lit 181))) 0), (@Value.ref 218), @Value.none, (@Value.ref 219), (@Value.ref 220), (@Value.ref 221), (@Value.int (@OfNat.ofNat.{0} @Int (nat_lit 477) (@instOfNat (nat_lit 477))) 0), (@Value.int (@OfNat.ofNat.{0} @Int (nat_lit 162) (@instOfNat (nat_lit 162))) 0), (@Value.str (hStr "/claim/cut.py") 478)])) (hArr []))
noncomputable def ho232 (p : Params) : Obj := (@Obj.mk (@Value.type "function") none (@Data.func (@FuncData.mk (hStr "named") (hStr "named") (fnA 25) (@FuncBody.stmts (fnB 25)) (fnS 25) 3 [] @Value.none @Value.none @Value.none (@Value.str (hStr "vectorcove.values") 363) none (@Value.ref 222) @Value.none 0)) (hArr []))
noncomputable def ho233 (p : Params) : Obj := (@Obj.mk (@Value.type "tuple") none (@Data.seq (hArr []) 0) (hArr []))
noncomputable def ho234 (p : Params) : Obj := (@Obj.mk @Value.none none (@Data.fields (hArr [])) (hArr []))
noncomputable def ho235 (p : Params) : Obj := (@Obj.mk (@Value.type "tuple") none (@Data.seq (hArr [(@Value.str (hStr "kind") 485)]) 0) (hArr []))
noncomputable def ho236 (p : Params) : Obj := (@Obj.mk (@Value.type "tuple") none (@Data.seq (hArr []) 0) (hArr []))
noncomputable def ho237 (p : Params) : Obj := (@Obj.mk @Value.none none (@Data.func (@FuncData.mk (hStr "lacking_item") (hStr "lacking_item") (fnA 27) (@FuncBody.stmts (fnB 27)) (fnS 27) 0 [] @Value.none @Value.none @Value.none @Value.none none @Value.none @Value.none 0)) (hArr []))
noncomputable def ho238 (p : Params) : Obj := (@Obj.mk (@Value.type "code") none (@Data.fields (hArr [(@Value.str (hStr "lacking_item") 482), (@Value.str (hStr "lacking_item") 483), (@Value.str (hStr "/claim/cut.py") 484), (@Value.int (@OfNat.ofNat.{0} @Int (nat_lit 167) (@instOfNat (nat_lit 167))) 0), (@Value.int (@OfNat.ofNat.{0} @Int (nat_lit 1) (@instOfNat (nat_lit 1))) 0), (@Value.int (@OfNat.ofNat.{0} @Int (nat_lit 0) (@instOfNat (nat_lit 0))) 0), (@Value.int (@OfNat.ofNat.{0} @Int (nat_lit 0) (@instOfNat (nat_lit 0))) 0), (@Value.int (@OfNat.ofNat.{0} @Int (nat_lit 3) (@instOfNat (nat_lit 3))) 0), (@Value.ref 224), (@Value.bool @Bool.true), (@Value.int (@OfNat.ofNat.{0} @Int (nat_lit 181) (@instOfNat (nat_lit 181))) 0), (@Value.ref 225), @Value.none, (@Value.ref 226), (@Value.ref 227), (@Value.ref 228), (@Value.int (@OfNat.ofNat.{0} @Int (nat_lit 486) (@instOfNat (nat_lit 486))) 0), (@Value.int (@OfNat.ofNat.{0} @Int (nat_lit 167) (@instOfNat (nat_lit 167))) 0), (@Value.str (hStr "/claim/cut.py") 487)])) (hArr []))
noncomputable def ho239 (p : Params) : Obj := (@Obj.mk (@Value.type "function") none (@Data.func (@FuncData.mk (hStr "lacking_item") (hStr "lacking_item") (fnA 27) (@FuncBody.stmts (fnB 27)) (fnS 27) 3 [] @Value.none @Value.none @Value.none (@Value.str (hStr "vectorcove.subset") 480) none (@Value.ref 229) @Value.none 0)) (hArr []))
noncomputable def ho240 (p : Params) : Obj := (@Obj.mk (@Value.type "tuple") none (@Data.seq (hArr []) 0) (hArr []))
noncomputable def ho241 (p : Params) : Obj := (@Obj.mk @Value.none none (@Data.fields (hArr [])) (hArr []))
noncomputable def ho242 (p : Params) : Obj := (@Obj.mk (@Value.type "tuple") none (@Data.seq (hArr [(@Value.str (hStr "kind") 492)]) 0) (hArr []))
noncomputable def ho243 (p : Params) : Obj := (@Obj.mk (@Value.type "tuple") none (@Data.seq (hArr []) 0) (hArr []))
noncomputable def ho244 (p : Params) : Obj := (@Obj.mk @Value.none none (@Data.func (@FuncData.mk (hStr "result_kind") (hStr "result_kind") (fnA 28) (@FuncBody.stmts (fnB 28)) (fnS 28) 0 [] @Value.none @Value.none @Value.none @Value.none none @Value.none @Value.none 0)) (hArr []))
noncomputable def ho245 (p : Params) : Obj := (@Obj.mk (@Value.type "code") none (@Data.fields (hArr [(@Value.str (hStr "result_kind") 489), (@Value.str (hStr "result_kind") 490), (@Value.str (hStr "/claim/cut.py") 491), (@Value.int (@OfNat.ofNat.{0} @Int (nat_lit 171) (@instOfNat (nat_lit 171))) 0), (@Value.int (@OfNat.ofNat.{0} @Int (nat_lit 1) (@instOfNat (nat_lit 1))) 0), (@Value.int (@OfNat.ofNat.{0} @Int (nat_lit 0) (@instOfNat (nat_lit 0))) 0), (@Value.int (@OfNat.ofNat.{0} @Int (nat_lit 0) (@instOfNat (nat_lit 0))) 0), (@Value.int (@OfNat.ofNat.{0} @Int (nat_lit 3) (@instOfNat (nat_lit 3))) 0), (@Value.ref 231), (@Value.bool @Bool.true), (@Value.int (@OfNat.ofNat.{0} @Int (nat_lit 181) (@instOfNat (nat_lit 181))) 0), (@Value.ref 232), @Value.none, (@Value.ref 233), (@Value.ref 234), (@Value.ref 235), (@Value.int (@OfNat.ofNat.{0} @Int (nat_lit 493) (@instOfNat (nat_lit 493))) 0), (@Value.int (@OfNat.ofNat.{0} @Int (nat_lit 171) (@instOfNat (nat_lit 171))) 0), (@Value.str (hStr "/claim/cut.py") 494)])) (hArr []))
noncomputable def ho246 (p : Params) : Obj := (@Obj.mk (@Value.type "function") none (@Data.func (@FuncData.mk (hStr "result_kind") (hStr "result_kind") (fnA 28) (@FuncBody.stmts (fnB 28)) (fnS 28) 3 [] @Value.none @Value.none @Value.none (@Value.str (hStr "vectorcove.subset") 480) none (@Value.ref 236) @Value.none 0)) (hArr []))
noncomputable def ho247 (p : Params) : Obj := (@Obj.mk (@Value.type "tuple") none (@Data.seq (hArr []) 0) (hArr []))
noncomputable def ho248 (p : Params) : Obj := (@Obj.mk @Value.none none (@Data.fields (hArr [])) (hArr []))
noncomputable def ho249 (p : Params) : Obj := (@Obj.mk (@Value.type "tuple") none (@Data.seq (hArr [(@Value.str (hStr "v") 499), (@Value.str (hStr "places") 500), (@Value.str (hStr "found") 501), (@Value.str (hStr "n") 502), (@Value.str (hStr "place") 503)]) 0) (hArr []))
noncomputable def ho250 (p : Params) : Obj := (@Obj.mk (@Value.type "tuple") none (@Data.seq (hArr []) 0) (hArr []))
noncomputable def ho251 (p : Params) : Obj := (@Obj.mk @Value.none none (@Data.func (@FuncData.mk (hStr "items_at") (hStr "items_at") (fnA 29) (@FuncBody.stmts (fnB 29)) (fnS 29) 0 [] @Value.none @Value.none @Value.none @Value.none none @Value.none @Value.none 0)) (hArr []))
noncomputable def ho252 (p : Params) : Obj := (@Obj.mk (@Value.type "code") none (@Data.fields (hArr [(@Value.str (hStr "items_at") 496), (@Value.str (hStr "items_at") 497), (@Value.str (hStr "/claim/cut.py") 498), (@Value.int (@OfNat.ofNat.{0} @Int (nat_lit 175) (@instOfNat (nat_lit 175))) 0), (@Value.int (@OfNat.ofNat.{0} @Int (nat_lit 2) (@instOfNat (nat_lit 2))) 0), (@Value.int (@OfNat.ofNat.{0} @Int (nat_lit 0) (@instOfNat (nat_lit 0))) 0), (@Value.int (@OfNat.ofNat.{0} @Int (nat_lit 0) (@instOfNat (nat_lit 0))) 0), (@Value.int (@OfNat.ofNat.{0} @Int (nat_lit 3) (@instOfNat (nat_lit 3))) 0), (@Value.ref 238), (@Value.bool @Bool.true), (@Value.int (@OfNat.ofNat.{0} @Int (nat_lit 181) (@instOfNat (nat_lit 181))) 0), (@Value.ref 239), @Value.none, (@Value.ref 240), (@Value.ref 241), (@Value.ref 242), (@Value.int (@OfNat.ofNat.{0} @Int (nat_lit 504) (@instOfNat (nat_lit 504))) 0), (@Value.int (@OfNat.ofNat.{0} @Int (nat_lit 175) (@instOfNat (nat_lit 175))) 0), (@Value.str (hStr "/claim/cut.py") 505)])) (hArr []))
noncomputable def ho253 (p : Params) : Obj := (@Obj.mk (@Value.type "function") none (@Data.func (@FuncData.mk (hStr "items_at") (hStr "items_at") (fnA 29) (@FuncBody.stmts (fnB 29)) (fnS 29) 3 [] @Value.none @Value.none @Value.none (@Value.str (hStr "vectorcove.subset") 480) none (@Value.ref 243) @Value.none 0)) (hArr []))
noncomputable def ho254 (p : Params) : Obj := (@Obj.mk (@Value.type "tuple") none (@Data.seq (hArr []) 0) (hArr []))
noncomputable def ho255 (p : Params) : Obj := (@Obj.mk @Value.none none (@Data.fields (hArr [])) (hArr []))
noncomputable def ho256 (p : Params) : Obj := (@Obj.mk (@Value.type "tuple") none (@Data.seq (hArr [(@Value.str (hStr "names") 510), (@Value.str (hStr "places") 511), (@Value.str (hStr "found") 512), (@Value.str (hStr "place") 513)]) 0) (hArr []))
noncomputable def ho257 (p : Params) : Obj := (@Obj.mk (@Value.type "tuple") none (@Data.seq (hArr []) 0) (hArr []))
noncomputable def ho258 (p : Params) : Obj := (@Obj.mk @Value.none none (@Data.func (@FuncData.mk (hStr "names_at") (hStr "names_at") (fnA 30) (@FuncBody.stmts (fnB 30)) (fnS 30) 0 [] @Value.none @Value.none @Value.none @Value.none none @Value.none @Value.none 0)) (hArr []))
noncomputable def ho259 (p : Params) : Obj := (@Obj.mk (@Value.type "code") none (@Data.fields (hArr [(@Value.str (hStr "names_at") 507), (@Value.str (hStr "names_at") 508), (@Value.str (hStr "/claim/cut.py") 509), (@Value.int (@OfNat.ofNat.{0} @Int (nat_lit 184) (@instOfNat (nat_lit 184))) 0), (@Value.int (@OfNat.ofNat.{0} @Int (nat_lit 2) (@instOfNat (nat_lit 2))) 0), (@Value.int (@OfNat.ofNat.{0} @Int (nat_lit 0) (@instOfNat (nat_lit 0))) 0), (@Value.int (@OfNat.ofNat.{0} @Int (nat_lit 0) (@instOfNat (nat_lit 0))) 0), (@Value.int (@OfNat.ofNat.{0} @Int (nat_lit 3) (@instOfNat (nat_lit 3))) 0), (@Value.ref 245), (@Value.bool @Bool.true), (@Value.int (@OfNat.ofNat.{0} @Int (nat_lit 181) (@instOfNat (nat_lit 181))) 0), (@Value.ref 246), @Value.none, (@Value.ref 247), (@Value.ref 248), (@Value.ref 249), (@Value.int (@OfNat.ofNat.{0} @Int (nat_lit 514) (@instOfNat (nat_lit 514))) 0), (@Value.int (@OfNat.ofNat.{0} @Int (nat_lit 184) (@instOfNat (nat_lit 184))) 0), (@Value.str (hStr "/claim/cut.py") 515)])) (hArr []))
noncomputable def ho260 (p : Params) : Obj := (@Obj.mk (@Value.type "function") none (@Data.func (@FuncData.mk (hStr "names_at") (hStr "names_at") (fnA 30) (@FuncBody.stmts (fnB 30)) (fnS 30) 3 [] @Value.none @Value.none @Value.none (@Value.str (hStr "vectorcove.subset") 480) none (@Value.ref 250) @Value.none 0)) (hArr []))
noncomputable def ho261 (p : Params) : Obj := (@Obj.mk (@Value.type "tuple") none (@Data.seq (hArr []) 0) (hArr []))
noncomputable def ho262 (p : Params) : Obj := (@Obj.mk @Value.none none (@Data.fields (hArr [])) (hArr []))
noncomputable def ho263 (p : Params) : Obj := (@Obj.mk (@Value.type "tuple") none (@Data.seq (hArr [(@Value.str (hStr "v") 520), (@Value.str (hStr "ix") 521), (@Value.str (hStr "names") 522), (@Value.str (hStr "places") 523), (@Value.str (hStr "result") 524)]) 0) (hArr []))
noncomputable def ho264 (p : Params) : Obj := (@Obj.mk (@Value.type "tuple") none (@Data.seq (hArr []) 0) (hArr []))
noncomputable def ho265 (p : Params) : Obj := (@Obj.mk @Value.none none (@Data.func (@FuncData.mk (hStr "subset_vector") (hStr "subset_vector") (fnA 31) (@FuncBody.stmts (fnB 31)) (fnS 31) 0 [] @Value.none @Value.none @Value.none @Value.none none @Value.none @Value.none 0)) (hArr []))
noncomputable def ho266 (p : Params) : Obj := (@Obj.mk (@Value.type "code") none (@Data.fields (hArr [(@Value.str (hStr "subset_vector") 517), (@Value.str (hStr "subset_vector") 518), (@Value.str (hStr "/claim/cut.py") 519), (@Value.int (@OfNat.ofNat.{0} @Int (nat_lit 192) (@instOfNat (nat_lit 192))) 0), (@Value.int (@OfNat.ofNat.{0} @Int (nat_lit 2) (@instOfNat (nat_lit 2))) 0), (@Value.int (@OfNat.ofNat.{0} @Int (nat_lit 0) (@instOfNat (nat_lit 0))) 0), (@Value.int (@OfNat.ofNat.{0} @Int (nat_lit 0) (@instOfNat (nat_lit 0))) 0), (@Value.int (@OfNat.ofNat.{0} @Int (nat_lit 3) (@instOfNat (nat_lit 3))) 0), (@Value.ref 252), (@Value.bool @Bool.true), (@Value.int (@OfNat.ofNat.{0} @Int (nat_lit 181) (@instOfNat (nat_lit 181))) 0), (@Value.ref 253), @Value.none, (@Value.ref 254), (@Value.ref 255), (@Value.ref 256), (@Value.int (@OfNat.ofNat.{0} @Int (nat_lit 525) (@instOfNat (nat_lit 525))) 0), (@Value.int (@OfNat.ofNat.{0} @Int (nat_lit 192) (@instOfNat (nat_lit 192))) 0), (@Value.str (hStr "/claim/cut.py") 526)])) (hArr []))
noncomputable def ho267 (p : Params) : Obj := (@Obj.mk (@Value.type "function") none (@Data.func (@FuncData.mk (hStr "subset_vector") (hStr "subset_vector") (fnA 31) (@FuncBody.stmts (fnB 31)) (fnS 31) 3 [] @Value.none @Value.none @Value.none (@Value.str (hStr "vectorcove.subset") 480) none (@Value.ref 257) @Value.none 0)) (hArr []))
noncomputable def ht638 (p : Params) : BT := BT.node (ho264 p) BT.nil BT.nil
noncomputable def ht639 (p : Params) : BT := BT.node (ho126 p) (ht638 p) BT.nil
noncomputable def ht640 (p : Params) : BT := BT.node (ho60 p) (ht639 p) (ht520 p)
noncomputable def ht641 (p : Params) : BT := BT.node (ho232 p) BT.nil BT.nil
noncomputable def ht642 (p : Params) : BT := BT.node (ho94 p) (ht332 p) (ht641 p)
noncomputable def ht643 (p : Params) : BT := BT.node (ho22 p) (ht640 p) (ht642 p)
noncomputable def ht644 (p : Params) : BT := BT.node (ho248 p) BT.nil BT.nil
noncomputable def ht645 (p : Params) : BT := BT.node (ho110 p) (ht426 p) (ht644 p)
noncomputable def ht646 (p : Params) : BT := BT.node (ho41 p) (ht524 p) (ht645 p)
noncomputable def ht647 (p : Params) : BT := BT.node (ho6 p) (ht643 p) (ht646 p)
noncomputable def ht648 (p : Params) : BT := BT.node (ho240 p) BT.nil BT.nil
noncomputable def ht649 (p : Params) : BT := BT.node (ho102 p) (ht430 p) (ht648 p)
noncomputable def ht650 (p : Params) : BT := BT.node (ho30 p) (ht528 p) (ht649 p)
noncomputable def ht651 (p : Params) : BT := BT.node (ho224 p) BT.nil BT.nil
noncomputable def ht652 (p : Params) : BT := BT.node (ho86 p) (ht339 p) (ht651 p)
noncomputable def ht653 (p : Params) : BT := BT.node (ho256 p) BT.nil BT.nil
noncomputable def ht654 (p : Params) : BT := BT.node (ho118 p) (ht530 p) (ht653 p)
noncomputable def ht655 (p : Params) : BT := BT.node (ho55 p) (ht652 p) (ht654 p)
noncomputable def ht656 (p : Params) : BT := BT.node (ho14 p) (ht650 p) (ht655 p)
noncomputable def ht657 (p : Params) : BT := BT.node (boot_o_7 p) (ht647 p) (ht656 p)
noncomputable def ht658 (p : Params) : BT := BT.node (ho236 p) BT.nil BT.nil
noncomputable def ht659 (p : Params) : BT := BT.node (ho98 p) (ht435 p) (ht658 p)
noncomputable def ht660 (p : Params) : BT := BT.node (ho26 p) (ht536 p) (ht659 p)
noncomputable def ht661 (p : Params) : BT := BT.node (ho220 p) BT.nil BT.nil
noncomputable def ht662 (p : Params) : BT := BT.node (ho82 p) (ht344 p) (ht661 p)
noncomputable def ht663 (p : Params) : BT := BT.node (ho252 p) BT.nil BT.nil
noncomputable def ht664 (p : Params) : BT := BT.node (ho114 p) (ht438 p) (ht663 p)
noncomputable def ht665 (p : Params) : BT := BT.node (ho45 p) (ht662 p) (ht664 p)
noncomputable def ht666 (p : Params) : BT := BT.node (ho10 p) (ht660 p) (ht665 p)
noncomputable def ht667 (p : Params) : BT := BT.node (ho244 p) BT.nil BT.nil
noncomputable def ht668 (p : Params) : BT := BT.node (ho106 p) (ht442 p) (ht667 p)
noncomputable def ht669 (p : Params) : BT := BT.node (ho34 p) (ht540 p) (ht668 p)
noncomputable def ht670 (p : Params) : BT := BT.node (ho228 p) BT.nil BT.nil
noncomputable def ht671 (p : Params) : BT := BT.node (ho90 p) (ht351 p) (ht670 p)
noncomputable def ht672 (p : Params) : BT := BT.node (ho260 p) BT.nil BT.nil
noncomputable def ht673 (p : Params) : BT := BT.node (ho122 p) (ht542 p) (ht672 p)
noncomputable def ht674 (p : Params) : BT := BT.node (ho56 p) (ht671 p) (ht673 p)
noncomputable def ht675 (p : Params) : BT := BT.node (ho18 p) (ht669 p) (ht674 p)
noncomputable def ht676 (p : Params) : BT := BT.node (ho0 p) (ht666 p) (ht675 p)
noncomputable def ht677 (p : Params) : BT := BT.node (ho217 p) (ht657 p) (ht676 p)
noncomputable def ht678 (p : Params) : BT := BT.node (ho266 p) BT.nil BT.nil
noncomputable def ht679 (p : Params) : BT := BT.node (ho128 p) (ht678 p) BT.nil
noncomputable def ht680 (p : Params) : BT := BT.node (ho62 p) (ht679 p) (ht548 p)
noncomputable def ht681 (p : Params) : BT := BT.node (ho234 p) BT.nil BT.nil
noncomputable def ht682 (p : Params) : BT := BT.node (ho96 p) (ht448 p) (ht681 p)
noncomputable def ht683 (p : Params) : BT := BT.node (ho24 p) (ht680 p) (ht682 p)
noncomputable def ht684 (p : Params) : BT := BT.node (ho250 p) BT.nil BT.nil
noncomputable def ht685 (p : Params) : BT := BT.node (ho112 p) (ht451 p) (ht684 p)
noncomputable def ht686 (p : Params) : BT := BT.node (ho43 p) (ht552 p) (ht685 p)
noncomputable def ht687 (p : Params) : BT := BT.node (ho8 p) (ht683 p) (ht686 p)
noncomputable def ht688 (p : Params) : BT := BT.node (ho242 p) BT.nil BT.nil
noncomputable def ht689 (p : Params) : BT := BT.node (ho104 p) (ht455 p) (ht688 p)
noncomputable def ht690 (p : Params) : BT := BT.node (ho32 p) (ht556 p) (ht689 p)
noncomputable def ht691 (p : Params) : BT := BT.node (ho226 p) BT.nil BT.nil
noncomputable def ht692 (p : Params) : BT := BT.node (ho88 p) (ht361 p) (ht691 p)
noncomputable def ht693 (p : Params) : BT := BT.node (ho258 p) BT.nil BT.nil
noncomputable def ht694 (p : Params) : BT := BT.node (ho120 p) (ht558 p) (ht693 p)
noncomputable def ht695 (p : Params) : BT := BT.node (ho51 p) (ht692 p) (ht694 p)
noncomputable def ht696 (p : Params) : BT := BT.node (ho16 p) (ht690 p) (ht695 p)
noncomputable def ht697 (p : Params) : BT := BT.node (boot_o_9 p) (ht687 p) (ht696 p)
noncomputable def ht698 (p : Params) : BT := BT.node (ho238 p) BT.nil BT.nil
noncomputable def ht699 (p : Params) : BT := BT.node (ho100 p) (ht460 p) (ht698 p)
noncomputable def ht700 (p : Params) : BT := BT.node (ho28 p) (ht564 p) (ht699 p)
noncomputable def ht701 (p : Params) : BT := BT.node (ho222 p) BT.nil BT.nil
noncomputable def ht702 (p : Params) : BT := BT.node (ho84 p) (ht366 p) (ht701 p)
noncomputable def ht703 (p : Params) : BT := BT.node (ho254 p) BT.nil BT.nil
noncomputable def ht704 (p : Params) : BT := BT.node (ho116 p) (ht566 p) (ht703 p)
noncomputable def ht705 (p : Params) : BT := BT.node (ho47 p) (ht702 p) (ht704 p)
noncomputable def ht706 (p : Params) : BT := BT.node (ho12 p) (ht700 p) (ht705 p)
noncomputable def ht707 (p : Params) : BT := BT.node (ho246 p) BT.nil BT.nil
noncomputable def ht708 (p : Params) : BT := BT.node (ho108 p) (ht464 p) (ht707 p)
noncomputable def ht709 (p : Params) : BT := BT.node (ho36 p) (ht571 p) (ht708 p)
noncomputable def ht710 (p : Params) : BT := BT.node (ho230 p) BT.nil BT.nil
noncomputable def ht711 (p : Params) : BT := BT.node (ho92 p) (ht373 p) (ht710 p)
noncomputable def ht712 (p : Params) : BT := BT.node (ho262 p) BT.nil BT.nil
noncomputable def ht713 (p : Params) : BT := BT.node (ho124 p) (ht573 p) (ht712 p)
noncomputable def ht714 (p : Params) : BT := BT.node (ho58 p) (ht711 p) (ht713 p)
noncomputable def ht715 (p : Params) : BT := BT.node (ho20 p) (ht709 p) (ht714 p)
noncomputable def ht716 (p : Params) : BT := BT.node (ho2 p) (ht706 p) (ht715 p)
noncomputable def ht717 (p : Params) : BT := BT.node (boot_o_5 p) (ht697 p) (ht716 p)
noncomputable def ht718 (p : Params) : BT := BT.node (boot_o_1 p) (ht677 p) (ht717 p)
noncomputable def ht719 (p : Params) : BT := BT.node (ho265 p) BT.nil BT.nil
noncomputable def ht720 (p : Params) : BT := BT.node (ho127 p) (ht719 p) BT.nil
noncomputable def ht721 (p : Params) : BT := BT.node (ho61 p) (ht720 p) (ht580 p)
noncomputable def ht722 (p : Params) : BT := BT.node (ho233 p) BT.nil BT.nil
noncomputable def ht723 (p : Params) : BT := BT.node (ho95 p) (ht471 p) (ht722 p)
noncomputable def ht724 (p : Params) : BT := BT.node (ho23 p) (ht721 p) (ht723 p)
noncomputable def ht725 (p : Params) : BT := BT.node (ho249 p) BT.nil BT.nil
noncomputable def ht726 (p : Params) : BT := BT.node (ho111 p) (ht474 p) (ht725 p)
noncomputable def ht727 (p : Params) : BT := BT.node (ho42 p) (ht584 p) (ht726 p)
noncomputable def ht728 (p : Params) : BT := BT.node (ho7 p) (ht724 p) (ht727 p)
noncomputable def ht729 (p : Params) : BT := BT.node (ho241 p) BT.nil BT.nil
noncomputable def ht730 (p : Params) : BT := BT.node (ho103 p) (ht478 p) (ht729 p)
noncomputable def ht731 (p : Params) : BT := BT.node (ho31 p) (ht588 p) (ht730 p)
noncomputable def ht732 (p : Params) : BT := BT.node (ho225 p) BT.nil BT.nil
noncomputable def ht733 (p : Params) : BT := BT.node (ho87 p) (ht384 p) (ht732 p)
noncomputable def ht734 (p : Params) : BT := BT.node (ho257 p) BT.nil BT.nil
noncomputable def ht735 (p : Params) : BT := BT.node (ho119 p) (ht590 p) (ht734 p)
noncomputable def ht736 (p : Params) : BT := BT.node (ho50 p) (ht733 p) (ht735 p)
noncomputable def ht737 (p : Params) : BT := BT.node (ho15 p) (ht731 p) (ht736 p)
noncomputable def ht738 (p : Params) : BT := BT.node (boot_o_8 p) (ht728 p) (ht737 p)
noncomputable def ht739 (p : Params) : BT := BT.node (ho237 p) BT.nil BT.nil
noncomputable def ht740 (p : Params) : BT := BT.node (ho99 p) (ht483 p) (ht739 p)
noncomputable def ht741 (p : Params) : BT := BT.node (ho27 p) (ht596 p) (ht740 p)
noncomputable def ht742 (p : Params) : BT := BT.node (ho221 p) BT.nil BT.nil
noncomputable def ht743 (p : Params) : BT := BT.node (ho83 p) (ht389 p) (ht742 p)
noncomputable def ht744 (p : Params) : BT := BT.node (ho253 p) BT.nil BT.nil
noncomputable def ht745 (p : Params) : BT := BT.node (ho115 p) (ht486 p) (ht744 p)
noncomputable def ht746 (p : Params) : BT := BT.node (ho46 p) (ht743 p) (ht745 p)
noncomputable def ht747 (p : Params) : BT := BT.node (ho11 p) (ht741 p) (ht746 p)
noncomputable def ht748 (p : Params) : BT := BT.node (ho245 p) BT.nil BT.nil
noncomputable def ht749 (p : Params) : BT := BT.node (ho107 p) (ht490 p) (ht748 p)
noncomputable def ht750 (p : Params) : BT := BT.node (ho35 p) (ht600 p) (ht749 p)
noncomputable def ht751 (p : Params) : BT := BT.node (ho229 p) BT.nil BT.nil
noncomputable def ht752 (p : Params) : BT := BT.node (ho91 p) (ht396 p) (ht751 p)
noncomputable def ht753 (p : Params) : BT := BT.node (ho261 p) BT.nil BT.nil
noncomputable def ht754 (p : Params) : BT := BT.node (ho123 p) (ht602 p) (ht753 p)
noncomputable def ht755 (p : Params) : BT := BT.node (ho57 p) (ht752 p) (ht754 p)
noncomputable def ht756 (p : Params) : BT := BT.node (ho19 p) (ht750 p) (ht755 p)
noncomputable def ht757 (p : Params) : BT := BT.node (ho218 p) (ht747 p) (ht756 p)
noncomputable def ht758 (p : Params) : BT := BT.node (boot_o_4 p) (ht738 p) (ht757 p)
noncomputable def ht759 (p : Params) : BT := BT.node (ho267 p) BT.nil BT.nil
noncomputable def ht760 (p : Params) : BT := BT.node (ho129 p) (ht759 p) BT.nil
noncomputable def ht761 (p : Params) : BT := BT.node (ho63 p) (ht760 p) (ht608 p)
noncomputable def ht762 (p : Params) : BT := BT.node (ho235 p) BT.nil BT.nil
noncomputable def ht763 (p : Params) : BT := BT.node (ho97 p) (ht496 p) (ht762 p)
noncomputable def ht764 (p : Params) : BT := BT.node (ho25 p) (ht761 p) (ht763 p)
noncomputable def ht765 (p : Params) : BT := BT.node (ho219 p) BT.nil BT.nil
noncomputable def ht766 (p : Params) : BT := BT.node (ho81 p) (ht402 p) (ht765 p)
noncomputable def ht767 (p : Params) : BT := BT.node (ho251 p) BT.nil BT.nil
noncomputable def ht768 (p : Params) : BT := BT.node (ho113 p) (ht499 p) (ht767 p)
noncomputable def ht769 (p : Params) : BT := BT.node (ho44 p) (ht766 p) (ht768 p)
noncomputable def ht770 (p : Params) : BT := BT.node (ho9 p) (ht764 p) (ht769 p)
noncomputable def ht771 (p : Params) : BT := BT.node (ho243 p) BT.nil BT.nil
noncomputable def ht772 (p : Params) : BT := BT.node (ho105 p) (ht503 p) (ht771 p)
noncomputable def ht773 (p : Params) : BT := BT.node (ho33 p) (ht613 p) (ht772 p)
noncomputable def ht774 (p : Params) : BT := BT.node (ho227 p) BT.nil BT.nil
noncomputable def ht775 (p : Params) : BT := BT.node (ho89 p) (ht406 p) (ht774 p)
noncomputable def ht776 (p : Params) : BT := BT.node (ho259 p) BT.nil BT.nil
noncomputable def ht777 (p : Params) : BT := BT.node (ho121 p) (ht615 p) (ht776 p)
noncomputable def ht778 (p : Params) : BT := BT.node (ho52 p) (ht775 p) (ht777 p)
noncomputable def ht779 (p : Params) : BT := BT.node (ho17 p) (ht773 p) (ht778 p)
noncomputable def ht780 (p : Params) : BT := BT.node (boot_o_10 p) (ht770 p) (ht779 p)
noncomputable def ht781 (p : Params) : BT := BT.node (ho239 p) BT.nil BT.nil
noncomputable def ht782 (p : Params) : BT := BT.node (ho101 p) (ht508 p) (ht781 p)
noncomputable def ht783 (p : Params) : BT := BT.node (ho29 p) (ht621 p) (ht782 p)
noncomputable def ht784 (p : Params) : BT := BT.node (ho223 p) BT.nil BT.nil
noncomputable def ht785 (p : Params) : BT := BT.node (ho85 p) (ht411 p) (ht784 p)
noncomputable def ht786 (p : Params) : BT := BT.node (ho255 p) BT.nil BT.nil
noncomputable def ht787 (p : Params) : BT := BT.node (ho117 p) (ht623 p) (ht786 p)
noncomputable def ht788 (p : Params) : BT := BT.node (ho48 p) (ht785 p) (ht787 p)
noncomputable def ht789 (p : Params) : BT := BT.node (ho13 p) (ht783 p) (ht788 p)
noncomputable def ht790 (p : Params) : BT := BT.node (ho247 p) BT.nil BT.nil
noncomputable def ht791 (p : Params) : BT := BT.node (ho109 p) (ht512 p) (ht790 p)
noncomputable def ht792 (p : Params) : BT := BT.node (ho40 p) (ht628 p) (ht791 p)
noncomputable def ht793 (p : Params) : BT := BT.node (ho231 p) BT.nil BT.nil
noncomputable def ht794 (p : Params) : BT := BT.node (ho93 p) (ht418 p) (ht793 p)
noncomputable def ht795 (p : Params) : BT := BT.node (ho263 p) BT.nil BT.nil
noncomputable def ht796 (p : Params) : BT := BT.node (ho125 p) (ht630 p) (ht795 p)
noncomputable def ht797 (p : Params) : BT := BT.node (ho59 p) (ht794 p) (ht796 p)
noncomputable def ht798 (p : Params) : BT := BT.node (ho21 p) (ht792 p) (ht797 p)
noncomputable def ht799 (p : Params) : BT := BT.node (ho3 p) (ht789 p) (ht798 p)
noncomputable def ht800 (p : Params) : BT := BT.node (boot_o_6 p) (ht780 p) (ht799 p)
noncomputable def ht801 (p : Params) : BT := BT.node (ho37 p) (ht758 p) (ht800 p)
noncomputable def ht802 (p : Params) : BT := BT.node (boot_o_0 p) (ht718 p) (ht801 p)
noncomputable def hS9 (w : World) (os : OsState) : SharedT := SharedT.mk ((fun (p : Params) => (ht802 p)) w.params) 259 (@Life.mk [] [] [] 0 [] [] @Bool.false (hArr []) [] 0 @Bool.false @Bool.false @Bool.false (@OfNat.ofNat.{0} @Int (nat_lit 0) (@instOfNat (nat_lit 0))) [(@OfNat.ofNat.{0} @Int (nat_lit 2000) (@instOfNat (nat_lit 2000))), (@OfNat.ofNat.{0} @Int (nat_lit 10) (@instOfNat (nat_lit 10))), (@OfNat.ofNat.{0} @Int (nat_lit 10) (@instOfNat (nat_lit 10)))] @Bool.false 0 @Bool.true [] [] 0 @Bool.false) (hArr []) (@Drawn.mk 0 0 0 0) 530 os
noncomputable def hq9 : Pos := (@Pos.mk 199 0 199 8)
noncomputable def hs9 : List Stmt := [stm 33, stm 34, stm 35, stm 36, stm 37, stm 38, stm 39, stm 40]
noncomputable def ho268 (p : Params) : Obj := (@Obj.mk (@Value.type "dict") none (@Data.dict (hArr [(@DictEntry.mk (@PyData.keyHash p (hStr "__name__")) (@Value.str (hStr "__name__") 165) (@Value.str (hStr "law_ov0061_01") 528)), (@DictEntry.mk (@PyData.keyHash p (hStr "__doc__")) (@Value.str (hStr "__doc__") 166) @Value.none), (@DictEntry.mk (@PyData.keyHash p (hStr "__package__")) (@Value.str (hStr "__package__") 167) @Value.none), (@DictEntry.mk (@PyData.keyHash p (hStr "__loader__")) (@Value.str (hStr "__loader__") 168) (@Value.builtin "__main__.__loader__#opaque")), (@DictEntry.mk (@PyData.keyHash p (hStr "__spec__")) (@Value.str (hStr "__spec__") 169) @Value.none), (@DictEntry.mk (@PyData.keyHash p (hStr "__annotations__")) (@Value.str (hStr "__annotations__") 170) (@Value.ref 6)), (@DictEntry.mk (@PyData.keyHash p (hStr "__builtins__")) (@Value.str (hStr "__builtins__") 171) (@Value.ref 4)), (@DictEntry.mk (@PyData.keyHash p (hStr "__file__")) (@Value.str (hStr "__file__") 173) (@Value.str (hStr "/claim/cut.py") 172)), (@DictEntry.mk (@PyData.keyHash p (hStr "__cached__")) (@Value.str (hStr "__cached__") 174) @Value.none), (@DictEntry.mk (@PyData.keyHash p (hStr "_wall")) (@Value.str (hStr "_wall") 193) (@Value.ref 21)), (@DictEntry.mk (@PyData.keyHash p (hStr "get_attr")) (@Value.str (hStr "get_attr") 203) (@Value.ref 28)), (@DictEntry.mk (@PyData.keyHash p (hStr "names_of")) (@Value.str (hStr "names_of") 209) (@Value.ref 33)), (@DictEntry.mk (@PyData.keyHash p (hStr "dim_of")) (@Value.str (hStr "dim_of") 217) (@Value.ref 40)), (@DictEntry.mk (@PyData.keyHash p (hStr "dimnames_of")) (@Value.str (hStr "dimnames_of") 223) (@Value.ref 45)), (@DictEntry.mk (@PyData.keyHash p (hStr "CoveError")) (@Value.str (hStr "CoveError") 245) (@Value.ref 55)), (@DictEntry.mk (@PyData.keyHash p (hStr "Refusal")) (@Value.str (hStr "Refusal") 270) (@Value.ref 75)), (@DictEntry.mk (@PyData.keyHash p (hStr "is_finite")) (@Value.str (hStr "is_finite") 279) (@Value.ref 84)), (@DictEntry.mk (@PyData.keyHash p (hStr "to_whole")) (@Value.str (hStr "to_whole") 287) (@Value.ref 91)), (@DictEntry.mk (@PyData.keyHash p (hStr "whole_subscripts")) (@Value.str (hStr "whole_subscripts") 298) (@Value.ref 98)), (@DictEntry.mk (@PyData.keyHash p (hStr "logical_places")) (@Value.str (hStr "logical_places") 310) (@Value.ref 105)), (@DictEntry.mk (@PyData.keyHash p (hStr "whole_places")) (@Value.str (hStr "whole_places") 316) (@Value.ref 110)), (@DictEntry.mk (@PyData.keyHash p (hStr "first_places")) (@Value.str (hStr "first_places") 326) (@Value.ref 117)), (@DictEntry.mk (@PyData.keyHash p (hStr "name_places")) (@Value.str (hStr "name_places") 337) (@Value.ref 124)), (@DictEntry.mk (@PyData.keyHash p (hStr "extending_places")) (@Value.str (hStr "extending_places") 351) (@Value.ref 131)), (@DictEntry.mk (@PyData.keyHash p (hStr "positions")) (@Value.str (hStr "positions") 362) (@Value.ref 138)), (@DictEntry.mk (@PyData.keyHash p (hStr "Null")) (@Value.str (hStr "Null") 393) (@Value.ref 155)), (@DictEntry.mk (@PyData.keyHash p (hStr "Missing")) (@Value.str (hStr "Missing") 422) (@Value.ref 176)), (@DictEntry.mk (@PyData.keyHash p (hStr "Vector")) (@Value.str (hStr "Vector") 464) (@Value.ref 205)), (@DictEntry.mk (@PyData.keyHash p (hStr "character")) (@Value.str (hStr "character") 471) (@Value.ref 216)), (@DictEntry.mk (@PyData.keyHash p (hStr "named")) (@Value.str (hStr "named") 479) (@Value.ref 223)), (@DictEntry.mk (@PyData.keyHash p (hStr "lacking_item")) (@Value.str (hStr "lacking_item") 488) (@Value.ref 230)), (@DictEntry.mk (@PyData.keyHash p (hStr "result_kind")) (@Value.str (hStr "result_kind") 495) (@Value.ref 237)), (@DictEntry.mk (@PyData.keyHash p (hStr "items_at")) (@Value.str (hStr "items_at") 506) (@Value.ref 244)), (@DictEntry.mk (@PyData.keyHash p (hStr "names_at")) (@Value.str (hStr "names_at") 516) (@Value.ref 251)), (@DictEntry.mk (@PyData.keyHash p (hStr "subset_vector")) (@Value.str (hStr "subset_vector") 527) (@Value.ref 258)), (@DictEntry.mk (@PyData.keyHash p (hStr "_law_feed")) (@Value.str (hStr "_law_feed") 540) (@Value.ref 265)), (@DictEntry.mk (@PyData.keyHash p (hStr "_law_draw")) (@Value.str (hStr "_law_draw") 548) (@Value.ref 272)), (@DictEntry.mk (@PyData.keyHash p (hStr "_law_subject")) (@Value.str (hStr "_law_subject") 554) (@Value.ref 277)), (@DictEntry.mk (@PyData.keyHash p (hStr "_law_index")) (@Value.str (hStr "_law_index") 567) (@Value.ref 284)), (@DictEntry.mk (@PyData.keyHash p (hStr "_law_spots")) (@Value.str (hStr "_law_spots") 573) (@Value.ref 289)), (@DictEntry.mk (@PyData.keyHash p (hStr "_law_seen")) (@Value.str (hStr "_law_seen") 579) (@Value.ref 294)), (@DictEntry.mk (@PyData.keyHash p (hStr "_law_parted")) (@Value.str (hStr "_law_parted") 585) (@Value.ref 299)), (@DictEntry.mk (@PyData.keyHash p (hStr "law")) (@Value.str (hStr "law") 591) (@Value.ref 304))]) 43) (hArr []))
noncomputable def ho269 (p : Params) : Obj := (@Obj.mk @Value.none none (@Data.fields (hArr [(@Value.int (@OfNat.ofNat.{0} @Int (nat_lit 1) (@instOfNat (nat_lit 1))) 0), (@Value.int (@OfNat.ofNat.{0} @Int (nat_lit 0) (@instOfNat (nat_lit 0))) 0), (@Value.ref 20), (@Value.int (@OfNat.ofNat.{0} @Int (nat_lit 5) (@instOfNat (nat_lit 5))) 0), (@Value.int (@OfNat.ofNat.{0} @Int (nat_lit 0) (@instOfNat (nat_lit 0))) 0), (@Value.ref 27), (@Value.int (@OfNat.ofNat.{0} @Int (nat_lit 9) (@instOfNat (nat_lit 9))) 0), (@Value.int (@OfNat.ofNat.{0} @Int (nat_lit 0) (@instOfNat (nat_lit 0))) 0), (@Value.ref 32), (@Value.int (@OfNat.ofNat.{0} @Int (nat_lit 25) (@instOfNat (nat_lit 25))) 0), (@Value.int (@OfNat.ofNat.{0} @Int (nat_lit 0) (@instOfNat (nat_lit 0))) 0), (@Value.ref 39), (@Value.int (@OfNat.ofNat.{0} @Int (nat_lit 30) (@instOfNat (nat_lit 30))) 0), (@Value.int (@OfNat.ofNat.{0} @Int (nat_lit 0) (@instOfNat (nat_lit 0))) 0), (@Value.ref 44), (@Value.int (@OfNat.ofNat.{0} @Int (nat_lit 36) (@instOfNat (nat_lit 36))) 0), (@Value.int (@OfNat.ofNat.{0} @Int (nat_lit 0) (@instOfNat (nat_lit 0))) 0), (@Value.ref 51), (@Value.int (@OfNat.ofNat.{0} @Int (nat_lit 38) (@instOfNat (nat_lit 38))) 0), (@Value.int (@OfNat.ofNat.{0} @Int (nat_lit 0) (@instOfNat (nat_lit 0))) 0), (@Value.ref 64), (@Value.int (@OfNat.ofNat.{0} @Int (nat_lit 43) (@instOfNat (nat_lit 43))) 0), (@Value.int (@OfNat.ofNat.{0} @Int (nat_lit 0) (@instOfNat (nat_lit 0))) 0), (@Value.ref 83), (@Value.int (@OfNat.ofNat.{0} @Int (nat_lit 45) (@instOfNat (nat_lit 45))) 0), (@Value.int (@OfNat.ofNat.{0} @Int (nat_lit 0) (@instOfNat (nat_lit 0))) 0), (@Value.ref 90), (@Value.int (@OfNat.ofNat.{0} @Int (nat_lit 51) (@instOfNat (nat_lit 51))) 0), (@Value.int (@OfNat.ofNat.{0} @Int (nat_lit 0) (@instOfNat (nat_lit 0))) 0), (@Value.ref 97), (@Value.int (@OfNat.ofNat.{0} @Int (nat_lit 61) (@instOfNat (nat_lit 61))) 0), (@Value.int (@OfNat.ofNat.{0} @Int (nat_lit 0) (@instOfNat (nat_lit 0))) 0), (@Value.ref 104), (@Value.int (@OfNat.ofNat.{0} @Int (nat_lit 73) (@instOfNat (nat_lit 73))) 0), (@Value.int (@OfNat.ofNat.{0} @Int (nat_lit 0) (@instOfNat (nat_lit 0))) 0), (@Value.ref 109), (@Value.int (@OfNat.ofNat.{0} @Int (nat_lit 92) (@instOfNat (nat_lit 92))) 0), (@Value.int (@OfNat.ofNat.{0} @Int (nat_lit 0) (@instOfNat (nat_lit 0))) 0), (@Value.ref 116), (@Value.int (@OfNat.ofNat.{0} @Int (nat_lit 100) (@instOfNat (nat_lit 100))) 0), (@Value.int (@OfNat.ofNat.{0} @Int (nat_lit 0) (@instOfNat (nat_lit 0))) 0), (@Value.ref 123), (@Value.int (@OfNat.ofNat.{0} @Int (nat_lit 109) (@instOfNat (nat_lit 109))) 0), (@Value.int (@OfNat.ofNat.{0} @Int (nat_lit 0) (@instOfNat (nat_lit 0))) 0), (@Value.ref 130), (@Value.int (@OfNat.ofNat.{0} @Int (nat_lit 123) (@instOfNat (nat_lit 123))) 0), (@Value.int (@OfNat.ofNat.{0} @Int (nat_lit 0) (@instOfNat (nat_lit 0))) 0), (@Value.ref 137), (@Value.int (@OfNat.ofNat.{0} @Int (nat_lit 139) (@instOfNat (nat_lit 139))) 0), (@Value.int (@OfNat.ofNat.{0} @Int (nat_lit 0) (@instOfNat (nat_lit 0))) 0), (@Value.ref 144), (@Value.int (@OfNat.ofNat.{0} @Int (nat_lit 144) (@instOfNat (nat_lit 144))) 0), (@Value.int (@OfNat.ofNat.{0} @Int (nat_lit 0) (@instOfNat (nat_lit 0))) 0), (@Value.ref 165), (@Value.int (@OfNat.ofNat.{0} @Int (nat_lit 149) (@instOfNat (nat_lit 149))) 0), (@Value.int (@OfNat.ofNat.{0} @Int (nat_lit 0) (@instOfNat (nat_lit 0))) 0), (@Value.ref 186), (@Value.int (@OfNat.ofNat.{0} @Int (nat_lit 160) (@instOfNat (nat_lit 160))) 0), (@Value.int (@OfNat.ofNat.{0} @Int (nat_lit 0) (@instOfNat (nat_lit 0))) 0), (@Value.ref 215), (@Value.int (@OfNat.ofNat.{0} @Int (nat_lit 162) (@instOfNat (nat_lit 162))) 0), (@Value.int (@OfNat.ofNat.{0} @Int (nat_lit 0) (@instOfNat (nat_lit 0))) 0), (@Value.ref 222), (@Value.int (@OfNat.ofNat.{0} @Int (nat_lit 167) (@instOfNat (nat_lit 167))) 0), (@Value.int (@OfNat.ofNat.{0} @Int (nat_lit 0) (@instOfNat (nat_lit 0))) 0), (@Value.ref 229), (@Value.int (@OfNat.ofNat.{0} @Int (nat_lit 171) (@instOfNat (nat_lit 171))) 0), (@Value.int (@OfNat.ofNat.{0} @Int (nat_lit 0) (@instOfNat (nat_lit 0))) 0), (@Value.ref 236), (@Value.int (@OfNat.ofNat.{0} @Int (nat_lit 175) (@instOfNat (nat_lit 175))) 0), (@Value.int (@OfNat.ofNat.{0} @Int (nat_lit 0) (@instOfNat (nat_lit 0))) 0), (@Value.ref 243), (@Value.int (@OfNat.ofNat.{0} @Int (nat_lit 184) (@instOfNat (nat_lit 184))) 0), (@Value.int (@OfNat.ofNat.{0} @Int (nat_lit 0) (@instOfNat (nat_lit 0))) 0), (@Value.ref 250), (@Value.int (@OfNat.ofNat.{0} @Int (nat_lit 192) (@instOfNat (nat_lit 192))) 0), (@Value.int (@OfNat.ofNat.{0} @Int (nat_lit 0) (@instOfNat (nat_lit 0))) 0), (@Value.ref 257), (@Value.int (@OfNat.ofNat.{0} @Int (nat_lit 200) (@instOfNat (nat_lit 200))) 0), (@Value.int (@OfNat.ofNat.{0} @Int (nat_lit 0) (@instOfNat (nat_lit 0))) 0), (@Value.ref 264), (@Value.int (@OfNat.ofNat.{0} @Int (nat_lit 210) (@instOfNat (nat_lit 210))) 0), (@Value.int (@OfNat.ofNat.{0} @Int (nat_lit 0) (@instOfNat (nat_lit 0))) 0), (@Value.ref 271), (@Value.int (@OfNat.ofNat.{0} @Int (nat_lit 215) (@instOfNat (nat_lit 215))) 0), (@Value.int (@OfNat.ofNat.{0} @Int (nat_lit 0) (@instOfNat (nat_lit 0))) 0), (@Value.ref 276), (@Value.int (@OfNat.ofNat.{0} @Int (nat_lit 224) (@instOfNat (nat_lit 224))) 0), (@Value.int (@OfNat.ofNat.{0} @Int (nat_lit 0) (@instOfNat (nat_lit 0))) 0), (@Value.ref 283), (@Value.int (@OfNat.ofNat.{0} @Int (nat_lit 237) (@instOfNat (nat_lit 237))) 0), (@Value.int (@OfNat.ofNat.{0} @Int (nat_lit 0) (@instOfNat (nat_lit 0))) 0), (@Value.ref 288), (@Value.int (@OfNat.ofNat.{0} @Int (nat_lit 251) (@instOfNat (nat_lit 251))) 0), (@Value.int (@OfNat.ofNat.{0} @Int (nat_lit 0) (@instOfNat (nat_lit 0))) 0), (@Value.ref 293), (@Value.int (@OfNat.ofNat.{0} @Int (nat_lit 256) (@instOfNat (nat_lit 256))) 0), (@Value.int (@OfNat.ofNat.{0} @Int (nat_lit 0) (@instOfNat (nat_lit 0))) 0), (@Value.ref 298), (@Value.int (@OfNat.ofNat.{0} @Int (nat_lit 268) (@instOfNat (nat_lit 268))) 0), (@Value.int (@OfNat.ofNat.{0} @Int (nat_lit 0) (@instOfNat (nat_lit 0))) 0), (@Value.ref 303)])) (hArr []))
noncomputable def ho270 (p : Params) : Obj := (@Obj.mk (@Value.type "tuple") none (@Data.seq (hArr []) 0) (hArr []))
noncomputable def ho271 (p : Params) : Obj := (@Obj.mk @Value.none none (@Data.fields (hArr [])) (hArr []))
noncomputable def ho272 (p : Params) : Obj := (@Obj.mk (@Value.type "tuple") none (@Data.seq (hArr [(@Value.str (hStr "script") 533), (@Value.str (hStr "feed") 534), (@Value.str (hStr "cell") 535), (@Value.str (hStr "rest") 536), (@Value.str (hStr "turn_of") 537)]) 0) (hArr []))
noncomputable def ho273 (p : Params) : Obj := (@Obj.mk (@Value.type "tuple") none (@Data.seq (hArr []) 0) (hArr []))
noncomputable def ho274 (p : Params) : Obj := (@Obj.mk @Value.none none (@Data.func (@FuncData.mk (hStr "_law_feed") (hStr "_law_feed") (fnA 33) (@FuncBody.stmts (fnB 33)) (fnS 33) 0 [] @Value.none @Value.none @Value.none @Value.none none @Value.none @Value.none 0)) (hArr []))
noncomputable def ho275 (p : Params) : Obj := (@Obj.mk (@Value.type "code") none (@Data.fields (hArr [(@Value.str (hStr "_law_feed") 530), (@Value.str (hStr "_law_feed") 531), (@Value.str (hStr "/claim/cut.py") 532), (@Value.int (@OfNat.ofNat.{0} @Int (nat_lit 200) (@instOfNat (nat_lit 200))) 0), (@Value.int (@OfNat.ofNat.{0} @Int (nat_lit 1) (@instOfNat (nat_lit 1))) 0), (@Value.int (@OfNat.ofNat.{0} @Int (nat_lit 0) (@instOfNat (nat_lit 0))) 0), (@Value.int (@OfNat.ofNat.{0} @Int (nat_lit 0) (@instOfNat (nat_lit 0))) 0), (@Value.int (@OfNat.ofNat.{0} @Int (nat_lit 3) (@instOfNat (nat_lit 3))) 0), (@Value.ref 259), (@Value.bool @Bool.true), (@Value.int (@OfNat.ofNat.{0} @Int (nat_lit 181) (@instOfNat (nat_lit 181))) 0), (@Value.ref 260), @Value.none, (@Value.ref 261), (@Value.ref 262), (@Value.ref 263), (@Value.int (@OfNat.ofNat.{0} @Int (nat_lit 538) (@instOfNat (nat_lit 538))) 0), (@Value.int (@OfNat.ofNat.{0} @Int (nat_lit 200) (@instOfNat (nat_lit 200))) 0), (@Value.str (hStr "/claim/cut.py") 539)])) (hArr []))
noncomputable def ho276 (p : Params) : Obj := (@Obj.mk (@Value.type "function") none (@Data.func (@FuncData.mk (hStr "_law_feed") (hStr "_law_feed") (fnA 33) (@FuncBody.stmts (fnB 33)) (fnS 33) 3 [] @Value.none @Value.none @Value.none (@Value.str (hStr "law_ov0061_01") 528) none (@Value.ref 264) @Value.none 0)) (hArr []))
noncomputable def ho277 (p : Params) : Obj := (@Obj.mk (@Value.type "tuple") none (@Data.seq (hArr []) 0) (hArr []))
noncomputable def ho278 (p : Params) : Obj := (@Obj.mk @Value.none none (@Data.fields (hArr [])) (hArr []))
noncomputable def ho279 (p : Params) : Obj := (@Obj.mk (@Value.type "tuple") none (@Data.seq (hArr [(@Value.str (hStr "box") 544), (@Value.str (hStr "limit") 545)]) 0) (hArr []))
noncomputable def ho280 (p : Params) : Obj := (@Obj.mk (@Value.type "tuple") none (@Data.seq (hArr []) 0) (hArr []))
noncomputable def ho281 (p : Params) : Obj := (@Obj.mk @Value.none none (@Data.func (@FuncData.mk (hStr "_law_draw") (hStr "_law_draw") (fnA 34) (@FuncBody.stmts (fnB 34)) (fnS 34) 0 [] @Value.none @Value.none @Value.none @Value.none none @Value.none @Value.none 0)) (hArr []))
noncomputable def ho282 (p : Params) : Obj := (@Obj.mk (@Value.type "code") none (@Data.fields (hArr [(@Value.str (hStr "_law_draw") 541), (@Value.str (hStr "_law_draw") 542), (@Value.str (hStr "/claim/cut.py") 543), (@Value.int (@OfNat.ofNat.{0} @Int (nat_lit 210) (@instOfNat (nat_lit 210))) 0), (@Value.int (@OfNat.ofNat.{0} @Int (nat_lit 2) (@instOfNat (nat_lit 2))) 0), (@Value.int (@OfNat.ofNat.{0} @Int (nat_lit 0) (@instOfNat (nat_lit 0))) 0), (@Value.int (@OfNat.ofNat.{0} @Int (nat_lit 0) (@instOfNat (nat_lit 0))) 0), (@Value.int (@OfNat.ofNat.{0} @Int (nat_lit 3) (@instOfNat (nat_lit 3))) 0), (@Value.ref 266), (@Value.bool @Bool.true), (@Value.int (@OfNat.ofNat.{0} @Int (nat_lit 181) (@instOfNat (nat_lit 181))) 0), (@Value.ref 267), @Value.none, (@Value.ref 268), (@Value.ref 269), (@Value.ref 270), (@Value.int (@OfNat.ofNat.{0} @Int (nat_lit 546) (@instOfNat (nat_lit 546))) 0), (@Value.int (@OfNat.ofNat.{0} @Int (nat_lit 210) (@instOfNat (nat_lit 210))) 0), (@Value.str (hStr "/claim/cut.py") 547)])) (hArr []))
noncomputable def ho283 (p : Params) : Obj := (@Obj.mk (@Value.type "function") none (@Data.func (@FuncData.mk (hStr "_law_draw") (hStr "_law_draw") (fnA 34) (@FuncBody.stmts (fnB 34)) (fnS 34) 3 [] @Value.none @Value.none @Value.none (@Value.str (hStr "law_ov0061_01") 528) none (@Value.ref 271) @Value.none 0)) (hArr []))
noncomputable def ho284 (p : Params) : Obj := (@Obj.mk (@Value.type "tuple") none (@Data.seq (hArr []) 0) (hArr []))
noncomputable def ho285 (p : Params) : Obj := (@Obj.mk @Value.none none (@Data.fields (hArr [])) (hArr []))
noncomputable def ho286 (p : Params) : Obj := (@Obj.mk @Value.none none (@Data.func (@FuncData.mk (hStr "_law_subject") (hStr "_law_subject") (fnA 35) (@FuncBody.stmts (fnB 35)) (fnS 35) 0 [] @Value.none @Value.none @Value.none @Value.none none @Value.none @Value.none 0)) (hArr []))
noncomputable def ho287 (p : Params) : Obj := (@Obj.mk (@Value.type "code") none (@Data.fields (hArr [(@Value.str (hStr "_law_subject") 549), (@Value.str (hStr "_law_subject") 550), (@Value.str (hStr "/claim/cut.py") 551), (@Value.int (@OfNat.ofNat.{0} @Int (nat_lit 215) (@instOfNat (nat_lit 215))) 0), (@Value.int (@OfNat.ofNat.{0} @Int (nat_lit 1) (@instOfNat (nat_lit 1))) 0), (@Value.int (@OfNat.ofNat.{0} @Int (nat_lit 0) (@instOfNat (nat_lit 0))) 0), (@Value.int (@OfNat.ofNat.{0} @Int (nat_lit 0) (@instOfNat (nat_lit 0))) 0), (@Value.int (@OfNat.ofNat.{0} @Int (nat_lit 3) (@instOfNat (nat_lit 3))) 0), (@Value.ref 273), (@Value.bool @Bool.true), (@Value.int (@OfNat.ofNat.{0} @Int (nat_lit 181) (@instOfNat (nat_lit 181))) 0), (@Value.ref 274), @Value.none, @Value.none, @Value.none, (@Value.ref 275), (@Value.int (@OfNat.ofNat.{0} @Int (nat_lit 552) (@instOfNat (nat_lit 552))) 0), (@Value.int (@OfNat.ofNat.{0} @Int (nat_lit 215) (@instOfNat (nat_lit 215))) 0), (@Value.str (hStr "/claim/cut.py") 553)])) (hArr []))
noncomputable def ho288 (p : Params) : Obj := (@Obj.mk (@Value.type "function") none (@Data.func (@FuncData.mk (hStr "_law_subject") (hStr "_law_subject") (fnA 35) (@FuncBody.stmts (fnB 35)) (fnS 35) 3 [] @Value.none @Value.none @Value.none (@Value.str (hStr "law_ov0061_01") 528) none (@Value.ref 276) @Value.none 0)) (hArr []))
noncomputable def ho289 (p : Params) : Obj := (@Obj.mk (@Value.type "tuple") none (@Data.seq (hArr []) 0) (hArr []))
noncomputable def ho290 (p : Params) : Obj := (@Obj.mk @Value.none none (@Data.fields (hArr [])) (hArr []))
noncomputable def ho291 (p : Params) : Obj := (@Obj.mk (@Value.type "tuple") none (@Data.seq (hArr [(@Value.str (hStr "box") 558), (@Value.str (hStr "high") 559), (@Value.str (hStr "form") 560), (@Value.str (hStr "many") 561), (@Value.str (hStr "found") 562), (@Value.str (hStr "spot") 563), (@Value.str (hStr "chosen_one") 564)]) 0) (hArr []))
noncomputable def ho292 (p : Params) : Obj := (@Obj.mk (@Value.type "tuple") none (@Data.seq (hArr []) 0) (hArr []))
noncomputable def ho293 (p : Params) : Obj := (@Obj.mk @Value.none none (@Data.func (@FuncData.mk (hStr "_law_index") (hStr "_law_index") (fnA 36) (@FuncBody.stmts (fnB 36)) (fnS 36) 0 [] @Value.none @Value.none @Value.none @Value.none none @Value.none @Value.none 0)) (hArr []))
noncomputable def ho294 (p : Params) : Obj := (@Obj.mk (@Value.type "code") none (@Data.fields (hArr [(@Value.str (hStr "_law_index") 555), (@Value.str (hStr "_law_index") 556), (@Value.str (hStr "/claim/cut.py") 557), (@Value.int (@OfNat.ofNat.{0} @Int (nat_lit 224) (@instOfNat (nat_lit 224))) 0), (@Value.int (@OfNat.ofNat.{0} @Int (nat_lit 2) (@instOfNat (nat_lit 2))) 0), (@Value.int (@OfNat.ofNat.{0} @Int (nat_lit 0) (@instOfNat (nat_lit 0))) 0), (@Value.int (@OfNat.ofNat.{0} @Int (nat_lit 0) (@instOfNat (nat_lit 0))) 0), (@Value.int (@OfNat.ofNat.{0} @Int (nat_lit 3) (@instOfNat (nat_lit 3))) 0), (@Value.ref 278), (@Value.bool @Bool.true), (@Value.int (@OfNat.ofNat.{0} @Int (nat_lit 181) (@instOfNat (nat_lit 181))) 0), (@Value.ref 279), @Value.none, (@Value.ref 280), (@Value.ref 281), (@Value.ref 282), (@Value.int (@OfNat.ofNat.{0} @Int (nat_lit 565) (@instOfNat (nat_lit 565))) 0), (@Value.int (@OfNat.ofNat.{0} @Int (nat_lit 224) (@instOfNat (nat_lit 224))) 0), (@Value.str (hStr "/claim/cut.py") 566)])) (hArr []))
noncomputable def ho295 (p : Params) : Obj := (@Obj.mk (@Value.type "function") none (@Data.func (@FuncData.mk (hStr "_law_index") (hStr "_law_index") (fnA 36) (@FuncBody.stmts (fnB 36)) (fnS 36) 3 [] @Value.none @Value.none @Value.none (@Value.str (hStr "law_ov0061_01") 528) none (@Value.ref 283) @Value.none 0)) (hArr []))
noncomputable def ho296 (p : Params) : Obj := (@Obj.mk (@Value.type "tuple") none (@Data.seq (hArr []) 0) (hArr []))
noncomputable def ho297 (p : Params) : Obj := (@Obj.mk @Value.none none (@Data.fields (hArr [])) (hArr []))
noncomputable def ho298 (p : Params) : Obj := (@Obj.mk @Value.none none (@Data.func (@FuncData.mk (hStr "_law_spots") (hStr "_law_spots") (fnA 37) (@FuncBody.stmts (fnB 37)) (fnS 37) 0 [] @Value.none @Value.none @Value.none @Value.none none @Value.none @Value.none 0)) (hArr []))
noncomputable def ho299 (p : Params) : Obj := (@Obj.mk (@Value.type "code") none (@Data.fields (hArr [(@Value.str (hStr "_law_spots") 568), (@Value.str (hStr "_law_spots") 569), (@Value.str (hStr "/claim/cut.py") 570), (@Value.int (@OfNat.ofNat.{0} @Int (nat_lit 237) (@instOfNat (nat_lit 237))) 0), (@Value.int (@OfNat.ofNat.{0} @Int (nat_lit 2) (@instOfNat (nat_lit 2))) 0), (@Value.int (@OfNat.ofNat.{0} @Int (nat_lit 0) (@instOfNat (nat_lit 0))) 0), (@Value.int (@OfNat.ofNat.{0} @Int (nat_lit 0) (@instOfNat (nat_lit 0))) 0), (@Value.int (@OfNat.ofNat.{0} @Int (nat_lit 3) (@instOfNat (nat_lit 3))) 0), (@Value.ref 285), (@Value.bool @Bool.true), (@Value.int (@OfNat.ofNat.{0} @Int (nat_lit 181) (@instOfNat (nat_lit 181))) 0), (@Value.ref 286), @Value.none, @Value.none, @Value.none, (@Value.ref 287), (@Value.int (@OfNat.ofNat.{0} @Int (nat_lit 571) (@instOfNat (nat_lit 571))) 0), (@Value.int (@OfNat.ofNat.{0} @Int (nat_lit 237) (@instOfNat (nat_lit 237))) 0), (@Value.str (hStr "/claim/cut.py") 572)])) (hArr []))
noncomputable def ho300 (p : Params) : Obj := (@Obj.mk (@Value.type "function") none (@Data.func (@FuncData.mk (hStr "_law_spots") (hStr "_law_spots") (fnA 37) (@FuncBody.stmts (fnB 37)) (fnS 37) 3 [] @Value.none @Value.none @Value.none (@Value.str (hStr "law_ov0061_01") 528) none (@Value.ref 288) @Value.none 0)) (hArr []))
noncomputable def ho301 (p : Params) : Obj := (@Obj.mk (@Value.type "tuple") none (@Data.seq (hArr []) 0) (hArr []))
noncomputable def ho302 (p : Params) : Obj := (@Obj.mk @Value.none none (@Data.fields (hArr [])) (hArr []))
noncomputable def ho303 (p : Params) : Obj := (@Obj.mk @Value.none none (@Data.func (@FuncData.mk (hStr "_law_seen") (hStr "_law_seen") (fnA 38) (@FuncBody.stmts (fnB 38)) (fnS 38) 0 [] @Value.none @Value.none @Value.none @Value.none none @Value.none @Value.none 0)) (hArr []))
noncomputable def ho304 (p : Params) : Obj := (@Obj.mk (@Value.type "code") none (@Data.fields (hArr [(@Value.str (hStr "_law_seen") 574), (@Value.str (hStr "_law_seen") 575), (@Value.str (hStr "/claim/cut.py") 576), (@Value.int (@OfNat.ofNat.{0} @Int (nat_lit 251) (@instOfNat (nat_lit 251))) 0), (@Value.int (@OfNat.ofNat.{0} @Int (nat_lit 1) (@instOfNat (nat_lit 1))) 0), (@Value.int (@OfNat.ofNat.{0} @Int (nat_lit 0) (@instOfNat (nat_lit 0))) 0), (@Value.int (@OfNat.ofNat.{0} @Int (nat_lit 0) (@instOfNat (nat_lit 0))) 0), (@Value.int (@OfNat.ofNat.{0} @Int (nat_lit 3) (@instOfNat (nat_lit 3))) 0), (@Value.ref 290), (@Value.bool @Bool.true), (@Value.int (@OfNat.ofNat.{0} @Int (nat_lit 181) (@instOfNat (nat_lit 181))) 0), (@Value.ref 291), @Value.none, @Value.none, @Value.none, (@Value.ref 292), (@Value.int (@OfNat.ofNat.{0} @Int (nat_lit 577) (@instOfNat (nat_lit 577))) 0), (@Value.int (@OfNat.ofNat.{0} @Int (nat_lit 251) (@instOfNat (nat_lit 251))) 0), (@Value.str (hStr "/claim/cut.py") 578)])) (hArr []))
noncomputable def ho305 (p : Params) : Obj := (@Obj.mk (@Value.type "function") none (@Data.func (@FuncData.mk (hStr "_law_seen") (hStr "_law_seen") (fnA 38) (@FuncBody.stmts (fnB 38)) (fnS 38) 3 [] @Value.none @Value.none @Value.none (@Value.str (hStr "law_ov0061_01") 528) none (@Value.ref 293) @Value.none 0)) (hArr []))
noncomputable def ho306 (p : Params) : Obj := (@Obj.mk (@Value.type "tuple") none (@Data.seq (hArr []) 0) (hArr []))
noncomputable def ho307 (p : Params) : Obj := (@Obj.mk @Value.none none (@Data.fields (hArr [])) (hArr []))
noncomputable def ho308 (p : Params) : Obj := (@Obj.mk @Value.none none (@Data.func (@FuncData.mk (hStr "_law_parted") (hStr "_law_parted") (fnA 39) (@FuncBody.stmts (fnB 39)) (fnS 39) 0 [] @Value.none @Value.none @Value.none @Value.none none @Value.none @Value.none 0)) (hArr []))
noncomputable def ho309 (p : Params) : Obj := (@Obj.mk (@Value.type "code") none (@Data.fields (hArr [(@Value.str (hStr "_law_parted") 580), (@Value.str (hStr "_law_parted") 581), (@Value.str (hStr "/claim/cut.py") 582), (@Value.int (@OfNat.ofNat.{0} @Int (nat_lit 256) (@instOfNat (nat_lit 256))) 0), (@Value.int (@OfNat.ofNat.{0} @Int (nat_lit 3) (@instOfNat (nat_lit 3))) 0), (@Value.int (@OfNat.ofNat.{0} @Int (nat_lit 0) (@instOfNat (nat_lit 0))) 0), (@Value.int (@OfNat.ofNat.{0} @Int (nat_lit 0) (@instOfNat (nat_lit 0))) 0), (@Value.int (@OfNat.ofNat.{0} @Int (nat_lit 3) (@instOfNat (nat_lit 3))) 0), (@Value.ref 295), (@Value.bool @Bool.true), (@Value.int (@OfNat.ofNat.{0} @Int (nat_lit 181) (@instOfNat (nat_lit 181))) 0), (@Value.ref 296), @Value.none, @Value.none, @Value.none, (@Value.ref 297), (@Value.int (@OfNat.ofNat.{0} @Int (nat_lit 583) (@instOfNat (nat_lit 583))) 0), (@Value.int (@OfNat.ofNat.{0} @Int (nat_lit 256) (@instOfNat (nat_lit 256))) 0), (@Value.str (hStr "/claim/cut.py") 584)])) (hArr []))
noncomputable def ho310 (p : Params) : Obj := (@Obj.mk (@Value.type "function") none (@Data.func (@FuncData.mk (hStr "_law_parted") (hStr "_law_parted") (fnA 39) (@FuncBody.stmts (fnB 39)) (fnS 39) 3 [] @Value.none @Value.none @Value.none (@Value.str (hStr "law_ov0061_01") 528) none (@Value.ref 298) @Value.none 0)) (hArr []))
noncomputable def ho311 (p : Params) : Obj := (@Obj.mk (@Value.type "tuple") none (@Data.seq (hArr []) 0) (hArr []))
noncomputable def ho312 (p : Params) : Obj := (@Obj.mk @Value.none none (@Data.fields (hArr [])) (hArr []))
noncomputable def ho313 (p : Params) : Obj := (@Obj.mk @Value.none none (@Data.func (@FuncData.mk (hStr "law") (hStr "law") (fnA 40) (@FuncBody.stmts (fnB 40)) (fnS 40) 0 [] @Value.none @Value.none @Value.none @Value.none none @Value.none @Value.none 0)) (hArr []))
noncomputable def ho314 (p : Params) : Obj := (@Obj.mk (@Value.type "code") none (@Data.fields (hArr [(@Value.str (hStr "law") 586), (@Value.str (hStr "law") 587), (@Value.str (hStr "/claim/cut.py") 588), (@Value.int (@OfNat.ofNat.{0} @Int (nat_lit 268) (@instOfNat (nat_lit 268))) 0), (@Value.int (@OfNat.ofNat.{0} @Int (nat_lit 1) (@instOfNat (nat_lit 1))) 0), (@Value.int (@OfNat.ofNat.{0} @Int (nat_lit 0) (@instOfNat (nat_lit 0))) 0), (@Value.int (@OfNat.ofNat.{0} @Int (nat_lit 0) (@instOfNat (nat_lit 0))) 0), (@Value.int (@OfNat.ofNat.{0} @Int (nat_lit 3) (@instOfNat (nat_lit 3))) 0), (@Value.ref 300), (@Value.bool @Bool.true), (@Value.int (@OfNat.ofNat.{0} @Int (nat_lit 181) (@instOfNat (nat_lit 181))) 0), (@Value.ref 301), @Value.none, @Value.none, @Value.none, (@Value.ref 302), (@Value.int (@OfNat.ofNat.{0} @Int (nat_lit 589) (@instOfNat (nat_lit 589))) 0), (@Value.int (@OfNat.ofNat.{0} @Int (nat_lit 268) (@instOfNat (nat_lit 268))) 0), (@Value.str (hStr "/claim/cut.py") 590)])) (hArr []))
noncomputable def ho315 (p : Params) : Obj := (@Obj.mk (@Value.type "function") none (@Data.func (@FuncData.mk (hStr "law") (hStr "law") (fnA 40) (@FuncBody.stmts (fnB 40)) (fnS 40) 3 [] @Value.none @Value.none @Value.none (@Value.str (hStr "law_ov0061_01") 528) none (@Value.ref 303) @Value.none 0)) (hArr []))
noncomputable def ht803 (p : Params) : BT := BT.node (ho298 p) BT.nil BT.nil
noncomputable def ht804 (p : Params) : BT := BT.node (ho162 p) (ht803 p) BT.nil
noncomputable def ht805 (p : Params) : BT := BT.node (ho94 p) (ht804 p) (ht641 p)
noncomputable def ht806 (p : Params) : BT := BT.node (ho22 p) (ht640 p) (ht805 p)
noncomputable def ht807 (p : Params) : BT := BT.node (ho282 p) BT.nil BT.nil
noncomputable def ht808 (p : Params) : BT := BT.node (ho146 p) (ht807 p) BT.nil
noncomputable def ht809 (p : Params) : BT := BT.node (ho78 p) (ht808 p) (ht523 p)
noncomputable def ht810 (p : Params) : BT := BT.node (ho314 p) BT.nil BT.nil
noncomputable def ht811 (p : Params) : BT := BT.node (ho180 p) (ht810 p) BT.nil
noncomputable def ht812 (p : Params) : BT := BT.node (ho110 p) (ht811 p) (ht644 p)
noncomputable def ht813 (p : Params) : BT := BT.node (ho41 p) (ht809 p) (ht812 p)
noncomputable def ht814 (p : Params) : BT := BT.node (ho6 p) (ht806 p) (ht813 p)
noncomputable def ht815 (p : Params) : BT := BT.node (ho274 p) BT.nil BT.nil
noncomputable def ht816 (p : Params) : BT := BT.node (ho136 p) (ht815 p) BT.nil
noncomputable def ht817 (p : Params) : BT := BT.node (ho68 p) (ht816 p) (ht527 p)
noncomputable def ht818 (p : Params) : BT := BT.node (ho306 p) BT.nil BT.nil
noncomputable def ht819 (p : Params) : BT := BT.node (ho172 p) (ht818 p) BT.nil
noncomputable def ht820 (p : Params) : BT := BT.node (ho102 p) (ht819 p) (ht648 p)
noncomputable def ht821 (p : Params) : BT := BT.node (ho30 p) (ht817 p) (ht820 p)
noncomputable def ht822 (p : Params) : BT := BT.node (ho290 p) BT.nil BT.nil
noncomputable def ht823 (p : Params) : BT := BT.node (ho154 p) (ht822 p) BT.nil
noncomputable def ht824 (p : Params) : BT := BT.node (ho86 p) (ht823 p) (ht651 p)
noncomputable def ht825 (p : Params) : BT := BT.node (ho55 p) (ht824 p) (ht654 p)
noncomputable def ht826 (p : Params) : BT := BT.node (ho14 p) (ht821 p) (ht825 p)
noncomputable def ht827 (p : Params) : BT := BT.node (boot_o_7 p) (ht814 p) (ht826 p)
noncomputable def ht828 (p : Params) : BT := BT.node (ho270 p) BT.nil BT.nil
noncomputable def ht829 (p : Params) : BT := BT.node (ho130 p) (ht828 p) BT.nil
noncomputable def ht830 (p : Params) : BT := BT.node (ho64 p) (ht829 p) (ht535 p)
noncomputable def ht831 (p : Params) : BT := BT.node (ho302 p) BT.nil BT.nil
noncomputable def ht832 (p : Params) : BT := BT.node (ho168 p) (ht831 p) BT.nil
noncomputable def ht833 (p : Params) : BT := BT.node (ho98 p) (ht832 p) (ht658 p)
noncomputable def ht834 (p : Params) : BT := BT.node (ho26 p) (ht830 p) (ht833 p)
noncomputable def ht835 (p : Params) : BT := BT.node (ho286 p) BT.nil BT.nil
noncomputable def ht836 (p : Params) : BT := BT.node (ho150 p) (ht835 p) BT.nil
noncomputable def ht837 (p : Params) : BT := BT.node (ho82 p) (ht836 p) (ht661 p)
noncomputable def ht838 (p : Params) : BT := BT.node (ho45 p) (ht837 p) (ht664 p)
noncomputable def ht839 (p : Params) : BT := BT.node (ho10 p) (ht834 p) (ht838 p)
noncomputable def ht840 (p : Params) : BT := BT.node (ho278 p) BT.nil BT.nil
noncomputable def ht841 (p : Params) : BT := BT.node (ho142 p) (ht840 p) BT.nil
noncomputable def ht842 (p : Params) : BT := BT.node (ho72 p) (ht841 p) (ht539 p)
noncomputable def ht843 (p : Params) : BT := BT.node (ho310 p) BT.nil BT.nil
noncomputable def ht844 (p : Params) : BT := BT.node (ho176 p) (ht843 p) BT.nil
noncomputable def ht845 (p : Params) : BT := BT.node (ho106 p) (ht844 p) (ht667 p)
noncomputable def ht846 (p : Params) : BT := BT.node (ho34 p) (ht842 p) (ht845 p)
noncomputable def ht847 (p : Params) : BT := BT.node (ho294 p) BT.nil BT.nil
noncomputable def ht848 (p : Params) : BT := BT.node (ho158 p) (ht847 p) BT.nil
noncomputable def ht849 (p : Params) : BT := BT.node (ho90 p) (ht848 p) (ht670 p)
noncomputable def ht850 (p : Params) : BT := BT.node (ho56 p) (ht849 p) (ht673 p)
noncomputable def ht851 (p : Params) : BT := BT.node (ho18 p) (ht846 p) (ht850 p)
noncomputable def ht852 (p : Params) : BT := BT.node (ho0 p) (ht839 p) (ht851 p)
noncomputable def ht853 (p : Params) : BT := BT.node (ho268 p) (ht827 p) (ht852 p)
noncomputable def ht854 (p : Params) : BT := BT.node (ho300 p) BT.nil BT.nil
noncomputable def ht855 (p : Params) : BT := BT.node (ho166 p) (ht854 p) BT.nil
noncomputable def ht856 (p : Params) : BT := BT.node (ho96 p) (ht855 p) (ht681 p)
noncomputable def ht857 (p : Params) : BT := BT.node (ho24 p) (ht680 p) (ht856 p)
noncomputable def ht858 (p : Params) : BT := BT.node (ho284 p) BT.nil BT.nil
noncomputable def ht859 (p : Params) : BT := BT.node (ho148 p) (ht858 p) BT.nil
noncomputable def ht860 (p : Params) : BT := BT.node (ho80 p) (ht859 p) (ht551 p)
noncomputable def ht861 (p : Params) : BT := BT.node (ho43 p) (ht860 p) (ht685 p)
noncomputable def ht862 (p : Params) : BT := BT.node (ho8 p) (ht857 p) (ht861 p)
noncomputable def ht863 (p : Params) : BT := BT.node (ho276 p) BT.nil BT.nil
noncomputable def ht864 (p : Params) : BT := BT.node (ho138 p) (ht863 p) BT.nil
noncomputable def ht865 (p : Params) : BT := BT.node (ho70 p) (ht864 p) (ht555 p)
noncomputable def ht866 (p : Params) : BT := BT.node (ho308 p) BT.nil BT.nil
noncomputable def ht867 (p : Params) : BT := BT.node (ho174 p) (ht866 p) BT.nil
noncomputable def ht868 (p : Params) : BT := BT.node (ho104 p) (ht867 p) (ht688 p)
noncomputable def ht869 (p : Params) : BT := BT.node (ho32 p) (ht865 p) (ht868 p)
noncomputable def ht870 (p : Params) : BT := BT.node (ho292 p) BT.nil BT.nil
noncomputable def ht871 (p : Params) : BT := BT.node (ho156 p) (ht870 p) BT.nil
noncomputable def ht872 (p : Params) : BT := BT.node (ho88 p) (ht871 p) (ht691 p)
noncomputable def ht873 (p : Params) : BT := BT.node (ho51 p) (ht872 p) (ht694 p)
noncomputable def ht874 (p : Params) : BT := BT.node (ho16 p) (ht869 p) (ht873 p)
noncomputable def ht875 (p : Params) : BT := BT.node (boot_o_9 p) (ht862 p) (ht874 p)
noncomputable def ht876 (p : Params) : BT := BT.node (ho272 p) BT.nil BT.nil
noncomputable def ht877 (p : Params) : BT := BT.node (ho134 p) (ht876 p) BT.nil
noncomputable def ht878 (p : Params) : BT := BT.node (ho66 p) (ht877 p) (ht563 p)
noncomputable def ht879 (p : Params) : BT := BT.node (ho304 p) BT.nil BT.nil
noncomputable def ht880 (p : Params) : BT := BT.node (ho170 p) (ht879 p) BT.nil
noncomputable def ht881 (p : Params) : BT := BT.node (ho100 p) (ht880 p) (ht698 p)
noncomputable def ht882 (p : Params) : BT := BT.node (ho28 p) (ht878 p) (ht881 p)
noncomputable def ht883 (p : Params) : BT := BT.node (ho288 p) BT.nil BT.nil
noncomputable def ht884 (p : Params) : BT := BT.node (ho152 p) (ht883 p) BT.nil
noncomputable def ht885 (p : Params) : BT := BT.node (ho84 p) (ht884 p) (ht701 p)
noncomputable def ht886 (p : Params) : BT := BT.node (ho47 p) (ht885 p) (ht704 p)
noncomputable def ht887 (p : Params) : BT := BT.node (ho12 p) (ht882 p) (ht886 p)
noncomputable def ht888 (p : Params) : BT := BT.node (ho280 p) BT.nil BT.nil
noncomputable def ht889 (p : Params) : BT := BT.node (ho144 p) (ht888 p) BT.nil
noncomputable def ht890 (p : Params) : BT := BT.node (ho74 p) (ht889 p) (ht570 p)
noncomputable def ht891 (p : Params) : BT := BT.node (ho312 p) BT.nil BT.nil
noncomputable def ht892 (p : Params) : BT := BT.node (ho178 p) (ht891 p) BT.nil
noncomputable def ht893 (p : Params) : BT := BT.node (ho108 p) (ht892 p) (ht707 p)
noncomputable def ht894 (p : Params) : BT := BT.node (ho36 p) (ht890 p) (ht893 p)
noncomputable def ht895 (p : Params) : BT := BT.node (ho296 p) BT.nil BT.nil
noncomputable def ht896 (p : Params) : BT := BT.node (ho160 p) (ht895 p) BT.nil
noncomputable def ht897 (p : Params) : BT := BT.node (ho92 p) (ht896 p) (ht710 p)
noncomputable def ht898 (p : Params) : BT := BT.node (ho58 p) (ht897 p) (ht713 p)
noncomputable def ht899 (p : Params) : BT := BT.node (ho20 p) (ht894 p) (ht898 p)
noncomputable def ht900 (p : Params) : BT := BT.node (ho2 p) (ht887 p) (ht899 p)
noncomputable def ht901 (p : Params) : BT := BT.node (boot_o_5 p) (ht875 p) (ht900 p)
noncomputable def ht902 (p : Params) : BT := BT.node (boot_o_1 p) (ht853 p) (ht901 p)
noncomputable def ht903 (p : Params) : BT := BT.node (ho299 p) BT.nil BT.nil
noncomputable def ht904 (p : Params) : BT := BT.node (ho165 p) (ht903 p) BT.nil
noncomputable def ht905 (p : Params) : BT := BT.node (ho95 p) (ht904 p) (ht722 p)
noncomputable def ht906 (p : Params) : BT := BT.node (ho23 p) (ht721 p) (ht905 p)
noncomputable def ht907 (p : Params) : BT := BT.node (ho283 p) BT.nil BT.nil
noncomputable def ht908 (p : Params) : BT := BT.node (ho147 p) (ht907 p) BT.nil
noncomputable def ht909 (p : Params) : BT := BT.node (ho79 p) (ht908 p) (ht583 p)
noncomputable def ht910 (p : Params) : BT := BT.node (ho315 p) BT.nil BT.nil
noncomputable def ht911 (p : Params) : BT := BT.node (ho181 p) (ht910 p) BT.nil
noncomputable def ht912 (p : Params) : BT := BT.node (ho111 p) (ht911 p) (ht725 p)
noncomputable def ht913 (p : Params) : BT := BT.node (ho42 p) (ht909 p) (ht912 p)
noncomputable def ht914 (p : Params) : BT := BT.node (ho7 p) (ht906 p) (ht913 p)
noncomputable def ht915 (p : Params) : BT := BT.node (ho275 p) BT.nil BT.nil
noncomputable def ht916 (p : Params) : BT := BT.node (ho137 p) (ht915 p) BT.nil
noncomputable def ht917 (p : Params) : BT := BT.node (ho69 p) (ht916 p) (ht587 p)
noncomputable def ht918 (p : Params) : BT := BT.node (ho307 p) BT.nil BT.nil
noncomputable def ht919 (p : Params) : BT := BT.node (ho173 p) (ht918 p) BT.nil
noncomputable def ht920 (p : Params) : BT := BT.node (ho103 p) (ht919 p) (ht729 p)
noncomputable def ht921 (p : Params) : BT := BT.node (ho31 p) (ht917 p) (ht920 p)
noncomputable def ht922 (p : Params) : BT := BT.node (ho291 p) BT.nil BT.nil
noncomputable def ht923 (p : Params) : BT := BT.node (ho155 p) (ht922 p) BT.nil
noncomputable def ht924 (p : Params) : BT := BT.node (ho87 p) (ht923 p) (ht732 p)
noncomputable def ht925 (p : Params) : BT := BT.node (ho50 p) (ht924 p) (ht735 p)
noncomputable def ht926 (p : Params) : BT := BT.node (ho15 p) (ht921 p) (ht925 p)
noncomputable def ht927 (p : Params) : BT := BT.node (boot_o_8 p) (ht914 p) (ht926 p)
noncomputable def ht928 (p : Params) : BT := BT.node (ho271 p) BT.nil BT.nil
noncomputable def ht929 (p : Params) : BT := BT.node (ho133 p) (ht928 p) BT.nil
noncomputable def ht930 (p : Params) : BT := BT.node (ho65 p) (ht929 p) (ht595 p)
noncomputable def ht931 (p : Params) : BT := BT.node (ho303 p) BT.nil BT.nil
noncomputable def ht932 (p : Params) : BT := BT.node (ho169 p) (ht931 p) BT.nil
noncomputable def ht933 (p : Params) : BT := BT.node (ho99 p) (ht932 p) (ht739 p)
noncomputable def ht934 (p : Params) : BT := BT.node (ho27 p) (ht930 p) (ht933 p)
noncomputable def ht935 (p : Params) : BT := BT.node (ho287 p) BT.nil BT.nil
noncomputable def ht936 (p : Params) : BT := BT.node (ho151 p) (ht935 p) BT.nil
noncomputable def ht937 (p : Params) : BT := BT.node (ho83 p) (ht936 p) (ht742 p)
noncomputable def ht938 (p : Params) : BT := BT.node (ho46 p) (ht937 p) (ht745 p)
noncomputable def ht939 (p : Params) : BT := BT.node (ho11 p) (ht934 p) (ht938 p)
noncomputable def ht940 (p : Params) : BT := BT.node (ho279 p) BT.nil BT.nil
noncomputable def ht941 (p : Params) : BT := BT.node (ho143 p) (ht940 p) BT.nil
noncomputable def ht942 (p : Params) : BT := BT.node (ho73 p) (ht941 p) (ht599 p)
noncomputable def ht943 (p : Params) : BT := BT.node (ho311 p) BT.nil BT.nil
noncomputable def ht944 (p : Params) : BT := BT.node (ho177 p) (ht943 p) BT.nil
noncomputable def ht945 (p : Params) : BT := BT.node (ho107 p) (ht944 p) (ht748 p)
noncomputable def ht946 (p : Params) : BT := BT.node (ho35 p) (ht942 p) (ht945 p)
noncomputable def ht947 (p : Params) : BT := BT.node (ho295 p) BT.nil BT.nil
noncomputable def ht948 (p : Params) : BT := BT.node (ho159 p) (ht947 p) BT.nil
noncomputable def ht949 (p : Params) : BT := BT.node (ho91 p) (ht948 p) (ht751 p)
noncomputable def ht950 (p : Params) : BT := BT.node (ho57 p) (ht949 p) (ht754 p)
noncomputable def ht951 (p : Params) : BT := BT.node (ho19 p) (ht946 p) (ht950 p)
noncomputable def ht952 (p : Params) : BT := BT.node (ho269 p) (ht939 p) (ht951 p)
noncomputable def ht953 (p : Params) : BT := BT.node (boot_o_4 p) (ht927 p) (ht952 p)
noncomputable def ht954 (p : Params) : BT := BT.node (ho301 p) BT.nil BT.nil
noncomputable def ht955 (p : Params) : BT := BT.node (ho167 p) (ht954 p) BT.nil
noncomputable def ht956 (p : Params) : BT := BT.node (ho97 p) (ht955 p) (ht762 p)
noncomputable def ht957 (p : Params) : BT := BT.node (ho25 p) (ht761 p) (ht956 p)
noncomputable def ht958 (p : Params) : BT := BT.node (ho285 p) BT.nil BT.nil
noncomputable def ht959 (p : Params) : BT := BT.node (ho149 p) (ht958 p) BT.nil
noncomputable def ht960 (p : Params) : BT := BT.node (ho81 p) (ht959 p) (ht765 p)
noncomputable def ht961 (p : Params) : BT := BT.node (ho44 p) (ht960 p) (ht768 p)
noncomputable def ht962 (p : Params) : BT := BT.node (ho9 p) (ht957 p) (ht961 p)
noncomputable def ht963 (p : Params) : BT := BT.node (ho277 p) BT.nil BT.nil
noncomputable def ht964 (p : Params) : BT := BT.node (ho139 p) (ht963 p) BT.nil
noncomputable def ht965 (p : Params) : BT := BT.node (ho71 p) (ht964 p) (ht612 p)
noncomputable def ht966 (p : Params) : BT := BT.node (ho309 p) BT.nil BT.nil
noncomputable def ht967 (p : Params) : BT := BT.node (ho175 p) (ht966 p) BT.nil
noncomputable def ht968 (p : Params) : BT := BT.node (ho105 p) (ht967 p) (ht771 p)
noncomputable def ht969 (p : Params) : BT := BT.node (ho33 p) (ht965 p) (ht968 p)
noncomputable def ht970 (p : Params) : BT := BT.node (ho293 p) BT.nil BT.nil
noncomputable def ht971 (p : Params) : BT := BT.node (ho157 p) (ht970 p) BT.nil
noncomputable def ht972 (p : Params) : BT := BT.node (ho89 p) (ht971 p) (ht774 p)
noncomputable def ht973 (p : Params) : BT := BT.node (ho52 p) (ht972 p) (ht777 p)
noncomputable def ht974 (p : Params) : BT := BT.node (ho17 p) (ht969 p) (ht973 p)
noncomputable def ht975 (p : Params) : BT := BT.node (boot_o_10 p) (ht962 p) (ht974 p)
noncomputable def ht976 (p : Params) : BT := BT.node (ho273 p) BT.nil BT.nil
noncomputable def ht977 (p : Params) : BT := BT.node (ho135 p) (ht976 p) BT.nil
noncomputable def ht978 (p : Params) : BT := BT.node (ho67 p) (ht977 p) (ht620 p)
noncomputable def ht979 (p : Params) : BT := BT.node (ho305 p) BT.nil BT.nil
noncomputable def ht980 (p : Params) : BT := BT.node (ho171 p) (ht979 p) BT.nil
noncomputable def ht981 (p : Params) : BT := BT.node (ho101 p) (ht980 p) (ht781 p)
noncomputable def ht982 (p : Params) : BT := BT.node (ho29 p) (ht978 p) (ht981 p)
noncomputable def ht983 (p : Params) : BT := BT.node (ho289 p) BT.nil BT.nil
noncomputable def ht984 (p : Params) : BT := BT.node (ho153 p) (ht983 p) BT.nil
noncomputable def ht985 (p : Params) : BT := BT.node (ho85 p) (ht984 p) (ht784 p)
noncomputable def ht986 (p : Params) : BT := BT.node (ho48 p) (ht985 p) (ht787 p)
noncomputable def ht987 (p : Params) : BT := BT.node (ho13 p) (ht982 p) (ht986 p)
noncomputable def ht988 (p : Params) : BT := BT.node (ho281 p) BT.nil BT.nil
noncomputable def ht989 (p : Params) : BT := BT.node (ho145 p) (ht988 p) BT.nil
noncomputable def ht990 (p : Params) : BT := BT.node (ho77 p) (ht989 p) (ht627 p)
noncomputable def ht991 (p : Params) : BT := BT.node (ho313 p) BT.nil BT.nil
noncomputable def ht992 (p : Params) : BT := BT.node (ho179 p) (ht991 p) BT.nil
noncomputable def ht993 (p : Params) : BT := BT.node (ho109 p) (ht992 p) (ht790 p)
noncomputable def ht994 (p : Params) : BT := BT.node (ho40 p) (ht990 p) (ht993 p)
noncomputable def ht995 (p : Params) : BT := BT.node (ho297 p) BT.nil BT.nil
noncomputable def ht996 (p : Params) : BT := BT.node (ho161 p) (ht995 p) BT.nil
noncomputable def ht997 (p : Params) : BT := BT.node (ho93 p) (ht996 p) (ht793 p)
noncomputable def ht998 (p : Params) : BT := BT.node (ho59 p) (ht997 p) (ht796 p)
noncomputable def ht999 (p : Params) : BT := BT.node (ho21 p) (ht994 p) (ht998 p)
noncomputable def ht1000 (p : Params) : BT := BT.node (ho3 p) (ht987 p) (ht999 p)
noncomputable def ht1001 (p : Params) : BT := BT.node (boot_o_6 p) (ht975 p) (ht1000 p)
noncomputable def ht1002 (p : Params) : BT := BT.node (ho37 p) (ht953 p) (ht1001 p)
noncomputable def ht1003 (p : Params) : BT := BT.node (boot_o_0 p) (ht902 p) (ht1002 p)
noncomputable def hS10 (w : World) (os : OsState) : SharedT := SharedT.mk ((fun (p : Params) => (ht1003 p)) w.params) 305 (@Life.mk [] [] [] 0 [] [] @Bool.false (hArr []) [] 0 @Bool.false @Bool.false @Bool.false (@OfNat.ofNat.{0} @Int (nat_lit 0) (@instOfNat (nat_lit 0))) [(@OfNat.ofNat.{0} @Int (nat_lit 2000) (@instOfNat (nat_lit 2000))), (@OfNat.ofNat.{0} @Int (nat_lit 10) (@instOfNat (nat_lit 10))), (@OfNat.ofNat.{0} @Int (nat_lit 10) (@instOfNat (nat_lit 10)))] @Bool.false 0 @Bool.true [] [] 0 @Bool.false) (hArr []) (@Drawn.mk 0 0 0 0) 592 os
noncomputable def hq10 : Pos := (@Pos.mk 268 0 301 44)
noncomputable def hSfh (p : Params) : Heap := Heap.mk (hArr [boot_o_0 p, boot_o_1 p, ho37 p, ho268 p, boot_o_4 p, boot_o_5 p, boot_o_6 p, boot_o_7 p, boot_o_8 p, boot_o_9 p, boot_o_10 p, ho0 p, ho269 p, ho2 p, ho3 p, ho6 p, ho7 p, ho8 p, ho9 p, ho10 p, ho11 p, ho12 p, ho13 p, ho14 p, ho15 p, ho16 p, ho17 p, ho18 p, ho19 p, ho20 p, ho21 p, ho22 p, ho23 p, ho24 p, ho25 p, ho26 p, ho27 p, ho28 p, ho29 p, ho30 p, ho31 p, ho32 p, ho33 p, ho34 p, ho35 p, ho36 p, ho40 p, ho41 p, ho42 p, ho43 p, ho44 p, ho45 p, ho46 p, ho47 p, ho48 p, ho55 p, ho50 p, ho51 p, ho52 p, ho56 p, ho57 p, ho58 p, ho59 p, ho60 p, ho61 p, ho62 p, ho63 p, ho64 p, ho65 p, ho66 p, ho67 p, ho68 p, ho69 p, ho70 p, ho71 p, ho72 p, ho73 p, ho74 p, ho77 p, ho78 p, ho79 p, ho80 p, ho81 p, ho82 p, ho83 p, ho84 p, ho85 p, ho86 p, ho87 p, ho88 p, ho89 p, ho90 p, ho91 p, ho92 p, ho93 p, ho94 p, ho95 p, ho96 p, ho97 p, ho98 p, ho99 p, ho100 p, ho101 p, ho102 p, ho103 p, ho104 p, ho105 p, ho106 p, ho107 p, ho108 p, ho109 p, ho110 p, ho111 p, ho112 p, ho113 p, ho114 p, ho115 p, ho116 p, ho117 p, ho118 p, ho119 p, ho120 p, ho121 p, ho122 p, ho123 p, ho124 p, ho125 p, ho126 p, ho127 p, ho128 p, ho129 p, ho130 p, ho133 p, ho134 p, ho135 p, ho136 p, ho137 p, ho138 p, ho139 p, ho142 p, ho143 p, ho144 p, ho145 p, ho146 p, ho147 p, ho148 p, ho149 p, ho150 p, ho151 p, ho152 p, ho153 p, ho154 p, ho155 p, ho156 p, ho157 p, ho158 p, ho159 p, ho160 p, ho161 p, ho162 p, ho165 p, ho166 p, ho167 p, ho168 p, ho169 p, ho170 p, ho171 p, ho172 p, ho173 p, ho174 p, ho175 p, ho176 p, ho177 p, ho178 p, ho179 p, ho180 p, ho181 p, ho182 p, ho183 p, ho184 p, ho185 p, ho188 p, ho189 p, ho190 p, ho191 p, ho192 p, ho193 p, ho194 p, ho195 p, ho196 p, ho197 p, ho198 p, ho199 p, ho200 p, ho201 p, ho202 p, ho203 p, ho204 p, ho205 p, ho206 p, ho207 p, ho208 p, ho209 p, ho210 p, ho211 p, ho212 p, ho213 p, ho214 p, ho215 p, ho216 p, ho219 p, ho220 p, ho221 p, ho222 p, ho223 p, ho224 p, ho225 p, ho226 p, ho227 p, ho228 p, ho229 p, ho230 p, ho231 p, ho232 p, ho233 p, ho234 p, ho235 p, ho236 p, ho237 p, ho238 p, ho239 p, ho240 p, ho241 p, ho242 p, ho243 p, ho244 p, ho245 p, ho246 p, ho247 p, ho248 p, ho249 p, ho250 p, ho251 p, ho252 p, ho253 p, ho254 p, ho255 p, ho256 p, ho257 p, ho258 p, ho259 p, ho260 p, ho261 p, ho262 p, ho263 p, ho264 p, ho265 p, ho266 p, ho267 p, ho270 p, ho271 p, ho272 p, ho273 p, ho274 p, ho275 p, ho276 p, ho277 p, ho278 p, ho279 p, ho280 p, ho281 p, ho282 p, ho283 p, ho284 p, ho285 p, ho286 p, ho287 p, ho288 p, ho289 p, ho290 p, ho291 p, ho292 p, ho293 p, ho294 p, ho295 p, ho296 p, ho297 p, ho298 p, ho299 p, ho300 p, ho301 p, ho302 p, ho303 p, ho304 p, ho305 p, ho306 p, ho307 p, ho308 p, ho309 p, ho310 p, ho311 p, ho312 p, ho313 p, ho314 p, ho315 p]) (@Life.mk [] [] [] 0 [] [] @Bool.false (hArr []) [] 0 @Bool.false @Bool.false @Bool.false (@OfNat.ofNat.{0} @Int (nat_lit 0) (@instOfNat (nat_lit 0))) [(@OfNat.ofNat.{0} @Int (nat_lit 2000) (@instOfNat (nat_lit 2000))), (@OfNat.ofNat.{0} @Int (nat_lit 10) (@instOfNat (nat_lit 10))), (@OfNat.ofNat.{0} @Int (nat_lit 10) (@instOfNat (nat_lit 10)))] @Bool.false 0 @Bool.true [] [] 0 @Bool.false)
noncomputable def hSf (w : World) (os : OsState) : Shared := Shared.mk (hSfh w.params) (hArr []) (@Drawn.mk 0 0 0 0) 592 os
noncomputable def hBody : List Stmt := (hs0 ++ (hs1 ++ (hs2 ++ (hs3 ++ (hs4 ++ (hs5 ++ (hs6 ++ (hs7 ++ (hs8 ++ (hs9 ++ []))))))))))
noncomputable def hC : Code := Code.body hBody hEnv
noncomputable def hqa : Pos := (@Pos.mk 0 0 0 0)
noncomputable def hq0 : Pos := (@Pos.mk 0 0 0 0)
noncomputable abbrev hB : List Frame := [topFrame hQ]
theorem hpre : (fun (w : World) (os : OsState) => topGo treeTable hPg w 11 hAnn 12 (hS0 w os) (topStub hPg)) = fun w os => some (hSa w os, Thread.mk (denote treeTable hC) hC hqa hB) := by kernel_rfl
theorem hblock : (fun (w : World) (os : OsState) => segRun treeTable hPg w 11 hAnn 1 1 (hSa w os) (blockOf hBody hEnv hC hqa hB)) = fun w os => some (Flow.next, (hSb w os).abs, hC, hq0) := by kernel_rfl
theorem hPg0 : (fun (w : World) (os : OsState) => segRunT treeTable hPg w 11 hAnn 1 160 (hSb w os) (piecesOf hs0 hEnv hC hq0 hB)) = fun w os => some (Flow.next, hS1 w os, hC, hq1) := by kernel_rfl
theorem hPg1 : (fun (w : World) (os : OsState) => segRunT treeTable hPg w 11 hAnn 1 197 (hS1 w os) (piecesOf hs1 hEnv hC hq1 hB)) = fun w os => some (Flow.next, hS2 w os, hC, hq2) := by kernel_rfl
theorem hPg2 : (fun (w : World) (os : OsState) => segRunT treeTable hPg w 11 hAnn 1 255 (hS2 w os) (piecesOf hs2 hEnv hC hq2 hB)) = fun w os => some (Flow.next, hS3 w os, hC, hq3) := by kernel_rfl
theorem hPg3 : (fun (w : World) (os : OsState) => segRunT treeTable hPg w 11 hAnn 1 261 (hS3 w os) (piecesOf hs3 hEnv hC hq3 hB)) = fun w os => some (Flow.next, hS4 w os, hC, hq4) := by kernel_rfl
theorem hPg4 : (fun (w : World) (os : OsState) => segRunT treeTable hPg w 11 hAnn 1 43 (hS4 w os) (piecesOf hs4 hEnv hC hq4 hB)) = fun w os => some (Flow.next, hS5 w os, hC, hq5) := by kernel_rfl
theorem hPg5 : (fun (w : World) (os : OsState) => segRunT treeTable hPg w 11 hAnn 1 223 (hS5 w os) (piecesOf hs5 hEnv hC hq5 hB)) = fun w os => some (Flow.next, hS6 w os, hC, hq6) := by kernel_rfl
theorem hPg6 : (fun (w : World) (os : OsState) => segRunT treeTable hPg w 11 hAnn 1 223 (hS6 w os) (piecesOf hs6 hEnv hC hq6 hB)) = fun w os => some (Flow.next, hS7 w os, hC, hq7) := by kernel_rfl
theorem hPg7 : (fun (w : World) (os : OsState) => segRunT treeTable hPg w 11 hAnn 1 261 (hS7 w os) (piecesOf hs7 hEnv hC hq7 hB)) = fun w os => some (Flow.next, hS8 w os, hC, hq8) := by kernel_rfl
theorem hPg8 : (fun (w : World) (os : OsState) => segRunT treeTable hPg w 11 hAnn 1 234 (hS8 w os) (piecesOf hs8 hEnv hC hq8 hB)) = fun w os => some (Flow.next, hS9 w os, hC, hq9) := by kernel_rfl
theorem hPg9 : (fun (w : World) (os : OsState) => segRunT treeTable hPg w 11 hAnn 1 229 (hS9 w os) (piecesOf hs9 hEnv hC hq9 hB)) = fun w os => some (Flow.next, hS10 w os, hC, hq10) := by kernel_rfl
theorem hfin : (fun (w : World) (os : OsState) => topRun treeTable hPg w 11 hAnn 2 ((hS10 w os).abs) (Thread.mk (doneF Flow.next) hC hq10 hB)) = fun w os => some (hSf w os) := by kernel_rfl
noncomputable def hM : Nat := 12 + (1 + (160 + (197 + (255 + (261 + (43 + (223 + (223 + (261 + (234 + (229 + 2)))))))))))
theorem hrun (w : World) (os : OsState) : topRun treeTable hPg w 11 hAnn hM (hS0 w os) (topStub hPg) = some (hSf w os) :=
  go_top (congrFun (congrFun hpre w) os) (piece_block (congrFun (congrFun hblock w) os)
  (piece_app (segRun_of (congrFun (congrFun hPg0 w) os))
  (piece_app (segRun_of (congrFun (congrFun hPg1 w) os))
  (piece_app (segRun_of (congrFun (congrFun hPg2 w) os))
  (piece_app (segRun_of (congrFun (congrFun hPg3 w) os))
  (piece_app (segRun_of (congrFun (congrFun hPg4 w) os))
  (piece_app (segRun_of (congrFun (congrFun hPg5 w) os))
  (piece_app (segRun_of (congrFun (congrFun hPg6 w) os))
  (piece_app (segRun_of (congrFun (congrFun hPg7 w) os))
  (piece_app (segRun_of (congrFun (congrFun hPg8 w) os))
  (piece_app (segRun_of (congrFun (congrFun hPg9 w) os))
  (piece_nil (env := hEnv) (congrFun (congrFun hfin w) os)))))))))))))
noncomputable def hK (p : Params) : Frag := [(0, boot_o_0 p), (1, boot_o_1 p), (2, ho37 p), (3, ho268 p), (4, boot_o_4 p), (5, boot_o_5 p), (6, boot_o_6 p), (7, boot_o_7 p), (8, boot_o_8 p), (9, boot_o_9 p), (10, boot_o_10 p), (11, ho0 p), (12, ho269 p), (13, ho2 p), (14, ho3 p), (15, ho6 p), (16, ho7 p), (17, ho8 p), (18, ho9 p), (19, ho10 p), (20, ho11 p), (21, ho12 p), (22, ho13 p), (23, ho14 p), (24, ho15 p), (25, ho16 p), (26, ho17 p), (27, ho18 p), (28, ho19 p), (29, ho20 p), (30, ho21 p), (31, ho22 p), (32, ho23 p), (33, ho24 p), (34, ho25 p), (35, ho26 p), (36, ho27 p), (37, ho28 p), (38, ho29 p), (39, ho30 p), (40, ho31 p), (41, ho32 p), (42, ho33 p), (43, ho34 p), (44, ho35 p), (45, ho36 p), (46, ho40 p), (53, ho47 p), (54, ho48 p), (55, ho55 p), (56, ho50 p), (59, ho56 p), (66, ho63 p), (67, ho64 p), (68, ho65 p), (69, ho66 p), (70, ho67 p), (71, ho68 p), (72, ho69 p), (73, ho70 p), (74, ho71 p), (75, ho72 p), (78, ho77 p), (79, ho78 p), (80, ho79 p), (81, ho80 p), (82, ho81 p), (83, ho82 p), (84, ho83 p), (85, ho84 p), (86, ho85 p), (87, ho86 p), (88, ho87 p), (89, ho88 p), (90, ho89 p), (91, ho90 p), (92, ho91 p), (93, ho92 p), (94, ho93 p), (95, ho94 p), (96, ho95 p), (97, ho96 p), (98, ho97 p), (99, ho98 p), (100, ho99 p), (101, ho100 p), (102, ho101 p), (103, ho102 p), (104, ho103 p), (105, ho104 p), (106, ho105 p), (107, ho106 p), (108, ho107 p), (109, ho108 p), (110, ho109 p), (111, ho110 p), (112, ho111 p), (113, ho112 p), (114, ho113 p), (115, ho114 p), (116, ho115 p), (117, ho116 p), (118, ho117 p), (119, ho118 p), (120, ho119 p), (121, ho120 p), (122, ho121 p), (123, ho122 p), (124, ho123 p), (125, ho124 p), (126, ho125 p), (127, ho126 p), (128, ho127 p), (129, ho128 p), (130, ho129 p), (131, ho130 p), (132, ho133 p), (133, ho134 p), (134, ho135 p), (135, ho136 p), (136, ho137 p), (137, ho138 p), (138, ho139 p), (146, ho149 p), (147, ho150 p), (148, ho151 p), (149, ho152 p), (150, ho153 p), (151, ho154 p), (152, ho155 p), (153, ho156 p), (154, ho157 p), (155, ho158 p), (156, ho159 p), (157, ho160 p), (167, ho172 p), (168, ho173 p), (169, ho174 p), (170, ho175 p), (171, ho176 p), (172, ho177 p), (173, ho178 p), (174, ho179 p), (175, ho180 p), (176, ho181 p), (177, ho182 p), (178, ho183 p), (188, ho195 p), (189, ho196 p), (190, ho197 p), (191, ho198 p), (192, ho199 p), (193, ho200 p), (194, ho201 p), (195, ho202 p), (196, ho203 p), (197, ho204 p), (198, ho205 p), (199, ho206 p), (200, ho207 p), (201, ho208 p), (202, ho209 p), (203, ho210 p), (204, ho211 p), (205, ho212 p), (206, ho213 p), (207, ho214 p), (210, ho219 p), (211, ho220 p), (212, ho221 p), (213, ho222 p), (214, ho223 p), (215, ho224 p), (216, ho225 p), (217, ho226 p), (218, ho227 p), (219, ho228 p), (220, ho229 p), (221, ho230 p), (222, ho231 p), (223, ho232 p), (224, ho233 p), (225, ho234 p), (226, ho235 p), (227, ho236 p), (228, ho237 p), (229, ho238 p), (230, ho239 p), (231, ho240 p), (232, ho241 p), (233, ho242 p), (234, ho243 p), (235, ho244 p), (236, ho245 p), (237, ho246 p), (238, ho247 p), (239, ho248 p), (240, ho249 p), (241, ho250 p), (242, ho251 p), (243, ho252 p), (244, ho253 p), (245, ho254 p), (246, ho255 p), (247, ho256 p), (248, ho257 p), (249, ho258 p), (250, ho259 p), (251, ho260 p), (252, ho261 p), (253, ho262 p), (254, ho263 p), (255, ho264 p), (256, ho265 p), (257, ho266 p), (258, ho267 p), (259, ho270 p), (260, ho271 p), (261, ho272 p), (262, ho273 p), (263, ho274 p), (264, ho275 p), (265, ho276 p), (266, ho277 p), (267, ho278 p), (268, ho279 p), (269, ho280 p), (270, ho281 p), (271, ho282 p), (272, ho283 p), (273, ho284 p), (274, ho285 p), (275, ho286 p), (276, ho287 p), (277, ho288 p), (278, ho289 p), (279, ho290 p), (280, ho291 p), (281, ho292 p), (282, ho293 p), (283, ho294 p), (284, ho295 p), (285, ho296 p), (286, ho297 p), (287, ho298 p), (288, ho299 p), (289, ho300 p), (290, ho301 p), (291, ho302 p), (292, ho303 p), (293, ho304 p), (294, ho305 p), (295, ho306 p), (296, ho307 p), (297, ho308 p), (298, ho309 p), (299, ho310 p), (300, ho311 p), (301, ho312 p), (302, ho313 p), (303, ho314 p), (304, ho315 p)]
noncomputable def hAs : List Addr := [0, 1, 2, 3, 4, 5, 6, 7, 8, 9, 10, 11, 12, 13, 14, 15, 16, 17, 18, 19, 20, 21, 22, 23, 24, 25, 26, 27, 28, 29, 30, 31, 32, 33, 34, 35, 36, 37, 38, 39, 40, 41, 42, 43, 44, 45, 46, 53, 54, 55, 56, 59, 66, 67, 68, 69, 70, 71, 72, 73, 74, 75, 78, 79, 80, 81, 82, 83, 84, 85, 86, 87, 88, 89, 90, 91, 92, 93, 94, 95, 96, 97, 98, 99, 100, 101, 102, 103, 104, 105, 106, 107, 108, 109, 110, 111, 112, 113, 114, 115, 116, 117, 118, 119, 120, 121, 122, 123, 124, 125, 126, 127, 128, 129, 130, 131, 132, 133, 134, 135, 136, 137, 138, 146, 147, 148, 149, 150, 151, 152, 153, 154, 155, 156, 157, 167, 168, 169, 170, 171, 172, 173, 174, 175, 176, 177, 178, 188, 189, 190, 191, 192, 193, 194, 195, 196, 197, 198, 199, 200, 201, 202, 203, 204, 205, 206, 207, 210, 211, 212, 213, 214, 215, 216, 217, 218, 219, 220, 221, 222, 223, 224, 225, 226, 227, 228, 229, 230, 231, 232, 233, 234, 235, 236, 237, 238, 239, 240, 241, 242, 243, 244, 245, 246, 247, 248, 249, 250, 251, 252, 253, 254, 255, 256, 257, 258, 259, 260, 261, 262, 263, 264, 265, 266, 267, 268, 269, 270, 271, 272, 273, 274, 275, 276, 277, 278, 279, 280, 281, 282, 283, 284, 285, 286, 287, 288, 289, 290, 291, 292, 293, 294, 295, 296, 297, 298, 299, 300, 301, 302, 303, 304]
-- size 305 toks 592
theorem hAs_of (P : Params) : hAs = (hK P).map (·.1) := by kernel_rfl
noncomputable abbrev hHook : Hook := kHook hK hAs hAs_of
theorem hopening : opening hPg = plainProg hPg.main.scope.names := by kernel_rfl
theorem hfence (s : Shared) : fenceModules? hPg s = some s := by kernel_rfl
theorem hsize (w : World) : ((boot_heap w.params).isNs mainGlobals && (hArr [] : Array GenState).size == 0, (boot_heap w.params).objs.size, (boot_heap w.params).nsMap mainGlobals "__annotations__") = (true, 11, hAnn) := by kernel_rfl
noncomputable abbrev hXt : Shared → Bool := fun s => xlAt hView [] s && recOk (RowW.records (OpenRow.toRowW (OpenLaw.row PySem.Challenge.rw_ov0061_01))) s
theorem hlook1 : (fun (w : World) (os : OsState) => (staticsOk (importedModules hPg.main.body) (boot_heap w.params) (hSfh w.params) && namesBound hPg (hSfh w.params) && gensDone (hSf w os) && laidKept (boot_heap w.params) (hSfh w.params))) = fun w os => true := by kernel_rfl
theorem hlook2 : (fun (w : World) (os : OsState) => openSeen hView [] (importedModules hPg.main.body) hXt true (hSf w os)) = fun w os => openGood hView [] := by kernel_rfl
theorem hlook3 : (fun (w : World) (os : OsState) => hHook.obs (hSf w os)) = fun w os => hHook.val w := by kernel_rfl
theorem hlooks (w : World) : (fun os => ((staticsOk (importedModules hPg.main.body) (boot_heap w.params) (hSfh w.params) && namesBound hPg (hSfh w.params) && gensDone (hSf w os) && laidKept (boot_heap w.params) (hSfh w.params)),
    openSeen hView [] (importedModules hPg.main.body) hXt true (hSf w os), hHook.obs (hSf w os))) = fun _ => (true, openGood hView [], hHook.val w) :=
  funext fun os => looks_pair (congrFun (congrFun hlook1 w) os) (looks_pair (congrFun (congrFun hlook2 w) os) (congrFun (congrFun hlook3 w) os))
theorem hleft : LeftO hPg hView [] hXt hHook.obs hHook.val 4278 :=
  LeftO.of_pieces (H₀ := boot_heap) (H₁ := hSfh) (boot_open hopening (by decide +kernel) hfence) hsize hrun (by decide +kernel) hlooks
theorem hdefd : (defOf hView "law").isSome = true := by kernel_rfl
noncomputable def hLaw : DefRec × List (Str × Expr) := (defOf hView "law").get hdefd
theorem and_of {a b : Bool} (h : a = true) (k : b = true) : (a && b) = true := by rw [h, k]; rfl
theorem hsaid1 : (OpenLaw.row PySem.Challenge.rw_ov0061_01).partSaid = true := by kernel_rfl
theorem hsaid2 : (OpenLaw.row PySem.Challenge.rw_ov0061_01).wellSaid = true := by
  unfold OpenRow.wellSaid
  with_reducible refine and_of (and_of hsaid1 ?_) ?_
  · kernel_rfl
  · kernel_rfl
theorem hsaid : OpenLaw.wellSaid PySem.Challenge.rw_ov0061_01 = true := by
  unfold OpenLaw.wellSaid
  repeat' (with_reducible refine and_of ?_ ?_)
  all_goals first | with_reducible exact hsaid2 | kernel_rfl
theorem headed (call : WalkO hView [] (XL hView []) hHook.says (OpenRow.toRowW (OpenLaw.row PySem.Challenge.rw_ov0061_01)) hLaw.1 hLaw.2 fun f vs => PySem.call f vs) : PySem.Challenge.rw_ov0061_01.Holds := by
  w_on
  refine holds_law hsaid fun said => ?_
  refine holds_open (q := hView) (d := hLaw.1) (kwd := hLaw.2) (loose := []) (Xt := hXt) (XP := XL hView []) (Yf := hHook.obs) (Ya := hHook.val) (YP := hHook.says) (N := 4278) hleft hHook.of hHook.keeps (fun s e => xl_of s (Bool.and_eq_true_iff.mp e).1) XL.keeps (by kernel_rfl) (by kernel_rfl) (by kernel_rfl) (fun s e => recFacts_of (Bool.and_eq_true_iff.mp e).2) (by kernel_rfl) (by first | assumption | decide +kernel) (by decide +kernel) ⟨rfl, rfl, rfl, rfl, rfl, by decide +kernel⟩ ?hw call
  case hw => w_witness2
theorem fk2 (p : Params) : Fn (hK p) 2 28 := ⟨by kernel_rfl, .type "function", none, .none, .str (hStr "vectorcove.attrs") 194, none, .ref 27, .none, hArr [], by kernel_rfl, by kernel_rfl⟩
theorem fk3 (p : Params) : Fn (hK p) 3 33 := ⟨by kernel_rfl, .type "function", none, .none, .str (hStr "vectorcove.attrs") 194, none, .ref 32, .none, hArr [], by kernel_rfl, by kernel_rfl⟩
theorem fk4 (p : Params) : Fn (hK p) 4 40 := ⟨by kernel_rfl, .type "function", none, .none, .str (hStr "vectorcove.attrs") 194, none, .ref 39, .none, hArr [], by kernel_rfl, by kernel_rfl⟩
theorem fk13 (p : Params) : Fn (hK p) 13 98 := ⟨by kernel_rfl, .type "function", none, .none, .str (hStr "vectorcove.index") 288, none, .ref 97, .none, hArr [], by kernel_rfl, by kernel_rfl⟩
theorem fk14 (p : Params) : Fn (hK p) 14 105 := ⟨by kernel_rfl, .type "function", none, .none, .str (hStr "vectorcove.index") 288, none, .ref 104, .none, hArr [], by kernel_rfl, by kernel_rfl⟩
theorem fk15 (p : Params) : Fn (hK p) 15 110 := ⟨by kernel_rfl, .type "function", none, .none, .str (hStr "vectorcove.index") 288, none, .ref 109, .none, hArr [], by kernel_rfl, by kernel_rfl⟩
theorem fk19 (p : Params) : Fn (hK p) 19 138 := ⟨by kernel_rfl, .type "function", none, .none, .str (hStr "vectorcove.index") 288, none, .ref 137, .none, hArr [], by kernel_rfl, by kernel_rfl⟩
theorem fk24 (p : Params) : Fn (hK p) 24 216 := ⟨by kernel_rfl, .type "function", none, .none, .str (hStr "vectorcove.values") 363, none, .ref 215, .none, hArr [], by kernel_rfl, by kernel_rfl⟩
theorem fk25 (p : Params) : Fn (hK p) 25 223 := ⟨by kernel_rfl, .type "function", none, .none, .str (hStr "vectorcove.values") 363, none, .ref 222, .none, hArr [], by kernel_rfl, by kernel_rfl⟩
theorem fk27 (p : Params) : Fn (hK p) 27 230 := ⟨by kernel_rfl, .type "function", none, .none, .str (hStr "vectorcove.subset") 480, none, .ref 229, .none, hArr [], by kernel_rfl, by kernel_rfl⟩
theorem fk28 (p : Params) : Fn (hK p) 28 237 := ⟨by kernel_rfl, .type "function", none, .none, .str (hStr "vectorcove.subset") 480, none, .ref 236, .none, hArr [], by kernel_rfl, by kernel_rfl⟩
theorem fk29 (p : Params) : Fn (hK p) 29 244 := ⟨by kernel_rfl, .type "function", none, .none, .str (hStr "vectorcove.subset") 480, none, .ref 243, .none, hArr [], by kernel_rfl, by kernel_rfl⟩
theorem fk30 (p : Params) : Fn (hK p) 30 251 := ⟨by kernel_rfl, .type "function", none, .none, .str (hStr "vectorcove.subset") 480, none, .ref 250, .none, hArr [], by kernel_rfl, by kernel_rfl⟩
theorem fk31 (p : Params) : Fn (hK p) 31 258 := ⟨by kernel_rfl, .type "function", none, .none, .str (hStr "vectorcove.subset") 480, none, .ref 257, .none, hArr [], by kernel_rfl, by kernel_rfl⟩
theorem fk33 (p : Params) : Fn (hK p) 33 265 := ⟨by kernel_rfl, .type "function", none, .none, .str (hStr "law_ov0061_01") 528, none, .ref 264, .none, hArr [], by kernel_rfl, by kernel_rfl⟩
theorem fk34 (p : Params) : Fn (hK p) 34 272 := ⟨by kernel_rfl, .type "function", none, .none, .str (hStr "law_ov0061_01") 528, none, .ref 271, .none, hArr [], by kernel_rfl, by kernel_rfl⟩
theorem fk35 (p : Params) : Fn (hK p) 35 277 := ⟨by kernel_rfl, .type "function", none, .none, .str (hStr "law_ov0061_01") 528, none, .ref 276, .none, hArr [], by kernel_rfl, by kernel_rfl⟩
theorem fk36 (p : Params) : Fn (hK p) 36 284 := ⟨by kernel_rfl, .type "function", none, .none, .str (hStr "law_ov0061_01") 528, none, .ref 283, .none, hArr [], by kernel_rfl, by kernel_rfl⟩
theorem fk37 (p : Params) : Fn (hK p) 37 289 := ⟨by kernel_rfl, .type "function", none, .none, .str (hStr "law_ov0061_01") 528, none, .ref 288, .none, hArr [], by kernel_rfl, by kernel_rfl⟩
theorem fk38 (p : Params) : Fn (hK p) 38 294 := ⟨by kernel_rfl, .type "function", none, .none, .str (hStr "law_ov0061_01") 528, none, .ref 293, .none, hArr [], by kernel_rfl, by kernel_rfl⟩
theorem fk39 (p : Params) : Fn (hK p) 39 299 := ⟨by kernel_rfl, .type "function", none, .none, .str (hStr "law_ov0061_01") 528, none, .ref 298, .none, hArr [], by kernel_rfl, by kernel_rfl⟩
theorem fk40 (p : Params) : Fn (hK p) 40 304 := ⟨by kernel_rfl, .type "function", none, .none, .str (hStr "law_ov0061_01") 528, none, .ref 303, .none, hArr [], by kernel_rfl, by kernel_rfl⟩
noncomputable def faK (i : Nat) : Addr := match i with | 2 => 28 | 3 => 33 | 4 => 40 | 13 => 98 | 14 => 105 | 15 => 110 | 19 => 138 | 24 => 216 | 25 => 223 | 27 => 230 | 28 => 237 | 29 => 244 | 30 => 251 | 31 => 258 | 33 => 265 | 34 => 272 | 35 => 277 | 36 => 284 | 37 => 289 | 38 => 294 | 39 => 299 | 40 => 304 | _ => 0
theorem ckV (p : Params) : IsCls (hK p) "Vector" 205 ["kind", "items", "attrs", "shared", "loose"] := ⟨by kernel_rfl, by kernel_rfl, by kernel_rfl, by kernel_rfl, by kernel_rfl, by kernel_rfl, by kernel_rfl, fun n hn => by
  simp only [List.mem_cons, List.not_mem_nil, or_false] at hn
  rcases hn with rfl | rfl | rfl | rfl | rfl <;> exact ⟨by kernel_rfl, by kernel_rfl⟩⟩
theorem ikV (p : Params) : IsIni (hK p) 23 205 195 "Vector.__init__" (fun a => [("self", a.getD 0 .none), ("kind", a.getD 1 .none), ("items", a.getD 2 .none), ("attrs", .none)]) (fun a => a.length = 3) := ⟨by kernel_rfl, by kernel_rfl, .type "function", none, .ref 188, .none, .none, .str (hStr "vectorcove.values") 363, none, .ref 194, .none, hArr [], by kernel_rfl, by kernel_rfl, fun args ha s X => by
  match args, ha with
  | [a, b, c], _ => exact kp_binds X fun S => by kernel_rfl⟩
theorem ckN (p : Params) : IsCls (hK p) "Null" 155 ["kind", "attrs"] := ⟨by kernel_rfl, by kernel_rfl, by kernel_rfl, by kernel_rfl, by kernel_rfl, by kernel_rfl, by kernel_rfl, fun n hn => by
  simp only [List.mem_cons, List.not_mem_nil, or_false] at hn
  rcases hn with rfl | rfl <;> exact ⟨by kernel_rfl, by kernel_rfl⟩⟩
theorem ikN (p : Params) : IsIni (hK p) 21 155 152 "Null.__init__" (fun a => [("self", a.getD 0 .none)]) (fun a => a.length = 1) := ⟨by kernel_rfl, by kernel_rfl, .type "function", none, .none, .none, .none, .str (hStr "vectorcove.values") 363, none, .ref 151, .none, hArr [], by kernel_rfl, by kernel_rfl, fun args ha s X => by
  match args, ha with
  | [a], _ => exact kp_binds X fun S => by kernel_rfl⟩
theorem ckM (p : Params) : IsCls (hK p) "Missing" 176 ["kind", "attrs"] := ⟨by kernel_rfl, by kernel_rfl, by kernel_rfl, by kernel_rfl, by kernel_rfl, by kernel_rfl, by kernel_rfl, fun n hn => by
  simp only [List.mem_cons, List.not_mem_nil, or_false] at hn
  rcases hn with rfl | rfl <;> exact ⟨by kernel_rfl, by kernel_rfl⟩⟩
theorem ikM (p : Params) : IsIni (hK p) 22 176 173 "Missing.__init__" (fun a => [("self", a.getD 0 .none)]) (fun a => a.length = 1) := ⟨by kernel_rfl, by kernel_rfl, .type "function", none, .none, .none, .none, .str (hStr "vectorcove.values") 363, none, .ref 172, .none, hArr [], by kernel_rfl, by kernel_rfl, fun args ha s X => by
  match args, ha with
  | [a], _ => exact kp_binds X fun S => by kernel_rfl⟩
theorem nkN (p : Params) : NotInt (hK p) 155 := ⟨by kernel_rfl, by kernel_rfl, by kernel_rfl, by kernel_rfl, by kernel_rfl, by kernel_rfl⟩
theorem bnK (p : Params) : ∀ n ∈ (["len", "range", "max", "sorted", "list", "chr", "isinstance", "int"] : List Str), nsIn (hK p) mainGlobals n = some none := fun n hn => by
  simp only [List.mem_cons, List.not_mem_nil, or_false] at hn
  rcases hn with rfl | rfl | rfl | rfl | rfl | rfl | rfl | rfl <;> kernel_rfl
theorem fnK (p : Params) : ∀ i ∈ [2, 3, 4, 13, 14, 15, 19, 24, 25, 27, 28, 29, 30, 31, 33, 34, 35, 36, 37, 38, 39, 40], Fn (hK p) i (faK i) := fun i hi => by
  simp only [List.mem_cons, List.not_mem_nil, or_false] at hi
  rcases hi with rfl | rfl | rfl | rfl | rfl | rfl | rfl | rfl | rfl | rfl | rfl | rfl | rfl | rfl | rfl | rfl | rfl | rfl | rfl | rfl | rfl | rfl
  · exact fk2 p
  · exact fk3 p
  · exact fk4 p
  · exact fk13 p
  · exact fk14 p
  · exact fk15 p
  · exact fk19 p
  · exact fk24 p
  · exact fk25 p
  · exact fk27 p
  · exact fk28 p
  · exact fk29 p
  · exact fk30 p
  · exact fk31 p
  · exact fk33 p
  · exact fk34 p
  · exact fk35 p
  · exact fk36 p
  · exact fk37 p
  · exact fk38 p
  · exact fk39 p
  · exact fk40 p
noncomputable def txK (p : Params) : TX (hK p) := { bn := bnK p, fa := faK, fn := fnK p, cV := 205, cN := 155, cM := 176, isV := ckV p, isN := ckN p, isM := ckM p, niN := nkN p, iV := 195, iN := 152, iM := 173, inV := ikV p, inN := ikN p, inM := ikM p }
/-- the law's own frame, out of the caller's state -/
theorem St.start {g : Gd} {A : Around} {env' : Env} {s : Shared} {h₁ : Heap} {tk : Nat} {m' : Str → Option Value} {cells : List (Addr × Obj)} (hB : g.base = s.heap)
    (hL : env'.locals = s.heap.objs.size) (hn : h₁.Ns env'.locals m') (hk : ∀ b o, s.heap.get? b = some o → h₁.get? b = some o)
    (hc : ∀ p ∈ cells, h₁.get? p.1 = some p.2 ∧ p.1 ≠ env'.locals ∧ s.heap.get? p.1 = none) (hcn : (cells.map (·.1)).Nodup) :
    St ⟨g, A, env', fun _ => none, s, fun _ => none, []⟩ ⟨m', [], cells, fun _ => none⟩ { s with heap := h₁, toks := tk } where
  sg := rfl
  sd := rfl
  so := rfl
  base := fun a o e => hk a o (by rw [← hB]; exact e)
  keep := fun a o e => nomatch e
  ns := hn
  gg := fun a o e => nomatch e
  mm := fun p hp => (hc p (by simpa [Sg.all] using hp)).1
  zL := rfl
  gL := rfl
  bL := by show g.base.objs.size ≤ env'.locals; rw [hL, hB]; exact Nat.le_refl _
  nM := fun p hp => by
    have q := hc p (by simpa [Sg.all] using hp)
    exact ⟨q.2.1, by show g.base.get? p.1 = none; rw [hB]; exact q.2.2, rfl, rfl⟩
  nd := by simpa [Sg.all] using hcn
  live := fun a o e => ⟨o, hk a o e⟩
  own := fun p hp => (hc p hp).2.2
  gf := fun a o e => nomatch e
  nn := fun _ h => nomatch h

theorem law_ends {w : World} {p : Program} {loose : List Str} {mg mb : Str → Option Value} {s₁ : Shared} {l : Addr} {ws : List Value} {ns : List Int} (KX : (hK w.params).In s₁.heap) (T : TopRead p loose mg mb s₁.heap)
    (hl : s₁.heap.IsList l ws.toArray) (hi : IntsAre ws ns) (hz : ws.length ≤ 100) :
    wpAny (model hPg w) callerA (call (.ref 304) [.ref l]) (fun v s' => v = .bool true ∧ (∀ a o, s₁.heap.get? a = some o → s'.heap.get? a = some o) ∧ s'.os = s₁.os ∧ s'.gens = s₁.gens) (fun _ _ => False) s₁ := by
  let g : Gd := ⟨hPg, w, hK w.params, p, loose, mg, mb, s₁.heap, KX, T⟩
  let c : Cx := ⟨g, callerA, default, fun _ => none, s₁, fun _ => none, []⟩
  have e304 : (txK w.params).fa 40 = 304 := by kernel_rfl
  have r : Rm callerA (0 + 6) := ⟨rfl, by decide +kernel, by decide +kernel⟩
  obtain ⟨oc, od, doc, pm, an, cdv, ct, osl, ho, hcd⟩ := (fk40 w.params).ob
  refine wpAny_call (codeAny_mono (R := fun r s' => ∃ v, r = .ok (.ret v) ∧ v = .bool true ∧ (∀ a o, s₁.heap.get? a = some o → s'.heap.get? a = some o) ∧ s'.os = s₁.os ∧ s'.gens = s₁.gens) ?_ fun r s' hr => by
    obtain ⟨v, rfl, h⟩ := hr; exact h)
  have hbi : BindsTo s₁ (fnOf (fnN 40) (fnN 40) (fnA 40) (fnB 40) (fnS 40) .none .none doc pm an cdv ct) ⟨[.ref l], []⟩ [("script", .ref l)] := BindsTo.of_eq (by kernel_rfl)
  have hco : (fnS 40).isCoroutine = false := by kernel_rfl
  have hgen : (fnS 40).isGenerator = false := by kernel_rfl
  refine codeAny_call_function (fd := fnOf (fnN 40) (fnN 40) (fnA 40) (fnB 40) (fnS 40) .none .none doc pm an cdv ct) r.lim (KX _ _ ho) rfl hco hgen rfl (codeRec_of KX hcd) (hbi _ _ _ _ ?_)
  refine wpAny_newFunctionEnv_cells (by kernel_rfl) (kindsX (by kernel_rfl) _) fun env' he s' x => ?_
  subst he
  refine ⟨T.nolimit.keeps x.toInCall.keep, codeAny_func ?_⟩
  obtain ⟨h₁, tk, rfl, _⟩ := x.done
  have hk₁ := x.toInCall.keep
  have hap := x.apart
  have hnd : ((cellsFrom 0 (fnS 40).names []).map (·.1)).Nodup := by decide +kernel
  obtain ⟨cells, NC, Y⟩ := Cl.news (h₀ := s₁.heap) (Nat.le_refl _) fun n c hm => ⟨x.cell n c (lookup_of_mem_nodup (cellsFrom_names (fnS 40).names 0 (s₁.heap.objs.size + 1) [] [] rfl ▸ hnd) hm), x.above n c hm⟩
  have hcn : (cells.map (·.1)).Nodup := by
    rw [cells_keys Y]
    exact List.pairwise_map.mpr hap
  have H₁ := St.start (g := g) (A := callerA.deeper (envOfC (fnN 40) (fnS 40) s₁.heap.objs.size 304 cdv)) (env' := envOfC (fnN 40) (fnS 40) s₁.heap.objs.size 304 cdv) (cells := cells) (tk := tk) rfl rfl x.toInCall.ns hk₁ (fun p hp => NC p hp) hcn
  have B := law_body (c := c) (n := 0) (G := fun _ => none) (Z := fun _ => none) (s₀ := s₁) (G₀ := fun _ => none) (L := s₁.heap.objs.size) (cdv := cdv) (F := fun fl _ => fl = .ret (.bool true)) (txK w.params) r hl hi hz (by rw [e304]; exact Y) (fun _ _ _ => rfl)
  rw [e304] at B
  refine wpAny_mono (B _ H₁) (fun fl s' ⟨σ', h', q⟩ => ?_) fun _ _ e => e.elim
  subst q
  exact ⟨_, rfl, rfl, h'.base, h'.so, h'.sg⟩
theorem lawGone : WalkO hView [] (XL hView []) hHook.says (OpenRow.toRowW (OpenLaw.row PySem.Challenge.rw_ov0061_01)) hLaw.1 hLaw.2 fun f vs => PySem.call f vs := by
  intro w s₀ s₁ mg mb G Y fa o pm cd doc dV kV ho hd hcd hD hmg hg args vals as hpre hlay hrd hwl hlo
  have KX : (hK w.params).In s₁.heap := kIn_of Y
  have T := topRead_of G.T
  have e1 : nsIn (hK w.params) mainGlobals "law" = some (some (.ref 304)) := by kernel_rfl
  have e2 := mg_of KX T.g e1
  have e3 : hLaw.1.name = ("law" : Str) := by kernel_rfl
  rw [e3] at hmg
  have e4 : fa = 304 := by rw [hmg] at e2; injection (Option.some.inj e2)
  subst e4
  clear ho hd hcd hD hmg
  wrow_args hpre hlay hrd hwl hlo
  have hI := ‹IntsAre _ _›
  have hL := ‹s₁.heap.IsList _ _›
  have hlen := hI.length
  refine wpAny_mono (law_ends KX T hL hI (by omega)) (fun v s' hv => ?_) fun _ _ e => e.elim
  obtain ⟨rfl, h1, h2, h3⟩ := hv
  refine GoodW.toG ⟨.inl ⟨.bool true, .bool true, [], rfl, fun cls => by kernel_rfl, .bool _, by kernel_rfl, fun _ => ⟨.nil, fun _ h => nomatch h⟩⟩, h1, h2, h3.trans hg⟩
end Mine
theorem PySem.Challenge.cw_ov0061_01_holds : PySem.Challenge.rw_ov0061_01.Holds :=
  Mine.headed Mine.lawGone
