import PyProof.Rows.All
import Wide.All
import OpenK.AllK
import Wide.FinOn
import KE.KDictOf
import KE.BytesMake
import KE.KAnyBase
import PyProof.Rows.Catch
import Lean
import PySem.Challenge.RW_tg0030_01
open PySem PySem.W PyProof.Rows
set_option Elab.async false
set_option rowWalk.seconds 0
set_option compiler.extract_closed false
namespace Mine
/-- the library's lemma of the head, its first premise written out: the top's run is then looked at in one piece (a compiled file of 0.6 MB instead of 15 MB) -/
noncomputable def PySem.W.holds_open {r : OpenRow} {q : Program} {loose : List Str} {Xt : Shared → Bool} {XP : (Str → Option Value) → Heap → Prop} {α : Type} {Yf : Shared → α} {Ya : World → α} {YP : World → Heap → Prop} {d : DefRec} {kwd : List (Str × PySem.Expr)} {N : Nat}
    (left : ∀ w : World, (openEnds treeTable r.prog w N).map (fun s => (openSeen q loose (importedModules r.prog.main.body) Xt true s, Yf s)) = some (openGood q loose, Ya w)) :=
  @_root_.PySem.W.holds_open r q loose Xt XP α Yf Ya YP d kwd N left
theorem said0 : OpenLaw.wellSaid PySem.Challenge.rw_tg0030_01 = true := by kernel_rfl
local macro_rules | `(tactic| o_law) => `(tactic| refine PySem.W.holds_law Mine.said0 fun said => ?_)
set_option maxRecDepth 100000 in
set_option maxHeartbeats 8000000 in
open_top hd for PySem.Challenge.rw_tg0030_01
end Mine
section F1
set_option maxRecDepth 100000
namespace Mine

/-! several values, several facts, in one piece: a proof that takes them apart stays short -/
inductive X1 {A1 : Type} (P : A1 → Prop) : Prop
  | mk (a1 : A1) (h : P a1) : X1 P
inductive X2 {A1 A2 : Type} (P : A1 → A2 → Prop) : Prop
  | mk (a1 : A1) (a2 : A2) (h : P a1 a2) : X2 P
inductive X4 {A1 A2 A3 A4 : Type} (P : A1 → A2 → A3 → A4 → Prop) : Prop
  | mk (a1 : A1) (a2 : A2) (a3 : A3) (a4 : A4) (h : P a1 a2 a3 a4) : X4 P
inductive X5 {A1 A2 A3 A4 A5 : Type} (P : A1 → A2 → A3 → A4 → A5 → Prop) : Prop
  | mk (a1 : A1) (a2 : A2) (a3 : A3) (a4 : A4) (a5 : A5) (h : P a1 a2 a3 a4 a5) : X5 P
inductive X6 {A1 A2 A3 A4 A5 A6 : Type} (P : A1 → A2 → A3 → A4 → A5 → A6 → Prop) : Prop
  | mk (a1 : A1) (a2 : A2) (a3 : A3) (a4 : A4) (a5 : A5) (a6 : A6) (h : P a1 a2 a3 a4 a5 a6) : X6 P
inductive X7 {A1 A2 A3 A4 A5 A6 A7 : Type} (P : A1 → A2 → A3 → A4 → A5 → A6 → A7 → Prop) : Prop
  | mk (a1 : A1) (a2 : A2) (a3 : A3) (a4 : A4) (a5 : A5) (a6 : A6) (a7 : A7) (h : P a1 a2 a3 a4 a5 a6 a7) : X7 P
inductive X8 {A1 A2 A3 A4 A5 A6 A7 A8 : Type} (P : A1 → A2 → A3 → A4 → A5 → A6 → A7 → A8 → Prop) : Prop
  | mk (a1 : A1) (a2 : A2) (a3 : A3) (a4 : A4) (a5 : A5) (a6 : A6) (a7 : A7) (a8 : A8) (h : P a1 a2 a3 a4 a5 a6 a7 a8) : X8 P
inductive X9 {A1 A2 A3 A4 A5 A6 A7 A8 A9 : Type} (P : A1 → A2 → A3 → A4 → A5 → A6 → A7 → A8 → A9 → Prop) : Prop
  | mk (a1 : A1) (a2 : A2) (a3 : A3) (a4 : A4) (a5 : A5) (a6 : A6) (a7 : A7) (a8 : A8) (a9 : A9) (h : P a1 a2 a3 a4 a5 a6 a7 a8 a9) : X9 P
inductive X10 {A1 A2 A3 A4 A5 A6 A7 A8 A9 A10 : Type} (P : A1 → A2 → A3 → A4 → A5 → A6 → A7 → A8 → A9 → A10 → Prop) : Prop
  | mk (a1 : A1) (a2 : A2) (a3 : A3) (a4 : A4) (a5 : A5) (a6 : A6) (a7 : A7) (a8 : A8) (a9 : A9) (a10 : A10) (h : P a1 a2 a3 a4 a5 a6 a7 a8 a9 a10) : X10 P
inductive X11 {A1 A2 A3 A4 A5 A6 A7 A8 A9 A10 A11 : Type} (P : A1 → A2 → A3 → A4 → A5 → A6 → A7 → A8 → A9 → A10 → A11 → Prop) : Prop
  | mk (a1 : A1) (a2 : A2) (a3 : A3) (a4 : A4) (a5 : A5) (a6 : A6) (a7 : A7) (a8 : A8) (a9 : A9) (a10 : A10) (a11 : A11) (h : P a1 a2 a3 a4 a5 a6 a7 a8 a9 a10 a11) : X11 P
inductive X15 {A1 A2 A3 A4 A5 A6 A7 A8 A9 A10 A11 A12 A13 A14 A15 : Type} (P : A1 → A2 → A3 → A4 → A5 → A6 → A7 → A8 → A9 → A10 → A11 → A12 → A13 → A14 → A15 → Prop) : Prop
  | mk (a1 : A1) (a2 : A2) (a3 : A3) (a4 : A4) (a5 : A5) (a6 : A6) (a7 : A7) (a8 : A8) (a9 : A9) (a10 : A10) (a11 : A11) (a12 : A12) (a13 : A13) (a14 : A14) (a15 : A15) (h : P a1 a2 a3 a4 a5 a6 a7 a8 a9 a10 a11 a12 a13 a14 a15) : X15 P
inductive N2 (P1 P2 : Prop) : Prop
  | mk (h1 : P1) (h2 : P2) : N2 P1 P2
inductive N3 (P1 P2 P3 : Prop) : Prop
  | mk (h1 : P1) (h2 : P2) (h3 : P3) : N3 P1 P2 P3
inductive N4 (P1 P2 P3 P4 : Prop) : Prop
  | mk (h1 : P1) (h2 : P2) (h3 : P3) (h4 : P4) : N4 P1 P2 P3 P4
inductive N5 (P1 P2 P3 P4 P5 : Prop) : Prop
  | mk (h1 : P1) (h2 : P2) (h3 : P3) (h4 : P4) (h5 : P5) : N5 P1 P2 P3 P4 P5
inductive N6 (P1 P2 P3 P4 P5 P6 : Prop) : Prop
  | mk (h1 : P1) (h2 : P2) (h3 : P3) (h4 : P4) (h5 : P5) (h6 : P6) : N6 P1 P2 P3 P4 P5 P6
inductive N7 (P1 P2 P3 P4 P5 P6 P7 : Prop) : Prop
  | mk (h1 : P1) (h2 : P2) (h3 : P3) (h4 : P4) (h5 : P5) (h6 : P6) (h7 : P7) : N7 P1 P2 P3 P4 P5 P6 P7
inductive N8 (P1 P2 P3 P4 P5 P6 P7 P8 : Prop) : Prop
  | mk (h1 : P1) (h2 : P2) (h3 : P3) (h4 : P4) (h5 : P5) (h6 : P6) (h7 : P7) (h8 : P8) : N8 P1 P2 P3 P4 P5 P6 P7 P8
inductive N13 (P1 P2 P3 P4 P5 P6 P7 P8 P9 P10 P11 P12 P13 : Prop) : Prop
  | mk (h1 : P1) (h2 : P2) (h3 : P3) (h4 : P4) (h5 : P5) (h6 : P6) (h7 : P7) (h8 : P8) (h9 : P9) (h10 : P10) (h11 : P11) (h12 : P12) (h13 : P13) : N13 P1 P2 P3 P4 P5 P6 P7 P8 P9 P10 P11 P12 P13
inductive N14 (P1 P2 P3 P4 P5 P6 P7 P8 P9 P10 P11 P12 P13 P14 : Prop) : Prop
  | mk (h1 : P1) (h2 : P2) (h3 : P3) (h4 : P4) (h5 : P5) (h6 : P6) (h7 : P7) (h8 : P8) (h9 : P9) (h10 : P10) (h11 : P11) (h12 : P12) (h13 : P13) (h14 : P14) : N14 P1 P2 P3 P4 P5 P6 P7 P8 P9 P10 P11 P12 P13 P14

/-- a name, its kind, its value -/
noncomputable abbrev Vars := List (Str × NameKind × Option Value)

/-- an environment's own places: its locals and, for a def's own frame, its cells -/
def priv (env : Env) (a : Addr) : Prop := a = env.locals ∨ (env.func.isSome = true ∧ a ∈ env.cells.map (·.2))

/-- what the names are at a heap; a comprehension's captured cells lie in the frozen part -/
structure Loc (G : Heap) (env : Env) (V : Vars) (h : Heap) : Prop where
  ns : ∃ m, h.Ns env.locals m ∧ ∀ x v, (x, .local, some v) ∈ V → m x = some v
  cl : ∀ x k v, (x, k, some v) ∈ V → k ≠ .local → (k = .cell ∨ k = .free) ∧ ∃ c, env.cells.lookup x = some c ∧ ((env.func.isSome = true ∧ h.IsCell c (some v)) ∨ (env.func.isSome = false ∧ G.IsCell c (some v)))
  ce : env.func.isSome = true → ∀ x, env.kindOf x = some .cell → ∃ c v₀, env.cells.lookup x = some c ∧ h.IsCell c v₀

/-- nothing but the heap and the marks has changed -/
def Same (s₀ s : Shared) : Prop := s.gens = s₀.gens ∧ s.drawn = s₀.drawn ∧ s.os = s₀.os
theorem Same.refl (s : Shared) : Same s s := ⟨rfl, rfl, rfl⟩
theorem Same.trans {s₀ s₁ s₂ : Shared} (a : Same s₀ s₁) (b : Same s₁ s₂) : Same s₀ s₂ := ⟨b.1.trans a.1, b.2.1.trans a.2.1, b.2.2.trans a.2.2⟩
theorem Same.eq {s₀ s : Shared} (a : Same s₀ s) : s = { s₀ with heap := s.heap, toks := s.toks } := by
  obtain ⟨h, g, d, t, o⟩ := s
  obtain ⟨a1, a2, a3⟩ := a
  simp only at a1 a2 a3
  subst a1 a2 a3
  rfl

structure Sc (env : Env) (V : Vars) : Prop where
  kind : env.scope.kind = .function
  glob : env.globals = mainGlobals
  bui : env.builtins = builtinsNs
  vnd : (V.map (·.1)).Nodup
  knd : ∀ p ∈ V, env.kindOf p.1 = some p.2.1
  dbg : ∀ p ∈ V, (p.1 == ("__debug__" : Str)) = false ∧ (p.1 == ("__classdict__" : Str)) = false

structure Fm (B G : Heap) (env : Env) (own : List (Addr × Obj)) (V : Vars) (h : Heap) : Prop where
  sc : Sc env V
  base : ∀ b o, B.get? b = some o → G.get? b = some o
  keep : ∀ b o, G.get? b = some o → h.get? b = some o
  has : ∀ p ∈ own, h.get? p.1 = some p.2
  nodup : (own.map (·.1)).Nodup
  off : ∀ p ∈ own, G.get? p.1 = none
  offp : ∀ p ∈ own, ¬ priv env p.1
  prv : ∀ a, priv env a → G.get? a = none
  loc : Loc G env V h
  cls : env.func.isSome = true → (∀ n c, (n, c) ∈ env.cells → c ≠ env.locals ∧ ∃ v₀, h.IsCell c v₀) ∧ env.cells.Pairwise fun x y => x.2 ≠ y.2

theorem mem_lookup {α : Type} : ∀ {l : List (Str × α)} {n : Str} {c : α}, l.lookup n = some c → (n, c) ∈ l
  | (k, v) :: r, n, c, h => by
    rw [List.lookup_cons] at h
    cases hb : n == k with
    | true => rw [hb] at h; cases h; rw [beq_iff_eq.mp hb]; exact List.mem_cons_self
    | false => rw [hb] at h; exact List.mem_cons_of_mem _ (mem_lookup h)

section
variable {B G h h' : Heap} {env : Env} {own : List (Addr × Obj)} {V : Vars}

theorem Fm.lt_priv (F : Fm B G env own V h) {a : Addr} (hp : priv env a) : ∃ o, h.get? a = some o := by
  rcases hp with rfl | ⟨hf, hm⟩
  · obtain ⟨m, ⟨o, _, _, ho, _⟩, _⟩ := F.loc.ns
    exact ⟨o, ho⟩
  · obtain ⟨⟨n, c⟩, hm', he⟩ := List.mem_map.mp hm
    obtain ⟨-, v₀, o, ho, -⟩ := (F.cls hf).1 n c hm'
    exact ⟨o, he ▸ ho⟩

/-- a change at places that nobody here owns or freezes -/
theorem Fm.ext (F : Fm B G env own V h) (hG : ∀ b o, G.get? b = some o → h'.get? b = some o) (ho : ∀ p ∈ own, h'.get? p.1 = some p.2)
    (hp : ∀ a, priv env a → ∀ o, h.get? a = some o → ∃ o', h'.get? a = some o' ∧ o'.data = o.data) : Fm B G env own V h' := by
  refine ⟨F.sc, F.base, hG, ho, F.nodup, F.off, F.offp, F.prv, ⟨?_, ?_, ?_⟩, fun hf => ⟨fun n c hm => ?_, (F.cls hf).2⟩⟩
  · obtain ⟨m, ⟨o, es, ep, ho, hd, hk, hx⟩, hv⟩ := F.loc.ns
    obtain ⟨o', ho', hd'⟩ := hp _ (.inl rfl) o ho
    exact ⟨m, ⟨o', es, ep, ho', hd'.trans hd, hk, hx⟩, hv⟩
  · intro x k v hx hne
    obtain ⟨hk, c, hc, hor⟩ := F.loc.cl x k v hx hne
    refine ⟨hk, c, hc, hor.imp (fun ⟨hf, o, ho, hd⟩ => ⟨hf, ?_⟩) id⟩
    obtain ⟨o', ho', hd'⟩ := hp c (.inr ⟨hf, List.mem_map.mpr ⟨_, mem_lookup hc, rfl⟩⟩) o ho
    exact ⟨o', ho', hd'.trans hd⟩
  · intro hf x hx
    obtain ⟨c, v₀, hc, o, ho, hd⟩ := F.loc.ce hf x hx
    obtain ⟨o', ho', hd'⟩ := hp c (.inr ⟨hf, List.mem_map.mpr ⟨_, mem_lookup hc, rfl⟩⟩) o ho
    exact ⟨c, v₀, hc, o', ho', hd'.trans hd⟩
  · obtain ⟨hne, v₀, o, ho, hd⟩ := (F.cls hf).1 n c hm
    obtain ⟨o', ho', hd'⟩ := hp c (.inr ⟨hf, List.mem_map.mpr ⟨_, hm, rfl⟩⟩) o ho
    exact ⟨hne, v₀, o', ho', hd'.trans hd⟩

/-- all that stood stands -/
theorem Fm.grow (F : Fm B G env own V h) (k : ∀ b o, h.get? b = some o → h'.get? b = some o) : Fm B G env own V h' :=
  F.ext (fun b o e => k b o (F.keep b o e)) (fun p hp => k _ _ (F.has p hp)) fun _ _ o ho => ⟨o, k _ _ ho, rfl⟩

/-- all that stood stands but at the places X, which nobody here owns or freezes -/
theorem Fm.growBut {X : Addr → Prop} (F : Fm B G env own V h) (k : ∀ b o, ¬ X b → h.get? b = some o → h'.get? b = some o)
    (hG : ∀ b, X b → G.get? b = none) (ho : ∀ p ∈ own, ¬ X p.1) (hp : ∀ a, priv env a → ¬ X a) : Fm B G env own V h' :=
  F.ext (fun b o e => k b o (fun hx => by rw [hG b hx] at e; cases e) (F.keep b o e)) (fun p hm => k _ _ (ho p hm) (F.has p hm))
    fun a ha o h9 => ⟨o, k _ _ (hp a ha) h9, rfl⟩

theorem Fm.fresh (F : Fm B G env own V h) {a : Addr} (ha : h.get? a = none) : G.get? a = none ∧ (∀ p ∈ own, p.1 ≠ a) ∧ ¬ priv env a := by
  refine ⟨?_, fun p hp e => ?_, fun hp => ?_⟩
  · cases hq : G.get? a with
    | none => rfl
    | some o => rw [F.keep a o hq] at ha; cases ha
  · have := F.has p hp; rw [e, ha] at this; cases this
  · obtain ⟨o, ho⟩ := F.lt_priv hp; rw [ha] at ho; cases ho

theorem Fm.adopt {new : List (Addr × Obj)} (F : Fm B G env own V h) (k : ∀ b o, h.get? b = some o → h'.get? b = some o) (hn : ∀ p ∈ new, h'.get? p.1 = some p.2)
    (hfr : ∀ p ∈ new, h.get? p.1 = none) (hnd : (new.map (·.1)).Nodup) : Fm B G env (new ++ own) V h' := by
  have F' := F.grow k
  refine ⟨F.sc, F.base, F'.keep, ?_, ?_, ?_, ?_, F.prv, F'.loc, F'.cls⟩
  · intro p hp
    rcases List.mem_append.mp hp with hp | hp
    · exact hn p hp
    · exact F'.has p hp
  · rw [List.map_append, List.nodup_append]
    refine ⟨hnd, F.nodup, fun a ha b hb e => ?_⟩
    obtain ⟨p, hp, rfl⟩ := List.mem_map.mp ha
    obtain ⟨q, hq, rfl⟩ := List.mem_map.mp hb
    exact (F.fresh (hfr p hp)).2.1 q hq e.symm
  · intro p hp
    rcases List.mem_append.mp hp with hp | hp
    · exact (F.fresh (hfr p hp)).1
    · exact F.off p hp
  · intro p hp
    rcases List.mem_append.mp hp with hp | hp
    · exact (F.fresh (hfr p hp)).2.2
    · exact F.offp p hp

theorem get_size (h : Heap) : h.get? h.objs.size = none := by
  cases hq : h.get? h.objs.size with
  | none => rfl
  | some o => exact absurd (Heap.lt_size hq) (Nat.lt_irrefl _)

theorem Fm.alloc (F : Fm B G env own V h) (o : Obj) (hfree : o.isFreed = false := by rfl) : Fm B G env ((h.objs.size, o) :: own) V (h.push o) := by
  refine F.adopt (new := [(h.objs.size, o)]) (fun b o' e => Heap.get?_push_of_some _ e) ?_ ?_ (by simp)
  · intro p hp; rw [List.mem_singleton.mp hp]; exact Heap.get?_push_size _ hfree
  · intro p hp; rw [List.mem_singleton.mp hp]; exact get_size h

theorem Fm.none (F : Fm B G env own V h) : Fm B G env [] V h :=
  ⟨F.sc, F.base, F.keep, (fun _ hp => nomatch hp), .nil, (fun _ hp => nomatch hp), (fun _ hp => nomatch hp), F.prv, F.loc, F.cls⟩

/-- the owned objects at new states -/
theorem Fm.turn {own' : List (Addr × Obj)} (F : Fm B G env own V h) (hadr : ∀ p ∈ own', p.1 ∈ own.map (·.1)) (hnd : (own'.map (·.1)).Nodup)
    (k : ∀ b o, b ∉ own.map (·.1) → h.get? b = some o → h'.get? b = some o) (hn : ∀ p ∈ own', h'.get? p.1 = some p.2) : Fm B G env own' V h' := by
  have ho : ∀ b, b ∈ own.map (·.1) → G.get? b = Option.none ∧ ¬ priv env b := by
    intro b hb
    obtain ⟨p, hp, rfl⟩ := List.mem_map.mp hb
    exact ⟨F.off p hp, F.offp p hp⟩
  have F₁ := F.none.growBut (X := fun b => b ∈ own.map (·.1)) (h' := h') (fun b o hb e => k b o hb e) (fun b hb => (ho b hb).1) (fun _ hp => nomatch hp) (fun b hb e => (ho b e).2 hb)
  exact ⟨F.sc, F.base, F₁.keep, hn, hnd, fun p hp => (ho _ (hadr p hp)).1, fun p hp => (ho _ (hadr p hp)).2, F.prv, F₁.loc, F₁.cls⟩

theorem Fm.upd {pre post : List (Addr × Obj)} {a : Addr} {o o' : Obj} (F : Fm B G env (pre ++ (a, o) :: post) V h) (k : ∀ b o, b ≠ a → h.get? b = some o → h'.get? b = some o) (ho : h'.get? a = some o') :
    Fm B G env (pre ++ (a, o') :: post) V h' := by
  have hnd := F.nodup
  rw [List.map_append, List.map_cons] at hnd
  have hne : ∀ p, p ∈ pre ∨ p ∈ post → p.1 ≠ a := by
    intro p hp e
    have hd := List.nodup_append.mp hnd
    rcases hp with hp | hp
    · exact hd.2.2 p.1 (List.mem_map.mpr ⟨p, hp, rfl⟩) a (by simp) e
    · exact (List.nodup_cons.mp hd.2.1).1 (by rw [← e]; exact List.mem_map.mpr ⟨p, hp, rfl⟩)
  refine F.turn (fun p hp => ?_) ?_ (fun b o hb e => k b o (fun q => hb ?_) e) (fun p hp => ?_)
  · have : p.1 ∈ (pre ++ (a, o') :: post).map (·.1) := List.mem_map_of_mem hp
    simpa using this
  · rw [List.map_append, List.map_cons]; exact hnd
  · simp [q]
  · rcases List.mem_append.mp hp with hp | hp
    · exact k _ _ (hne p (.inl hp)) (F.has p (by simp [hp]))
    · rcases List.mem_cons.mp hp with rfl | hp
      · exact ho
      · exact k _ _ (hne p (.inr hp)) (F.has p (by simp [hp]))

theorem Fm.sub {own' : List (Addr × Obj)} (F : Fm B G env own V h) (hs : ∀ p ∈ own', p ∈ own) (hnd : (own'.map (·.1)).Nodup) : Fm B G env own' V h :=
  ⟨F.sc, F.base, F.keep, fun p hp => F.has p (hs p hp), hnd, fun p hp => F.off p (hs p hp), fun p hp => F.offp p (hs p hp), F.prv, F.loc, F.cls⟩
theorem Fm.sublist {own' : List (Addr × Obj)} (F : Fm B G env own V h) (hs : List.Sublist own' own) : Fm B G env own' V h :=
  F.sub (fun _ hp => hs.subset hp) ((hs.map _).nodup F.nodup)
theorem Fm.perm {own' : List (Addr × Obj)} (F : Fm B G env own V h) (hs : own'.Perm own) : Fm B G env own' V h :=
  F.sub (fun _ hp => hs.subset hp) ((hs.map _).nodup_iff.mpr F.nodup)

theorem Fm.vars {V' : Vars} (F : Fm B G env own V h) (hv : ∀ x k v, (x, k, some v) ∈ V' → (x, k, some v) ∈ V) (hs : Sc env V') : Fm B G env own V' h := by
  obtain ⟨m, hn, hx⟩ := F.loc.ns
  exact ⟨hs, F.base, F.keep, F.has, F.nodup, F.off, F.offp, F.prv, ⟨⟨m, hn, fun x v e => hx x v (hv _ _ _ e)⟩, fun x k v e => F.loc.cl x k v (hv _ _ _ e), F.loc.ce⟩, F.cls⟩

/-- values forgotten, the names and kinds as they were -/
def VLe : Vars → Vars → Prop
  | [], [] => True
  | (x, k, o) :: V, (x', k', o') :: V' => x = x' ∧ k = k' ∧ (o' = none ∨ o' = o) ∧ VLe V V'
  | _, _ => False
theorem VLe.mem {V : Vars} : ∀ {V' : Vars}, VLe V V' → ∀ {x k v}, (x, k, some v) ∈ V' → (x, k, some v) ∈ V := by
  induction V with
  | nil => intro V' h x k v hm; cases V' with
    | nil => exact hm
    | cons p r => exact h.elim
  | cons q V ih => intro V' h x k v hm; cases V' with
    | nil => exact absurd hm List.not_mem_nil
    | cons p r =>
      obtain ⟨h1, h2, h3, h4⟩ := h
      rcases List.mem_cons.mp hm with e | hm
      · refine List.mem_cons.mpr (.inl ?_)
        subst e
        rcases h3 with h3 | h3
        · cases h3
        · exact (Prod.ext h1 (Prod.ext h2 h3.symm)).symm
      · exact List.mem_cons_of_mem _ (ih h4 hm)
theorem VLe.names {V : Vars} : ∀ {V' : Vars}, VLe V V' → V'.map (fun p => (p.1, p.2.1)) = V.map (fun p => (p.1, p.2.1)) := by
  induction V with
  | nil => intro V' h; cases V' with
    | nil => rfl
    | cons p r => exact h.elim
  | cons q V ih => intro V' h; cases V' with
    | nil => exact h.elim
    | cons p r =>
      obtain ⟨h1, h2, _, h4⟩ := h
      rw [List.map_cons, List.map_cons, ih h4, h1, h2]
theorem Sc.of_names {V V' : Vars} (S : Sc env V) (h : V'.map (fun p => (p.1, p.2.1)) = V.map (fun p => (p.1, p.2.1))) : Sc env V' := by
  have hm : ∀ p ∈ V', ∃ q ∈ V, q.1 = p.1 ∧ q.2.1 = p.2.1 := by
    intro p hp
    have : (p.1, p.2.1) ∈ V.map (fun p => (p.1, p.2.1)) := h ▸ List.mem_map_of_mem (f := fun p => (p.1, p.2.1)) hp
    obtain ⟨q, hq, e⟩ := List.mem_map.mp this
    exact ⟨q, hq, (Prod.mk.inj e).1, (Prod.mk.inj e).2⟩
  have hn : V'.map (·.1) = V.map (·.1) := by
    have := congrArg (List.map Prod.fst) h
    rw [List.map_map, List.map_map] at this
    exact this
  refine ⟨S.kind, S.glob, S.bui, hn ▸ S.vnd, fun p hp => ?_, fun p hp => ?_⟩
  · obtain ⟨q, hq, e1, e2⟩ := hm p hp; rw [← e1, ← e2]; exact S.knd q hq
  · obtain ⟨q, hq, e1, e2⟩ := hm p hp; rw [← e1]; exact S.dbg q hq
theorem Fm.forget {V' : Vars} (F : Fm B G env own V h) (hv : VLe V V') : Fm B G env own V' h := F.vars (fun _ _ _ e => hv.mem e) (F.sc.of_names hv.names)
end

/-- the names with one value anew -/
inductive SA : Vars → Str → NameKind → Value → Vars → Prop
  | mk (pre : Vars) {post : Vars} {x : Str} {k : NameKind} {o : Option Value} {v : Value} : SA (pre ++ (x, k, o) :: post) x k v (pre ++ (x, k, some v) :: post)

section
variable {B G : Heap} {env : Env} {own : List (Addr × Obj)} {V V' : Vars} {M : Model} {A : Around} {E : Value → Shared → Prop} {s₀ s : Shared}

theorem ld0 {x : Str} {k : NameKind} {v : Value} {Q : Value → Shared → Prop} (F : Fm B G env own V s.heap) (hv : (x, k, some v) ∈ V) (h : Q v s) : wpAny M A (loadName env x) Q E s := by
  have hkn : env.kindOf x = some k := F.sc.knd _ hv
  by_cases hl : k = .local
  · subst hl
    obtain ⟨m, hm, hx⟩ := F.loc.ns
    exact wpAny_loadName_local F.sc.kind hkn hm (hx x v hv) h
  · obtain ⟨hk, c, hc, hor⟩ := F.loc.cl x k v hv hl
    have hcell : s.heap.IsCell c (some v) := by
      rcases hor with ⟨_, h1⟩ | ⟨_, o, ho, hd⟩
      · exact h1
      · exact ⟨o, F.keep _ _ ho, hd⟩
    rcases hk with rfl | rfl
    · exact wpAny_loadName_cell F.sc.kind hkn hc hcell h
    · exact wpAny_loadName_free F.sc.kind hkn hc hcell h (F.sc.dbg _ hv).2

theorem ldV {x : Str} {k : NameKind} {pos : Pos} {v : Value} {Q : Value → Shared → Prop} (F : Fm B G env own V s.heap) (hv : (x, k, some v) ∈ V) (h : Q v s) :
    wpAny M A (eval (.Name x pos) env) Q E s := wpAny_Name (ld0 F hv h) (F.sc.dbg _ hv).1

theorem SA.names {x : Str} {k : NameKind} {v : Value} (h : SA V x k v V') : V'.map (fun p => (p.1, p.2.1)) = V.map (fun p => (p.1, p.2.1)) := by
  cases h; simp
theorem SA.mem {x : Str} {j : NameKind} {v : Value} (h : SA V x j v V') (hnd : (V.map (·.1)).Nodup) {y : Str} {k : NameKind} {u : Value} (hm : (y, k, some u) ∈ V') : (y = x ∧ u = v) ∨ (y ≠ x ∧ (y, k, some u) ∈ V) := by
  cases h with
  | mk pre =>
    rw [List.map_append, List.map_cons] at hnd
    have hd := List.nodup_append.mp hnd
    rcases List.mem_append.mp hm with hm | hm
    · exact .inr ⟨fun e => hd.2.2 y (List.mem_map.mpr ⟨_, hm, rfl⟩) x (by simp) e, by simp [hm]⟩
    · rcases List.mem_cons.mp hm with e | hm
      · cases e; exact .inl ⟨rfl, rfl⟩
      · refine .inr ⟨fun e => (List.nodup_cons.mp hd.2.1).1 ?_, by simp [hm]⟩
        rw [← e]; exact List.mem_map.mpr ⟨_, hm, rfl⟩
theorem SA.at {x : Str} {k : NameKind} {v : Value} (h : SA V x k v V') : ∃ o, (x, k, o) ∈ V := by
  cases h with | mk pre => exact ⟨_, List.mem_append_right _ List.mem_cons_self⟩

theorem stLocal {x : Str} {v : Value} {Q : Unit → Shared → Prop} (hS : Same s₀ s) (F : Fm B G env own V s.heap) (hA : SA V x .local v V')
    (h : ∀ s', Same s₀ s' → Fm B G env own V' s'.heap → Q () s') : wpAny M A (storeName env x v) Q E s := by
  obtain ⟨m, hm, hx⟩ := F.loc.ns
  have hl : env.kindOf x = some .local := let ⟨_, ho⟩ := hA.at; F.sc.knd _ ho
  refine wpAny_storeName_local hl hm (fun h' hn hs => h { s with heap := h', toks := s.toks + 1 } hS ?_) (by rw [F.sc.kind]; rfl)
  have hne : ∀ b, b ≠ env.locals → h'.get? b = s.heap.get? b := hs.2
  have pl : priv env env.locals := .inl rfl
  have Sc' := F.sc.of_names hA.names
  refine ⟨Sc', F.base, fun b o e => ?_, fun p hp => ?_, F.nodup, F.off, F.offp, F.prv, ⟨⟨_, hn, ?_⟩, ?_, ?_⟩, fun hf => ⟨fun n c hm => ?_, (F.cls hf).2⟩⟩
  · exact (hne b (fun e' => by rw [e', F.prv _ pl] at e; cases e)).trans (F.keep b o e)
  · exact (hne p.1 (fun e' => F.offp p hp (e' ▸ pl))).trans (F.has p hp)
  · intro y u hy
    rcases hA.mem F.sc.vnd hy with ⟨rfl, rfl⟩ | ⟨hyx, hy⟩
    · simp
    · simp only [hyx, if_false]; exact hx y u hy
  · intro y k u hy hk
    rcases hA.mem F.sc.vnd hy with ⟨rfl, rfl⟩ | ⟨hyx, hy⟩
    · have := Sc'.knd _ hy
      rw [hl] at this; exact absurd (Option.some.inj this).symm hk
    · obtain ⟨h1, c, hc, hor⟩ := F.loc.cl y k u hy hk
      refine ⟨h1, c, hc, hor.imp (fun ⟨hf, o, ho, hd⟩ => ⟨hf, o, (hne c ?_).trans ho, hd⟩) id⟩
      exact ((F.cls hf).1 y c (mem_lookup hc)).1
  · intro hf y hy
    obtain ⟨c, v₀, hc, o, ho, hd⟩ := F.loc.ce hf y hy
    exact ⟨c, v₀, hc, o, (hne c ((F.cls hf).1 y c (mem_lookup hc)).1).trans ho, hd⟩
  · obtain ⟨h1, v₀, o, ho, hd⟩ := (F.cls hf).1 n c hm
    exact ⟨h1, v₀, o, (hne c h1).trans ho, hd⟩

theorem pw_ne {l : List (Str × Addr)} (h : l.Pairwise fun x y => x.2 ≠ y.2) {x y : Str} {c : Addr} (hx : l.lookup x = some c) (hy : l.lookup y = some c) : x = y := by
  induction l with
  | nil => cases hx
  | cons p r ih =>
    obtain ⟨k, d⟩ := p
    obtain ⟨h1, h2⟩ := List.pairwise_cons.mp h
    rw [List.lookup_cons] at hx hy
    cases hb : x == k with
    | true =>
      rw [hb] at hx; cases hx
      cases hc : y == k with
      | true => rw [beq_iff_eq.mp hb, beq_iff_eq.mp hc]
      | false => rw [hc] at hy; have hy' : r.lookup y = some c := hy; exact (h1 (y, c) (mem_lookup hy') rfl).elim
    | false =>
      rw [hb] at hx
      cases hc : y == k with
      | true => rw [hc] at hy; cases hy; have hx' : r.lookup x = some c := hx; exact (h1 (x, c) (mem_lookup hx') rfl).elim
      | false => rw [hc] at hy; exact ih h2 hx hy

theorem stCell {x : Str} {v : Value} {Q : Unit → Shared → Prop} (hS : Same s₀ s) (F : Fm B G env own V s.heap) (hf : env.func.isSome = true) (hA : SA V x .cell v V')
    (h : ∀ s', Same s₀ s' → Fm B G env own V' s'.heap → Q () s') : wpAny M A (storeName env x v) Q E s := by
  have hl : env.kindOf x = some .cell := let ⟨_, ho⟩ := hA.at; F.sc.knd _ ho
  obtain ⟨c, v₀, hc, hcell⟩ := F.loc.ce hf x hl
  refine wpAny_storeName_cell F.sc.kind hl hc hcell fun h' hn hs => h { s with heap := h' } hS ?_
  have hne : ∀ b, b ≠ c → h'.get? b = s.heap.get? b := hs.2
  have pc : priv env c := .inr ⟨hf, List.mem_map.mpr ⟨_, mem_lookup hc, rfl⟩⟩
  have hcl : c ≠ env.locals := ((F.cls hf).1 x c (mem_lookup hc)).1
  obtain ⟨m, ⟨om, es, ep, hom, r⟩, hx⟩ := F.loc.ns
  have Sc' := F.sc.of_names hA.names
  refine ⟨Sc', F.base, fun b o e => ?_, fun p hp => ?_, F.nodup, F.off, F.offp, F.prv, ⟨⟨m, ⟨om, es, ep, (hne _ (Ne.symm hcl)).trans hom, r⟩, ?_⟩, ?_, ?_⟩, fun _ => ⟨fun n c' hm => ?_, (F.cls hf).2⟩⟩
  · exact (hne b (fun e' => by rw [e', F.prv _ pc] at e; cases e)).trans (F.keep b o e)
  · exact (hne p.1 (fun e' => F.offp p hp (e' ▸ pc))).trans (F.has p hp)
  · intro y u hy
    rcases hA.mem F.sc.vnd hy with ⟨rfl, rfl⟩ | ⟨hyx, hy⟩
    · have := Sc'.knd _ hy
      rw [hl] at this; cases this
    · exact hx y u hy
  · intro y k u hy hk
    rcases hA.mem F.sc.vnd hy with ⟨rfl, rfl⟩ | ⟨hyx, hy⟩
    · have := Sc'.knd _ hy
      rw [hl] at this; cases this
      exact ⟨.inl rfl, c, hc, .inl ⟨hf, hn⟩⟩
    · obtain ⟨h1, c', hc', hor⟩ := F.loc.cl y k u hy hk
      refine ⟨h1, c', hc', hor.imp (fun ⟨hf, o, ho, hd⟩ => ⟨hf, o, (hne c' ?_).trans ho, hd⟩) id⟩
      exact fun e => hyx (pw_ne (F.cls hf).2 hc' (e ▸ hc))
  · intro _ y hy
    by_cases hyx : y = x
    · subst hyx; exact ⟨c, _, hc, hn⟩
    · obtain ⟨c', v', hc', o, ho, hd⟩ := F.loc.ce hf y hy
      exact ⟨c', v', hc', o, (hne c' fun e => hyx (pw_ne (F.cls hf).2 hc' (e ▸ hc))).trans ho, hd⟩
  · obtain ⟨h1, v', o, ho, hd⟩ := (F.cls hf).1 n c' hm
    by_cases e : c' = c
    · subst e; exact ⟨h1, _, hn⟩
    · exact ⟨h1, v', o, (hne c' e).trans ho, hd⟩

theorem stV {x : Str} {k : NameKind} {v : Value} {Q : Unit → Shared → Prop} (hS : Same s₀ s) (F : Fm B G env own V s.heap) (hA : SA V x k v V') (hk : k = .local ∨ (k = .cell ∧ env.func.isSome = true))
    (h : ∀ s', Same s₀ s' → Fm B G env own V' s'.heap → Q () s') : wpAny M A (storeName env x v) Q E s := by
  rcases hk with rfl | ⟨rfl, hf⟩
  · exact stLocal hS F hA h
  · exact stCell hS F hf hA h
end
theorem mem0 {α : Type} {x : α} {l : List α} : x ∈ x :: l := by simp
theorem mem1 {α : Type} {y0 x : α} {l : List α} : x ∈ y0 :: x :: l := by simp
theorem mem2 {α : Type} {y0 y1 x : α} {l : List α} : x ∈ y0 :: y1 :: x :: l := by simp
theorem mem3 {α : Type} {y0 y1 y2 x : α} {l : List α} : x ∈ y0 :: y1 :: y2 :: x :: l := by simp
theorem mem4 {α : Type} {y0 y1 y2 y3 x : α} {l : List α} : x ∈ y0 :: y1 :: y2 :: y3 :: x :: l := by simp
theorem mem5 {α : Type} {y0 y1 y2 y3 y4 x : α} {l : List α} : x ∈ y0 :: y1 :: y2 :: y3 :: y4 :: x :: l := by simp
theorem mem6 {α : Type} {y0 y1 y2 y3 y4 y5 x : α} {l : List α} : x ∈ y0 :: y1 :: y2 :: y3 :: y4 :: y5 :: x :: l := by simp
theorem mem7 {α : Type} {y0 y1 y2 y3 y4 y5 y6 x : α} {l : List α} : x ∈ y0 :: y1 :: y2 :: y3 :: y4 :: y5 :: y6 :: x :: l := by simp
theorem mem8 {α : Type} {y0 y1 y2 y3 y4 y5 y6 y7 x : α} {l : List α} : x ∈ y0 :: y1 :: y2 :: y3 :: y4 :: y5 :: y6 :: y7 :: x :: l := by simp
theorem mem9 {α : Type} {y0 y1 y2 y3 y4 y5 y6 y7 y8 x : α} {l : List α} : x ∈ y0 :: y1 :: y2 :: y3 :: y4 :: y5 :: y6 :: y7 :: y8 :: x :: l := by simp
theorem mem10 {α : Type} {y0 y1 y2 y3 y4 y5 y6 y7 y8 y9 x : α} {l : List α} : x ∈ y0 :: y1 :: y2 :: y3 :: y4 :: y5 :: y6 :: y7 :: y8 :: y9 :: x :: l := by simp
theorem mem11 {α : Type} {y0 y1 y2 y3 y4 y5 y6 y7 y8 y9 y10 x : α} {l : List α} : x ∈ y0 :: y1 :: y2 :: y3 :: y4 :: y5 :: y6 :: y7 :: y8 :: y9 :: y10 :: x :: l := by simp
theorem mem12 {α : Type} {y0 y1 y2 y3 y4 y5 y6 y7 y8 y9 y10 y11 x : α} {l : List α} : x ∈ y0 :: y1 :: y2 :: y3 :: y4 :: y5 :: y6 :: y7 :: y8 :: y9 :: y10 :: y11 :: x :: l := by simp
theorem mem13 {α : Type} {y0 y1 y2 y3 y4 y5 y6 y7 y8 y9 y10 y11 y12 x : α} {l : List α} : x ∈ y0 :: y1 :: y2 :: y3 :: y4 :: y5 :: y6 :: y7 :: y8 :: y9 :: y10 :: y11 :: y12 :: x :: l := by simp
theorem mem14 {α : Type} {y0 y1 y2 y3 y4 y5 y6 y7 y8 y9 y10 y11 y12 y13 x : α} {l : List α} : x ∈ y0 :: y1 :: y2 :: y3 :: y4 :: y5 :: y6 :: y7 :: y8 :: y9 :: y10 :: y11 :: y12 :: y13 :: x :: l := by simp
theorem mem15 {α : Type} {y0 y1 y2 y3 y4 y5 y6 y7 y8 y9 y10 y11 y12 y13 y14 x : α} {l : List α} : x ∈ y0 :: y1 :: y2 :: y3 :: y4 :: y5 :: y6 :: y7 :: y8 :: y9 :: y10 :: y11 :: y12 :: y13 :: y14 :: x :: l := by simp
theorem mem16 {α : Type} {y0 y1 y2 y3 y4 y5 y6 y7 y8 y9 y10 y11 y12 y13 y14 y15 x : α} {l : List α} : x ∈ y0 :: y1 :: y2 :: y3 :: y4 :: y5 :: y6 :: y7 :: y8 :: y9 :: y10 :: y11 :: y12 :: y13 :: y14 :: y15 :: x :: l := by simp
theorem mem17 {α : Type} {y0 y1 y2 y3 y4 y5 y6 y7 y8 y9 y10 y11 y12 y13 y14 y15 y16 x : α} {l : List α} : x ∈ y0 :: y1 :: y2 :: y3 :: y4 :: y5 :: y6 :: y7 :: y8 :: y9 :: y10 :: y11 :: y12 :: y13 :: y14 :: y15 :: y16 :: x :: l := by simp
theorem mem18 {α : Type} {y0 y1 y2 y3 y4 y5 y6 y7 y8 y9 y10 y11 y12 y13 y14 y15 y16 y17 x : α} {l : List α} : x ∈ y0 :: y1 :: y2 :: y3 :: y4 :: y5 :: y6 :: y7 :: y8 :: y9 :: y10 :: y11 :: y12 :: y13 :: y14 :: y15 :: y16 :: y17 :: x :: l := by simp
theorem mem19 {α : Type} {y0 y1 y2 y3 y4 y5 y6 y7 y8 y9 y10 y11 y12 y13 y14 y15 y16 y17 y18 x : α} {l : List α} : x ∈ y0 :: y1 :: y2 :: y3 :: y4 :: y5 :: y6 :: y7 :: y8 :: y9 :: y10 :: y11 :: y12 :: y13 :: y14 :: y15 :: y16 :: y17 :: y18 :: x :: l := by simp
theorem sa0 {post : Vars} {x : Str} {k : NameKind} {o : Option Value} {v : Value} : SA ((x, k, o) :: post) x k v ((x, k, some v) :: post) := SA.mk []
theorem sa1 {y0 : Str × NameKind × Option Value} {post : Vars} {x : Str} {k : NameKind} {o : Option Value} {v : Value} : SA (y0 :: (x, k, o) :: post) x k v (y0 :: (x, k, some v) :: post) := SA.mk [y0]
theorem sa2 {y0 y1 : Str × NameKind × Option Value} {post : Vars} {x : Str} {k : NameKind} {o : Option Value} {v : Value} : SA (y0 :: y1 :: (x, k, o) :: post) x k v (y0 :: y1 :: (x, k, some v) :: post) := SA.mk [y0, y1]
theorem sa3 {y0 y1 y2 : Str × NameKind × Option Value} {post : Vars} {x : Str} {k : NameKind} {o : Option Value} {v : Value} : SA (y0 :: y1 :: y2 :: (x, k, o) :: post) x k v (y0 :: y1 :: y2 :: (x, k, some v) :: post) := SA.mk [y0, y1, y2]
theorem sa4 {y0 y1 y2 y3 : Str × NameKind × Option Value} {post : Vars} {x : Str} {k : NameKind} {o : Option Value} {v : Value} : SA (y0 :: y1 :: y2 :: y3 :: (x, k, o) :: post) x k v (y0 :: y1 :: y2 :: y3 :: (x, k, some v) :: post) := SA.mk [y0, y1, y2, y3]
theorem sa5 {y0 y1 y2 y3 y4 : Str × NameKind × Option Value} {post : Vars} {x : Str} {k : NameKind} {o : Option Value} {v : Value} : SA (y0 :: y1 :: y2 :: y3 :: y4 :: (x, k, o) :: post) x k v (y0 :: y1 :: y2 :: y3 :: y4 :: (x, k, some v) :: post) := SA.mk [y0, y1, y2, y3, y4]
theorem sa6 {y0 y1 y2 y3 y4 y5 : Str × NameKind × Option Value} {post : Vars} {x : Str} {k : NameKind} {o : Option Value} {v : Value} : SA (y0 :: y1 :: y2 :: y3 :: y4 :: y5 :: (x, k, o) :: post) x k v (y0 :: y1 :: y2 :: y3 :: y4 :: y5 :: (x, k, some v) :: post) := SA.mk [y0, y1, y2, y3, y4, y5]
theorem sa7 {y0 y1 y2 y3 y4 y5 y6 : Str × NameKind × Option Value} {post : Vars} {x : Str} {k : NameKind} {o : Option Value} {v : Value} : SA (y0 :: y1 :: y2 :: y3 :: y4 :: y5 :: y6 :: (x, k, o) :: post) x k v (y0 :: y1 :: y2 :: y3 :: y4 :: y5 :: y6 :: (x, k, some v) :: post) := SA.mk [y0, y1, y2, y3, y4, y5, y6]
theorem sa8 {y0 y1 y2 y3 y4 y5 y6 y7 : Str × NameKind × Option Value} {post : Vars} {x : Str} {k : NameKind} {o : Option Value} {v : Value} : SA (y0 :: y1 :: y2 :: y3 :: y4 :: y5 :: y6 :: y7 :: (x, k, o) :: post) x k v (y0 :: y1 :: y2 :: y3 :: y4 :: y5 :: y6 :: y7 :: (x, k, some v) :: post) := SA.mk [y0, y1, y2, y3, y4, y5, y6, y7]
theorem sa9 {y0 y1 y2 y3 y4 y5 y6 y7 y8 : Str × NameKind × Option Value} {post : Vars} {x : Str} {k : NameKind} {o : Option Value} {v : Value} : SA (y0 :: y1 :: y2 :: y3 :: y4 :: y5 :: y6 :: y7 :: y8 :: (x, k, o) :: post) x k v (y0 :: y1 :: y2 :: y3 :: y4 :: y5 :: y6 :: y7 :: y8 :: (x, k, some v) :: post) := SA.mk [y0, y1, y2, y3, y4, y5, y6, y7, y8]
theorem sa10 {y0 y1 y2 y3 y4 y5 y6 y7 y8 y9 : Str × NameKind × Option Value} {post : Vars} {x : Str} {k : NameKind} {o : Option Value} {v : Value} : SA (y0 :: y1 :: y2 :: y3 :: y4 :: y5 :: y6 :: y7 :: y8 :: y9 :: (x, k, o) :: post) x k v (y0 :: y1 :: y2 :: y3 :: y4 :: y5 :: y6 :: y7 :: y8 :: y9 :: (x, k, some v) :: post) := SA.mk [y0, y1, y2, y3, y4, y5, y6, y7, y8, y9]
theorem sa11 {y0 y1 y2 y3 y4 y5 y6 y7 y8 y9 y10 : Str × NameKind × Option Value} {post : Vars} {x : Str} {k : NameKind} {o : Option Value} {v : Value} : SA (y0 :: y1 :: y2 :: y3 :: y4 :: y5 :: y6 :: y7 :: y8 :: y9 :: y10 :: (x, k, o) :: post) x k v (y0 :: y1 :: y2 :: y3 :: y4 :: y5 :: y6 :: y7 :: y8 :: y9 :: y10 :: (x, k, some v) :: post) := SA.mk [y0, y1, y2, y3, y4, y5, y6, y7, y8, y9, y10]
theorem sa12 {y0 y1 y2 y3 y4 y5 y6 y7 y8 y9 y10 y11 : Str × NameKind × Option Value} {post : Vars} {x : Str} {k : NameKind} {o : Option Value} {v : Value} : SA (y0 :: y1 :: y2 :: y3 :: y4 :: y5 :: y6 :: y7 :: y8 :: y9 :: y10 :: y11 :: (x, k, o) :: post) x k v (y0 :: y1 :: y2 :: y3 :: y4 :: y5 :: y6 :: y7 :: y8 :: y9 :: y10 :: y11 :: (x, k, some v) :: post) := SA.mk [y0, y1, y2, y3, y4, y5, y6, y7, y8, y9, y10, y11]
theorem sa13 {y0 y1 y2 y3 y4 y5 y6 y7 y8 y9 y10 y11 y12 : Str × NameKind × Option Value} {post : Vars} {x : Str} {k : NameKind} {o : Option Value} {v : Value} : SA (y0 :: y1 :: y2 :: y3 :: y4 :: y5 :: y6 :: y7 :: y8 :: y9 :: y10 :: y11 :: y12 :: (x, k, o) :: post) x k v (y0 :: y1 :: y2 :: y3 :: y4 :: y5 :: y6 :: y7 :: y8 :: y9 :: y10 :: y11 :: y12 :: (x, k, some v) :: post) := SA.mk [y0, y1, y2, y3, y4, y5, y6, y7, y8, y9, y10, y11, y12]
theorem sa14 {y0 y1 y2 y3 y4 y5 y6 y7 y8 y9 y10 y11 y12 y13 : Str × NameKind × Option Value} {post : Vars} {x : Str} {k : NameKind} {o : Option Value} {v : Value} : SA (y0 :: y1 :: y2 :: y3 :: y4 :: y5 :: y6 :: y7 :: y8 :: y9 :: y10 :: y11 :: y12 :: y13 :: (x, k, o) :: post) x k v (y0 :: y1 :: y2 :: y3 :: y4 :: y5 :: y6 :: y7 :: y8 :: y9 :: y10 :: y11 :: y12 :: y13 :: (x, k, some v) :: post) := SA.mk [y0, y1, y2, y3, y4, y5, y6, y7, y8, y9, y10, y11, y12, y13]
theorem sa15 {y0 y1 y2 y3 y4 y5 y6 y7 y8 y9 y10 y11 y12 y13 y14 : Str × NameKind × Option Value} {post : Vars} {x : Str} {k : NameKind} {o : Option Value} {v : Value} : SA (y0 :: y1 :: y2 :: y3 :: y4 :: y5 :: y6 :: y7 :: y8 :: y9 :: y10 :: y11 :: y12 :: y13 :: y14 :: (x, k, o) :: post) x k v (y0 :: y1 :: y2 :: y3 :: y4 :: y5 :: y6 :: y7 :: y8 :: y9 :: y10 :: y11 :: y12 :: y13 :: y14 :: (x, k, some v) :: post) := SA.mk [y0, y1, y2, y3, y4, y5, y6, y7, y8, y9, y10, y11, y12, y13, y14]
end Mine
end F1
section F2
set_option maxRecDepth 100000
namespace Mine

structure Sta (K : Frag) (B : Heap) : Prop where
  K : K.In B
  names : ∃ mg mb, B.Ns mainGlobals mg ∧ B.Ns builtinsNs mb ∧ ∀ x : Str, x ≠ "__name__" → mb x = bootBuiltins x
  nolimit : B.NoLimit

theorem Sta.of_top {K : Frag} {B : Heap} {p : Program} {loose : List Str} {mean : ExcName → Option Value} {mg mb : Str → Option Value} (X : K.In B) (T : Top p loose mean mg mb B) : Sta K B :=
  ⟨X, ⟨mg, mb, T.g, T.b, T.builtins⟩, T.nolimit⟩

/-- room for n more frames, and no exception at hand -/
structure Room (A : Around) (n : Nat) : Prop where
  handled : A.handled = none
  depth : A.depth + n < recursionLimit
  units : A.units + 64 * n < cLine

theorem Room.deeper {A : Around} {n : Nat} (R : Room A (n + 1)) (env : Env) : Room (A.deeper env) n := ⟨R.handled, by have := R.depth; show A.depth + 1 + n < _; lia, by have := R.units; show A.units + 3 + 64 * n < _; lia⟩
theorem Room.less {A : Around} {n m : Nat} (R : Room A n) (h : m ≤ n) : Room A m := ⟨R.handled, by have := R.depth; lia, by have := R.units; lia⟩
theorem Room.in1 {A : Around} {n : Nat} (R : Room A (n + 1)) : Room A.in1 n := ⟨R.handled, by have := R.depth; show A.depth + n < _; lia, by have := R.units; show A.units + 1 + 64 * n < _; lia⟩

section
variable {prog : Program} {w : World} {K : Frag} {B G : Heap} {env : Env} {own : List (Addr × Obj)} {V : Vars} {M : Model} {A : Around} {E : Value → Shared → Prop} {s : Shared}

theorem Fm.inB (F : Fm B G env own V s.heap) (b o) (e : B.get? b = some o) : s.heap.get? b = some o := F.keep b o (F.base b o e)
theorem Fm.inK {h : Heap} (F : Fm B G env own V h) (S : Sta K B) : K.In h := S.K.keeps fun b o e => F.keep b o (F.base b o e)

theorem ldG {x : Str} {pos : Pos} {v : Value} {Q : Value → Shared → Prop} (S : Sta K B) (F : Fm B G env own V s.heap) (e : nsIn K mainGlobals x = some (some v)) (hx : (x, .globalImplicit, none) ∈ V) (h : Q v s) :
    wpAny M A (eval (.Name x pos) env) Q E s := by
  obtain ⟨mg, mb, h1, h2, h3⟩ := S.names
  exact Calls.Name_function_global F.sc.kind (F.sc.knd _ hx) (Calls.loadGlobal_global (by rw [F.sc.glob]; exact h1.keeps F.inB) (mg_of S.K h1 e) h) (F.sc.dbg _ hx).1
theorem ldB {x : Str} {pos : Pos} {v : Value} {Q : Value → Shared → Prop} (S : Sta K B) (F : Fm B G env own V s.heap) (e : nsIn K mainGlobals x = some none) (hv : x ≠ "__name__" ∧ bootBuiltins x = some v) (hx : (x, .globalImplicit, none) ∈ V) (h : Q v s) :
    wpAny M A (eval (.Name x pos) env) Q E s := by
  obtain ⟨mg, mb, h1, h2, h3⟩ := S.names
  exact Calls.Name_function_global F.sc.kind (F.sc.knd _ hx) (Calls.loadGlobal_builtin (by rw [F.sc.glob]; exact h1.keeps F.inB) (mg_none_of S.K h1 e) (by rw [F.sc.bui]; exact h2.keeps F.inB) ((h3 x hv.1).trans hv.2) h) (F.sc.dbg _ hx).1

/-- the evaluation of plain arguments, one behind the other -/
theorem callK {pos : Pos} {f : Value} {first : List Value} {e : Expr} {rest : List Expr} {Q : Value → Shared → Prop} (hk : keepIn K f = true)
    (h : wpAny M A (spliced (backTo pos (starEach (e :: rest) env))) (fun vs s₁ => K.In s₁.heap ∧ wpAny M A (call f (first ++ vs)) Q E s₁) E s)
    (he : starEach (e :: rest) env = (false, eval e env) :: starEach rest env := by rfl) (hplain : (backTo pos (starEach rest env)).any (·.1) = false := by rfl) :
    wpAny M A (callWith pos f first (backTo pos (starEach (e :: rest) env)) []) Q E s := by
  rw [he] at h ⊢
  exact callWith_of (by show ((false || (backTo pos (starEach rest env)).any (·.1)) || false) = false; rw [hplain]; rfl) (keeps_K hk) (Calls.evalArgs_plain h)

theorem bindV {kindOf : Str → Option NameKind} : ∀ (binds : List (Str × Value)) (m c : Str → Option Value), (binds.map (·.1)).Nodup → ∀ x v, binds.lookup x = some v →
    (kindOf x = some .local → bindL kindOf binds m x = some v) ∧ (kindOf x ≠ some .local → bindC kindOf binds c x = some v)
  | [], _, _, _, x, v, e => by cases e
  | (n, u) :: r, m, c, hnd, x, v, e => by
    have hnd' := List.nodup_cons.mp (by simpa using hnd : (n :: r.map (·.1)).Nodup)
    rw [List.lookup_cons] at e
    unfold bindL bindC
    cases hb : x == n with
    | false => rw [hb] at e; exact bindV r _ _ hnd'.2 x v e
    | true =>
      rw [hb] at e; cases e
      obtain rfl : n = x := (beq_iff_eq.mp hb).symm
      have other : ∀ (r : List (Str × Value)) (m c : Str → Option Value), n ∉ r.map (·.1) → bindL kindOf r m n = m n ∧ bindC kindOf r c n = c n := by
        intro r
        induction r with
        | nil => intro m c _; exact ⟨rfl, rfl⟩
        | cons p r ih =>
          obtain ⟨n', u'⟩ := p
          intro m c hx
          simp only [List.map_cons, List.mem_cons, not_or] at hx
          unfold bindL bindC
          obtain ⟨h1, h2⟩ := ih (if kindOf n' = some .local then fun y => if y = n' then some u' else m y else m) (if kindOf n' = some .local then c else fun y => if y = n' then some u' else c y) hx.2
          rw [h1, h2]
          refine ⟨?_, ?_⟩ <;> split <;> simp [hx.1]
      obtain ⟨h1, h2⟩ := other r (if kindOf n = some .local then fun y => if y = n then some u else m y else m) (if kindOf n = some .local then c else fun y => if y = n then some u else c y) hnd'.1
      rw [h1, h2]
      exact ⟨fun hk => by simp [hk], fun hk => by simp [hk]⟩

theorem cellsFrom_mem : ∀ (names : List (Str × NameKind)) (n : Nat) (acc : List (Str × Addr)) (x : Str), (∃ c, (cellsFrom n names acc).lookup x = some c) ↔ ((names.any fun y => y.1 == x && y.2 == .cell) = true ∨ ∃ c, acc.lookup x = some c)
  | [], n, acc, x => by simp [cellsFrom]
  | (y, k) :: r, n, acc, x => by
    unfold cellsFrom
    split
    · rename_i hk
      rw [cellsFrom_mem r (n + 1) _ x, List.lookup_cons, List.any_cons]
      cases hb : x == y with
      | true => have : (y == x) = true := by rw [beq_iff_eq] at hb ⊢; exact hb.symm
                simp [this, hk]
      | false => have : (y == x) = false := by rw [beq_eq_false_iff_ne] at hb ⊢; exact fun e => hb e.symm
                 simp [this]
    · rename_i hk
      rw [cellsFrom_mem r n _ x, List.any_cons]
      simp [hk]

noncomputable def initV : List (Str × NameKind) → List (Str × Value) → Vars
  | (x, k) :: r, (_, v) :: b => (x, k, some v) :: initV r b
  | (x, k) :: r, [] => (x, k, none) :: initV r []
  | [], _ => []
theorem initV_names : ∀ (names : List (Str × NameKind)) (binds : List (Str × Value)), (initV names binds).map (fun p => (p.1, p.2.1)) = names
  | [], _ => by simp [initV]
  | (x, k) :: r, [] => by simp [initV, initV_names r []]
  | (x, k) :: r, (_, v) :: b => by simp [initV, initV_names r b]
def preOf : List (Str × NameKind) → List (Str × Value) → Prop
  | (x, k) :: r, (y, _) :: b => x = y ∧ (k = .local ∨ k = .cell) ∧ preOf r b
  | _, [] => True
  | [], _ :: _ => False
theorem initV_mem : ∀ {names : List (Str × NameKind)} {binds : List (Str × Value)}, preOf names binds → ∀ {x k v}, (x, k, some v) ∈ initV names binds → (x, v) ∈ binds
  | [], _, _, _, _, _, h => by simp [initV] at h
  | (x', k') :: r, [], hp, x, k, v, h => by
    simp only [initV, List.mem_cons] at h
    rcases h with h | h
    · cases h
    · have := initV_mem (names := r) (binds := []) (by cases r <;> trivial) h; cases this
  | (x', k') :: r, (y, u) :: b, hp, x, k, v, h => by
    simp only [initV, List.mem_cons] at h
    rcases h with h | h
    · cases h; rw [hp.1]; exact List.mem_cons_self
    · exact List.mem_cons_of_mem _ (initV_mem hp.2.2 h)
theorem preOf.kinds : ∀ {names : List (Str × NameKind)} {binds : List (Str × Value)}, preOf names binds → ∀ y ∈ binds, ∃ k, (y.1, k) ∈ names ∧ (k = .local ∨ k = .cell)
  | _, [], _, _, h => nomatch h
  | (x, k) :: r, (z, u) :: b, hp, y, h => by
    rcases List.mem_cons.mp h with rfl | h
    · exact ⟨k, by rw [hp.1]; exact List.mem_cons_self, hp.2.1⟩
    · obtain ⟨k, h1, h2⟩ := preOf.kinds hp.2.2 y h; exact ⟨k, List.mem_cons_of_mem _ h1, h2⟩
theorem preOf.nodup : ∀ {names : List (Str × NameKind)} {binds : List (Str × Value)}, preOf names binds → (names.map (·.1)).Nodup → (binds.map (·.1)).Nodup ∧ ∀ y ∈ binds, y.1 ∈ names.map (·.1)
  | _, [], _, _ => ⟨.nil, fun _ h => nomatch h⟩
  | (x, k) :: r, (z, u) :: b, hp, hn => by
    have hn' := List.nodup_cons.mp (by simpa using hn : (x :: r.map (·.1)).Nodup)
    obtain ⟨h1, h2⟩ := preOf.nodup hp.2.2 hn'.2
    have hxz : x = z := hp.1
    refine ⟨?_, fun y hy => ?_⟩
    · rw [List.map_cons]
      refine List.nodup_cons.mpr ⟨fun hm => ?_, h1⟩
      obtain ⟨y, hy, e⟩ := List.mem_map.mp hm
      have h9 := h2 y hy
      rw [e] at h9
      exact hn'.1 (hxz ▸ h9)
    · rcases List.mem_cons.mp hy with rfl | hy
      · simp [hxz]
      · exact List.mem_cons_of_mem _ (h2 y hy)
theorem lookup_of_mem {α : Type} : ∀ {l : List (Str × α)} {x : Str} {v : α}, (l.map (·.1)).Nodup → (x, v) ∈ l → l.lookup x = some v
  | (y, u) :: r, x, v, hn, h => by
    have hn' := List.nodup_cons.mp (by simpa using hn : (y :: r.map (·.1)).Nodup)
    rw [List.lookup_cons]
    rcases List.mem_cons.mp h with e | h'
    · cases e; simp
    · have : (x == y) = false := by
        rw [beq_eq_false_iff_ne]; rintro rfl; exact hn'.1 (List.mem_map_of_mem (f := fun p : Str × α => p.1) h')
      rw [this]; exact lookup_of_mem hn'.2 h'

/-- a def is entered: its frame over any frozen part of the heap -/
theorem enter0 {R : Result → Shared → Prop} {name qual : Str} {params : Arguments} {body : List Stmt} {scope : Scope} {dV kV doc pm cdv ct oc : Value} {an od : Option Addr} {osl : Array (Option Value)} {f : Addr} {args : Args} {binds : List (Str × Value)}
    (S : Sta K B) (hBG : ∀ b o, B.get? b = some o → G.get? b = some o) (hG : ∀ b o, G.get? b = some o → s.heap.get? b = some o)
    (hown : ∀ p ∈ own, s.heap.get? p.1 = some p.2 ∧ G.get? p.1 = none) (hnd : (own.map (·.1)).Nodup)
    (ho : K.lookup f = some ⟨oc, od, .func (fnOf name qual params body scope dV kV doc pm an cdv ct), osl⟩) (hcd : codeIn K cdv qual = true) {n : Nat} (Rm : Room A (n + 1))
    (hbind : BindsTo s (fnOf name qual params body scope dV kV doc pm an cdv ct) args binds)
    (h : ∀ L s₁, Same s s₁ → (∀ b o, s.heap.get? b = some o → s₁.heap.get? b = some o) → s.heap.get? L = none → Fm B G (envOfC qual scope L f cdv) own (initV scope.names binds) s₁.heap → Room (A.deeper (envOfC qual scope L f cdv)) n →
      wpAny (model prog w) (A.deeper (envOfC qual scope L f cdv)) (execs body (envOfC qual scope L f cdv))
        (fun fl s' => R (.ok (.ret (match fl with | .ret v => v | _ => .none))) s')
        (fun e s' => wpAny (model prog w) (A.deeper (envOfC qual scope L f cdv)) (leaving (envOfC qual scope L f cdv) e) (fun _ s'' => R (.error e) s'') (fun e' s'' => R (.error e') s'') s')
        s₁)
    (hpre : preOf scope.names binds) (hcn : (scope.names.map (·.1)).Nodup) (hdb : (scope.names.all fun p => !(p.1 == ("__debug__" : Str)) && !(p.1 == ("__classdict__" : Str))) = true)
    (hco : scope.isCoroutine = false) (hgen : scope.isGenerator = false) (hk : scope.kind = .function) :
    codeAny (model prog w) A (.call (.ref f) args) R s := by
  have hB : ∀ b o, B.get? b = some o → s.heap.get? b = some o := fun b o e => hG b o (hBG b o e)
  obtain ⟨hbn, hbm⟩ := hpre.nodup hcn
  have hkinds : (binds.all fun y => scope.names.lookup y.1 == some .local || scope.names.lookup y.1 == some .cell) = true := by
    rw [List.all_eq_true]
    intro y hy
    obtain ⟨k, hm, hk⟩ := hpre.kinds y hy
    rw [lookup_of_mem hcn hm]
    rcases hk with rfl | rfl <;> rfl
  refine codeAny_call_function (by have := Rm.depth; lia) (hB _ _ (S.K _ _ ho)) rfl hco hgen rfl (codeRec_of (S.K.keeps hB) hcd) (hbind _ _ _ _ ?_)
  refine wpAny_newFunctionEnv_cells hk (kindsX hkinds _) fun env' he s' x => ?_
  subst he
  refine ⟨(S.nolimit.keeps hB).keeps x.toInCall.keep, codeAny_func ?_⟩
  obtain ⟨h₁, tk, rfl, _⟩ := x.done
  have hk₁ := x.toInCall.keep
  have hL : s.heap.get? s.heap.objs.size = none := get_size _
  have hfr : ∀ {b o}, G.get? b = some o → b < s.heap.objs.size := fun e => Heap.lt_size (hG _ _ e)
  have hadr : ∀ {n c}, (n, c) ∈ cellsFrom (s.heap.objs.size + 1) scope.names [] → s.heap.objs.size < c := fun hm => x.above _ _ hm
  have hnames := initV_names scope.names binds
  have hmem : ∀ p ∈ initV scope.names binds, (p.1, p.2.1) ∈ scope.names := fun p hp => by
    have := List.mem_map_of_mem (f := fun p : Str × NameKind × Option Value => (p.1, p.2.1)) hp
    rwa [hnames] at this
  have SC : Sc (envOfC qual scope s.heap.objs.size f cdv) (initV scope.names binds) := by
    refine ⟨hk, rfl, rfl, ?_, fun p hp => lookup_of_mem hcn (hmem p hp), fun p hp => ?_⟩
    · have := congrArg (List.map Prod.fst) hnames
      rw [List.map_map] at this
      exact this ▸ hcn
    · have := List.all_eq_true.mp hdb _ (hmem p hp)
      simpa using this
  have hval : ∀ {y k v}, (y, k, some v) ∈ initV scope.names binds → binds.lookup y = some v := fun hm => lookup_of_mem hbn (initV_mem hpre hm)
  refine h _ { s with heap := h₁, toks := tk } ⟨rfl, rfl, rfl⟩ hk₁ hL ⟨SC, hBG, fun b o e => hk₁ b o (hG b o e), fun p hp => hk₁ _ _ (hown p hp).1, hnd, fun p hp => (hown p hp).2, ?_, ?_, ⟨⟨_, x.toInCall.ns, ?_⟩, ?_, ?_⟩, fun _ => ⟨?_, x.apart⟩⟩ (Rm.deeper _)
  · rintro p hp (e | ⟨_, hm⟩)
    · have := (hown p hp).1
      rw [e, show (envOfC qual scope s.heap.objs.size f cdv).locals = s.heap.objs.size from rfl, hL] at this
      cases this
    · obtain ⟨⟨n, c⟩, hm, he⟩ := List.mem_map.mp hm
      have h1 := hadr hm
      have h2 := Heap.lt_size (hown p hp).1
      rw [← he] at h2
      exact Nat.lt_irrefl _ (Nat.lt_trans h1 h2)
  · rintro a (e | ⟨_, hm⟩)
    · cases q : G.get? a with
      | none => rfl
      | some o => have := hfr q; rw [e] at this; exact absurd this (Nat.lt_irrefl _)
    · obtain ⟨⟨n, c⟩, hm, he⟩ := List.mem_map.mp hm
      have h1 := hadr hm
      cases q : G.get? a with
      | none => rfl
      | some o => have h2 := hfr q; rw [← he] at h2; exact absurd (Nat.lt_trans h1 h2) (Nat.lt_irrefl _)
  · intro y v hy
    exact (bindV binds (fun _ => none) (fun _ => none) hbn y v (hval hy)).1 (SC.knd _ hy)
  · intro y k v hy hl
    have hcell : scope.names.lookup y = some .cell := by
      have hkk := List.all_eq_true.mp hkinds _ (mem_lookup (hval hy))
      have h9 : scope.names.lookup y = some k := SC.knd _ hy
      rcases Bool.or_eq_true_iff.mp hkk with q | q
      · rw [h9] at q; exact absurd (Option.some.inj (beq_iff_eq.mp q)) hl
      · exact beq_iff_eq.mp q
    have hkc : k = .cell := by
      have h9 : scope.names.lookup y = some k := SC.knd _ hy
      rw [h9] at hcell; exact Option.some.inj hcell
    obtain ⟨c, hc⟩ := (cellsFrom_mem scope.names (s.heap.objs.size + 1) [] y).mpr (.inl (by
      rw [List.any_eq_true]; exact ⟨(y, .cell), mem_lookup hcell, by simp⟩))
    refine ⟨.inl hkc, c, hc, .inl ⟨rfl, ?_⟩⟩
    have := x.cell y c hc
    have hq := (bindV binds (kindOf := (envOfC qual scope s.heap.objs.size f cdv).kindOf) (fun _ => none) (fun _ => none) hbn y v (hval hy)).2 (by
      show scope.names.lookup y ≠ some .local
      rw [hcell]; decide)
    exact hq ▸ this
  · intro _ y hy
    obtain ⟨c, hc⟩ := (cellsFrom_mem scope.names (s.heap.objs.size + 1) [] y).mpr (.inl (by
      rw [List.any_eq_true]; exact ⟨(y, .cell), mem_lookup hy, by simp⟩))
    exact ⟨c, _, hc, x.cell y c hc⟩
  · intro n c hm
    have hnn : ((cellsFrom (s.heap.objs.size + 1) scope.names []).map (·.1)).Nodup := by
      have hs : ∀ (names : List (Str × NameKind)) (n : Nat) (acc : List (Str × Addr)), (names.map (·.1)).Nodup → (acc.map (·.1)).Nodup → (∀ a ∈ acc.map (·.1), a ∉ names.map (·.1)) → ((cellsFrom n names acc).map (·.1)).Nodup := by
        intro names
        induction names with
        | nil => intro n acc _ h2 _; exact h2
        | cons p r ih =>
          obtain ⟨y, k⟩ := p
          intro n acc h1 h2 h3
          simp only [List.map_cons, List.nodup_cons] at h1
          unfold cellsFrom
          split
          · refine ih _ _ h1.2 ?_ ?_
            · simp only [List.map_cons, List.nodup_cons]; exact ⟨fun hm => h3 y hm (by simp), h2⟩
            · intro a ha; simp only [List.map_cons, List.mem_cons] at ha
              rcases ha with rfl | ha
              · exact h1.1
              · exact fun hm => h3 a ha (by simp [hm])
          · exact ih _ _ h1.2 h2 fun a ha hm => h3 a ha (by simp [hm])
      exact hs _ _ _ hcn .nil (fun _ h => nomatch h)
    exact ⟨Nat.ne_of_gt (hadr hm), _, x.cell n c (lookup_of_mem_nodup hnn hm)⟩

/-- a def that raises nothing: its environment and what stands around are letters -/
theorem enter {R : Result → Shared → Prop} {name qual : Str} {params : Arguments} {body : List Stmt} {scope : Scope} {dV kV doc pm cdv ct oc : Value} {an od : Option Addr} {osl : Array (Option Value)} {f : Addr} {args : Args} {binds : List (Str × Value)}
    (own : List (Addr × Obj)) (S : Sta K B) (hBG : ∀ b o, B.get? b = some o → G.get? b = some o) (hG : ∀ b o, G.get? b = some o → s.heap.get? b = some o)
    (hown : ∀ p ∈ own, s.heap.get? p.1 = some p.2 ∧ G.get? p.1 = none) (hnd : (own.map (·.1)).Nodup)
    (ho : K.lookup f = some ⟨oc, od, .func (fnOf name qual params body scope dV kV doc pm an cdv ct), osl⟩) (hcd : codeIn K cdv qual = true) {n : Nat} (Rm : Room A (n + 1))
    (hbind : BindsTo s (fnOf name qual params body scope dV kV doc pm an cdv ct) args binds)
    (h : ∀ env A' s₁, env.func.isSome = true → Same s s₁ → (∀ b o, s.heap.get? b = some o → s₁.heap.get? b = some o) → Fm B G env own (initV scope.names binds) s₁.heap → Room A' n →
      wpAny (model prog w) A' (execs body env) (fun fl s' => R (.ok (.ret (match fl with | .ret v => v | _ => .none))) s') (fun _ _ => False) s₁)
    (hpre : preOf scope.names binds) (hcn : (scope.names.map (·.1)).Nodup) (hdb : (scope.names.all fun p => !(p.1 == ("__debug__" : Str)) && !(p.1 == ("__classdict__" : Str))) = true)
    (hco : scope.isCoroutine = false) (hgen : scope.isGenerator = false) (hk : scope.kind = .function) :
    codeAny (model prog w) A (.call (.ref f) args) R s :=
  enter0 S hBG hG hown hnd ho hcd Rm hbind (fun _ s₁ hS hk _ F R' => wpAny_mono (h _ _ s₁ rfl hS hk F R') (fun _ _ x => x) fun _ _ x => x.elim) hpre hcn hdb hco hgen hk
end
end Mine
end F2
section F3
set_option maxRecDepth 100000
namespace Mine

theorem iteT {c : Prop} [Decidable c] {P Q : Prop} (hc : c) (h : P) : if c then P else Q := by rw [if_pos hc]; exact h
theorem iteF {c : Prop} [Decidable c] {P Q : Prop} (hc : ¬ c) (h : Q) : if c then P else Q := by rw [if_neg hc]; exact h
theorem iteS {c : Prop} [Decidable c] {P Q : Prop} (h1 : c → P) (h2 : ¬ c → Q) : if c then P else Q := by split; exact h1 ‹_›; exact h2 ‹_›
def LO (o : Obj) (items : List Value) : Prop := o.cls = .type "list" ∧ ∃ n, o.data = .seq items.toArray n
def TO (o : Obj) (items : List Value) : Prop := o.cls = .type "tuple" ∧ ∃ n, o.data = .seq items.toArray n
theorem LO.at {o : Obj} {items : List Value} {h : Heap} {a : Addr} (e : h.get? a = some o) (L : LO o items) : h.IsList a items.toArray := ⟨o, e, L.1, L.2⟩
theorem TO.at {o : Obj} {items : List Value} {h : Heap} {a : Addr} (e : h.get? a = some o) (L : TO o items) : h.IsTuple a items.toArray := ⟨o, e, L.1, L.2⟩
theorem LO.mk (items : List Value) : LO { cls := .type "list", data := .seq items.toArray } items := ⟨rfl, _, rfl⟩
theorem TO.mk (items : List Value) : TO { cls := .type "tuple", data := .seq items.toArray } items := ⟨rfl, _, rfl⟩

/-- the owned objects with one at a new state -/
inductive OA : List (Addr × Obj) → Addr → Obj → Obj → List (Addr × Obj) → Prop
  | mk (pre : List (Addr × Obj)) {post : List (Addr × Obj)} {a : Addr} {o o' : Obj} : OA (pre ++ (a, o) :: post) a o o' (pre ++ (a, o') :: post)
theorem oa0 {post : List (Addr × Obj)} {a : Addr} {o : Obj} (o' : Obj) : OA ((a, o) :: post) a o o' ((a, o') :: post) := OA.mk []
theorem oa1 {y0 : Addr × Obj} {post : List (Addr × Obj)} {a : Addr} {o : Obj} (o' : Obj) : OA (y0 :: (a, o) :: post) a o o' (y0 :: (a, o') :: post) := OA.mk [y0]
theorem oa2 {y0 y1 : Addr × Obj} {post : List (Addr × Obj)} {a : Addr} {o : Obj} (o' : Obj) : OA (y0 :: y1 :: (a, o) :: post) a o o' (y0 :: y1 :: (a, o') :: post) := OA.mk [y0, y1]
theorem oa3 {y0 y1 y2 : Addr × Obj} {post : List (Addr × Obj)} {a : Addr} {o : Obj} (o' : Obj) : OA (y0 :: y1 :: y2 :: (a, o) :: post) a o o' (y0 :: y1 :: y2 :: (a, o') :: post) := OA.mk [y0, y1, y2]
theorem oa4 {y0 y1 y2 y3 : Addr × Obj} {post : List (Addr × Obj)} {a : Addr} {o : Obj} (o' : Obj) : OA (y0 :: y1 :: y2 :: y3 :: (a, o) :: post) a o o' (y0 :: y1 :: y2 :: y3 :: (a, o') :: post) := OA.mk [y0, y1, y2, y3]
theorem oa5 {y0 y1 y2 y3 y4 : Addr × Obj} {post : List (Addr × Obj)} {a : Addr} {o : Obj} (o' : Obj) : OA (y0 :: y1 :: y2 :: y3 :: y4 :: (a, o) :: post) a o o' (y0 :: y1 :: y2 :: y3 :: y4 :: (a, o') :: post) := OA.mk [y0, y1, y2, y3, y4]
theorem oa6 {y0 y1 y2 y3 y4 y5 : Addr × Obj} {post : List (Addr × Obj)} {a : Addr} {o : Obj} (o' : Obj) : OA (y0 :: y1 :: y2 :: y3 :: y4 :: y5 :: (a, o) :: post) a o o' (y0 :: y1 :: y2 :: y3 :: y4 :: y5 :: (a, o') :: post) := OA.mk [y0, y1, y2, y3, y4, y5]
theorem oa7 {y0 y1 y2 y3 y4 y5 y6 : Addr × Obj} {post : List (Addr × Obj)} {a : Addr} {o : Obj} (o' : Obj) : OA (y0 :: y1 :: y2 :: y3 :: y4 :: y5 :: y6 :: (a, o) :: post) a o o' (y0 :: y1 :: y2 :: y3 :: y4 :: y5 :: y6 :: (a, o') :: post) := OA.mk [y0, y1, y2, y3, y4, y5, y6]
theorem oa8 {y0 y1 y2 y3 y4 y5 y6 y7 : Addr × Obj} {post : List (Addr × Obj)} {a : Addr} {o : Obj} (o' : Obj) : OA (y0 :: y1 :: y2 :: y3 :: y4 :: y5 :: y6 :: y7 :: (a, o) :: post) a o o' (y0 :: y1 :: y2 :: y3 :: y4 :: y5 :: y6 :: y7 :: (a, o') :: post) := OA.mk [y0, y1, y2, y3, y4, y5, y6, y7]
theorem oa9 {y0 y1 y2 y3 y4 y5 y6 y7 y8 : Addr × Obj} {post : List (Addr × Obj)} {a : Addr} {o : Obj} (o' : Obj) : OA (y0 :: y1 :: y2 :: y3 :: y4 :: y5 :: y6 :: y7 :: y8 :: (a, o) :: post) a o o' (y0 :: y1 :: y2 :: y3 :: y4 :: y5 :: y6 :: y7 :: y8 :: (a, o') :: post) := OA.mk [y0, y1, y2, y3, y4, y5, y6, y7, y8]
theorem OA.mem {own own' : List (Addr × Obj)} {a : Addr} {o o' : Obj} (h : OA own a o o' own') : (a, o) ∈ own := by
  cases h; simp
theorem Fm.updA {B G : Heap} {env : Env} {own own' : List (Addr × Obj)} {V : Vars} {h h' : Heap} {a : Addr} {o o' : Obj} (F : Fm B G env own V h) (hO : OA own a o o' own') (k : ∀ b o, b ≠ a → h.get? b = some o → h'.get? b = some o) (ho : h'.get? a = some o') : Fm B G env own' V h' := by
  cases hO; exact F.upd k ho

section
variable {prog : Program} {w : World} {K : Frag} {B G : Heap} {env : Env} {own : List (Addr × Obj)} {V V' : Vars} {A : Around} {E : Value → Shared → Prop} {s₀ s : Shared}

theorem lst_own {h : Heap} {a : Addr} {o : Obj} {items : List Value} (F : Fm B G env own V h) (hm : (a, o) ∈ own) (L : LO o items) : h.IsList a items.toArray := L.at (F.has _ hm)
theorem lst_G {h : Heap} {a : Addr} {o : Obj} {items : List Value} (F : Fm B G env own V h) (hg : G.get? a = some o) (L : LO o items) : h.IsList a items.toArray := L.at (F.keep _ _ hg)
theorem tpl_own {h : Heap} {a : Addr} {o : Obj} {items : List Value} (F : Fm B G env own V h) (hm : (a, o) ∈ own) (L : TO o items) : h.IsTuple a items.toArray := L.at (F.has _ hm)
theorem tpl_G {h : Heap} {a : Addr} {o : Obj} {items : List Value} (F : Fm B G env own V h) (hg : G.get? a = some o) (L : TO o items) : h.IsTuple a items.toArray := L.at (F.keep _ _ hg)

theorem len_listF {l : Addr} {items : List Value} {Q : Value → Shared → Prop} (hl : s.heap.IsList l items.toArray) (hfit : items.length < 2 ^ 62) (h : Q (.int items.length (s.toks + 1)) { s with toks := s.toks + 1 + 1 }) :
    wpAny (model prog w) A (call (.builtin "len") [.ref l]) Q E s := by
  have e : (items.toArray.size : Int) = (items.length : Int) := by simp
  refine len_list hl (by rw [e]; lia) (by rw [e]; exact h)
theorem keep2 {h h' : Heap} {a b : Addr} (F : Fm B (hideAll h [a, b]) env own V h') : ∀ c o, c ≠ a → c ≠ b → h.get? c = some o → h'.get? c = some o :=
  fun c o ha hb e => F.keep c o (hideAll_get _ e (by simp [ha, hb]))

theorem newListF {vs : List Value} {Q : Value → Shared → Prop} (hS : Same s₀ s) (F : Fm B G env own V s.heap)
    (h : ∀ o l s', Same s₀ s' → s.heap.get? l = none → LO o vs → Fm B G env ((l, o) :: own) V s'.heap → Q (.ref l) s') (hsz : vs.length ≤ sizeLine) :
    wpAny (model prog w) A (newList vs) Q E s :=
  wpAny_newObj_type (h _ _ { s with heap := s.heap.push _ } hS (get_size _) (LO.mk vs) (F.alloc _)) (by show vs.toArray.size ≤ sizeLine; rw [List.size_toArray]; exact hsz)
theorem newTupleF {vs : List Value} {Q : Value → Shared → Prop} (hS : Same s₀ s) (F : Fm B G env own V s.heap)
    (h : ∀ o l s', Same s₀ s' → s.heap.get? l = none → TO o vs → Fm B G env ((l, o) :: own) V s'.heap → Q (.ref l) s') (hsz : vs.length ≤ sizeLine) :
    wpAny (model prog w) A (newTuple vs) Q E s :=
  wpAny_newObj_type (h _ _ { s with heap := s.heap.push _ } hS (get_size _) (TO.mk vs) (F.alloc _)) (by show vs.toArray.size ≤ sizeLine; rw [List.size_toArray]; exact hsz)

theorem assign_NameF {x : Str} {k : NameKind} {pos : Pos} {v : Value} {Q : Unit → Shared → Prop} (hS : Same s₀ s) (F : Fm B G env own V s.heap)
    (hA : SA V x k v V') (hk : k = .local ∨ (k = .cell ∧ env.func.isSome = true))
    (h : ∀ s', Same s₀ s' → Fm B G env own V' s'.heap → Q () s') : wpAny (model prog w) A (assign (.Name x pos) env v) Q E s :=
  wpAny_assign_Name (stV hS F hA hk h)

/-- a list is unpacked: its items, the heap grown -/
theorem unpack_list {l : Addr} {items : List Value} {elts : List Expr} {k : Nat} {pos : Pos} {Q : Unit → Shared → Prop} (hS : Same s₀ s) (F : Fm B G env own V s.heap) (hh : A.handled = none) (hl : s.heap.IsList l items.toArray) (hn : (assignEach elts env).length = items.length)
    (hstar : (assignEach elts env).findIdx? (·.1) = none)
    (h : ∀ s', Same s₀ s' → Fm B G env own V s'.heap → wpAny (model prog w) A (assignInOrder ((assignEach elts env).map (·.2)) items) Q E s') :
    wpAny (model prog w) A (assign (.Tuple elts k pos) env (.ref l)) Q E s := by
  rw [assign_Tuple]
  refine wpAny_bind (wpAny_standAt ?_)
  unfold unpack
  rw [show (assignEach elts env).length = items.toArray.size by simpa using hn, hstar]
  refine wpAny_bind (wpAny_holding (kun_itemsOf hh hl fun h' he => ?_))
  exact h { s with heap := h' } hS (F.grow fun b o e => he b o (Nat.ne_of_lt (Heap.lt_size e)) e)
theorem unpack_tup {l : Addr} {items : List Value} {elts : List Expr} {k : Nat} {pos : Pos} {Q : Unit → Shared → Prop} (hS : Same s₀ s) (F : Fm B G env own V s.heap) (hh : A.handled = none) (hl : s.heap.IsTuple l items.toArray) (hn : (assignEach elts env).length = items.length)
    (hstar : (assignEach elts env).findIdx? (·.1) = none)
    (h : ∀ s', Same s₀ s' → Fm B G env own V s'.heap → wpAny (model prog w) A (assignInOrder ((assignEach elts env).map (·.2)) items) Q E s') :
    wpAny (model prog w) A (assign (.Tuple elts k pos) env (.ref l)) Q E s :=
  wpAny_assign_Tuple hh hl (by simpa using hn) hstar fun h' he => h { s with heap := h' } hS (F.grow fun b o e => he b o (Nat.ne_of_lt (Heap.lt_size e)) e)

theorem inOrder_nil {Q : Unit → Shared → Prop} {ts : List (Value → Sem Unit)} {M : Model} (h : Q () s) : wpAny M A (assignInOrder ts []) Q E s := by
  cases ts <;> exact wpAny_pure h
theorem inOrder_cons {Q : Unit → Shared → Prop} {t : Value → Sem Unit} {ts : List (Value → Sem Unit)} {x : Value} {xs : List Value} {M : Model}
    (h : wpAny M A (t x) (fun _ s' => wpAny M A (assignInOrder ts xs) Q E s') E s) : wpAny M A (assignInOrder (t :: ts) (x :: xs)) Q E s := by
  show wpAny M A (do holding xs (t x); assignInOrder ts xs) Q E s
  exact wpAny_bind (wpAny_holding h)
theorem bindNameF {x : Str} {k : NameKind} {v : Value} {M : Model} {Q : Unit → Shared → Prop} (hS : Same s₀ s) (F : Fm B G env own V s.heap)
    (hA : SA V x k v V') (hk : k = .local ∨ (k = .cell ∧ env.func.isSome = true))
    (h : ∀ s', Same s₀ s' → Fm B G env own V' s'.heap → Q () s') : wpAny M A (bindName env x v) Q E s :=
  wpAny_bindName (stV hS F hA hk h)

/-- an assignment to one tuple of targets, of a value that is no display -/
theorem Assign_Tup {ts : List Expr} {k : Nat} {tp : Pos} {value : Expr} {pos : Pos} {Q : Flow → Shared → Prop}
    (h : wpAny (model prog w) A (eval value env) (fun v s₁ => wpAny (model prog w) A (assign (.Tuple ts k tp) env v) (fun _ => Q .next) E s₁) E s)
    (hs : swapsWithSole [.Tuple ts k tp] value pos.line env = pure false := by rfl) (hw : swappedStores [.Tuple ts k tp] value env = pure none := by rfl) :
    wpAny (model prog w) A (exec (.Assign [.Tuple ts k tp] value pos) env) Q E s :=
  wpAny_Assign_stores h hs hw

/-- a list's item is stored -/
theorem setItem_listF {own' : Obj → List (Addr × Obj)} {l : Addr} {o : Obj} {items : List Value} {k : Int} {t : Tok} {v : Value} {Q : Unit → Shared → Prop} (hS : Same s₀ s) (F : Fm B G env own V s.heap) (hO : ∀ o', OA own l o o' (own' o')) (L : LO o items)
    (h0 : 0 ≤ k) (hfit : k < 2 ^ 63) (hn : k < items.length)
    (h : ∀ o' s', Same s₀ s' → LO o' (items.set k.toNat v) → Fm B G env (own' o') V s'.heap → Q () s') :
    wpAny (model prog w) A (setItem (.ref l) (.int k t) v) Q E s := by
  refine wpAny_setItem_list (L.at (F.has (l, o) (hO o).mem)) h0 hfit (by simpa using hn) fun h' hl hs => ?_
  obtain ⟨o', ho', hc, n, hd⟩ := hl
  refine h o' { s with heap := h' } hS ⟨hc, n, ?_⟩ (F.updA (hO o') (fun b o hb e => (hs.2 b hb).trans e) ho')
  rw [hd]; simp

theorem getItem_listF {l : Addr} {items : List Value} {k : Int} {u : Tok} {v : Value} {value slice : Expr} {Q : Value → Shared → Prop} (hl : s.heap.IsList l items.toArray) (h0 : 0 ≤ k) (hhi : k < 2 ^ 63) (hx : items[k.toNat]? = some v) (h : Q v s)
    (hs : subscripted slice false (.ref l) (.int k u) = operate [.ref l, .int k u] (getItem (.ref l) (.int k u)) := by with_unfolding_all rfl) :
    wpAny (model prog w) A (subscriptTail value slice (.ref l) (.int k u)) Q E s :=
  tail_any hl.typeIs slot_list_getitem.lookup (wpAny_getItem_list hl h0 hhi (by simpa using hx) h) hs
end
end Mine
end F3
section F4
set_option maxRecDepth 100000
namespace Mine
noncomputable abbrev KK (w : World) : Frag := hd.heap_1 w.params
theorem g_jar (w : World) : nsIn (KK w) mainGlobals "_law_jar" = some (some (.ref 112)) := by kernel_rfl
theorem g_pick (w : World) : nsIn (KK w) mainGlobals "_law_pick" = some (some (.ref 119)) := by kernel_rfl
theorem g_samples (w : World) : nsIn (KK w) mainGlobals "_law_samples" = some (some (.ref 124)) := by kernel_rfl
theorem g_shared (w : World) : nsIn (KK w) mainGlobals "_law_shared" = some (some (.ref 129)) := by kernel_rfl
theorem g_dearest (w : World) : nsIn (KK w) mainGlobals "_law_dearest" = some (some (.ref 134)) := by kernel_rfl
theorem g_turns (w : World) : nsIn (KK w) mainGlobals "_law_turns" = some (some (.ref 139)) := by kernel_rfl
theorem g_content (w : World) : nsIn (KK w) mainGlobals "_law_content" = some (some (.ref 144)) := by kernel_rfl
theorem g_told (w : World) : nsIn (KK w) mainGlobals "_law_told" = some (some (.ref 151)) := by kernel_rfl
theorem g_cright (w : World) : nsIn (KK w) mainGlobals "_law_content_right" = some (some (.ref 156)) := by kernel_rfl
theorem g_played (w : World) : nsIn (KK w) mainGlobals "_law_played_right" = some (some (.ref 161)) := by kernel_rfl
theorem g_other (w : World) : nsIn (KK w) mainGlobals "_law_other_right" = some (some (.ref 168)) := by kernel_rfl
theorem g_train (w : World) : nsIn (KK w) mainGlobals "train_content" = some (some (.ref 107)) := by kernel_rfl
theorem g_trimmed (w : World) : nsIn (KK w) mainGlobals "trimmed" = some (some (.ref 101)) := by kernel_rfl
theorem g_best (w : World) : nsIn (KK w) mainGlobals "best_segment" = some (some (.ref 94)) := by kernel_rfl
theorem g_Shingles (w : World) : nsIn (KK w) mainGlobals "Shingles" = some (some (.ref 83)) := by kernel_rfl
theorem g_Bad (w : World) : nsIn (KK w) mainGlobals "BadArgument" = some (some (.ref 45)) := by kernel_rfl
theorem g_least (w : World) : ∃ t, nsIn (KK w) mainGlobals "LEAST_RAW" = some (some (.int 8 t)) := ⟨_, rfl⟩
theorem b_len (w : World) : nsIn (KK w) mainGlobals "len" = some none := by kernel_rfl
theorem b_range (w : World) : nsIn (KK w) mainGlobals "range" = some none := by kernel_rfl
theorem b_abs (w : World) : nsIn (KK w) mainGlobals "abs" = some none := by kernel_rfl
theorem b_sum (w : World) : nsIn (KK w) mainGlobals "sum" = some none := by kernel_rfl
theorem b_min (w : World) : nsIn (KK w) mainGlobals "min" = some none := by kernel_rfl
theorem b_max (w : World) : nsIn (KK w) mainGlobals "max" = some none := by kernel_rfl
theorem b_bytes (w : World) : nsIn (KK w) mainGlobals "bytes" = some none := by kernel_rfl
theorem b_dict (w : World) : nsIn (KK w) mainGlobals "dict" = some none := by kernel_rfl
theorem b_ValueError (w : World) : nsIn (KK w) mainGlobals "ValueError" = some none := by kernel_rfl
theorem h_len : ("len" : Str) ≠ "__name__" ∧ bootBuiltins "len" = some (.builtin "len") := ⟨by decide, by boot_by_name⟩
theorem h_range : ("range" : Str) ≠ "__name__" ∧ bootBuiltins "range" = some (.type "range") := ⟨by decide, by boot_by_name⟩
theorem h_abs : ("abs" : Str) ≠ "__name__" ∧ bootBuiltins "abs" = some (.builtin "abs") := ⟨by decide, by boot_by_name⟩
theorem h_sum : ("sum" : Str) ≠ "__name__" ∧ bootBuiltins "sum" = some (.builtin "sum") := ⟨by decide, by boot_by_name⟩
theorem h_min : ("min" : Str) ≠ "__name__" ∧ bootBuiltins "min" = some (.builtin "min") := ⟨by decide, by boot_by_name⟩
theorem h_max : ("max" : Str) ≠ "__name__" ∧ bootBuiltins "max" = some (.builtin "max") := ⟨by decide, by boot_by_name⟩
theorem h_bytes : ("bytes" : Str) ≠ "__name__" ∧ bootBuiltins "bytes" = some (.type "bytes") := ⟨by decide, by boot_by_name⟩
theorem h_dict : ("dict" : Str) ≠ "__name__" ∧ bootBuiltins "dict" = some (.type "dict") := ⟨by decide, by boot_by_name⟩
theorem h_ValueError : ("ValueError" : Str) ≠ "__name__" ∧ bootBuiltins "ValueError" = some (.type "ValueError") := ⟨by decide, by boot_by_name⟩
end Mine
end F4
section F5
set_option maxRecDepth 100000
namespace Mine

/-- an iterator I of n items over a heap where dep holds -/
structure Itr (prog : Program) (w : World) (A : Around) (I : Addr) (n : Nat) (Ob : Nat → Obj → Prop) (dep : Heap → Prop) (P : Nat → Value → Prop) : Prop where
  item : ∀ i (s : Shared) (o : Obj) (Q : Option Value → Shared → Prop) (E : Value → Shared → Prop), i < n → s.heap.get? I = some o → Ob i o → dep s.heap →
    (∀ v s' o', Same s s' → P i v → s'.heap.get? I = some o' → Ob (i + 1) o' → (∀ b ob, b ≠ I → s.heap.get? b = some ob → s'.heap.get? b = some ob) → Q (some v) s') → wpAny (model prog w) A (pyNext (.ref I)) Q E s
  done : ∀ (s : Shared) (o : Obj) (Q : Option Value → Shared → Prop) (E : Value → Shared → Prop), s.heap.get? I = some o → Ob n o → dep s.heap →
    (∀ s', Same s s' → (∀ b ob, b ≠ I → s.heap.get? b = some ob → s'.heap.get? b = some ob) → Q none s') → wpAny (model prog w) A (pyNext (.ref I)) Q E s
  self : ∀ i (s : Shared) (o : Obj) (Q : Value → Shared → Prop) (E : Value → Shared → Prop), s.heap.get? I = some o → Ob i o → Q (.ref I) s → wpAny (model prog w) A (pyIter (.ref I)) Q E s
  cls : ∀ i o, Ob i o → ∃ n, o.cls = .type n ∧ ["enumerate", "zip", "dict_itemiterator", "dict_reverseitemiterator", "odict_iterator", "itertools.zip_longest", "itertools.pairwise"].contains n = false

section
variable {prog : Program} {w : World} {A : Around} {E : Value → Shared → Prop} {s₀ s : Shared} {B G : Heap} {env : Env} {own : List (Addr × Obj)} {V : Vars}

theorem Itr.go {I : Addr} {n : Nat} {Ob : Nat → Obj → Prop} {dep : Heap → Prop} {P : Nat → Value → Prop} (X : Itr prog w A I n Ob dep P) {target : Expr} {v : Value} {i : Nat} {o : Obj} {Q : Unit → Shared → Prop} {M : Model} (ho : s.heap.get? I = some o) (hO : Ob i o) (h : Q () s) :
    wpAny M A (letOwnedTupleGo target (.ref I) v) Q E s := by
  obtain ⟨nm, hc, hn⟩ := X.cls i o hO
  have key : ∀ (a : Addr), wpAny M A (do
      let o ← load I
      match o.cls, o.data with
      | .type n, .fields vs =>
        if ["enumerate", "zip", "dict_itemiterator", "dict_reverseitemiterator", "odict_iterator", "itertools.zip_longest", "itertools.pairwise"].contains n && vs[0]? == some (rawInt a) then
          rule "for.unpacks-the-owned-tuple"
          updateField I 0 .none
      | _, _ => pure () : Sem Unit) Q E s := by
    intro a
    refine wpAny_bind (wpAny_load ho ?_)
    rw [hc]
    split
    · rename_i n vs h1 h2
      cases h1
      rw [if_neg (by rw [hn, Bool.false_and]; exact Bool.false_ne_true)]
      exact wpAny_pure h
    · exact wpAny_pure h
  unfold letOwnedTupleGo
  split
  · cases v with
    | ref a => exact key a
    | _ => exact wpAny_pure h
  · cases v with
    | ref a => exact key a
    | _ => exact wpAny_pure h
  · exact wpAny_pure h

def ListOb (l : Addr) (i : Nat) (o : Obj) : Prop := o.cls = .type "list_iterator" ∧ o.data = .fields #[.ref l, .int i 0]
theorem itr_list (hh : A.handled = none) {I l : Addr} (hne : l ≠ I) (items : List Value) : Itr prog w A I items.length (ListOb l) (fun h => h.IsList l items.toArray) (fun i v => items[i]? = some v) where
  item := fun i s o Q E hi ho hO hd hQ => by
    refine wpAny_pyNext_list_item (i := i) (x := items[i]) ⟨o, ho, hO.1, hO.2⟩ hd (by simp [hi]) fun h' hit hs => ?_
    obtain ⟨o', ho', hc, hd'⟩ := hit
    exact hQ _ { s with heap := h' } o' ⟨rfl, rfl, rfl⟩ (by simp [hi]) ho' ⟨hc, hd'⟩ fun b ob hb e => (hs.2 b hb).trans e
  done := fun s o Q E ho hO hd hQ => wpAny_pyNext_list_end (i := items.length) hh ⟨o, ho, hO.1, hO.2⟩ hd (by simp) fun h' he => hQ { s with heap := h' } ⟨rfl, rfl, rfl⟩ fun b ob hb e => he b ob hb e
  self := fun i s o Q E ho hO hQ => wpAny_pyIter_listiter (i := i) ⟨o, ho, hO.1, hO.2⟩ hQ
  cls := fun i o hO => ⟨_, hO.1, by decide⟩

def RangeOb (a : Int) (n : Nat) (i : Nat) (o : Obj) : Prop := o = { cls := .type "range_iterator", dict := none, data := .fields #[rawInt (a + (i : Int)), rawInt ((n : Int) - (i : Int)), rawInt 1], slots := #[] }
theorem itr_range (hh : A.handled = none) {I : Addr} (a : Int) (n : Nat) : Itr prog w A I n (RangeOb a n) (fun _ => True) (fun i v => ∃ t, v = .int (a + (i : Int)) t) where
  item := fun i s o Q E hi ho hO _ hQ => by
    refine wpAny_pyNext_range_item (x := a + (i : Int)) (left := (n : Int) - (i : Int)) (step := 1) (by show s.heap.get? I = _; rw [ho, hO]) (by lia) fun h' hit hs => ?_
    refine hQ _ { s with heap := h', toks := s.toks + 1 } _ ⟨rfl, rfl, rfl⟩ ⟨_, rfl⟩ hit ?_ fun b ob hb e => (hs.2 b hb).trans e
    unfold RangeOb
    rw [show a + ((i + 1 : Nat) : Int) = a + (i : Int) + 1 by lia, show (n : Int) - ((i + 1 : Nat) : Int) = (n : Int) - (i : Int) - 1 by lia]
  done := fun s o Q E ho hO _ hQ => wpAny_pyNext_range_end (x := a + (n : Int)) (left := (n : Int) - (n : Int)) (step := 1) hh (by show s.heap.get? I = _; rw [ho, hO]) (by lia) fun h' he => hQ { s with heap := h' } ⟨rfl, rfl, rfl⟩ fun b ob hb e => he b ob hb e
  self := fun i s o Q E ho hO hQ => wpAny_pyIter_rangeiter (x := a + (i : Int)) (left := (n : Int) - (i : Int)) (step := 1) (by show s.heap.get? I = _; rw [ho, hO]) hQ
  cls := fun i o hO => ⟨"range_iterator", congrArg Obj.cls hO, by decide⟩

/-- a range is made: its iterator at once where a loop asks for it -/
theorem iter_rangeF {r : Addr} {a b : Int} {t u v : Tok} {Q : Value → Shared → Prop} (hS : Same s₀ s) (F : Fm B G env own V s.heap) (hr : IsRange s.heap r a b 1 t u v) (hsm : Builtin.Range.small a b 1 = true)
    (h : ∀ I o s', Same s₀ s' → RangeOb a (b - a).toNat 0 o → Fm B G env ((I, o) :: own) V s'.heap → Q (.ref I) s') : wpAny (model prog w) A (pyIter (.ref r)) Q E s := by
  refine wpAny_pyIter_range hr hsm ?_
  refine h s.heap.objs.size _ { s with heap := s.heap.push _ } hS ?_ (F.alloc _)
  unfold RangeOb
  rw [rangeSize_nat, show a + ((0 : Nat) : Int) = a by lia, show (((b - a).toNat : Nat) : Int) - ((0 : Nat) : Int) = ((b - a).toNat : Nat) by lia]
theorem iter_listF {l : Addr} {items : List Value} {Q : Value → Shared → Prop} (hS : Same s₀ s) (F : Fm B G env own V s.heap) (hl : s.heap.IsList l items.toArray)
    (h : ∀ I o s', Same s₀ s' → l ≠ I → ListOb l 0 o → Fm B G env ((I, o) :: own) V s'.heap → Q (.ref I) s') : wpAny (model prog w) A (pyIter (.ref l)) Q E s := by
  refine wpAny_pyIter_list hl ?_
  obtain ⟨ol, hol, _⟩ := hl
  exact h s.heap.objs.size _ { s with heap := s.heap.push _ } hS (Nat.ne_of_lt (Heap.lt_size hol)) ⟨rfl, rfl⟩ (F.alloc _)

theorem Fm.swap {h : Heap} {p q : Addr × Obj} (F : Fm B G env (p :: q :: own) V h) : Fm B G env (q :: p :: own) V h := F.perm (.swap ..)
theorem Fm.tail {h : Heap} {p : Addr × Obj} (F : Fm B G env (p :: own) V h) : Fm B G env own V h := F.sublist (List.sublist_cons_self ..)

/-- a step that turns the one place I, the first of the owned ones -/
theorem Fm.step {h h' : Heap} {I : Addr} {o o' : Obj} (F : Fm B G env ((I, o) :: own) V h) (ho : h'.get? I = some o') (k : ∀ b ob, b ≠ I → h.get? b = some ob → h'.get? b = some ob) : Fm B G env ((I, o') :: own) V h' :=
  F.upd (pre := []) k ho
theorem Fm.stepOff {h h' : Heap} {I : Addr} {o : Obj} (F : Fm B G env ((I, o) :: own) V h) (k : ∀ b ob, b ≠ I → h.get? b = some ob → h'.get? b = some ob) : Fm B G env own V h' := by
  have hnd := List.nodup_cons.mp (by simpa using F.nodup : (I :: own.map (·.1)).Nodup)
  refine F.tail.growBut (X := fun b => b = I) (fun b ob hb e => k b ob hb e) (fun b hb => hb ▸ F.off (I, o) List.mem_cons_self) (fun p hp e => hnd.1 (by rw [← e]; exact List.mem_map_of_mem hp)) fun a ha e => F.offp (I, o) List.mem_cons_self (e ▸ ha)

/-- what a turn's end has to show -/
inductive EndJ (s₀ : Shared) (B G : Heap) (env : Env) (I : Addr) (oI : Obj) (J : List (Addr × Obj) → Vars → Prop) (s' : Shared) : Prop
  | mk (own' : List (Addr × Obj)) (V' : Vars) (hj : J own' V') (hS : Same s₀ s') (hF : Fm B G env ((I, oI) :: own') V' s'.heap)
def TurnEnd (s₀ : Shared) (B G : Heap) (env : Env) (I : Addr) (oI : Obj) (J : List (Addr × Obj) → Vars → Prop) (Q : Flow → Shared → Prop) : Flow → Shared → Prop
  | .next, s' | .cont, s' => EndJ s₀ B G env I oI J s'
  | .brk, s' => Q .next s'
  | .ret v, s' => Q (.ret v) s'

theorem For_rule {I : Addr} {n : Nat} {Ob : Nat → Obj → Prop} {dep : Heap → Prop} {P : Nat → Value → Prop} {o : Obj} {target : Expr} {body : List Stmt} {Q : Flow → Shared → Prop} (X : Itr prog w A I n Ob dep P) (J : Nat → List (Addr × Obj) → Vars → Prop)
    (hS : Same s₀ s) (F : Fm B G env ((I, o) :: own) V s.heap) (hO : Ob 0 o) (hJ : J 0 own V) (hdep : ∀ i own' V' oI h, J i own' V' → Fm B G env ((I, oI) :: own') V' h → dep h)
    (turn : ∀ i v own' V' oI s₁, i < n → P i v → J i own' V' → Same s₀ s₁ → Fm B G env ((I, oI) :: own') V' s₁.heap →
      wpAny (model prog w) A (assign target env v) (fun _ s₂ => wpAny (model prog w) A (execs body env) (TurnEnd s₀ B G env I oI (J (i + 1)) Q) (fun _ _ => False) s₂) (fun _ _ => False) s₁)
    (fin : ∀ own' V' s₁, J n own' V' → Same s₀ s₁ → Fm B G env own' V' s₁.heap → Q .next s₁) {R : Result → Shared → Prop} (hR : ∀ f s', Q f s' → R (.ok f) s') :
    codeAny (model prog w) A (.forLoop target (.ref I) body [] env) R s := by
  refine codeAny_forLoop_any (fun k s₁ => ∃ i own' V' oI, i ≤ n ∧ k = n - i ∧ J i own' V' ∧ Same s₀ s₁ ∧ Ob i oI ∧ Fm B G env ((I, oI) :: own') V' s₁.heap) ?_ n ⟨0, own, V, o, Nat.zero_le _, rfl, hJ, hS, hO, F⟩
  rintro k s₁ ⟨i, own', V', oI, hi, rfl, hj, hS₁, hO₁, F₁⟩
  have hI := F₁.has (I, oI) List.mem_cons_self
  rcases Nat.lt_or_ge i n with hlt | hge
  · refine X.item i s₁ oI _ _ hlt hI hO₁ (hdep i _ _ _ _ hj F₁) fun v s₂ o' hs₂ hP ho' hO' hk => ?_
    have F₂ := F₁.step ho' hk
    refine X.go ho' hO' ?_
    refine wpAny_mono (turn i v own' V' o' s₂ hlt hP hj (hS₁.trans hs₂) F₂) (fun _ s₃ h₃ => wpAny_mono h₃ (fun f s₄ h₄ => ?_) fun _ _ e => e.elim) fun _ _ e => e.elim
    cases f with
    | next => obtain ⟨own'', V'', hj'', hS'', F''⟩ := h₄; exact ⟨n - (i + 1), by lia, i + 1, own'', V'', o', hlt, rfl, hj'', hS'', hO', F''⟩
    | cont => obtain ⟨own'', V'', hj'', hS'', F''⟩ := h₄; exact ⟨n - (i + 1), by lia, i + 1, own'', V'', o', hlt, rfl, hj'', hS'', hO', F''⟩
    | brk => exact hR _ _ h₄
    | ret v => exact hR _ _ h₄
  · obtain rfl : i = n := Nat.le_antisymm hi hge
    refine X.done s₁ oI _ _ hI hO₁ (hdep _ _ _ _ _ hj F₁) fun s₂ hs₂ hk => wpAny_execs_nil (hR _ _ ?_)
    exact fin own' V' s₂ hj (hS₁.trans hs₂) (F₁.stepOff hk)

/-- a for statement -/
theorem For_stmt {target iter : Expr} {body : List Stmt} {pos : Pos} {Q : Flow → Shared → Prop}
    (h : wpAny (model prog w) A (eval iter env) (fun x s₁ => wpAny (model prog w) A (pyIter x) (fun it s₂ => codeAny (model prog w) A (.forLoop target it body [] env) (fun r s' => match r with | .ok f => Q f s' | .error _ => False) s₂) E s₁) E s)
    (hs : ∀ x, foldedSetIterable iter env x = pure x) : wpAny (model prog w) A (exec (.For target iter body [] pos) env) Q E s :=
  wpAny_For (wpAny_mono h (fun _ _ h₁ => wpAny_mono h₁ (fun _ _ h₂ => codeAny_mono h₂ fun r s' hr => by cases r with | ok f => exact hr | error e => exact hr.elim) fun _ _ e => e) fun _ _ e => e) hs

theorem For_list {l : Addr} {items : List Value} {target : Expr} {body : List Stmt} {Q : Flow → Shared → Prop} (J : Nat → List (Addr × Obj) → Vars → Prop) (hh : A.handled = none)
    (hS : Same s₀ s) (F : Fm B G env own V s.heap) (hl : s.heap.IsList l items.toArray) (hJ : J 0 own V) (hdep : ∀ i own' V' h, J i own' V' → Fm B G env own' V' h → h.IsList l items.toArray)
    (turn : ∀ i v own' V' I oI s₁, i < items.length → items[i]? = some v → J i own' V' → Same s₀ s₁ → Fm B G env ((I, oI) :: own') V' s₁.heap →
      wpAny (model prog w) A (assign target env v) (fun _ s₂ => wpAny (model prog w) A (execs body env) (TurnEnd s₀ B G env I oI (J (i + 1)) Q) (fun _ _ => False) s₂) (fun _ _ => False) s₁)
    (fin : ∀ own' V' s₁, J items.length own' V' → Same s₀ s₁ → Fm B G env own' V' s₁.heap → Q .next s₁) :
    wpAny (model prog w) A (pyIter (.ref l)) (fun it s₂ => codeAny (model prog w) A (.forLoop target it body [] env) (fun r s' => match r with | .ok f => Q f s' | .error _ => False) s₂) E s :=
  iter_listF hS F hl fun I o s' hS' hne hO F' => For_rule (itr_list hh hne items) J hS' F' hO hJ (fun i own' V' oI h hj F₁ => hdep i own' V' h hj F₁.tail) (fun i v own' V' oI s₁ hi hP hj hS₁ F₁ => turn i v own' V' I oI s₁ hi hP hj hS₁ F₁) fin fun _ _ q => q

theorem For_range {r : Addr} {a b : Int} {t u v : Tok} {target : Expr} {body : List Stmt} {Q : Flow → Shared → Prop} (J : Nat → List (Addr × Obj) → Vars → Prop) (hh : A.handled = none)
    (hS : Same s₀ s) (F : Fm B G env own V s.heap) (hr : IsRange s.heap r a b 1 t u v) (hsm : Builtin.Range.small a b 1 = true) (hJ : J 0 own V)
    (turn : ∀ i t own' V' I oI s₁, i < (b - a).toNat → J i own' V' → Same s₀ s₁ → Fm B G env ((I, oI) :: own') V' s₁.heap →
      wpAny (model prog w) A (assign target env (.int (a + (i : Int)) t)) (fun _ s₂ => wpAny (model prog w) A (execs body env) (TurnEnd s₀ B G env I oI (J (i + 1)) Q) (fun _ _ => False) s₂) (fun _ _ => False) s₁)
    (fin : ∀ own' V' s₁, J (b - a).toNat own' V' → Same s₀ s₁ → Fm B G env own' V' s₁.heap → Q .next s₁) :
    wpAny (model prog w) A (pyIter (.ref r)) (fun it s₂ => codeAny (model prog w) A (.forLoop target it body [] env) (fun r s' => match r with | .ok f => Q f s' | .error _ => False) s₂) E s :=
  iter_rangeF hS F hr hsm fun I o s' hS' hO F' => For_rule (itr_range hh a _) J hS' F' hO hJ (fun _ _ _ _ _ _ _ => trivial) (fun i v own' V' oI s₁ hi hP hj hS₁ F₁ => by
    obtain ⟨t, rfl⟩ := hP
    exact turn i t own' V' I oI s₁ hi hj hS₁ F₁) fin fun _ _ q => q

theorem call_range1F {n : Int} {t : Tok} {Q : Value → Shared → Prop} (hS : Same s₀ s) (F : Fm B G env own V s.heap)
    (h : ∀ r s' t u v, Same s₀ s' → IsRange s'.heap r 0 n 1 t u v → Fm B G env own V s'.heap → Q (.ref r) s') : wpAny (model prog w) A (call (.type "range") [.int n t]) Q E s :=
  call_range_1 (h s.heap.objs.size { s with heap := s.heap.push _, toks := s.toks + 1 + 1 } _ _ _ hS (IsRange.new ..) (F.alloc _).tail)
end
end Mine
end F5
section F6
set_option maxRecDepth 100000
namespace Mine

/-- a comprehension's names: its own unbound, the captured ones with the values that they have around -/
inductive CV : List (Str × NameKind) → Vars → Vars → Prop
  | nil {V : Vars} : CV [] V []
  | own {n : Str} {k : NameKind} {r : List (Str × NameKind)} {V V' : Vars} : k ≠ .free → k ≠ .cell → CV r V V' → CV ((n, k) :: r) V ((n, k, none) :: V')
  | free {n : Str} {v : Value} {r : List (Str × NameKind)} {V V' : Vars} : (n, .cell, some v) ∈ V → CV r V V' → CV ((n, .free) :: r) V ((n, .cell, some v) :: V')

noncomputable def closL (env : Env) : List (Str × NameKind) → List (Str × Addr) → List (Str × Addr)
  | [], acc => acc
  | (n, k) :: r, acc => if k == .free then closL env r ((n, (env.cells.lookup n).getD 0) :: acc) else closL env r acc

theorem closL_lookup {env : Env} : ∀ (names : List (Str × NameKind)) (acc : List (Str × Addr)) (x : Str), (names.map (·.1)).Nodup → (acc.lookup x = none ∨ x ∉ names.map (·.1)) →
    (closL env names acc).lookup x = if (x, NameKind.free) ∈ names then some ((env.cells.lookup x).getD 0) else acc.lookup x
  | [], acc, x, _, _ => by simp [closL]
  | (n, k) :: r, acc, x, hn, hx => by
    have hn' := List.nodup_cons.mp (by simpa using hn : (n :: r.map (·.1)).Nodup)
    unfold closL
    by_cases hxn : x = n
    · subst hxn
      have hnr : (x, NameKind.free) ∉ r := fun hm => hn'.1 (List.mem_map.mpr ⟨_, hm, rfl⟩)
      split
      · rename_i hk
        have hk' : k = .free := by simpa using hk
        rw [closL_lookup r _ x hn'.2 (.inr hn'.1), if_neg hnr, List.lookup_cons, beq_self_eq_true, hk']
        simp
      · rename_i hk
        have hk' : k ≠ .free := by simpa using hk
        rw [closL_lookup r _ x hn'.2 (.inr hn'.1), if_neg hnr, if_neg]
        intro hm
        rcases List.mem_cons.mp hm with e | hm
        · cases e; exact hk' rfl
        · exact hnr hm
    · have hne : (x == n) = false := by simpa using hxn
      have hiff : ((x, NameKind.free) ∈ (n, k) :: r) ↔ (x, NameKind.free) ∈ r := by
        constructor
        · intro hm; rcases List.mem_cons.mp hm with e | hm
          · cases e; exact absurd rfl hxn
          · exact hm
        · exact List.mem_cons_of_mem _
      have hx' : acc.lookup x = none ∨ x ∉ r.map (·.1) := hx.imp id fun h hm => h (by simp [hm])
      split
      · rw [closL_lookup r _ x hn'.2 (hx'.imp (fun h => by rw [List.lookup_cons, hne]; exact h) id), List.lookup_cons, hne]
        simp only [hiff]
      · rw [closL_lookup r _ x hn'.2 hx']
        simp only [hiff]

theorem closureFor_eq {env : Env} {scope : Scope} (h : ∀ n, (n, NameKind.free) ∈ scope.names → ∃ c, env.cells.lookup n = some c) : closureFor scope env = pure (closL env scope.names []) := by
  have key : ∀ (names : List (Str × NameKind)) (acc : List (Str × Addr)), (∀ n, (n, NameKind.free) ∈ names → ∃ c, env.cells.lookup n = some c) →
      (forIn names acc (fun (p : Str × NameKind) (cs : List (Str × Addr)) => (do
        if p.2 == .free then
          let c ← cellOf env p.1
          pure (ForInStep.yield ((p.1, c) :: cs))
        else pure (ForInStep.yield cs) : Sem (ForInStep (List (Str × Addr)))))) = pure (closL env names acc) := by
    intro names
    induction names with
    | nil => intro acc _; rfl
    | cons p r ih =>
      obtain ⟨n, k⟩ := p
      intro acc hf
      rw [List.forIn_cons]
      unfold closL
      by_cases hk : (k == NameKind.free) = true
      · rw [if_pos hk]
        obtain ⟨c, hc⟩ := hf n (by have : k = .free := by simpa using hk
                                   rw [this]; exact List.mem_cons_self)
        simp only [hk, if_true]
        have : cellOf env n = pure c := by unfold cellOf; rw [hc]
        rw [this, hc]
        exact ih _ fun n' hm => hf n' (List.mem_cons_of_mem _ hm)
      · rw [if_neg hk]
        simp only [hk]
        exact ih _ fun n' hm => hf n' (List.mem_cons_of_mem _ hm)
  have := key scope.names [] h
  unfold closureFor
  first | exact this | simpa using this

theorem CV.names {env : Env} {names : List (Str × NameKind)} {V V' : Vars} (h : CV names V V') (S : Sc env V) (hk : env.scope.kind = .function) :
    V'.map (fun p => (p.1, p.2.1)) = names.map fun (n, k) => if (k == .free && env.scope.kind == .function && env.kindOf n == some .cell) then (n, .cell) else (n, k) := by
  induction h with
  | nil => rfl
  | own h1 h2 r ih =>
    rename_i n k r0 V0 V1
    have : (k == NameKind.free) = false := by simpa using h1
    simp only [List.map_cons, this, Bool.false_and, Bool.false_eq_true, if_false, ih S]
  | free hm r ih =>
    have h1 := S.knd _ hm
    simp only at h1
    simp only [List.map_cons, h1, hk, beq_self_eq_true, Bool.and_self, if_true, ih S]
theorem CV.val {names : List (Str × NameKind)} {V V' : Vars} (h : CV names V V') : ∀ {x k v}, (x, k, some v) ∈ V' → k = .cell ∧ (x, .cell, some v) ∈ V ∧ (x, NameKind.free) ∈ names := by
  induction h with
  | nil => intro x k v h; exact absurd h List.not_mem_nil
  | own _ _ r ih =>
    intro x k v h
    rcases List.mem_cons.mp h with e | h
    · cases e
    · obtain ⟨a, b, c⟩ := ih h; exact ⟨a, b, List.mem_cons_of_mem _ c⟩
  | free hm r ih =>
    intro x k v h
    rcases List.mem_cons.mp h with e | h
    · cases e; exact ⟨rfl, hm, List.mem_cons_self⟩
    · obtain ⟨a, b, c⟩ := ih h; exact ⟨a, b, List.mem_cons_of_mem _ c⟩
theorem CV.frees {names : List (Str × NameKind)} {V V' : Vars} (h : CV names V V') : ∀ {x}, (x, NameKind.free) ∈ names → ∃ v, (x, .cell, some v) ∈ V := by
  induction h with
  | nil => intro x h; exact absurd h List.not_mem_nil
  | own h1 _ r ih =>
    intro x h
    rcases List.mem_cons.mp h with e | h
    · cases e; exact absurd rfl h1
    · exact ih h
  | free hm r ih =>
    intro x h
    rcases List.mem_cons.mp h with e | h
    · cases e; exact ⟨_, hm⟩
    · exact ih h

section
variable {prog : Program} {w : World} {A : Around} {E : Value → Shared → Prop} {s₀ s : Shared} {B G : Heap} {env : Env} {own : List (Addr × Obj)} {V V' : Vars}

theorem newListD {vs : List Value} {Q : Value → Shared → Prop} (hS : Same s₀ s) (F : Fm B G env own V s.heap)
    (h : ∀ o l s', Same s₀ s' → s.heap.get? l = none → LO o vs → o.dict = none → Fm B G env ((l, o) :: own) V s'.heap → Q (.ref l) s') (hsz : vs.length ≤ sizeLine) :
    wpAny (model prog w) A (newList vs) Q E s :=
  wpAny_newObj_type (h _ _ { s with heap := s.heap.push _ } hS (get_size _) (LO.mk vs) rfl (F.alloc _)) (by show vs.toArray.size ≤ sizeLine; rw [List.size_toArray]; exact hsz)
theorem appendD {l : Addr} {o : Obj} {items : List Value} {own' : Obj → List (Addr × Obj)} {x : Value} {Q : Value → Shared → Prop} (hS : Same s₀ s) (F : Fm B G env own V s.heap) (hO : ∀ o', OA own l o o' (own' o')) (L : LO o items) (hdn : o.dict = none) (hz : items.length ≤ 16777216)
    (h : ∀ o' s', Same s₀ s' → LO o' (items ++ [x]) → o'.dict = none → Fm B G env (own' o') V s'.heap → Q .none s') : wpAny (model prog w) A (call (.builtin "list.append") [.ref l, x]) Q E s := by
  have ho := F.has (l, o) (hO o).mem
  have hT : s.TypeIs (.ref l) "list" := (L.at ho).typeIs
  obtain ⟨oc, od, odt, osl⟩ := o
  obtain ⟨hc, n, hd⟩ := L
  dsimp only at hc hd hdn
  subst hc hd hdn
  have hself := Heap.get?_update_self (Obj.mapSeq (·.push x)) ho rfl
  refine wpAny_call_entry slot_list_append hT entry_list_append ?_ (args_list_append _ _)
  show wpAny _ _ (updateSeq l (·.push x) >>= fun _ => ret .none) _ _ s
  refine wpAny_bind ?_
  refine wpAny_updateSeq ho rfl (wpAny_pure ⟨.none, rfl, h _ { s with heap := s.heap.update l (Obj.mapSeq (·.push x)) } hS ⟨rfl, n + 1, by simp [Obj.mapSeq]⟩ rfl (F.updA (hO _) (fun b ob hb e => (Heap.get?_update_other _ _ (Ne.symm hb)).trans e) hself)⟩) ?_
  rw [List.size_toArray, sizeLine_eq]; lia
/-- what stands at a turn's end of a comprehension -/
inductive CEnd (s₀ : Shared) (B G : Heap) (cenv : Env) (I : Addr) (oI : Obj) (D : Addr) (oD : Obj) (V : Vars) (J : List (Addr × Obj) → Prop) (s' : Shared) : Prop
  | mk (ms : List (Addr × Obj)) (V'' : Vars) (hj : J ms) (hv : VLe V'' V) (hS : Same s₀ s') (hF : Fm B G cenv ((I, oI) :: (D, oD) :: ms) V'' s'.heap)

theorem compLoopF {I : Addr} {n : Nat} {Ob : Nat → Obj → Prop} {dep : Heap → Prop} {P : Nat → Value → Prop} {elt target iter : Expr} {ifs : List Expr} {scope : Scope} {pos : Pos} {cenv : Env} {o oD : Obj} {D : Addr} {ms : List (Addr × Obj)} {R : Result → Shared → Prop}
    (X : Itr prog w A I n Ob dep P) (J : Nat → List Value → List (Addr × Obj) → Prop) (hS : Same s₀ s) (F : Fm B G cenv ((I, o) :: (D, oD) :: ms) V s.heap) (hO : Ob 0 o) (hD : LO oD [] ∧ oD.dict = none) (hJ : J 0 [] ms) (hn : n ≤ 1000000)
    (hlen : ∀ i items ms, J i items ms → items.length ≤ i)
    (hdep : ∀ i items ms oI oD h, J i items ms → Fm B G cenv ((I, oI) :: (D, oD) :: ms) V h → dep h)
    (turn : ∀ i v items ms oI oD s₁, i < n → P i v → J i items ms → Same s₀ s₁ → Fm B G cenv ((I, oI) :: (D, oD) :: ms) V s₁.heap →
      wpAny (model prog w) A (assign target cenv v) (fun _ s₂ => wpAny (model prog w) A (forIn ifs true fun c r => if r = true then do let ok ← isTrue c cenv (eval c cenv); pure (ForInStep.yield ok) else pure (ForInStep.yield r)) (fun ok s₃ =>
        if ok = true then wpAny (model prog w) A (eval elt cenv) (fun x s₄ => CEnd s₀ B G cenv I oI D oD V (J (i + 1) (items ++ [x])) s₄) (fun _ _ => False) s₃
        else CEnd s₀ B G cenv I oI D oD V (J (i + 1) items) s₃) (fun _ _ => False) s₂) (fun _ _ => False) s₁)
    (fin : ∀ items ms oD s₁, J n items ms → LO oD items ∧ oD.dict = none → Same s₀ s₁ → Fm B G cenv ((D, oD) :: ms) V s₁.heap → R (.ok .next) s₁) :
    codeAny (model prog w) A (.compLoop (.ListComp elt [⟨target, iter, ifs, 0⟩] scope pos) 0 (.ref I) (.ref D) cenv) R s := by
  refine codeAny_loop rfl (fun k s₁ => ∃ i items ms oI oD, i ≤ n ∧ k = n - i ∧ J i items ms ∧ (LO oD items ∧ oD.dict = none) ∧ Same s₀ s₁ ∧ Ob i oI ∧ Fm B G cenv ((I, oI) :: (D, oD) :: ms) V s₁.heap) ?_ n ⟨0, [], ms, o, oD, Nat.zero_le _, rfl, hJ, hD, hS, hO, F⟩
  rintro k s₁ ⟨i, items, ms, oI, oD, hi, rfl, hj, hL, hS₁, hO₁, F₁⟩
  show wpAny _ A ((compTurn (.ListComp elt [⟨target, iter, ifs, 0⟩] scope pos) 0 (.ref I) (.ref D) cenv).onRaise (fun x => do noteFrame x cenv; theTreesLotGoes x)) _ _ s₁
  refine wpAny_onRaise (wpAny_mono (Q := _) (E' := fun e s' => wpAny _ A (do noteFrame e cenv; theTreesLotGoes e) _ _ s') ?_ (fun _ _ q => q) fun _ _ (e : False) => e.elim)
  rw [compTurn_list]
  refine wpAny_bind (wpAny_standAt (wpAny_bind ?_))
  have hI := F₁.has (I, oI) List.mem_cons_self
  rcases Nat.lt_or_ge i n with hlt | hge
  · refine X.item i s₁ oI _ _ hlt hI hO₁ (hdep i _ _ _ _ _ hj F₁) fun v s₂ o' hs₂ hP ho' hO' hk => ?_
    have F₂ := F₁.step ho' hk
    refine wpAny_bind (X.go ho' hO' ?_)
    refine wpAny_bind (wpAny_mono (turn i v items ms o' oD s₂ hlt hP hj (hS₁.trans hs₂) F₂) (fun _ s₃ h₃ => wpAny_bind (wpAny_mono h₃ (fun ok s₄ h₄ => ?_) fun _ _ e => e)) fun _ _ e => e)
    cases ok with
    | false =>
      obtain ⟨ms', V'', hj', hV, hS', F'⟩ := h₄
      exact wpAny_pure ⟨rfl, n - (i + 1), by lia, i + 1, items, ms', o', oD, hlt, rfl, hj', hL, hS', hO', F'.forget hV⟩
    | true =>
      refine wpAny_bind (wpAny_bind (wpAny_mono h₄ (fun x s₅ h₅ => ?_) fun _ _ e => e))
      obtain ⟨ms', V'', hj', hV, hS', F'⟩ := h₅
      refine wpAny_bind (appendD hS' F' (fun o' => oa1 o') hL.1 hL.2 (by have := hlen _ _ _ hj; lia) fun o'' s₆ hS'' hL' hd' F'' => ?_)
      exact wpAny_pure (wpAny_pure ⟨rfl, n - (i + 1), by lia, i + 1, _, ms', o', o'', hlt, rfl, hj', ⟨hL', hd'⟩, hS'', hO', F''.forget hV⟩)
  · obtain rfl : i = n := Nat.le_antisymm hi hge
    refine X.done s₁ oI _ _ hI hO₁ (hdep _ _ _ _ _ _ hj F₁) fun s₂ hs₂ hk => wpAny_pure ?_
    exact fin items ms oD s₂ hj hL (hS₁.trans hs₂) (F₁.stepOff hk)

theorem nodup_app {a b : List (Addr × Obj)} (h : ((a ++ b).map (·.1)).Nodup) : (a.map (·.1)).Nodup ∧ (b.map (·.1)).Nodup ∧ ∀ x ∈ a, ∀ y ∈ b, x.1 ≠ y.1 := by
  rw [List.map_append] at h
  obtain ⟨h1, h2, h3⟩ := List.nodup_append.mp h
  exact ⟨h1, h2, fun x hx y hy => h3 _ (List.mem_map_of_mem hx) _ (List.mem_map_of_mem hy)⟩

/-- the list, the environment and the turns of a comprehension; behind it the parent's view -/
theorem comp_core {I : Addr} {n : Nat} {Ob : Nat → Obj → Prop} {dep : Heap → Prop} {P : Nat → Value → Prop} {elt target iter : Expr} {ifs : List Expr} {scope : Scope} {pos : Pos} {o : Obj} {ms stat : List (Addr × Obj)} {RR : Value → Addr → Result → Shared → Prop}
    (X : Itr prog w A I n Ob dep P) (J : Nat → List Value → List (Addr × Obj) → Prop) (hS : Same s₀ s) (F : Fm B G env ((I, o) :: (ms ++ stat)) V s.heap) (hfn : env.func.isSome = true) (hO : Ob 0 o) (hJ : J 0 [] ms) (hn : n ≤ 1000000)
    (hcv : CV scope.names V V') (hkind : scope.kind = .function) (hnames : (scope.names.map (·.1)).Nodup) (hdb : (scope.names.all fun p => !(p.1 == ("__debug__" : Str)) && !(p.1 == ("__classdict__" : Str))) = true)
    (hlen : ∀ i items ms, J i items ms → items.length ≤ i)
    (hdep : ∀ C D items i ms' oI oD h, J i items ms' → Fm B (hideAll s.heap (I :: ms.map (·.1))) (compEnvC scope (closL env scope.names []) C env) ((I, oI) :: (D, oD) :: ms') V' h → dep h)
    (turn : ∀ C D i v items ms' oI oD s₁, i < n → P i v → J i items ms' → Same s₀ s₁ → Fm B (hideAll s.heap (I :: ms.map (·.1))) (compEnvC scope (closL env scope.names []) C env) ((I, oI) :: (D, oD) :: ms') V' s₁.heap →
      wpAny (model prog w) A (assign target (compEnvC scope (closL env scope.names []) C env) v) (fun _ s₂ => wpAny (model prog w) A (forIn ifs true fun c r => if r = true then do let ok ← isTrue c (compEnvC scope (closL env scope.names []) C env) (eval c (compEnvC scope (closL env scope.names []) C env)); pure (ForInStep.yield ok) else pure (ForInStep.yield r)) (fun ok s₃ =>
        if ok = true then wpAny (model prog w) A (eval elt (compEnvC scope (closL env scope.names []) C env)) (fun x s₄ => CEnd s₀ B (hideAll s.heap (I :: ms.map (·.1))) (compEnvC scope (closL env scope.names []) C env) I oI D oD V' (J (i + 1) (items ++ [x])) s₄) (fun _ _ => False) s₃
        else CEnd s₀ B (hideAll s.heap (I :: ms.map (·.1))) (compEnvC scope (closL env scope.names []) C env) I oI D oD V' (J (i + 1) items) s₃) (fun _ _ => False) s₂) (fun _ _ => False) s₁)
    (fin : ∀ C D items ms' oD s₁ m, J n items ms' → LO oD items ∧ oD.dict = none → Same s₀ s₁ → Fm B G env ((D, oD) :: (ms' ++ stat)) V s₁.heap → s₁.heap.Ns C m → (∀ h', Heap.SameBut C s₁.heap h' → Fm B G env ((D, oD) :: (ms' ++ stat)) V h') →
      (∀ V₁ own₁ h', (∀ b o, b ≠ C → s₁.heap.get? b = some o → h'.get? b = some o) → Fm B G env own₁ V₁ s₁.heap → ¬ (C ∈ own₁.map (·.1)) → Fm B G env own₁ V₁ h') → C ≠ D → C ∉ (ms' ++ stat).map (·.1) → s.heap.get? C = none → RR (.ref D) C (.ok .next) s₁) :
    wpAny (model prog w) A (newList []) (fun acc s₃ => wpAny (model prog w) A (newFunctionEnv scope env.globals (closL env scope.names []) [] env.qual none .none (some env)) (fun cenv s₄ =>
      codeAny (model prog w) A (.compStart (.ListComp elt [⟨target, iter, ifs, 0⟩] scope pos) 0 (.ref I) acc { cenv with scope := relabel scope env }) (RR acc cenv.locals) s₄) E s₃) E s := by
  have hcell : ∀ y ∈ scope.names, y.2 ≠ .cell := by
    have : ∀ {names : List (Str × NameKind)} {V V' : Vars}, CV names V V' → ∀ y ∈ names, y.2 ≠ .cell := by
      intro names V V' h
      induction h with
      | nil => intro y hy; cases hy
      | own h1 h2 r ih => intro y hy; rcases List.mem_cons.mp hy with rfl | hy; exact h2; exact ih y hy
      | free hm r ih => intro y hy; rcases List.mem_cons.mp hy with rfl | hy; exact (fun e => by cases e); exact ih y hy
    exact this hcv
  refine wpAny_newObj_type (wpAny_newFunctionEnv hcell (by intro y hy; simp at hy) (fun h₁ hns hsb => ?_) hkind)
  dsimp only at hns hsb ⊢
  generalize hH2 : s.heap.push { cls := .type "list", dict := none, data := .seq ([] : List Value).toArray } = H2 at hns hsb ⊢
  have hC : H2.objs.size = s.heap.objs.size + 1 := by rw [← hH2, Heap.size_push]
  have hDC : s.heap.objs.size ≠ H2.objs.size := by rw [hC]; exact Nat.ne_of_lt (Nat.lt_succ_self _)
  have hCnone : s.heap.get? H2.objs.size = none := by
    cases q : s.heap.get? H2.objs.size with
    | none => rfl
    | some o => have := Heap.lt_size q; rw [hC] at this; exact absurd this (Nat.not_lt.mpr (Nat.le_succ _))
  have old : ∀ b o, s.heap.get? b = some o → h₁.get? b = some o := fun b o e =>
    hsb.extBut b o (by rw [hC]; exact Nat.ne_of_lt (Nat.lt_succ_of_lt (Heap.lt_size e))) (Heap.get?_push_of_some _ (hH2 ▸ Heap.get?_push_of_some _ e))
  have hacc : h₁.get? s.heap.objs.size = some { cls := .type "list", dict := none, data := .seq ([] : List Value).toArray } :=
    hsb.extBut _ _ hDC (Heap.get?_push_of_some _ (hH2 ▸ Heap.get?_push_size _ rfl))
  have hfree : ∀ x, (x, NameKind.free) ∈ scope.names → ∃ v c, (x, .cell, some v) ∈ V ∧ env.cells.lookup x = some c ∧ s.heap.IsCell c (some v) ∧ priv env c := by
    intro x hx
    obtain ⟨v, hv⟩ := hcv.frees hx
    obtain ⟨_, c, hc, hor⟩ := F.loc.cl x .cell v hv (by decide)
    rcases hor with ⟨_, h1⟩ | ⟨h1, _⟩
    · exact ⟨v, c, hv, hc, h1, .inr ⟨hfn, List.mem_map.mpr ⟨_, mem_lookup hc, rfl⟩⟩⟩
    · rw [hfn] at h1; cases h1
  have hIms : ((I, o) :: ms).map (·.1) = I :: ms.map (·.1) := rfl
  have hcat : (I, o) :: (ms ++ stat) = ((I, o) :: ms) ++ stat := rfl
  have ND := nodup_app (a := (I, o) :: ms) (b := stat) (by rw [← hcat]; exact F.nodup)
  have hprivOff : ∀ c, priv env c → c ∉ I :: ms.map (·.1) := by
    intro c hc hm
    rw [← hIms] at hm
    obtain ⟨p, hp, rfl⟩ := List.mem_map.mp hm
    exact F.offp p (by rw [hcat]; exact List.mem_append_left _ hp) hc
  -- the comprehension's view
  have F₁ : Fm B (hideAll s.heap (I :: ms.map (·.1))) (compEnvC scope (closL env scope.names []) H2.objs.size env)
      ((I, o) :: (s.heap.objs.size, { cls := .type "list", dict := none, data := .seq ([] : List Value).toArray }) :: ms) V' h₁ := by
    have hn' := hcv.names F.sc F.sc.kind
    have hlk := fun x => closL_lookup (env := env) scope.names [] x hnames (.inl rfl)
    refine ⟨⟨hkind, F.sc.glob, F.sc.bui, ?_, ?_, ?_⟩, fun b o' e => hideAll_get _ (F.keep _ _ (F.base b o' e)) ?_, fun b o' e => old b o' (of_hideAll _ e), ?_, ?_, ?_, ?_, ?_, ⟨⟨_, hns, ?_⟩, ?_, ?_⟩, ?_⟩
    · have h1 := congrArg (List.map Prod.fst) hn'
      rw [List.map_map, List.map_map] at h1
      have h2 : (scope.names.map (Prod.fst ∘ fun (p : Str × NameKind) => match p with | (n, k) => if (k == .free && env.scope.kind == .function && env.kindOf n == some .cell) then (n, NameKind.cell) else (n, k))) = scope.names.map (·.1) := by
        refine List.map_congr_left fun p _ => ?_
        obtain ⟨n, k⟩ := p
        show (if _ then (n, NameKind.cell) else (n, k)).1 = n
        split <;> rfl
      have h3 : V'.map (Prod.fst ∘ fun p : Str × NameKind × Option Value => (p.1, p.2.1)) = V'.map (·.1) := rfl
      rw [h3] at h1
      rw [h1]; exact h2 ▸ hnames
    · intro p hp
      have h1 := List.mem_map_of_mem (f := fun p : Str × NameKind × Option Value => (p.1, p.2.1)) hp
      rw [hn'] at h1
      have h2 : ((relabel scope env).names.map (·.1)).Nodup := by
        have : (relabel scope env).names.map (·.1) = scope.names.map (·.1) := by
          show List.map _ (List.map _ _) = _
          rw [List.map_map]
          refine List.map_congr_left fun p _ => ?_
          obtain ⟨n, k⟩ := p
          show (if _ then (n, NameKind.cell) else (n, k)).1 = n
          split <;> rfl
        rw [this]; exact hnames
      exact lookup_of_mem h2 h1
    · intro p hp
      have h1 := List.mem_map_of_mem (f := fun p : Str × NameKind × Option Value => (p.1, p.2.1)) hp
      rw [hn'] at h1
      obtain ⟨q, hq, e⟩ := List.mem_map.mp h1
      have h3 : q.1 = p.1 := by
        obtain ⟨n, k⟩ := q
        have := congrArg Prod.fst e
        dsimp only at this
        split at this <;> exact this
      have := List.all_eq_true.mp hdb _ hq
      rw [h3] at this
      simpa using this
    · intro hm
      rw [← hIms] at hm
      obtain ⟨p, hp, rfl⟩ := List.mem_map.mp hm
      have := F.off p (by rw [hcat]; exact List.mem_append_left _ hp)
      rw [F.base _ _ e] at this; cases this
    · intro p hp
      rcases List.mem_cons.mp hp with rfl | hp
      · exact old _ _ (F.has (I, o) List.mem_cons_self)
      · rcases List.mem_cons.mp hp with rfl | hp
        · exact hacc
        · exact old _ _ (F.has p (List.mem_cons_of_mem _ (List.mem_append_left _ hp)))
    · have hIm := List.nodup_cons.mp (by simpa using ND.1 : (I :: ms.map (·.1)).Nodup)
      have hlt : ∀ p ∈ (I, o) :: ms, p.1 ≠ s.heap.objs.size := fun p hp => Nat.ne_of_lt (Heap.lt_size (F.has p (by rw [hcat]; exact List.mem_append_left _ hp)))
      simp only [List.map_cons, List.nodup_cons, List.mem_cons, not_or]
      refine ⟨⟨hlt _ List.mem_cons_self, hIm.1⟩, fun hm => ?_, hIm.2⟩
      obtain ⟨p, hp, e⟩ := List.mem_map.mp hm
      exact hlt p (List.mem_cons_of_mem _ hp) e
    · intro p hp
      rcases List.mem_cons.mp hp with rfl | hp
      · exact hideAll_none _ (by simp)
      · rcases List.mem_cons.mp hp with rfl | hp
        · cases q : (hideAll s.heap (I :: ms.map (·.1))).get? s.heap.objs.size with
          | none => rfl
          | some o' => exact absurd (Heap.lt_size (of_hideAll _ q)) (Nat.lt_irrefl _)
        · exact hideAll_none _ (List.mem_cons_of_mem _ (List.mem_map_of_mem hp))
    · rintro p hp (e | ⟨h9, _⟩)
      · have hpC : p.1 ≠ H2.objs.size := by
          rcases List.mem_cons.mp hp with rfl | hp
          · rw [hC]; exact Nat.ne_of_lt (Nat.lt_succ_of_lt (Heap.lt_size (F.has (I, o) List.mem_cons_self)))
          · rcases List.mem_cons.mp hp with rfl | hp
            · exact hDC
            · rw [hC]; exact Nat.ne_of_lt (Nat.lt_succ_of_lt (Heap.lt_size (F.has p (List.mem_cons_of_mem _ (List.mem_append_left _ hp)))))
        exact hpC e
      · cases h9
    · rintro a (e | ⟨h9, _⟩)
      · cases q : (hideAll s.heap (I :: ms.map (·.1))).get? a with
        | none => rfl
        | some o' => have := of_hideAll _ q; rw [e, show (compEnvC scope (closL env scope.names []) H2.objs.size env).locals = H2.objs.size from rfl, hCnone] at this; cases this
      · cases h9
    · intro x v hx
      obtain ⟨h9, _⟩ := hcv.val hx; cases h9
    · intro x k v hx _
      obtain ⟨rfl, hv, hf⟩ := hcv.val hx
      obtain ⟨_, c, hc, hor⟩ := F.loc.cl x .cell v hv (by decide)
      refine ⟨.inl rfl, c, ?_, .inr ⟨rfl, ?_⟩⟩
      · show (closL env scope.names []).lookup x = some c
        rw [hlk, if_pos hf, hc]; rfl
      · rcases hor with ⟨_, oc, ho, hd⟩ | ⟨h1, _⟩
        · exact ⟨oc, hideAll_get _ ho (hprivOff c (.inr ⟨hfn, List.mem_map.mpr ⟨_, mem_lookup hc, rfl⟩⟩)), hd⟩
        · rw [hfn] at h1; cases h1
    · intro h9; cases h9
    · intro h9; cases h9
  have loop : codeAny (model prog w) A (.compLoop (.ListComp elt [⟨target, iter, ifs, 0⟩] scope pos) 0 (.ref I) (.ref s.heap.objs.size) (compEnvC scope (closL env scope.names []) H2.objs.size env))
      (RR (.ref s.heap.objs.size) H2.objs.size) { s with heap := h₁, toks := s.toks + ([] : List (Str × Value)).length } := by
    refine compLoopF (s₀ := s₀) (s := { s with heap := h₁, toks := s.toks + ([] : List (Str × Value)).length }) X J hS F₁ hO ⟨⟨rfl, 0, rfl⟩, rfl⟩ hJ hn hlen (fun i items ms' oI oD h hj F' => hdep _ _ items i ms' oI oD h hj F')
      (fun i v items ms' oI oD s₁ hi hP hj hS₁ F' => turn _ _ i v items ms' oI oD s₁ hi hP hj hS₁ F') fun items ms' oD s₁ hj hL hS₁ F₂ => ?_
    obtain ⟨m, hm, _⟩ := F₂.loc.ns
    have hk₂ : ∀ b o', b ∉ I :: ms.map (·.1) → s.heap.get? b = some o' → s₁.heap.get? b = some o' := fun b o' hb e => F₂.keep b o' (hideAll_get _ e hb)
    have hGoff : ∀ b o', G.get? b = some o' → b ∉ I :: ms.map (·.1) := by
      intro b o' e hm
      rw [← hIms] at hm
      obtain ⟨p, hp, rfl⟩ := List.mem_map.mp hm
      rw [F.off p (by rw [hcat]; exact List.mem_append_left _ hp)] at e; cases e
    have hDnone : s.heap.get? s.heap.objs.size = none := get_size _
    have fD := F.fresh hDnone
    have hms' : ∀ p ∈ ms', s.heap.get? p.1 = none ∨ ∃ q ∈ (I, o) :: ms, q.1 = p.1 := fun p hp => by
      by_cases hm : p.1 ∈ I :: ms.map (·.1)
      · rw [← hIms] at hm
        obtain ⟨q, hq, e⟩ := List.mem_map.mp hm
        exact .inr ⟨q, hq, e⟩
      · refine .inl ?_
        cases q : s.heap.get? p.1 with
        | none => rfl
        | some o' => have := F₂.off p (List.mem_cons_of_mem _ hp); rw [hideAll_get _ q hm] at this; cases this
    have hmsD : ∀ p ∈ ms', p.1 ≠ s.heap.objs.size := fun p hp e => by
      have := F₂.nodup
      rw [List.map_cons] at this
      exact (List.nodup_cons.mp this).1 (List.mem_map.mpr ⟨p, hp, e⟩)
    have hmsN : (ms'.map (·.1)).Nodup := by
      have := F₂.nodup
      rw [List.map_cons] at this
      exact (List.nodup_cons.mp this).2
    have F₃ : Fm B G env ((s.heap.objs.size, oD) :: (ms' ++ stat)) V s₁.heap := by
      have F₀ := F.none.ext (h' := s₁.heap) (fun b o' e => hk₂ b o' (hGoff b o' e) (F.keep b o' e)) (fun _ hp => nomatch hp) fun a ha' o' e => ⟨o', hk₂ a o' (hprivOff a ha') e, rfl⟩
      refine ⟨F.sc, F.base, F₀.keep, ?_, ?_, ?_, ?_, F.prv, F₀.loc, F₀.cls⟩
      · intro p hp
        rcases List.mem_cons.mp hp with rfl | hp
        · exact F₂.has _ List.mem_cons_self
        · rcases List.mem_append.mp hp with hp | hp
          · exact F₂.has p (List.mem_cons_of_mem _ hp)
          · refine hk₂ _ _ (fun hm => ?_) (F.has p (List.mem_cons_of_mem _ (List.mem_append_right _ hp)))
            rw [← hIms] at hm
            obtain ⟨q, hq, e⟩ := List.mem_map.mp hm
            exact ND.2.2 q hq p hp e
      · rw [List.map_cons]
        refine List.nodup_cons.mpr ⟨fun hm => ?_, ?_⟩
        · obtain ⟨p, hp, e⟩ := List.mem_map.mp hm
          rcases List.mem_append.mp hp with hp | hp
          · exact hmsD p hp e
          · exact fD.2.1 p (List.mem_cons_of_mem _ (List.mem_append_right _ hp)) e
        · rw [List.map_append, List.nodup_append]
          refine ⟨hmsN, ND.2.1, fun a ha b hb e => ?_⟩
          obtain ⟨p, hp, rfl⟩ := List.mem_map.mp ha
          obtain ⟨q, hq, rfl⟩ := List.mem_map.mp hb
          rcases hms' p hp with h0 | ⟨r, hr, e'⟩
          · rw [e, F.has q (List.mem_cons_of_mem _ (List.mem_append_right _ hq))] at h0; cases h0
          · exact ND.2.2 r hr q hq (e'.trans e)
      · intro p hp
        rcases List.mem_cons.mp hp with rfl | hp
        · exact fD.1
        · rcases List.mem_append.mp hp with hp | hp
          · rcases hms' p hp with h0 | ⟨q, hq, e⟩
            · exact (F.fresh h0).1
            · rw [← e]; exact F.off q (by rw [hcat]; exact List.mem_append_left _ hq)
          · exact F.off p (List.mem_cons_of_mem _ (List.mem_append_right _ hp))
      · intro p hp
        rcases List.mem_cons.mp hp with rfl | hp
        · exact fD.2.2
        · rcases List.mem_append.mp hp with hp | hp
          · rcases hms' p hp with h0 | ⟨q, hq, e⟩
            · exact (F.fresh h0).2.2
            · rw [← e]; exact F.offp q (by rw [hcat]; exact List.mem_append_left _ hq)
          · exact F.offp p (List.mem_cons_of_mem _ (List.mem_append_right _ hp))
    have fC := F.fresh hCnone
    have hCown : H2.objs.size ∉ (ms' ++ stat).map (·.1) := by
      intro hm
      obtain ⟨p, hp, e⟩ := List.mem_map.mp hm
      rcases List.mem_append.mp hp with hp | hp
      · exact F₂.offp p (List.mem_cons_of_mem _ hp) (.inl e)
      · exact fC.2.1 p (List.mem_cons_of_mem _ (List.mem_append_right _ hp)) e
    have other : ∀ V₁ own₁ h', (∀ b o, b ≠ H2.objs.size → s₁.heap.get? b = some o → h'.get? b = some o) → Fm B G env own₁ V₁ s₁.heap → ¬ (H2.objs.size ∈ own₁.map (·.1)) → Fm B G env own₁ V₁ h' := by
      intro V₁ own₁ h' k F' hno
      refine F'.growBut (X := fun b => b = H2.objs.size) (fun b o' hb e => k b o' hb e) (fun b hb => hb ▸ fC.1) (fun p hp e => hno (e ▸ List.mem_map_of_mem hp)) fun a ha' e => fC.2.2 (e ▸ ha')
    refine fin H2.objs.size s.heap.objs.size items ms' oD s₁ m hj hL hS₁ F₃ hm (fun h' hs' => other _ _ _ (fun b o' hb e => (hs'.2 b hb).trans e) F₃ ?_) other (Ne.symm hDC) hCown hCnone
    rw [List.map_cons, List.mem_cons, not_or]; exact ⟨Ne.symm hDC, hCown⟩
  exact codeAny_compStart_list loop (X.self 0 _ o _ _ (F₁.has (I, o) List.mem_cons_self) hO loop)

theorem ListCompF {elt target iter : Expr} {ifs : List Expr} {scope : Scope} {pos : Pos} {Q : Value → Shared → Prop} (hfr : ∀ n, (n, NameKind.free) ∈ scope.names → ∃ c, env.cells.lookup n = some c) (hkind : scope.kind = .function) (hnames : (scope.names.map (·.1)).Nodup)
    (hs : ∀ x, foldedSetIterable iter env x = pure x)
    (h : wpAny (model prog w) A (eval iter env) (fun x s₁ => wpAny (model prog w) A (pyIter x) (fun it s₂ => wpAny (model prog w) A (newList []) (fun acc s₃ => wpAny (model prog w) A (newFunctionEnv scope env.globals (closL env scope.names []) [] env.qual none .none (some env)) (fun cenv s₄ =>
      codeAny (model prog w) A (.compStart (.ListComp elt [⟨target, iter, ifs, 0⟩] scope pos) 0 it acc { cenv with scope := relabel scope env }) (compPost (model prog w) A E none Q acc cenv.locals) s₄) E s₃) E s₂) E s₁) E s) :
    wpAny (model prog w) A (eval (.ListComp elt [⟨target, iter, ifs, 0⟩] scope pos) env) Q E s := by
  rw [eval_ListComp]
  exact wpAny_comprehension_free (use := none) rfl hs (closureFor_eq hfr) hkind (fun x hx hl => by obtain ⟨n, k⟩ := x; simp only at hl; subst hl; exact lookup_of_mem hnames hx) h
end
end Mine
end F6
section F7
set_option maxRecDepth 100000
namespace Mine
section
variable {prog : Program} {w : World} {A : Around} {E : Value → Shared → Prop} {s₀ s : Shared} {B G : Heap} {env : Env} {own : List (Addr × Obj)} {V V' : Vars}

/-- what follows the iterator of a comprehension -/
def CompK (prog : Program) (w : World) (A : Around) (E : Value → Shared → Prop) (env : Env) (scope : Scope) (elt target iter : Expr) (ifs : List Expr) (pos : Pos) (RR : Value → Addr → Result → Shared → Prop) (it : Value) (s : Shared) : Prop :=
  wpAny (model prog w) A (newList []) (fun acc s₃ => wpAny (model prog w) A (newFunctionEnv scope env.globals (closL env scope.names []) [] env.qual none .none (some env)) (fun cenv s₄ =>
      codeAny (model prog w) A (.compStart (.ListComp elt [⟨target, iter, ifs, 0⟩] scope pos) 0 it acc { cenv with scope := relabel scope env }) (RR acc cenv.locals) s₄) E s₃) E s

structure CompOk (scope : Scope) (V V' : Vars) : Prop where
  cv : CV scope.names V V'
  kind : scope.kind = .function
  names : (scope.names.map (·.1)).Nodup
  db : (scope.names.all fun p => !(p.1 == ("__debug__" : Str)) && !(p.1 == ("__classdict__" : Str))) = true

theorem CompOk.cells {scope : Scope} (C : CompOk scope V V') {h : Heap} (F : Fm B G env own V h) : ∀ n, (n, NameKind.free) ∈ scope.names → ∃ c, env.cells.lookup n = some c := by
  intro n hn
  obtain ⟨v, hv⟩ := C.cv.frees hn
  obtain ⟨_, c, hc, _⟩ := F.loc.cl n .cell v hv (by decide)
  exact ⟨c, hc⟩

/-- a comprehension's value -/
theorem ListComp_ {elt target iter : Expr} {ifs : List Expr} {scope : Scope} {pos : Pos} {Q : Value → Shared → Prop} (V' : Vars) (F : Fm B G env own V s.heap) (C : CompOk scope V V')
    (hs : ∀ x, foldedSetIterable iter env x = pure x)
    (h : wpAny (model prog w) A (eval iter env) (fun x s₁ => wpAny (model prog w) A (pyIter x) (fun it s₂ => CompK prog w A E env scope elt target iter ifs pos (compPost (model prog w) A E none Q) it s₂) E s₁) E s) :
    wpAny (model prog w) A (eval (.ListComp elt [⟨target, iter, ifs, 0⟩] scope pos) env) Q E s :=
  ListCompF (C.cells F) C.kind C.names hs h

/-- a comprehension that is assigned to a local name of the same row -/
theorem Assign_ListComp_ {elt target iter : Expr} {ifs : List Expr} {scope : Scope} {pos spos py : Pos} {y : Str} {Q : Flow → Shared → Prop} (V' : Vars) (F : Fm B G env own V s.heap) (C : CompOk scope V V')
    (hsw : swapsWith (.ListComp elt [⟨target, iter, ifs, 0⟩] scope pos) (some (.Name y py)) spos.line env = pure true)
    (hs : ∀ x, foldedSetIterable iter env x = pure x)
    (h : wpAny (model prog w) A (eval iter env) (fun x s₁ => wpAny (model prog w) A (pyIter x) (fun it s₂ => CompK prog w A E env scope elt target iter ifs pos (compPost (model prog w) A E (some (assign (.Name y py) env)) (fun _ s' => Q .next s')) it s₂) E s₁) E s) :
    wpAny (model prog w) A (exec (.Assign [.Name y py] (.ListComp elt [⟨target, iter, ifs, 0⟩] scope pos) spos) env) Q E s := by
  rw [exec_Assign_Name_used _ _ _ _ hsw]
  refine wpAny_bind (wpAny_standAt (wpAny_bind ?_))
  show wpAny _ A (do let _ ← comprehension (.ListComp elt [⟨target, iter, ifs, 0⟩] scope pos) scope env _ (newList []) false (eval iter env) (some (assign (.Name y py) env))) _ _ s
  exact wpAny_bind (wpAny_mono (wpAny_comprehension_free (use := some (assign (.Name y py) env)) (Q := fun _ s' => Q .next s') rfl hs (closureFor_eq (C.cells F)) C.kind (fun x hx hl => by obtain ⟨n, k⟩ := x; simp only at hl; subst hl; exact lookup_of_mem C.names hx) h) (fun _ s' hq => wpAny_pure (wpAny_pure hq)) fun _ _ e => e)

theorem comp_any {I : Addr} {n : Nat} {Ob : Nat → Obj → Prop} {dep : Heap → Prop} {P : Nat → Value → Prop} {elt target iter : Expr} {ifs : List Expr} {scope : Scope} {pos : Pos} {o : Obj} {ms stat : List (Addr × Obj)} {RR : Value → Addr → Result → Shared → Prop}
    (X : Itr prog w A I n Ob dep P) (J : Nat → List Value → List (Addr × Obj) → Prop) (hS : Same s₀ s) (F : Fm B G env ((I, o) :: (ms ++ stat)) V s.heap) (hfn : env.func.isSome = true) (hO : Ob 0 o) (hJ : J 0 [] ms) (hn : n ≤ 1000000)
    (C : CompOk scope V V') (hlen : ∀ i items ms, J i items ms → items.length ≤ i)
    (hdep : ∀ G' cenv D items i ms' oI oD h, (∀ b ob, b ≠ I → b ∉ ms.map (·.1) → s.heap.get? b = some ob → G'.get? b = some ob) → J i items ms' → Fm B G' cenv ((I, oI) :: (D, oD) :: ms') V' h → dep h)
    (turn : ∀ G' cenv D i v items ms' oI oD s₁, (∀ b ob, b ≠ I → b ∉ ms.map (·.1) → s.heap.get? b = some ob → G'.get? b = some ob) → i < n → P i v → J i items ms' → Same s₀ s₁ → Fm B G' cenv ((I, oI) :: (D, oD) :: ms') V' s₁.heap →
      wpAny (model prog w) A (assign target cenv v) (fun _ s₂ => wpAny (model prog w) A (forIn ifs true fun c r => if r = true then do let ok ← isTrue c cenv (eval c cenv); pure (ForInStep.yield ok) else pure (ForInStep.yield r)) (fun ok s₃ =>
        if ok = true then wpAny (model prog w) A (eval elt cenv) (fun x s₄ => CEnd s₀ B G' cenv I oI D oD V' (J (i + 1) (items ++ [x])) s₄) (fun _ _ => False) s₃
        else CEnd s₀ B G' cenv I oI D oD V' (J (i + 1) items) s₃) (fun _ _ => False) s₂) (fun _ _ => False) s₁)
    (fin : ∀ C D items ms' oD s₁ m, J n items ms' → LO oD items ∧ oD.dict = none → Same s₀ s₁ → Fm B G env ((D, oD) :: (ms' ++ stat)) V s₁.heap → s₁.heap.Ns C m → (∀ h', Heap.SameBut C s₁.heap h' → Fm B G env ((D, oD) :: (ms' ++ stat)) V h') →
      (∀ V₁ own₁ h', (∀ b o, b ≠ C → s₁.heap.get? b = some o → h'.get? b = some o) → Fm B G env own₁ V₁ s₁.heap → ¬ (C ∈ own₁.map (·.1)) → Fm B G env own₁ V₁ h') → C ≠ D → C ∉ (ms' ++ stat).map (·.1) → s.heap.get? C = none → RR (.ref D) C (.ok .next) s₁) :
    CompK prog w A E env scope elt target iter ifs pos RR (.ref I) s := by
  have hG : ∀ b ob, b ≠ I → b ∉ ms.map (·.1) → s.heap.get? b = some ob → (hideAll s.heap (I :: ms.map (·.1))).get? b = some ob := fun b ob h1 h2 e => hideAll_get _ e (by rw [List.mem_cons, not_or]; exact ⟨h1, h2⟩)
  exact comp_core X J hS F hfn hO hJ hn C.cv C.kind C.names C.db hlen (fun C D items i ms' oI oD h hj F' => hdep _ _ D items i ms' oI oD h hG hj F')
    (fun C D i v items ms' oI oD s₁ hi hP hj hS₁ F' => turn _ _ D i v items ms' oI oD s₁ hG hi hP hj hS₁ F') fin

theorem comp_val {I : Addr} {n : Nat} {Ob : Nat → Obj → Prop} {dep : Heap → Prop} {P : Nat → Value → Prop} {elt target iter : Expr} {ifs : List Expr} {scope : Scope} {pos : Pos} {o : Obj} {ms stat : List (Addr × Obj)} {Q : Value → Shared → Prop}
    (X : Itr prog w A I n Ob dep P) (J : Nat → List Value → List (Addr × Obj) → Prop) (hS : Same s₀ s) (F : Fm B G env ((I, o) :: (ms ++ stat)) V s.heap) (hfn : env.func.isSome = true) (hO : Ob 0 o) (hJ : J 0 [] ms) (hn : n ≤ 1000000)
    (C : CompOk scope V V') (hlen : ∀ i items ms, J i items ms → items.length ≤ i)
    (hdep : ∀ G' cenv D items i ms' oI oD h, (∀ b ob, b ≠ I → b ∉ ms.map (·.1) → s.heap.get? b = some ob → G'.get? b = some ob) → J i items ms' → Fm B G' cenv ((I, oI) :: (D, oD) :: ms') V' h → dep h)
    (turn : ∀ G' cenv D i v items ms' oI oD s₁, (∀ b ob, b ≠ I → b ∉ ms.map (·.1) → s.heap.get? b = some ob → G'.get? b = some ob) → i < n → P i v → J i items ms' → Same s₀ s₁ → Fm B G' cenv ((I, oI) :: (D, oD) :: ms') V' s₁.heap →
      wpAny (model prog w) A (assign target cenv v) (fun _ s₂ => wpAny (model prog w) A (forIn ifs true fun c r => if r = true then do let ok ← isTrue c cenv (eval c cenv); pure (ForInStep.yield ok) else pure (ForInStep.yield r)) (fun ok s₃ =>
        if ok = true then wpAny (model prog w) A (eval elt cenv) (fun x s₄ => CEnd s₀ B G' cenv I oI D oD V' (J (i + 1) (items ++ [x])) s₄) (fun _ _ => False) s₃
        else CEnd s₀ B G' cenv I oI D oD V' (J (i + 1) items) s₃) (fun _ _ => False) s₂) (fun _ _ => False) s₁)
    (fin : ∀ D items ms' oD s₁, J n items ms' → LO oD items ∧ oD.dict = none → Same s₀ s₁ → Fm B G env ((D, oD) :: (ms' ++ stat)) V s₁.heap → Q (.ref D) s₁) :
    CompK prog w A E env scope elt target iter ifs pos (compPost (model prog w) A E none Q) (.ref I) s :=
  comp_any X J hS F hfn hO hJ hn C hlen hdep turn fun C D items ms' oD s₁ m hj hL hS₁ F₁ hns hC _ _ _ _ =>
    ⟨m, hns, fun h' hs' => fin D items ms' oD { s₁ with heap := h' } hj hL hS₁ (hC h' hs')⟩

theorem comp_asg {I : Addr} {n : Nat} {Ob : Nat → Obj → Prop} {dep : Heap → Prop} {P : Nat → Value → Prop} {elt target iter : Expr} {ifs : List Expr} {scope : Scope} {pos : Pos} {o : Obj} {ms stat : List (Addr × Obj)} {y : Str} {py : Pos} {V₁ : Addr → Vars} {Q : Flow → Shared → Prop}
    (X : Itr prog w A I n Ob dep P) (J : Nat → List Value → List (Addr × Obj) → Prop) (hS : Same s₀ s) (F : Fm B G env ((I, o) :: (ms ++ stat)) V s.heap) (hfn : env.func.isSome = true) (hO : Ob 0 o) (hJ : J 0 [] ms) (hn : n ≤ 1000000)
    (C : CompOk scope V V') (hA : ∀ D, SA V y .local (.ref D) (V₁ D)) (hlen : ∀ i items ms, J i items ms → items.length ≤ i)
    (hdep : ∀ G' cenv D items i ms' oI oD h, (∀ b ob, b ≠ I → b ∉ ms.map (·.1) → s.heap.get? b = some ob → G'.get? b = some ob) → J i items ms' → Fm B G' cenv ((I, oI) :: (D, oD) :: ms') V' h → dep h)
    (turn : ∀ G' cenv D i v items ms' oI oD s₁, (∀ b ob, b ≠ I → b ∉ ms.map (·.1) → s.heap.get? b = some ob → G'.get? b = some ob) → i < n → P i v → J i items ms' → Same s₀ s₁ → Fm B G' cenv ((I, oI) :: (D, oD) :: ms') V' s₁.heap →
      wpAny (model prog w) A (assign target cenv v) (fun _ s₂ => wpAny (model prog w) A (forIn ifs true fun c r => if r = true then do let ok ← isTrue c cenv (eval c cenv); pure (ForInStep.yield ok) else pure (ForInStep.yield r)) (fun ok s₃ =>
        if ok = true then wpAny (model prog w) A (eval elt cenv) (fun x s₄ => CEnd s₀ B G' cenv I oI D oD V' (J (i + 1) (items ++ [x])) s₄) (fun _ _ => False) s₃
        else CEnd s₀ B G' cenv I oI D oD V' (J (i + 1) items) s₃) (fun _ _ => False) s₂) (fun _ _ => False) s₁)
    (fin : ∀ D items ms' oD s₁, J n items ms' → LO oD items ∧ oD.dict = none → Same s₀ s₁ → Fm B G env ((D, oD) :: (ms' ++ stat)) (V₁ D) s₁.heap → Q .next s₁) :
    CompK prog w A E env scope elt target iter ifs pos (compPost (model prog w) A E (some (assign (.Name y py) env)) (fun _ s' => Q .next s')) (.ref I) s := by
  refine comp_any X J hS F hfn hO hJ hn C hlen hdep turn fun C D items ms' oD s₁ m hj hL hS₁ F₁ hns _ other hCD hCo hCn => ?_
  show wpAny _ A (assign (.Name y py) env (.ref D)) _ _ _
  obtain ⟨oC, es, ep, hoC, r⟩ := hns
  have fC := F.fresh hCn
  have F₂ : Fm B G env ((C, oC) :: (D, oD) :: (ms' ++ stat)) V s₁.heap := by
    refine ⟨F₁.sc, F₁.base, F₁.keep, ?_, ?_, ?_, ?_, F₁.prv, F₁.loc, F₁.cls⟩
    · intro p hp
      rcases List.mem_cons.mp hp with rfl | hp
      · exact hoC
      · exact F₁.has p hp
    · rw [List.map_cons]
      refine List.nodup_cons.mpr ⟨?_, F₁.nodup⟩
      rw [List.map_cons, List.mem_cons, not_or]; exact ⟨hCD, hCo⟩
    · intro p hp
      rcases List.mem_cons.mp hp with rfl | hp
      · exact fC.1
      · exact F₁.off p hp
    · intro p hp
      rcases List.mem_cons.mp hp with rfl | hp
      · exact fC.2.2
      · exact F₁.offp p hp
  refine assign_NameF hS₁ F₂ (hA D) (.inl rfl) fun s₂ hS₂ F₃ => ?_
  refine ⟨m, ⟨oC, es, ep, F₃.has (C, oC) List.mem_cons_self, r⟩, fun h' hs' => fin D items ms' oD { s₂ with heap := h' } hj hL hS₂ ?_⟩
  exact F₃.stepOff fun b ob hb e => (hs'.2 b hb).trans e
end
end Mine
end F7
section F8
set_option maxRecDepth 100000
namespace Mine

noncomputable abbrev Bs := List UInt8
def DO (prog : Program) (w : World) (o : Obj) (kvs : List (Bs × Value)) : Prop := o.IsDictOf (bytesKind prog w) kvs

section
variable {prog : Program} {w : World} {K : Frag} {B G : Heap} {env : Env} {own : List (Addr × Obj)} {V V' : Vars} {A : Around} {E : Value → Shared → Prop} {s₀ s : Shared} {kvs : List (Bs × Value)} {x : Bs} {t : Tok} {d : Addr} {o : Obj}

theorem DO.at {h : Heap} (e : h.get? d = some o) (D : DO prog w o kvs) : h.DictOf (bytesKind prog w) d kvs := Heap.dictOf_iff.mpr ⟨o, e, D⟩
theorem dic_own {h : Heap} (F : Fm B G env own V h) (hm : (d, o) ∈ own) (D : DO prog w o kvs) : h.DictOf (bytesKind prog w) d kvs := D.at (F.has _ hm)
theorem dic_G {h : Heap} (F : Fm B G env own V h) (hg : G.get? d = some o) (D : DO prog w o kvs) : h.DictOf (bytesKind prog w) d kvs := D.at (F.keep _ _ hg)
theorem isB (prog : Program) (w : World) (x : Bs) (t : Tok) : (bytesKind prog w).is x (.bytes x.toArray t) = true := by simp [bytesKind, isBytes]

theorem Sc_same_tok {Q : Shared → Prop} (h : ∀ s', Same s₀ s' → s'.heap = s.heap → Q s') (hS : Same s₀ s) (k : Nat) : Q { s with toks := k } := h _ hS rfl

theorem in_dictF {Q : Value → Shared → Prop} (hS : Same s₀ s) (F : Fm B G env own V s.heap) (hD : s.heap.DictOf (bytesKind prog w) d kvs) (hd : (d == sysModules) = false)
    (h : ∀ s', Same s₀ s' → Fm B G env own V s'.heap → Q (.bool (valueAt kvs x).isSome) s') : wpAny (model prog w) A (compareOp .In (.bytes x.toArray t) (.ref d)) Q E s :=
  wpAny_in_of (isB prog w x t) hd hD.mapOf (h _ hS F)
theorem get_dictF {Q : Value → Shared → Prop} {dflt : Value} (hS : Same s₀ s) (F : Fm B G env own V s.heap) (hD : s.heap.DictOf (bytesKind prog w) d kvs) (hd : (d == sysModules) = false)
    (h : ∀ s', Same s₀ s' → Fm B G env own V s'.heap → Q ((valueAt kvs x).getD dflt) s') : wpAny (model prog w) A (call (.builtin "dict.get") [.ref d, .bytes x.toArray t, dflt]) Q E s :=
  call_meetsIn PySem.F.slot_dict_get hD.typeIs PySem.F.entry_dict_get (PySem.F.args_dict_get_3 _ _ _) (meets_dict_get_default (bytesKind prog w) d (isB prog w x t) hd dflt) ⟨_, hD.mapOf, h _ hS F⟩
theorem meth_dictF {Q : Value × List Value → Shared → Prop} {pl : Sem Bool} (hD : s.heap.DictOf (bytesKind prog w) d kvs) (h : Q (.builtin "dict.get", [.ref d]) s) : wpAny (model prog w) A (getMethod (.ref d) "get" pl) Q E s :=
  getMethod_builtin hD.typeIs PySem.F.plainAttrs_dict PySem.F.slot_dict_get PySem.F.type_dict_get hD.mapOf.noDict h
theorem item_dictF {v : Value} {value slice : PySem.Expr} {Q : Value → Shared → Prop} (hS : Same s₀ s) (F : Fm B G env own V s.heap) (hD : s.heap.DictOf (bytesKind prog w) d kvs) (hv : valueAt kvs x = some v)
    (h : ∀ s', Same s₀ s' → Fm B G env own V s'.heap → Q v s')
    (hs : subscripted slice false (.ref d) (.bytes x.toArray t) = operate [.ref d, .bytes x.toArray t] (getItem (.ref d) (.bytes x.toArray t)) := by with_unfolding_all rfl) (hg : ∀ r, letTemporaryGo value (.ref d) r = pure () := by intro _; with_unfolding_all rfl) :
    wpAny (model prog w) A (subscriptTail value slice (.ref d) (.bytes x.toArray t)) Q E s :=
  subscriptTail_builtin hD.typeIs slot_dict_getitem.lookup (wpAny_getItem_of (isB prog w x t) hD.mapOf hv (h _ hS F)) hs hg
theorem set_dictF {own' : Obj → List (Addr × Obj)} {v : Value} {Q : Unit → Shared → Prop} (hS : Same s₀ s) (F : Fm B G env own V s.heap) (hO : ∀ o', OA own d o o' (own' o')) (D : DO prog w o kvs) (hsz : kvs.length ≤ sizeLine)
    (h : ∀ o' s', Same s₀ s' → DO prog w o' (stored kvs x v) → Fm B G env (own' o') V s'.heap → Q () s') :
    wpAny (model prog w) A (setItem (.ref d) (.bytes x.toArray t) v) Q E s := by
  refine wpAny_setItem_pairs (hsz := hsz) (isB prog w x t) (D.at (F.has (d, o) (hO o).mem)) fun h' hm hs => ?_
  obtain ⟨o', ho', hd'⟩ := Heap.dictOf_iff.mp hm
  exact h o' { s with heap := h', toks := s.toks + 1 } hS hd' (F.updA (hO o') (fun b ob hb e => (hs.2 b hb).trans e) ho')
theorem new_dictF {pos : Pos} {Q : Value → Shared → Prop} (S : Sta K B) (hS : Same s₀ s) (F : Fm B G env own V s.heap)
    (h : ∀ o l s', Same s₀ s' → s.heap.get? l = none → (l == sysModules) = false → DO prog w o [] → Fm B G env ((l, o) :: own) V s'.heap → Q (.ref l) s') : wpAny (model prog w) A (eval (.Dict [] [] pos) env) Q E s := by
  refine wpAny_Dict_empty ?_
  refine h _ _ { s with heap := s.heap.push _ } hS (get_size _) ?_ ⟨#[], _, ⟨rfl, by simp⟩, rfl, ?_, .nil, .nil⟩ (F.alloc _)
  · have := modules_low (S.nolimit.keeps F.inB)
    rw [beq_eq_false_iff_ne]; exact fun e => absurd this (by rw [← e]; exact Nat.lt_irrefl _)
  · intro e he; simp at he

def DicOb (d : Addr) (n ep : Nat) (i : Nat) (o : Obj) : Prop := ∃ h : Heap, ∃ I, h.get? I = some o ∧ h.IsKeyIter I d i n ep
theorem isKeyIter_of {h h' : Heap} {I I' d : Addr} {i n ep : Nat} {o : Obj} (x : h.IsKeyIter I d i n ep) (e : h.get? I = some o) (e' : h'.get? I' = some o) : h'.IsKeyIter I' d i n ep := by
  obtain ⟨o', h1, h2⟩ := x
  rw [e] at h1; cases h1
  exact ⟨o, e', h2⟩
theorem itr_dict (hh : A.handled = none) {I d : Addr} (_hne : d ≠ I) (kvs : List (Bs × Value)) (ep : Nat) : Itr prog w A I kvs.length (DicOb d kvs.length ep) (fun h => h.DictAt (bytesKind prog w) d kvs ep) (fun i v => ∃ k u t, kvs[i]? = some (k, u) ∧ v = .bytes k.toArray t) where
  item := fun i s o Q E hi ho hO hd hQ => by
    obtain ⟨h₁, I₁, e₁, hk⟩ := hO
    have hk' := isKeyIter_of hk e₁ ho
    refine wpAny_pyNext_dict_item (k := kvs[i].1) (v := kvs[i].2) hk' hd (by simp [hi]) fun key h' hkey hit hs => ?_
    obtain ⟨t, rfl⟩ := isBytes_shape hkey
    obtain ⟨o', ho', hr⟩ := hit
    exact hQ _ { s with heap := h' } o' ⟨rfl, rfl, rfl⟩ ⟨_, _, t, by simp [hi]; rfl, rfl⟩ ho' ⟨h', I, ho', o', ho', hr⟩ fun b ob hb e => (hs.2 b hb).trans e
  done := fun s o Q E ho hO hd hQ => by
    obtain ⟨h₁, I₁, e₁, hk⟩ := hO
    exact wpAny_pyNext_dict_end hh (isKeyIter_of hk e₁ ho) hd (by simp) fun h' he => hQ { s with heap := h' } ⟨rfl, rfl, rfl⟩ fun b ob hb e => he b ob hb e
  self := fun i s o Q E ho hO hQ => by
    obtain ⟨h₁, I₁, e₁, hk⟩ := hO
    exact wpAny_pyIter_keyiter (isKeyIter_of hk e₁ ho) hQ
  cls := fun i o hO => by
    obtain ⟨h₁, I₁, e₁, o', ho', hr⟩ := hO
    rw [e₁] at ho'; cases ho'
    exact ⟨_, hr.1, by decide⟩
theorem iter_dictF {Q : Value → Shared → Prop} (hS : Same s₀ s) (F : Fm B G env own V s.heap) (hD : s.heap.DictOf (bytesKind prog w) d kvs) (hd : (d == sysModules) = false)
    (h : ∀ I o s' ep, Same s₀ s' → d ≠ I → DicOb d kvs.length ep 0 o → s.heap.DictAt (bytesKind prog w) d kvs ep → Fm B G env ((I, o) :: own) V s'.heap → Q (.ref I) s') : wpAny (model prog w) A (pyIter (.ref d)) Q E s := by
  obtain ⟨ep, hA⟩ := hD.dictAt
  refine wpAny_pyIter_dict hd hA ?_
  exact h s.heap.objs.size _ { s with heap := s.heap.push _ } ep hS (Nat.ne_of_lt hA.lt_size) ⟨s.heap.push _, _, Heap.get?_push_size _ rfl, _, Heap.get?_push_size _ rfl, rfl, rfl⟩ hA (F.alloc _)
end

/-! the object of Shingles -/
def SO (ox : Obj) (dx : Addr) : Prop := ox = instObj 83 dx
noncomputable def sizeE (w : World) (size : Int) (t t1 : Tok) : DictEntry := ⟨PyData.keyHash w.params "size", .str "size" t1, .int size t⟩
noncomputable def countE (w : World) (c : Addr) (t1 : Tok) : DictEntry := ⟨PyData.keyHash w.params "counts", .str "counts" t1, .ref c⟩
def SD (w : World) (od : Obj) (size : Int) (c : Addr) : Prop := ∃ t t1 t2 n, od = dictOf [sizeE w size t t1, countE w c t2] n

section
variable {prog : Program} {w : World} {B G : Heap} {env : Env} {own : List (Addr × Obj)} {V V' : Vars} {A : Around} {E : Value → Shared → Prop} {s₀ s : Shared} {x dx c : Addr} {ox od : Obj} {size : Int}

theorem shg : plainGet (KK w) 83 "size" = true := by kernel_rfl
theorem shd : hasDictIn (KK w) 83 = true := by kernel_rfl
theorem sh_size : findIn (KK w) (.ref 83) "size" = some none := by kernel_rfl
theorem sh_counts : findIn (KK w) (.ref 83) "counts" = some none := by kernel_rfl
theorem sh_worth : findIn (KK w) (.ref 83) "worth" = some (some (.ref 68)) := by kernel_rfl
theorem sh_worths : findIn (KK w) (.ref 83) "worths" = some (some (.ref 73)) := by kernel_rfl
theorem sh_take : findIn (KK w) (.ref 83) "take" = some (some (.ref 80)) := by kernel_rfl
theorem fn_worth : isFn (KK w) (.ref 68) = true := by kernel_rfl
theorem fn_worths : isFn (KK w) (.ref 73) = true := by kernel_rfl
theorem fn_take : isFn (KK w) (.ref 80) = true := by kernel_rfl

theorem SO.inst {h : Heap} (hx : h.get? x = some ox) (X : SO ox dx) (hd : h.get? dx = some od) : InstAt h x ox 83 (some od) := by
  cases X; exact ⟨hx, rfl, rfl, hd⟩
theorem inst_G {h : Heap} (F : Fm B G env own V h) (hx : G.get? x = some ox) (X : SO ox dx) (hd : G.get? dx = some od) : InstAt h x ox 83 (some od) := SO.inst (F.keep _ _ hx) X (F.keep _ _ hd)
theorem inst_own {h : Heap} (F : Fm B G env own V h) (hx : (x, ox) ∈ own) (X : SO ox dx) (hd : (dx, od) ∈ own) : InstAt h x ox 83 (some od) := SO.inst (F.has _ hx) X (F.has _ hd)

theorem attr_counts {b : Bool} {Q : Value → Shared → Prop} (S : Sta (KK w) B) (hS : Same s₀ s) (F : Fm B G env own V s.heap) (I : InstAt s.heap x ox 83 (some od)) (D : SD w od size c)
    (h : ∀ s', Same s₀ s' → Fm B G env own V s'.heap → Q (.ref c) s') : wpAny (model prog w) A (getAttr (.ref x) "counts" b) Q E s := by
  obtain ⟨t, t1, t2, n, rfl⟩ := D
  exact get_value (F.inK S) I (plainGet_of shg).1 (findObj_own shd sh_counts rfl rfl) rfl (h _ hS F)
theorem attr_size {b : Bool} {Q : Value → Shared → Prop} (S : Sta (KK w) B) (hS : Same s₀ s) (F : Fm B G env own V s.heap) (I : InstAt s.heap x ox 83 (some od)) (D : SD w od size c)
    (h : ∀ t s', Same s₀ s' → Fm B G env own V s'.heap → Q (.int size t) s') : wpAny (model prog w) A (getAttr (.ref x) "size" b) Q E s := by
  obtain ⟨t, t1, t2, n, rfl⟩ := D
  exact get_value (F.inK S) I (plainGet_of shg).1 (findObj_own shd sh_size rfl rfl) rfl (h _ _ hS F)
theorem meth_sh {name : Str} {f : Addr} {pl : Sem Bool} {Q : Value × List Value → Shared → Prop} (S : Sta (KK w) B) (F : Fm B G env own V s.heap) (I : InstAt s.heap x ox 83 (some od)) (D : SD w od size c)
    (hf : findIn (KK w) (.ref 83) name = some (some (.ref f))) (ht : isFn (KK w) (.ref f) = true) (hn : shadowIn (some od) name = some false) (h : Q (.ref f, [.ref x]) s) : wpAny (model prog w) A (getMethod (.ref x) name pl) Q E s :=
  method_fn (F.inK S) I (plainGet_of shg).1 (plainGet_of shg).2 hf (beq_iff_eq.mp ht) hn h
theorem SD.no_worth (D : SD w od size c) : shadowIn (some od) "worth" = some false := by obtain ⟨t, t1, t2, n, rfl⟩ := D; rfl
theorem SD.no_worths (D : SD w od size c) : shadowIn (some od) "worths" = some false := by obtain ⟨t, t1, t2, n, rfl⟩ := D; rfl
theorem SD.no_take (D : SD w od size c) : shadowIn (some od) "take" = some false := by obtain ⟨t, t1, t2, n, rfl⟩ := D; rfl
theorem meth_worth {pl : Sem Bool} {Q : Value × List Value → Shared → Prop} (S : Sta (KK w) B) (F : Fm B G env own V s.heap) (I : InstAt s.heap x ox 83 (some od)) (D : SD w od size c) (h : Q (.ref 68, [.ref x]) s) : wpAny (model prog w) A (getMethod (.ref x) "worth" pl) Q E s := meth_sh S F I D sh_worth fn_worth D.no_worth h
theorem meth_worths {pl : Sem Bool} {Q : Value × List Value → Shared → Prop} (S : Sta (KK w) B) (F : Fm B G env own V s.heap) (I : InstAt s.heap x ox 83 (some od)) (D : SD w od size c) (h : Q (.ref 73, [.ref x]) s) : wpAny (model prog w) A (getMethod (.ref x) "worths" pl) Q E s := meth_sh S F I D sh_worths fn_worths D.no_worths h
theorem meth_take {pl : Sem Bool} {Q : Value × List Value → Shared → Prop} (S : Sta (KK w) B) (F : Fm B G env own V s.heap) (I : InstAt s.heap x ox 83 (some od)) (D : SD w od size c) (h : Q (.ref 80, [.ref x]) s) : wpAny (model prog w) A (getMethod (.ref x) "take" pl) Q E s := meth_sh S F I D sh_take fn_take D.no_take h
end
end Mine
end F8
section F9
set_option maxRecDepth 100000
namespace Mine

/-- a part of a list -/
noncomputable def pk {α : Type} (l : List α) (lo hi : Option Int) : List α := (l.drop (kms_lo lo l.length)).take (kms_hi hi l.length - kms_lo lo l.length)

/-- a dict of numbers over bytes, as a function; at most n keys -/
def DM (prog : Program) (w : World) (o : Obj) (n : Nat) (f : Bs → Option Int) : Prop :=
  ∃ kvs, DO prog w o kvs ∧ kvs.length ≤ n ∧ ∀ k, (∀ v, valueAt kvs k = some v → ∃ i t, v = .int i t ∧ f k = some i) ∧ (valueAt kvs k = none → f k = none)
/-- a dict over bytes, as the row of its keys -/
def DKs (prog : Program) (w : World) (o : Obj) (ks : List Bs) : Prop := ∃ kvs, DO prog w o kvs ∧ kvs.map (·.1) = ks

theorem valueAt_cons (k k' : Bs) (v : Value) (r : List (Bs × Value)) : valueAt ((k, v) :: r) k' = if k = k' then some v else valueAt r k' := by
  unfold valueAt
  rw [List.find?_cons]
  by_cases h : k = k' <;> simp [h]
theorem valueAt_append (a b : List (Bs × Value)) (k : Bs) : valueAt (a ++ b) k = (valueAt a k).or (valueAt b k) := by
  induction a with
  | nil => simp [valueAt]
  | cons p r ih => obtain ⟨x, v⟩ := p; rw [List.cons_append, valueAt_cons, valueAt_cons]; split <;> simp [ih]
theorem any_key (kvs : List (Bs × Value)) (k : Bs) : (kvs.any fun kv => decide (kv.1 = k)) = (valueAt kvs k).isSome := by
  induction kvs with
  | nil => rfl
  | cons p r ih => obtain ⟨x, v⟩ := p; rw [List.any_cons, valueAt_cons, ih]; by_cases h : x = k <;> simp [h]
theorem valueAt_map_store (kvs : List (Bs × Value)) (k k' : Bs) (v : Value) : valueAt (kvs.map fun kv => if kv.1 = k then (kv.1, v) else kv) k' = if k = k' then (valueAt kvs k').map fun _ => v else valueAt kvs k' := by
  induction kvs with
  | nil => simp [valueAt]
  | cons p r ih =>
    obtain ⟨x, u⟩ := p
    rw [List.map_cons]
    by_cases hx : x = k
    · subst hx; simp only [if_pos]; rw [valueAt_cons, valueAt_cons, ih]; by_cases h : x = k' <;> simp [h]
    · simp only [if_neg hx]; rw [valueAt_cons, valueAt_cons, ih]
      by_cases h : k = k'
      · subst h; simp [hx]
      · simp [h]
theorem valueAt_stored (kvs : List (Bs × Value)) (k k' : Bs) (v : Value) : valueAt (stored kvs k v) k' = if k = k' then some v else valueAt kvs k' := by
  unfold stored
  rw [any_key]
  cases h : valueAt kvs k with
  | some u =>
    simp only [Option.isSome_some, if_true]
    rw [valueAt_map_store]
    by_cases e : k = k'
    · subst e; simp [h]
    · simp [e]
  | none =>
    simp only [Option.isSome_none, Bool.false_eq_true, if_false]
    rw [valueAt_append, valueAt_cons]
    by_cases e : k = k'
    · subst e; simp [h]
    · simp [e, valueAt]
theorem DM.put {prog : Program} {w : World} {o' : Obj} {n : Nat} {f : Bs → Option Int} {kvs : List (Bs × Value)} (hl : kvs.length ≤ n) (hf : ∀ k, (∀ v, valueAt kvs k = some v → ∃ i t, v = .int i t ∧ f k = some i) ∧ (valueAt kvs k = none → f k = none)) {x : Bs} {i : Int} {t : Tok}
    (D : DO prog w o' (stored kvs x (.int i t))) : DM prog w o' (n + 1) (fun y => if x = y then some i else f y) := by
  refine ⟨_, D, Nat.le_trans (stored_length_le _ _ _) (Nat.succ_le_succ hl), fun k => ?_⟩
  rw [valueAt_stored]
  by_cases e : x = k
  · subst e
    refine ⟨fun v h => ?_, fun h => ?_⟩
    · simp only [if_true] at h; cases h; exact ⟨i, t, rfl, by simp⟩
    · simp at h
  · simp only [if_neg e]; exact hf k
theorem map_fst_stored (kvs : List (Bs × Value)) (k : Bs) (v : Value) : (stored kvs k v).map (·.1) = if k ∈ kvs.map (·.1) then kvs.map (·.1) else kvs.map (·.1) ++ [k] := by
  unfold stored
  have hm : (kvs.any fun kv => decide (kv.1 = k)) = decide (k ∈ kvs.map (·.1)) := by
    rw [Bool.eq_iff_iff]; simp
  rw [hm]
  by_cases h : k ∈ kvs.map (·.1)
  · simp only [h, decide_true, if_true]
    rw [List.map_map]
    refine List.map_congr_left fun kv _ => ?_
    simp only [Function.comp]; split <;> rfl
  · simp only [h, decide_false, Bool.false_eq_true, if_false]
    simp

section
variable {prog : Program} {w : World} {K : Frag} {B G : Heap} {env : Env} {own : List (Addr × Obj)} {V V' : Vars} {A : Around} {E : Value → Shared → Prop} {s₀ s : Shared} {x : Bs} {t : Tok} {d : Addr} {o : Obj} {n : Nat} {f : Bs → Option Int} {ks : List Bs}

theorem obj_own {h : Heap} (F : Fm B G env own V h) (hm : (d, o) ∈ own) : h.get? d = some o := F.has _ hm
theorem obj_G {h : Heap} (F : Fm B G env own V h) (hg : G.get? d = some o) : h.get? d = some o := F.keep _ _ hg

theorem in_dm {Q : Value → Shared → Prop} (hS : Same s₀ s) (F : Fm B G env own V s.heap) (e : s.heap.get? d = some o) (D : DM prog w o n f) (hd : (d == sysModules) = false)
    (h : ∀ s', Same s₀ s' → Fm B G env own V s'.heap → Q (.bool (f x).isSome) s') : wpAny (model prog w) A (compareOp .In (.bytes x.toArray t) (.ref d)) Q E s := by
  obtain ⟨kvs, D, -, hf⟩ := D
  have : (valueAt kvs x).isSome = (f x).isSome := by
    cases q : valueAt kvs x with
    | none => rw [(hf x).2 q]; rfl
    | some v => obtain ⟨i, _, _, e⟩ := (hf x).1 v q; rw [e]; rfl
  exact in_dictF hS F (D.at e) hd (this ▸ h)
theorem get_dm {Q : Value → Shared → Prop} {i : Int} {u : Tok} (hS : Same s₀ s) (F : Fm B G env own V s.heap) (e : s.heap.get? d = some o) (D : DM prog w o n f) (hd : (d == sysModules) = false)
    (h : ∀ u s', Same s₀ s' → Fm B G env own V s'.heap → Q (.int ((f x).getD i) u) s') : wpAny (model prog w) A (call (.builtin "dict.get") [.ref d, .bytes x.toArray t, .int i u]) Q E s := by
  obtain ⟨kvs, D, -, hf⟩ := D
  refine get_dictF hS F (D.at e) hd fun s' hS' F' => ?_
  cases q : valueAt kvs x with
  | none => have := h u s' hS' F'; rw [(hf x).2 q] at this; exact this
  | some v => obtain ⟨i, u', rfl, e⟩ := (hf x).1 v q; have := h u' s' hS' F'; rw [e] at this; exact this
theorem meth_dm {Q : Value × List Value → Shared → Prop} {pl : Sem Bool} (e : s.heap.get? d = some o) (D : DM prog w o n f) (h : Q (.builtin "dict.get", [.ref d]) s) : wpAny (model prog w) A (getMethod (.ref d) "get" pl) Q E s := by
  obtain ⟨kvs, D, -, hf⟩ := D
  exact meth_dictF (D.at e) h
theorem item_dm {value slice : PySem.Expr} {Q : Value → Shared → Prop} {i : Int} (hS : Same s₀ s) (F : Fm B G env own V s.heap) (e : s.heap.get? d = some o) (D : DM prog w o n f) (hv : f x = some i)
    (h : ∀ u s', Same s₀ s' → Fm B G env own V s'.heap → Q (.int i u) s')
    (hs : subscripted slice false (.ref d) (.bytes x.toArray t) = operate [.ref d, .bytes x.toArray t] (getItem (.ref d) (.bytes x.toArray t)) := by with_unfolding_all rfl) (hg : ∀ r, letTemporaryGo value (.ref d) r = pure () := by intro _; with_unfolding_all rfl) :
    wpAny (model prog w) A (subscriptTail value slice (.ref d) (.bytes x.toArray t)) Q E s := by
  obtain ⟨kvs, D, -, hf⟩ := D
  cases q : valueAt kvs x with
  | none => rw [(hf x).2 q] at hv; cases hv
  | some v =>
    obtain ⟨j, u, rfl, e'⟩ := (hf x).1 v q
    rw [e'] at hv; cases hv
    exact item_dictF hS F (D.at e) q (h u) hs hg
theorem set_dm {own' : Obj → List (Addr × Obj)} {i : Int} {u : Tok} {Q : Unit → Shared → Prop} (hS : Same s₀ s) (F : Fm B G env own V s.heap) (hO : ∀ o', OA own d o o' (own' o')) (D : DM prog w o n f) (hsz : n ≤ 1000000)
    (h : ∀ o' s', Same s₀ s' → DM prog w o' (n + 1) (fun y => if x = y then some i else f y) → Fm B G env (own' o') V s'.heap → Q () s') :
    wpAny (model prog w) A (setItem (.ref d) (.bytes x.toArray t) (.int i u)) Q E s := by
  obtain ⟨kvs, D, hl, hf⟩ := D
  exact set_dictF hS F hO D (by rw [sizeLine_eq]; lia) fun o' s' hS' D' F' => h o' s' hS' (DM.put hl hf D') F'
theorem new_dm {pos : Pos} {Q : Value → Shared → Prop} (S : Sta K B) (hS : Same s₀ s) (F : Fm B G env own V s.heap)
    (h : ∀ o l s', Same s₀ s' → s.heap.get? l = none → (l == sysModules) = false → DM prog w o 0 (fun _ => none) → DKs prog w o [] → Fm B G env ((l, o) :: own) V s'.heap → Q (.ref l) s') : wpAny (model prog w) A (eval (.Dict [] [] pos) env) Q E s :=
  new_dictF S hS F fun o l s' hS' hl hm D F' => h o l s' hS' hl hm ⟨[], D, Nat.le_refl _, fun k => ⟨fun v e => (by cases e), fun _ => rfl⟩⟩ ⟨[], D, rfl⟩ F'
theorem set_dk {own' : Obj → List (Addr × Obj)} {v : Value} {Q : Unit → Shared → Prop} (hS : Same s₀ s) (F : Fm B G env own V s.heap) (hO : ∀ o', OA own d o o' (own' o')) (D : DKs prog w o ks) (hsz : ks.length ≤ 1000000)
    (h : ∀ o' s', Same s₀ s' → DKs prog w o' (if x ∈ ks then ks else ks ++ [x]) → Fm B G env (own' o') V s'.heap → Q () s') :
    wpAny (model prog w) A (setItem (.ref d) (.bytes x.toArray t) v) Q E s := by
  obtain ⟨kvs, D, rfl⟩ := D
  exact set_dictF hS F hO D (by rw [List.length_map] at hsz; rw [sizeLine_eq]; lia) fun o' s' hS' D' F' => h o' s' hS' ⟨_, D', map_fst_stored _ _ _⟩ F'

/-- what a turn of a while has to show -/
inductive WEndJ (s₀ : Shared) (B G : Heap) (env : Env) (n : Nat) (J : Nat → List (Addr × Obj) → Vars → Prop) (s' : Shared) : Prop
  | mk (m : Nat) (own' : List (Addr × Obj)) (V' : Vars) (hm : m < n) (hj : J m own' V') (hS : Same s₀ s') (hF : Fm B G env own' V' s'.heap)
def WEnd (s₀ : Shared) (B G : Heap) (env : Env) (n : Nat) (J : Nat → List (Addr × Obj) → Vars → Prop) (Q : Flow → Shared → Prop) : Flow → Shared → Prop
  | .next, s' | .cont, s' => WEndJ s₀ B G env n J s'
  | .brk, s' => Q .next s'
  | .ret v, s' => Q (.ret v) s'
theorem While_rule {test : PySem.Expr} {body : List Stmt} {pos : Pos} {Q : Flow → Shared → Prop} (J : Nat → List (Addr × Obj) → Vars → Prop) (n : Nat) (hS : Same s₀ s) (F : Fm B G env own V s.heap) (hJ : J n own V)
    (turn : ∀ n own' V' s₁, J n own' V' → Same s₀ s₁ → Fm B G env own' V' s₁.heap →
      wpAny (model prog w) A (isTrue test env (eval test env)) (fun b s₂ => if b = true then wpAny (model prog w) A (execs body env) (WEnd s₀ B G env n J Q) (fun _ _ => False) s₂ else Q .next s₂) (fun _ _ => False) s₁) :
    wpAny (model prog w) A (exec (.While test body [] pos) env) Q E s := by
  refine wpAny_While (codeAny_whileLoop (fun k s₁ => ∃ own' V', J k own' V' ∧ Same s₀ s₁ ∧ Fm B G env own' V' s₁.heap) (fun k s₁ hI => ?_) n ⟨own, V, hJ, hS, F⟩)
  obtain ⟨own', V', hj, hS₁, F₁⟩ := hI
  refine wpAny_mono (turn k own' V' s₁ hj hS₁ F₁) (fun b s₂ h₂ => ?_) fun _ _ e => e.elim
  cases b with
  | false => simp only [Bool.false_eq_true, if_false] at h₂ ⊢; exact wpAny_execs_nil h₂
  | true =>
    simp only [if_true] at h₂ ⊢
    refine wpAny_mono h₂ (fun f s₃ h₃ => ?_) fun _ _ e => e.elim
    cases f with
    | next => obtain ⟨m, o2, v2, hm, h3, h4, h5⟩ := h₃; exact ⟨m, hm, o2, v2, h3, h4, h5⟩
    | cont => obtain ⟨m, o2, v2, hm, h3, h4, h5⟩ := h₃; exact ⟨m, hm, o2, v2, h3, h4, h5⟩
    | brk => exact h₃
    | ret v => exact h₃

theorem LO.mk' {items : List Value} {a : Array Value} (e : a = items.toArray) : LO { cls := .type "list", data := .seq a } items := by subst e; exact LO.mk items
/-! parts -/
theorem clipAt_kms (n : Nat) (lo : Int) : clipAt n lo = kms_lo (some lo) n := by
  unfold clipAt kms_lo; dsimp only; split <;> lia
theorem picked_pk (x : Bs) (lo hi : Option Int) : KBy.picked x.toArray lo hi = (pk x lo hi).toArray := by
  rw [KBc.picked_eq]
  unfold pk
  have h1 : lo.elim 0 (clipAt x.toArray.size) = kms_lo lo x.length := by cases lo <;> simp [clipAt_kms, kms_lo]
  have h2 : hi.elim x.toArray.size (clipAt x.toArray.size) = kms_hi hi x.length := by cases hi <;> simp [clipAt_kms, kms_lo, kms_hi]
  rw [h1, h2]
theorem length_pk_le {α : Type} (l : List α) (lo hi : Option Int) : (pk l lo hi).length ≤ l.length := by unfold pk; rw [List.length_take, List.length_drop]; lia
theorem slice_bytesF {value slice : PySem.Expr} {l u : Value} {lo hi : Option Int} {Q : Value → Shared → Prop} (hS : Same s₀ s) (F : Fm B G env own V s.heap) (hl : IsPart l lo) (hu : IsPart u hi) (hz : x.length ≤ 16777216)
    (h : ∀ t' s', Same s₀ s' → Fm B G env own V s'.heap → Q (.bytes (pk x lo hi).toArray t') s')
    (hs : subscripted slice false (.bytes x.toArray t) (.ref s.heap.objs.size) = operate [.ref s.heap.objs.size, .bytes x.toArray t] (getItem (.bytes x.toArray t) (.ref s.heap.objs.size)) := by with_unfolding_all rfl)
    (ht : ∀ r, letTemporaryGo value (.bytes x.toArray t) r = pure () := by intro _; with_unfolding_all rfl) :
    wpAny (model prog w) A (subscriptTail value slice (.bytes x.toArray t) (.ref s.heap.objs.size)) Q E { s with heap := s.heap.push { cls := .type "slice", data := .fields #[l, u, .none] } } := by
  refine tail_of_ItemOn ⟨"bytes", _, FB.slot_bytes_getitem.lookup, typeIs_bytes _ _ _, getItem_meets (typeIs_bytes _ _ _) (by decide) FB.slot_bytes_getitem FB.entry_bytes_getitem (FB.args_bytes_getitem_2 _ _) (KBc.meets_slice2 x.toArray t _ hl hu)
    ⟨Heap.IsSliceOf.new _ _ _ _, ?_, fun t' k => ?_⟩⟩ hs ht
  · rw [picked_pk, List.size_toArray, sizeLine_eq]; have := length_pk_le x lo hi; lia
  · rw [picked_pk]; exact h t' { s with heap := s.heap.push _, toks := k } hS (F.alloc _).tail
theorem slice_listF {value slice : PySem.Expr} {l : Addr} {items : List Value} {vl vu : Value} {lo hi : Option Int} {Q : Value → Shared → Prop} (hS : Same s₀ s) (F : Fm B G env own V s.heap)
    (hl : s.heap.IsList l items.toArray) (pl : IsPart vl lo) (pu : IsPart vu hi) (hsz : items.length ≤ 16777216)
    (h : ∀ o r s', Same s₀ s' → s.heap.get? r = none → LO o (pk items lo hi) → Fm B G env ((r, o) :: own) V s'.heap → Q (.ref r) s')
    (hs : subscripted slice false (.ref l) (.ref s.heap.objs.size) = operate [.ref s.heap.objs.size, .ref l] (getItem (.ref l) (.ref s.heap.objs.size)) := by with_unfolding_all rfl)
    (ht : ∀ r, letTemporaryGo value (.ref l) r = pure () := by intro _; with_unfolding_all rfl) :
    wpAny (model prog w) A (subscriptTail value slice (.ref l) (.ref s.heap.objs.size)) Q E { s with heap := s.heap.push { cls := .type "slice", data := .fields #[vl, vu, .none] } } := by
  refine subscriptTail_ops (Heap.IsList.typeIs (s := { s with heap := s.heap.push { cls := .type "slice", data := .fields #[vl, vu, .none] } }) (hl.push _)) list_getitem_lookup
    (wpAny_getItem_list_slice (hl.push _) (Heap.IsSliceOf.new ..) pl pu .none (by simp) ?_ (by rw [List.size_toArray, sizeLine_eq]; lia)) hs ht
  have F1 := ((F.alloc { cls := .type "slice", data := .fields #[vl, vu, .none] }).tail).alloc { cls := .type "list", data := .seq (slicePick items.toArray lo hi none) }
  refine h _ _ { s with heap := (s.heap.push _).push _ } hS ?_ (LO.mk' (kms_pick_eq _ _ _)) F1
  rw [Heap.size_push]
  cases q : s.heap.get? (s.heap.objs.size + 1) with
  | none => rfl
  | some o => exact absurd (Heap.lt_size q) (Nat.not_lt.mpr (Nat.le_succ _))
theorem rev_listF {value slice : PySem.Expr} {l : Addr} {items : List Value} {u : Tok} {Q : Value → Shared → Prop} (hS : Same s₀ s) (F : Fm B G env own V s.heap)
    (hl : s.heap.IsList l items.toArray) (hsz : items.length ≤ 16777216)
    (h : ∀ o r s', Same s₀ s' → s.heap.get? r = none → LO o items.reverse → Fm B G env ((r, o) :: own) V s'.heap → Q (.ref r) s')
    {ops : List Value} (hs : subscripted slice false (.ref l) (.ref s.heap.objs.size) = operate ops (getItem (.ref l) (.ref s.heap.objs.size)) := by with_unfolding_all rfl)
    (ht : ∀ r, letTemporaryGo value (.ref l) r = pure () := by intro _; with_unfolding_all rfl) :
    wpAny (model prog w) A (subscriptTail value slice (.ref l) (.ref s.heap.objs.size)) Q E { s with heap := s.heap.push { cls := .type "slice", data := .fields #[.none, .none, .int (-1) u] } } := by
  refine subscriptTail_ops (Heap.IsList.typeIs (s := { s with heap := s.heap.push { cls := .type "slice", data := .fields #[.none, .none, .int (-1) u] } }) (hl.push _)) list_getitem_lookup
    (wpAny_getItem_list_slice (hl.push _) (Heap.IsSliceOf.new ..) .none .none (.int _ _) (by decide) ?_ (by rw [List.size_toArray, sizeLine_eq]; lia)) hs ht
  have F1 := ((F.alloc { cls := .type "slice", data := .fields #[.none, .none, .int (-1) u] }).tail).alloc { cls := .type "list", data := .seq (slicePick items.toArray none none (some (-1))) }
  refine h _ _ { s with heap := (s.heap.push _).push _ } hS ?_ (LO.mk' (krv_pick _)) F1
  rw [Heap.size_push]
  cases q : s.heap.get? (s.heap.objs.size + 1) with
  | none => rfl
  | some o => exact absurd (Heap.lt_size q) (Nat.not_lt.mpr (Nat.le_succ _))
theorem len_bytesF {Q : Value → Shared → Prop} (hS : Same s₀ s) (F : Fm B G env own V s.heap) (hfit : x.length ≤ 1099511627776) (h : ∀ u s', Same s₀ s' → Fm B G env own V s'.heap → Q (.int (x.length : Int) u) s') :
    wpAny (model prog w) A (call (.builtin "len") [.bytes x.toArray t]) Q E s :=
  KBw.len_K (ks := KBw.bInts x.toArray) rfl (by rw [KBw.ints_length, List.size_toArray]; exact hfit) (by rw [KBw.ints_length, List.size_toArray]; exact h _ _ hS F)
end
end Mine
end F9
section F10
set_option maxRecDepth 100000
namespace Mine

/-- an iterator is made, and it walks -/
def IMakes (prog : Program) (w : World) (A : Around) (E : Value → Shared → Prop) (B G : Heap) (env : Env) (own : List (Addr × Obj)) (V : Vars) (s : Shared) (x : Value) (n : Nat) (Ob : Nat → Obj → Prop) (dep : Heap → Prop) (P : Nat → Value → Prop) : Prop :=
  dep s.heap ∧ ∀ Q' : Value → Shared → Prop, (∀ I o s', Same s s' → s.heap.get? I = none → (∀ b ob, s.heap.get? b = some ob → s'.heap.get? b = some ob) → Ob 0 o → Fm B G env ((I, o) :: own) V s'.heap → Itr prog w A I n Ob dep P → Q' (.ref I) s') → wpAny (model prog w) A (pyIter x) Q' E s

section
variable {prog : Program} {w : World} {A : Around} {E : Value → Shared → Prop} {s₀ s : Shared} {B G : Heap} {env : Env} {own : List (Addr × Obj)} {V V' : Vars}

theorem mk_range (hh : A.handled = none) {r : Addr} {b : Int} {t u v : Tok} (F : Fm B G env own V s.heap) (hr : IsRange s.heap r 0 b 1 t u v) (hsm0 : -1000000 < b) (hsm : b < 1000000) :
    IMakes prog w A E B G env own V s (.ref r) b.toNat (RangeOb 0 b.toNat) (fun _ => True) (fun i v => ∃ t, v = .int i t) := by
  refine ⟨trivial, fun Q' h => wpAny_pyIter_range hr (small_one (by decide) (by decide) (by lia) (by lia)) ?_⟩
  have e : (Builtin.Range.rangeSize 0 b 1) = b.toNat := by rw [rangeSize_nat]; simp
  refine h s.heap.objs.size _ { s with heap := s.heap.push _ } ⟨rfl, rfl, rfl⟩ (get_size _) (fun b o e => Heap.get?_push_of_some _ e) ?_ (F.alloc _) ?_
  · unfold RangeOb; rw [e, show (0 : Int) + ((0 : Nat) : Int) = 0 by lia, show ((b.toNat : Nat) : Int) - ((0 : Nat) : Int) = (b.toNat : Nat) by lia]
  · have X := itr_range (prog := prog) (w := w) (I := s.heap.objs.size) hh 0 b.toNat
    simpa using X
theorem mk_list (hh : A.handled = none) {l : Addr} {items : List Value} (F : Fm B G env own V s.heap) (hl : s.heap.IsList l items.toArray) :
    IMakes prog w A E B G env own V s (.ref l) items.length (ListOb l) (fun h => h.IsList l items.toArray) (fun i v => items[i]? = some v) := by
  refine ⟨hl, fun Q' h => wpAny_pyIter_list hl ?_⟩
  obtain ⟨ol, hol, _⟩ := hl
  have hne : l ≠ s.heap.objs.size := Nat.ne_of_lt (Heap.lt_size hol)
  exact h s.heap.objs.size _ { s with heap := s.heap.push _ } ⟨rfl, rfl, rfl⟩ (get_size _) (fun b o e => Heap.get?_push_of_some _ e) ⟨rfl, rfl⟩ (F.alloc _) (itr_list hh hne items)
theorem mk_dict (hh : A.handled = none) {d : Addr} {o : Obj} {ks : List Bs} (F : Fm B G env own V s.heap) (e : s.heap.get? d = some o) (D : DKs prog w o ks) (hd : (d == sysModules) = false) :
    ∃ Ob, IMakes prog w A E B G env own V s (.ref d) ks.length Ob (fun h => h.get? d = some o) (fun i v => ∃ k t, ks[i]? = some k ∧ v = .bytes k.toArray t) := by
  obtain ⟨kvs, D, rfl⟩ := D
  have hD := D.at e
  obtain ⟨ep, hA⟩ := hD.dictAt
  have hne : d ≠ s.heap.objs.size := Nat.ne_of_lt hA.lt_size
  refine ⟨DicOb d kvs.length ep, e, fun Q' h => wpAny_pyIter_dict hd hA ?_⟩
  have X := itr_dict (prog := prog) (w := w) (A := A) hh hne kvs ep
  have hdep : ∀ h' : Heap, h'.get? d = some o → h'.DictAt (bytesKind prog w) d kvs ep := fun h' e' => by
    obtain ⟨o', es, h1, h2⟩ := hA
    rw [e] at h1; cases h1
    exact ⟨_, es, e', h2⟩
  refine h s.heap.objs.size _ { s with heap := s.heap.push _ } ⟨rfl, rfl, rfl⟩ (get_size _) (fun b o e => Heap.get?_push_of_some _ e) ⟨s.heap.push _, _, Heap.get?_push_size _ rfl, _, Heap.get?_push_size _ rfl, rfl, rfl⟩ (F.alloc _) ?_
  rw [List.length_map]
  refine ⟨fun i s o Q E hi ho hO hd hQ => X.item i s o Q E hi ho hO (hdep _ hd) fun v s' o' a b => hQ v s' o' a ?_, fun s o Q E ho hO hd hQ => X.done s o Q E ho hO (hdep _ hd) hQ, X.self, X.cls⟩
  obtain ⟨k, u, t, e1, e2⟩ := b
  exact ⟨k, t, by simp [e1], e2⟩

variable {x : Value} {n : Nat} {Ob : Nat → Obj → Prop} {dep : Heap → Prop} {P : Nat → Value → Prop}

/-- a for loop over what is made -/
theorem For_it {target : Expr} {body : List Stmt} {Q : Flow → Shared → Prop} (M : IMakes prog w A E B G env own V s x n Ob dep P) (J : Nat → List (Addr × Obj) → Vars → Prop) (hS : Same s₀ s)
    (hJ : J 0 own V) (hdep : ∀ i own' V' h, J i own' V' → Fm B G env own' V' h → dep h)
    (turn : ∀ i v own' V' I oI s₁, i < n → P i v → J i own' V' → Same s₀ s₁ → Fm B G env ((I, oI) :: own') V' s₁.heap →
      ∀ TE : Flow → Shared → Prop, (∀ f s', TurnEnd s₀ B G env I oI (J (i + 1)) Q f s' → TE f s') → wpAny (model prog w) A (assign target env v) (fun _ s₂ => wpAny (model prog w) A (execs body env) TE (fun _ _ => False) s₂) (fun _ _ => False) s₁)
    (fin : ∀ own' V' s₁, J n own' V' → Same s₀ s₁ → Fm B G env own' V' s₁.heap → Q .next s₁) :
    wpAny (model prog w) A (pyIter x) (fun it s₂ => codeAny (model prog w) A (.forLoop target it body [] env) (fun r s' => match r with | .ok f => Q f s' | .error _ => False) s₂) E s :=
  M.2 _ fun I o s' hS' _ _ hO F' X => For_rule X J (hS.trans hS') F' hO hJ (fun i own' V' oI h hj F₁ => hdep i own' V' h hj F₁.tail) (fun i v own' V' oI s₁ hi hP hj hS₁ F₁ => turn i v own' V' I oI s₁ hi hP hj hS₁ F₁ _ fun _ _ h => h) fin fun _ _ q => q

/-- what is wanted at the end, by a name alone -/
theorem hideQ {M : Model} {A : Around} {d : Sem Flow} {T : Flow → Shared → Prop} {E : Value → Shared → Prop} {s : Shared} (h : ∀ TE : Flow → Shared → Prop, (∀ f s', T f s' → TE f s') → wpAny M A d TE E s) : wpAny M A d T E s := h T fun _ _ x => x

/-- what comes behind a statement, by a name alone -/
structure Nx (M : Model) (A : Around) (rest : List Stmt) (env : Env) (Q : Flow → Shared → Prop) (E : Value → Shared → Prop) (QS : Flow → Shared → Prop) : Prop where
  nxt : ∀ {s'}, wpAny M A (execs rest env) Q E s' → QS .next s'
  ret : ∀ {v s'}, Q (.ret v) s' → QS (.ret v) s'
  brk : ∀ {s'}, Q .brk s' → QS .brk s'
  cont : ∀ {s'}, Q .cont s' → QS .cont s'
theorem execs_consN {M : Model} {A : Around} {st : Stmt} {rest : List Stmt} {env : Env} {Q : Flow → Shared → Prop} {E : Value → Shared → Prop} {s : Shared}
    (h : ∀ QS : Flow → Shared → Prop, Nx M A rest env Q E QS → wpAny M A (exec st env) QS E s) : wpAny M A (execs (st :: rest) env) Q E s :=
  wpAny_execs_cons (h _ ⟨fun x => x, fun x => x, fun x => x, fun x => x⟩)

/-- what a comprehension's turn has to show -/
abbrev CTurn (prog : Program) (w : World) (A : Around) (s₀ : Shared) (B : Heap) (s : Shared) (ms : List (Addr × Obj)) (V' : Vars) (n : Nat) (P : Nat → Value → Prop) (J : Nat → List Value → List (Addr × Obj) → Prop) (elt target : Expr) (ifs : List Expr) : Prop :=
  ∀ G' cenv I D i v items ms' oI oD s₁, (∀ b ob, b ∉ ms.map (·.1) → s.heap.get? b = some ob → G'.get? b = some ob) → i < n → P i v → J i items ms' → Same s₀ s₁ → Fm B G' cenv ((I, oI) :: (D, oD) :: ms') V' s₁.heap →
      ∀ CE : List Value → Shared → Prop, (∀ its s', CEnd s₀ B G' cenv I oI D oD V' (J (i + 1) its) s' → CE its s') → wpAny (model prog w) A (assign target cenv v) (fun _ s₂ => wpAny (model prog w) A (forIn ifs true fun c r => if r = true then do let ok ← isTrue c cenv (eval c cenv); pure (ForInStep.yield ok) else pure (ForInStep.yield r)) (fun ok s₃ =>
        if ok = true then wpAny (model prog w) A (eval elt cenv) (fun x s₄ => CE (items ++ [x]) s₄) (fun _ _ => False) s₃
        else CE items s₃) (fun _ _ => False) s₂) (fun _ _ => False) s₁

theorem Comp_v {elt target iter : Expr} {ifs : List Expr} {scope : Scope} {pos : Pos} {ms stat : List (Addr × Obj)} {Q : Value → Shared → Prop} (M : IMakes prog w A E B G env (ms ++ stat) V s x n Ob dep P)
    (J : Nat → List Value → List (Addr × Obj) → Prop) (hS : Same s₀ s) (hfn : env.func.isSome = true) (hJ : J 0 [] ms) (hn : n ≤ 1000000)
    (C : CompOk scope V V') (hlen : ∀ i items ms, J i items ms → items.length ≤ i)
    (hdep : ∀ h', (∀ b ob, b ∉ ms.map (·.1) → s.heap.get? b = some ob → h'.get? b = some ob) → dep h')
    (turn : CTurn prog w A s₀ B s ms V' n P J elt target ifs)
    (fin : ∀ D items ms' oD s₁, J n items ms' → LO oD items ∧ oD.dict = none → Same s₀ s₁ → Fm B G env ((D, oD) :: (ms' ++ stat)) V s₁.heap → Q (.ref D) s₁) :
    wpAny (model prog w) A (pyIter x) (fun it s₂ => CompK prog w A E env scope elt target iter ifs pos (compPost (model prog w) A E none Q) it s₂) E s := by
  refine M.2 _ fun I o s' hS' hI hk hO F' X => ?_
  have hG : ∀ {G' : Heap}, (∀ b ob, b ≠ I → b ∉ ms.map (·.1) → s'.heap.get? b = some ob → G'.get? b = some ob) → ∀ b ob, b ∉ ms.map (·.1) → s.heap.get? b = some ob → G'.get? b = some ob := fun hG b ob hm e => hG b ob (fun q => by rw [q, hI] at e; cases e) hm (hk _ _ e)
  exact comp_val X J (hS.trans hS') F' hfn hO hJ hn C hlen (fun G' cenv D items i ms' oI oD h hg _ F₁ => hdep h fun b ob hm e => F₁.keep b ob (hG hg b ob hm e))
    (fun G' cenv D i v items ms' oI oD s₁ hg hi hP hj hS₁ F₁ => turn G' cenv I D i v items ms' oI oD s₁ (hG hg) hi hP hj hS₁ F₁ (fun its s' => CEnd _ B G' cenv I oI D oD V' (J (i + 1) its) s') fun _ _ h => h) fin

theorem Comp_a {elt target iter : Expr} {ifs : List Expr} {scope : Scope} {pos : Pos} {ms stat : List (Addr × Obj)} {y : Str} {py : Pos} {V₁ : Addr → Vars} {Q : Flow → Shared → Prop} (M : IMakes prog w A E B G env (ms ++ stat) V s x n Ob dep P)
    (J : Nat → List Value → List (Addr × Obj) → Prop) (hS : Same s₀ s) (hfn : env.func.isSome = true) (hJ : J 0 [] ms) (hn : n ≤ 1000000)
    (C : CompOk scope V V') (hA : ∀ D, SA V y .local (.ref D) (V₁ D)) (hlen : ∀ i items ms, J i items ms → items.length ≤ i)
    (hdep : ∀ h', (∀ b ob, b ∉ ms.map (·.1) → s.heap.get? b = some ob → h'.get? b = some ob) → dep h')
    (turn : CTurn prog w A s₀ B s ms V' n P J elt target ifs)
    (fin : ∀ D items ms' oD s₁, J n items ms' → LO oD items ∧ oD.dict = none → Same s₀ s₁ → Fm B G env ((D, oD) :: (ms' ++ stat)) (V₁ D) s₁.heap → Q .next s₁) :
    wpAny (model prog w) A (pyIter x) (fun it s₂ => CompK prog w A E env scope elt target iter ifs pos (compPost (model prog w) A E (some (assign (.Name y py) env)) (fun _ s' => Q .next s')) it s₂) E s := by
  refine M.2 _ fun I o s' hS' hI hk hO F' X => ?_
  have hG : ∀ {G' : Heap}, (∀ b ob, b ≠ I → b ∉ ms.map (·.1) → s'.heap.get? b = some ob → G'.get? b = some ob) → ∀ b ob, b ∉ ms.map (·.1) → s.heap.get? b = some ob → G'.get? b = some ob := fun hG b ob hm e => hG b ob (fun q => by rw [q, hI] at e; cases e) hm (hk _ _ e)
  exact comp_asg X J (hS.trans hS') F' hfn hO hJ hn C hA hlen (fun G' cenv D items i ms' oI oD h hg _ F₁ => hdep h fun b ob hm e => F₁.keep b ob (hG hg b ob hm e))
    (fun G' cenv D i v items ms' oI oD s₁ hg hi hP hj hS₁ F₁ => turn G' cenv I D i v items ms' oI oD s₁ (hG hg) hi hP hj hS₁ F₁ (fun its s' => CEnd _ B G' cenv I oI D oD V' (J (i + 1) its) s') fun _ _ h => h) fin
/-- a def of the top is called -/
theorem callS {K : Frag} {M : Model} {pos : Pos} {f : Value} {first : List Value} {e : PySem.Expr} {rest : List PySem.Expr} {Q : Value → Shared → Prop} (_S : Sta K B) (hk : keepIn K f = true)
    (h : wpAny M A (spliced (backTo pos (starEach (e :: rest) env))) (fun vs s₁ => K.In s₁.heap ∧ wpAny M A (call f (first ++ vs)) Q E s₁) E s)
    (he : starEach (e :: rest) env = (false, eval e env) :: starEach rest env := by rfl) (hplain : (backTo pos (starEach rest env)).any (·.1) = false := by rfl) :
    wpAny M A (callWith pos f first (backTo pos (starEach (e :: rest) env)) []) Q E s := callK hk h he hplain
theorem pk_run {α : Type} {l : List α} {a b : Nat} (h : a ≤ b) (ha : a ≤ l.length) : pk l (some (a : Int)) (some (b : Int)) = (l.drop a).take (b - a) := by
  unfold pk kms_lo kms_hi
  simp only [show ¬ ((a : Int) < 0) by lia, show ¬ ((b : Int) < 0) by lia, if_false, Int.toNat_natCast]
  rw [show min a l.length = a by lia]
  by_cases hb : b ≤ l.length
  · rw [show min b l.length = b by lia]
  · rw [show min b l.length = l.length by lia, List.take_of_length_le (by rw [List.length_drop]; lia), List.take_of_length_le (by rw [List.length_drop]; lia)]
noncomputable def cut (x : Bs) (i n : Nat) : Bs := (x.drop i).take n
theorem pk_cut {x : Bs} {i n : Nat} (h : i ≤ x.length) : pk x (some (i : Int)) (some ((i : Int) + (n : Int))) = cut x i n := by
  have := pk_run (l := x) (a := i) (b := i + n) (by lia) h
  rw [show ((i : Int) + (n : Int)) = ((i + n : Nat) : Int) by lia, this, show i + n - i = n by lia]; rfl
theorem ints_snoc {vs : List Value} {ns : List Int} (h : IntsAre vs ns) (m : Int) (t : Tok) : IntsAre (vs ++ [.int m t]) (ns ++ [m]) := by
  induction h with
  | nil => exact .cons _ _ .nil
  | cons n u _ ih => exact .cons _ _ ih
theorem map_range_succ {α : Type} (g : Nat → α) (i : Nat) : (List.range (i + 1)).map g = (List.range i).map g ++ [g i] := by
  rw [List.range_succ, List.map_append]; rfl
theorem Fm.adopt1 {h h' : Heap} {l : Addr} {o : Obj} (F : Fm B G env own V h) (k : ∀ b o, h.get? b = some o → h'.get? b = some o) (hfr : h.get? l = Option.none) (ho : h'.get? l = some o) : Fm B G env ((l, o) :: own) V h' :=
  F.adopt (new := [(l, o)]) k (fun p hp => by rw [List.mem_singleton.mp hp]; exact ho) (fun p hp => by rw [List.mem_singleton.mp hp]; exact hfr) (by simp)
end
end Mine
end F10
section F11
set_option maxRecDepth 100000
namespace Mine
section
variable {prog : Program} {w : World} {B G : Heap} {env : Env} {own own' : List (Addr × Obj)} {V V' : Vars} {A : Around} {E : Value → Shared → Prop} {s₀ s : Shared} {x dx c : Addr} {ox od od' : Obj} {size : Int}

theorem osaF {name : Str} {tk : Tok} {v : Value} {R : Result → Shared → Prop} (S : Sta (KK w) B) (hS : Same s₀ s) (F : Fm B G env own V s.heap) (hO : OA own dx od od' own') (hx : s.heap.get? x = some ox) (X : SO ox dx)
    (hp : plainOver (KK w) 83 = true) (ht : takerIn (KK w) 83 name = some none) (hh : (clsIn (KK w) 83).any (·.hasDict) = true)
    {es : List DictEntry} {n : Nat} (hes : od = dictOf es n) (hr : es.any (·.refKey) = false) {es' : List DictEntry} {n' : Nat}
    (e : Obj.putName name (PyData.keyHash w.params name) (.str name s.toks) v od = od') (e' : od' = dictOf es' n') (hz : es'.length ≤ 1000)
    (h : ∀ s', Same s₀ s' → Fm B G env own' V s'.heap → R (.ok (.ret .none)) s') : codeAny (model prog w) A (.call (.builtin "object.__setattr__") ⟨[.ref x, .str name tk, v], []⟩) R s := by
  have hd := F.has (dx, od) hO.mem
  have I := SO.inst hx X hd
  refine osa_open (F.inK S) I hp ht fun b => ?_
  obtain ⟨cd, hc, hd'⟩ := any_some hh
  obtain ⟨hx, hcl, hn, -⟩ := I
  cases X
  refine wpAny_bind (wpAny_pure (wpAny_bind (wpAny_bind (wpAny_loadPart hx (wpAny_bind ((looks_clsIn (F.inK S) hc).here ?_))))))
  rw [hd']
  refine wpAny_pure (a := some dx) (wpAny_bind (wpAny_pure (wpAny_bind ?_)))
  unfold nsSet
  refine wpAny_bind (wpAny_bind (wpAny_askSetting (wpAny_pure (wpAny_bind (wpAny_mkText (wpAny_bind (wpAny_loadPart hd ?_)))))))
  subst hes
  dsimp only
  have c : (!es.toArray.any (·.key.isStr name) && es.toArray.any (·.refKey)) = false := by
    rw [← Array.any_toList, ← Array.any_toList, hr, Bool.and_false]
  rw [aRefKeyMayBeTheName_at, c]
  refine wpAny_updatePart hd ?_
  have hself : (s.heap.update dx (Obj.putName name (PyData.keyHash w.params name) (.str name s.toks) v)).get? dx = some od' := by
    rw [← e]; exact Heap.get?_update_self _ hd (by rw [e, e']; rfl)
  refine wpAny_bind (wpAny_lookBehind hself (by rw [e']; exact pastItsLine_dict (by rw [List.size_toArray, sizeLine_eq]; lia)) ?_)
  exact wpAny_pure (h { s with heap := s.heap.update dx _, toks := s.toks + 1 } hS (F.updA hO (fun b o hb e => (Heap.get?_update_other _ _ (Ne.symm hb)).trans e) hself))

theorem setattrF {name : Str} {v : Value} {Q : Unit → Shared → Prop} {od' : Tok → Obj} {own' : Tok → List (Addr × Obj)} (S : Sta (KK w) B) (hS : Same s₀ s) (F : Fm B G env own V s.heap) (hO : ∀ t, OA own dx od (od' t) (own' t)) (hx : s.heap.get? x = some ox) (X : SO ox dx)
    (hs : findIn (KK w) (.ref 83) "__setattr__" = some (some (.builtin "object.__setattr__"))) (hp : plainOver (KK w) 83 = true) (ht : takerIn (KK w) 83 name = some none) (hh : (clsIn (KK w) 83).any (·.hasDict) = true)
    {es : List DictEntry} {n : Nat} (hes : od = dictOf es n) (hr : es.any (·.refKey) = false) {es' : Tok → List DictEntry} {n' : Nat}
    (e : ∀ t, Obj.putName name (PyData.keyHash w.params name) (.str name t) v od = od' t) (e' : ∀ t, od' t = dictOf (es' t) n') (hz : ∀ t, (es' t).length ≤ 1000)
    (h : ∀ t s', Same s₀ s' → Fm B G env (own' t) V s'.heap → Q () s') : wpAny (model prog w) A (setAttr (.ref x) name v) Q E s :=
  set_plain (F.inK S) (SO.inst hx X (F.has (dx, od) (hO 0).mem)) hs (osaF (s := { s with toks := s.toks + 1 }) S hS F (hO _) hx X hp ht hh hes hr (e _) (e' _) (hz _) (h _))

theorem sh_set : findIn (KK w) (.ref 83) "__setattr__" = some (some (.builtin "object.__setattr__")) := by kernel_rfl
theorem sh_plain : plainOver (KK w) 83 = true := by kernel_rfl
theorem sh_tsize : takerIn (KK w) 83 "size" = some none := by kernel_rfl
theorem sh_tcounts : takerIn (KK w) 83 "counts" = some none := by kernel_rfl
theorem sh_any : (clsIn (KK w) 83).any (·.hasDict) = true := by kernel_rfl
/-- the attributes' dict, as yet empty; with its size alone -/
def SD0 (od : Obj) : Prop := ∃ n, od = dictOf [] n
def SD1 (w : World) (od : Obj) (size : Int) : Prop := ∃ t t1 n, od = dictOf [sizeE w size t t1] n
theorem set_size {own' : Obj → List (Addr × Obj)} {t : Tok} {Q : Unit → Shared → Prop} (S : Sta (KK w) B) (hS : Same s₀ s) (F : Fm B G env own V s.heap) (hO : ∀ o', OA own dx od o' (own' o')) (hx : s.heap.get? x = some ox) (X : SO ox dx) (D : SD0 od)
    (h : ∀ od' s', Same s₀ s' → SD1 w od' size → Fm B G env (own' od') V s'.heap → Q () s') : wpAny (model prog w) A (setAttr (.ref x) "size" (.int size t)) Q E s := by
  obtain ⟨n, rfl⟩ := D
  exact setattrF (od' := fun u => dictOf [sizeE w size t u] (n + 1)) (own' := fun u => own' (dictOf [sizeE w size t u] (n + 1))) S hS F (fun _ => hO _) hx X sh_set sh_plain sh_tsize sh_any rfl rfl (fun _ => rfl) (fun _ => rfl) (fun _ => by simp) fun u s' hS' F' => h _ s' hS' ⟨_, _, _, rfl⟩ F'
theorem set_counts {own' : Obj → List (Addr × Obj)} {Q : Unit → Shared → Prop} (S : Sta (KK w) B) (hS : Same s₀ s) (F : Fm B G env own V s.heap) (hO : ∀ o', OA own dx od o' (own' o')) (hx : s.heap.get? x = some ox) (X : SO ox dx) (D : SD1 w od size)
    (h : ∀ od' s', Same s₀ s' → SD w od' size c → Fm B G env (own' od') V s'.heap → Q () s') : wpAny (model prog w) A (setAttr (.ref x) "counts" (.ref c)) Q E s := by
  obtain ⟨t, t1, n, rfl⟩ := D
  exact setattrF (od' := fun u => dictOf [sizeE w size t t1, countE w c u] (n + 1)) (own' := fun u => own' (dictOf [sizeE w size t t1, countE w c u] (n + 1))) S hS F (fun _ => hO _) hx X sh_set sh_plain sh_tcounts sh_any rfl rfl (fun _ => rfl) (fun _ => rfl) (fun _ => by simp) fun u s' hS' F' => h _ s' hS' ⟨_, _, _, _, rfl⟩ F'
end
end Mine
end F11
section F12
set_option maxRecDepth 100000
namespace Mine
noncomputable def starred : PySem.Expr → Bool
  | .Starred .. => true
  | _ => false
theorem sw_eq2 {env : Env} {x y : Str} {px py tp tp' : Pos} {k k' : Nat} {v₁ v₂ : PySem.Expr} : (swappedStores [.Tuple [.Name x px, .Name y py] k tp] (.Tuple [v₁, v₂] k' tp') env) =
    (if (!(2 == 2 || 2 == 3) || 2 != 2 || env.blockKind != .function) then pure none else
     if (starred v₁ || (starred v₂ || false)) then pure none else
     let names := [PySem.Expr.Name x px, .Name y py].filterMap fun
        | .Name id pos => if env.kindOf id == some .local && pos.line == px.line then some id else none
        | _ => none
     if names.length != 2 || names.eraseDups.length != names.length then pure none else
     if [v₁, v₂].all (foldedForSure 8) then pure none else
     if [v₁, v₂].all (constantsAlone 8) then unsupported "assign.tuple-of-constant-expressions:order-of-the-stores" else pure (some names)) := rfl
theorem sw_eq3 {env : Env} {x y z : Str} {px py pz tp tp' : Pos} {k k' : Nat} {v₁ v₂ v₃ : PySem.Expr} : (swappedStores [.Tuple [.Name x px, .Name y py, .Name z pz] k tp] (.Tuple [v₁, v₂, v₃] k' tp') env) =
    (if (!(3 == 2 || 3 == 3) || 3 != 3 || env.blockKind != .function) then pure none else
     if (starred v₁ || (starred v₂ || (starred v₃ || false))) then pure none else
     let names := [PySem.Expr.Name x px, .Name y py, .Name z pz].filterMap fun
        | .Name id pos => if env.kindOf id == some .local && pos.line == px.line then some id else none
        | _ => none
     if names.length != 3 || names.eraseDups.length != names.length then pure none else
     if [v₁, v₂, v₃].all (foldedForSure 8) then pure none else
     if [v₁, v₂, v₃].all (constantsAlone 8) then unsupported "assign.tuple-of-constant-expressions:order-of-the-stores" else pure (some names)) := rfl
section
variable {env : Env} {x y z : Str} {px py pz tp tp' : Pos} {k k' : Nat} {v₁ v₂ v₃ : PySem.Expr} {V : Vars}
theorem Sc.block (S : Sc env V) : env.blockKind = .function := by unfold Env.blockKind; rw [S.kind]; rfl
theorem swSome2 (S : Sc env V) {o₁ o₂ : Option Value} (h1 : (x, .local, o₁) ∈ V) (h2 : (y, .local, o₂) ∈ V) (hl : py.line = px.line) (hxy : x ≠ y)
    (hst : starred v₁ = false) (hst2 : starred v₂ = false) (hf : [v₁, v₂].all (foldedForSure 8) = false) (hc : [v₁, v₂].all (constantsAlone 8) = false) : swappedStores [.Tuple [.Name x px, .Name y py] k tp] (.Tuple [v₁, v₂] k' tp') env = pure (some [x, y]) := by
  have k1 : env.kindOf x = some .local := S.knd _ h1
  have k2 : env.kindOf y = some .local := S.knd _ h2
  rw [sw_eq2, S.block, hst, hst2, hf, hc]
  simp [List.filterMap_cons, k1, k2, hl, List.eraseDups_cons, Ne.symm hxy]
theorem swSome3 (S : Sc env V) {o₁ o₂ o₃ : Option Value} (h1 : (x, .local, o₁) ∈ V) (h2 : (y, .local, o₂) ∈ V) (h3 : (z, .local, o₃) ∈ V) (hl : py.line = px.line) (hl2 : pz.line = px.line) (hxy : x ≠ y) (hxz : x ≠ z) (hyz : y ≠ z)
    (hst : starred v₁ = false) (hst2 : starred v₂ = false) (hst3 : starred v₃ = false) (hf : [v₁, v₂, v₃].all (foldedForSure 8) = false) (hc : [v₁, v₂, v₃].all (constantsAlone 8) = false) : swappedStores [.Tuple [.Name x px, .Name y py, .Name z pz] k tp] (.Tuple [v₁, v₂, v₃] k' tp') env = pure (some [x, y, z]) := by
  have k1 : env.kindOf x = some .local := S.knd _ h1
  have k2 : env.kindOf y = some .local := S.knd _ h2
  have k3 : env.kindOf z = some .local := S.knd _ h3
  rw [sw_eq3, S.block, hst, hst2, hst3, hf, hc]
  simp [List.filterMap_cons, k1, k2, k3, hl, hl2, List.eraseDups_cons, Ne.symm hxy, Ne.symm hxz, Ne.symm hyz]
theorem swNone2 (hf : [v₁, v₂].all (foldedForSure 8) = true) (hst : starred v₁ = false) (hst2 : starred v₂ = false) : swappedStores [.Tuple [.Name x px, .Name y py] k tp] (.Tuple [v₁, v₂] k' tp') env = pure none := by
  rw [sw_eq2, hst, hst2, hf]
  simp only [Bool.or_self, Bool.false_eq_true, if_false, if_true]
  split
  · rfl
  · split <;> rfl
theorem swCell2 (S : Sc env V) {o : Option Value} (h1 : (x, .cell, o) ∈ V) : swappedStores [.Tuple [.Name x px, .Name y py] k tp] (.Tuple [v₁, v₂] k' tp') env = pure none := by
  have k1 : env.kindOf x = some .cell := S.knd _ h1
  rw [sw_eq2]
  split
  · rfl
  · split
    · rfl
    · rw [if_pos]
      simp only [List.filterMap_cons, List.filterMap_nil, k1]
      simp
      split <;> simp
theorem swCell2' (S : Sc env V) {o : Option Value} (h1 : (y, .cell, o) ∈ V) : swappedStores [.Tuple [.Name x px, .Name y py] k tp] (.Tuple [v₁, v₂] k' tp') env = pure none := by
  have k1 : env.kindOf y = some .cell := S.knd _ h1
  rw [sw_eq2]
  split
  · rfl
  · split
    · rfl
    · rw [if_pos]
      simp only [List.filterMap_cons, List.filterMap_nil, k1]
      simp
      split <;> simp
end
section
variable {prog : Program} {w : World} {B G : Heap} {env : Env} {own : List (Addr × Obj)} {V : Vars} {A : Around} {E : Value → Shared → Prop} {s₀ s : Shared}
/-- the items of a tuple for stores in the other order -/
theorem unpackItemsF {l : Addr} {items : List Value} {n : Nat} {Q : List Value → Shared → Prop} (hS : Same s₀ s) (F : Fm B G env own V s.heap) (hh : A.handled = none) (hl : s.heap.IsTuple l items.toArray) (hn : n = items.length)
    (h : ∀ s', Same s₀ s' → Fm B G env own V s'.heap → Q items s') : wpAny (model prog w) A (unpackItems (.ref l) n none) Q E s := by
  subst hn
  have := unpackItems_tuple (prog := prog) (w := w) (A := A) (E := E) (s := s) (t := l) (items := items.toArray) (Q := Q) hh hl fun h' he => h { s with heap := h' } hS (F.grow fun b o e => he b o (Nat.ne_of_lt (Heap.lt_size e)) e)
  simpa using this
theorem sumF {l : Addr} {vs : List Value} {ns : List Int} {Q : Value → Shared → Prop} (hS : Same s₀ s) (F : Fm B G env own V s.heap) (hh : A.handled = none) (hl : s.heap.IsList l vs.toArray) (hi : IntsAre vs ns)
    (h : ∀ t s', Same s₀ s' → Fm B G env own V s'.heap → Q (.int ns.sum t) s') : wpAny (model prog w) A (call (.builtin "sum") [.ref l]) Q E s := by
  obtain ⟨xs, hxs⟩ := hi.allInts.items
  have e : (numsOf vs.toArray.toList).sum = ns.sum := by rw [show vs.toArray.toList = vs from rfl, hi.numsOf]
  rw [hxs] at hl
  rw [hxs, nums_intItems] at e
  refine sum_intListG hh hl fun h' tk t' hk => ?_
  have := h t' { s with heap := h', toks := tk } hS (F.grow hk)
  rw [preSum_eq, List.take_of_length_le (by simp), e]; exact this
theorem maxF {a b : Int} {t u : Tok} {Q : Value → Shared → Prop} (hS : Same s₀ s) (F : Fm B G env own V s.heap) (hh : A.handled = none) (h : ∀ t s', Same s₀ s' → Fm B G env own V s'.heap → Q (.int (max a b) t) s') :
    wpAny (model prog w) A (call (.builtin "max") [.int a t, .int b u]) Q E s := by
  refine max_two_ints hh fun h' tk hk => ?_
  split
  · have := h u { s with heap := h', toks := tk } hS (F.grow hk); rwa [show max a b = b by lia] at this
  · have := h t { s with heap := h', toks := tk } hS (F.grow hk); rwa [show max a b = a by lia] at this
theorem minF {a b : Int} {t u : Tok} {Q : Value → Shared → Prop} (hS : Same s₀ s) (F : Fm B G env own V s.heap) (hh : A.handled = none) (h : ∀ t s', Same s₀ s' → Fm B G env own V s'.heap → Q (.int (min a b) t) s') :
    wpAny (model prog w) A (call (.builtin "min") [.int a t, .int b u]) Q E s := by
  refine min_two_ints hh fun h' tk hk => ?_
  split
  · have := h u { s with heap := h', toks := tk } hS (F.grow hk); rwa [show min a b = b by lia] at this
  · have := h t { s with heap := h', toks := tk } hS (F.grow hk); rwa [show min a b = a by lia] at this
theorem absF {a : Int} {t : Tok} {Q : Value → Shared → Prop} (hS : Same s₀ s) (F : Fm B G env own V s.heap) (h : ∀ t s', Same s₀ s' → Fm B G env own V s'.heap → Q (.int (a.natAbs : Int) t) s') :
    wpAny (model prog w) A (call (.builtin "abs") [.int a t]) Q E s := by
  refine call_abs_int fun u tk => ?_
  have := h u { s with toks := tk } hS F
  rwa [show ((a.natAbs : Nat) : Int) = if a < 0 then -a else a by split <;> lia] at this
theorem ints_pk {vs : List Value} {ws : List Int} (h : IntsAre vs ws) (lo hi : Option Int) : IntsAre (pk vs lo hi) (pk ws lo hi) := by
  unfold pk; rw [h.length]; exact (h.drop _).take _
end
end Mine
end F12
section F13
set_option maxRecDepth 100000
namespace Mine
open Sem (wp)
noncomputable abbrev bmBad : List Value := [.ref 32, .type "ValueError", .type "Exception", .type "BaseException", .type "object"]
theorem bad_at (w : World) : ∃ nm q bs hdct sn sub ab col dd k0 k1 k2 k3 k5, (KK w).lookup 45 = some (excClassObj nm q 45 44 bs bmBad hdct sn sub ab col dd k0 k1 k2 k3 k5 "ValueError.__new__") := ⟨_, _, _, _, _, _, _, _, _, _, _, _, _, _, rfl⟩
section
variable {prog : Program} {w : World} {A : Around} {E : Value → Shared → Prop} {R : Result → Shared → Prop} {h : Heap} {g : Array GenState} {d : Drawn} {t : Nat} {os : OsState}
variable {nm q : Str} {C N : Addr} {bs : List Value} {hdct : Bool} {sn : List Str} {sub : List Value} {ab : Bool} {col : Option Bool} {dd : Option Addr} {k0 k1 k2 k3 k5 : Option Value}

theorem bad_check_new {M : Model} {rest : List Value} {Q : Unit → Shared → Prop} (hC : h.get? C = some (excClassObj nm q C N bs bmBad hdct sn sub ab col dd k0 k1 k2 k3 k5 "ValueError.__new__"))
    (hq : Q () ⟨h, g, d, t, os⟩) : wpAny M A (checkBuiltinCall "ValueError.__new__" ⟨.ref C :: rest, []⟩) Q E ⟨h, g, d, t, os⟩ := by
  have F := PySem.F.excBase_ValueError
  have hcont : (Value.ref C :: bmBad).contains (.type "ValueError") = true := by rw [List.contains_cons, show bmBad.contains (.type "ValueError") = true by decide, Bool.or_true]
  have hstar := F.noStar
  simp only [checkBuiltinCall, F.newKind, F.newSplit, F.newRow]
  repeat (first | refine wpAny_loadPart_at hC ?_ | (refine wpAny_isSubtype_exc hC ?_; rw [hcont]) | refine wpAny_staticBase_exc hC ?_ | refine wpAny_madeBy_exc hC ?_ | simp only [bne_self_eq_false, Bool.false_eq_true, if_false] | wp_step)
  exact hq

theorem bad_new {rest : List Value} (hC : h.get? C = some (excClassObj nm q C N bs bmBad hdct sn sub ab col dd k0 k1 k2 k3 k5 "ValueError.__new__"))
    (hq : R (.ok (.ret (.ref (h.objs.size + 1)))) ⟨(h.push { cls := .type "tuple", data := .seq rest.toArray }).push
      { cls := .ref C, data := .fields #[.ref h.objs.size, .none, .none, .none, .bool false, .none] }, g, d, t, os⟩) (hrest : rest.length ≤ sizeLine := by size_fits) :
    codeAny (model prog w) A (.builtin "ValueError.__new__" ⟨.ref C :: rest, []⟩) R ⟨h, g, d, t, os⟩ := by
  have Fn := PySem.F.excBase_ValueError
  have hends := Fn.ends
  have hcB : (Value.ref C :: bmBad).contains (.type "ValueError") = true := by rw [List.contains_cons, show bmBad.contains (.type "ValueError") = true by decide, Bool.or_true]
  have hcA : (Value.ref C :: bmBad).contains (.type "AttributeError") = false := by rw [List.contains_cons, show bmBad.contains (.type "AttributeError") = false by decide]; rfl
  have hcN : (Value.ref C :: bmBad).contains (.type "NameError") = false := by rw [List.contains_cons, show bmBad.contains (.type "NameError") = false by decide]; rfl
  refine codeAny_builtinAt Fn.entry ?_
  unfold Builtin.«BaseException.__new__»
  refine PySem.wpAt_bind ?_
  show PySem.wpAt _ _ _ (stack >>= _) _ _ _
  refine PySem.wpAt_bind (PySem.wpAt_stack fun p below => PySem.wpAt_of_wpAny ?_)
  wp_walk
  refine PySem.wpAt_of_wpAny ?_
  rw [Fn.owner]
  repeat (first | with_reducible refine wpAny_madeHere_exc Fn.canon hC ?_ | with_reducible refine wpAny_loadPart_at hC ?_ | (with_reducible refine wpAny_isSubtype_exc hC ?_; first | rw [hcB] | rw [hcA] | rw [hcN]) | wp_step)
  show R _ _
  rw [Heap.size_push]
  exact hq

theorem bad_type_call {K : Frag} {rest : List Value} {fI : Addr} {Q : Fin → Shared → Prop} (X : K.In h)
    (hC : h.get? C = some (excClassObj nm q C N bs bmBad hdct sn sub ab col dd k0 k1 k2 k3 k5 "ValueError.__new__")) (hi : findIn K (.ref C) "__init__" = some (some (.ref fI))) (hf : isFn K (.ref fI) = true)
    (hq : ∀ h' e, Heap.MadeExcOf h h' e (.ref C) rest →
      wpAny (model prog w) A (call (.ref fI) (.ref e :: rest)) (fun r s' => r = .none ∧ Q (.done (.ret (.ref e))) s') E ⟨h', g, d, t, os⟩) (hrest : rest.length ≤ sizeLine := by size_fits) :
    wpAny (model prog w) A (Builtin.«type.__call__» ⟨.ref C :: rest, []⟩) Q E ⟨h, g, d, t, os⟩ := by
  have Fn := PySem.F.excBase_ValueError
  repeat (first | with_reducible refine wpAny_loadPart_at hC ?_ | with_reducible refine wpAny_madeBy_exc hC ?_ | wp_step)
  refine codeAny_call_builtin_code (Code.quiet_builtin _ Fn.quiet) (bad_check_new hC ?_)
  refine bad_new hC ?_ hrest
  show wpAny _ _ _ _ _ _
  have k1' : ∀ b o, h.get? b = some o → ((h.push { cls := .type "tuple", data := .seq rest.toArray }).push { cls := .ref C, data := .fields #[.ref h.objs.size, .none, .none, .none, .bool false, .none] }).get? b = some o :=
    fun b o e => Heap.get?_push_of_some _ (Heap.get?_push_of_some _ e)
  have hC₁ := k1' _ _ hC
  have hget : ((h.push { cls := .type "tuple", data := .seq rest.toArray }).push
      { cls := .ref C, data := .fields #[.ref h.objs.size, .none, .none, .none, .bool false, .none] }).get? (h.objs.size + 1) = some
      { cls := .ref C, data := .fields #[.ref h.objs.size, .none, .none, .none, .bool false, .none] } := by heap_get
  have hcC : (Value.ref C :: bmBad).contains (.ref C) = true := by simp
  have X₁ : K.In ((h.push { cls := .type "tuple", data := .seq rest.toArray }).push { cls := .ref C, data := .fields #[.ref h.objs.size, .none, .none, .none, .bool false, .none] }) := X.keeps k1'
  unfold isInstance
  repeat (first | with_reducible refine wpAny_loadPart_at hget ?_ | (with_reducible refine wpAny_isSubtype_exc hC₁ ?_; rw [hcC]) | wp_step)
  show wpAny _ _ (typeLookup (.ref C) _) _ _ _
  refine (looks_findIn X₁ hi).here ?_
  refine wpAny_holding (wpAny_bind ((bind_fn X₁ _ (beq_iff_eq.mp hf)).here ?_))
  refine wpAny_bind (wpAny_mono (hq _ (h.objs.size + 1) ⟨k1', Heap.get?_none_of_le (Nat.le_succ _), h.objs.size, hget, Heap.get?_none_of_le (Nat.le_refl _), ?_⟩) (fun r s' hr => ?_) fun _ _ x => x)
  · exact Heap.get?_push_of_some _ (Heap.get?_push_at rfl rfl)
  · obtain ⟨rfl, hQ⟩ := hr
    wp_walk
    exact hQ

theorem bad_call {K : Frag} {rest : List Value} {fI : Addr} {Q : Value → Shared → Prop} (X : K.In h)
    (hC : h.get? C = some (excClassObj nm q C N bs bmBad hdct sn sub ab col dd k0 k1 k2 k3 k5 "ValueError.__new__")) (hi : findIn K (.ref C) "__init__" = some (some (.ref fI))) (hf : isFn K (.ref fI) = true)
    (hq : ∀ h' e, Heap.MadeExcOf h h' e (.ref C) rest →
      wpAny (model prog w) (A.under (.builtin "type.__call__" ⟨.ref C :: rest, []⟩)) (call (.ref fI) (.ref e :: rest)) (fun r s' => r = .none ∧ Q (.ref e) s') E ⟨h', g, d, t, os⟩) (hrest : rest.length ≤ sizeLine := by size_fits) :
    wpAny (model prog w) A (call (.ref C) rest) Q E ⟨h, g, d, t, os⟩ := by
  have f1 := tc_lookup
  have f2 := tc_bind (.ref C)
  have hT : (⟨h, g, d, t, os⟩ : Shared).TypeIs (.ref C) "type" := ⟨_, hC, rfl⟩
  refine wpAny_call (codeAny_of_tree ?_)
  show wpAny _ _ (callAny (.ref C) _) _ _ _
  repeat (any_goals (first | assumption | with_reducible refine wpAny_loadPart_at hC ?_ | wp_step))
  refine ⟨rfl, ?_⟩
  refine codeAny_call_builtin_at (Code.quiet_builtin _ (by decide +kernel)) entry_typeCall (wpAny_check_type_call_sub hC (bad_type_call (hrest := hrest) X hC hi hf fun h' e hm => ?_))
  exact hq h' e hm
end
end Mine
namespace Mine
noncomputable abbrev excO (e0 : Addr) (dd : Option Addr) : Obj := { cls := .ref 45, dict := dd, data := .fields #[.ref e0, .none, .none, .none, .bool false, .none] }
theorem bad_pass (self : Value) : refuseLoop self "__setattr__" (.ref 45 :: bmBad) = pure () := by
  rw [refuseLoop_ref, refuseLoop_ref]; exact PySem.F.store_ValueError.passes self
theorem bad_cls (w : World) : ∃ cd, clsIn (KK w) 45 = some cd ∧ cd.mro = .ref 45 :: bmBad ∧ cd.hasDict = true := ⟨_, rfl, rfl, rfl⟩
theorem bad_ts {w : World} : findIn (KK w) (.ref 45) "__setattr__" = some (some (.builtin "object.__setattr__")) := by kernel_rfl
theorem bad_tr {w : World} : findIn (KK w) (.ref 45) "reason" = some none := by kernel_rfl
section
variable {prog : Program} {w : World} {B G : Heap} {env : Env} {own own' : List (Addr × Obj)} {V V' : Vars} {A : Around} {E : Value → Shared → Prop} {s₀ s : Shared} {e e0 : Addr}
theorem bad_osa {tk : Tok} {v : Value} {R : Result → Shared → Prop} {own' : Obj → List (Addr × Obj)} (S : Sta (KK w) B) (hS : Same s₀ s) (F : Fm B G env own V s.heap) (hO : ∀ o', OA own e (excO e0 none) o' (own' o'))
    (h : ∀ dx s', Same s₀ s' → Fm B G env (own' (excO e0 (some dx))) V s'.heap → R (.ok (.ret .none)) s') : codeAny (model prog w) A (.call (.builtin "object.__setattr__") ⟨[.ref e, .str "reason" tk, v], []⟩) R s := by
  have he := F.has (e, excO e0 none) (hO (excO e0 none)).mem
  have X := F.inK S
  have I : InstAt s.heap e (excO e0 none) 45 none := ⟨he, rfl, rfl, trivial⟩
  have SF := PySem.F.store_object
  obtain ⟨cd, hc, hm, hh⟩ := bad_cls w
  have ne : cd.mro.isEmpty = false := by rw [hm]; rfl
  have sub : Looks (model prog w) s.heap (isInstance (.ref e) (.type "object")) true := I.type.andThen (looks_mroIn X (by unfold mroIn; rw [hc, Option.bind_some, if_neg (by rw [ne]; decide), hm]; rfl))
  refine codeAny_call_builtin SF.slot.plain SF.entry (@check_slot (model prog w) _ _ s "object.__setattr__" "object" "__setattr__" (.ref e) [.str "reason" tk, v] [] _ SF.kind SF.split sub (SF.args (.ref e) (.str "reason" tk) v) ?_)
  have hml : Looks (model prog w) s.heap (mroOf (.ref 45)) cd.mro := (looks_clsIn X hc).andThen .now
  rw [osa_eq, refuse_eq]
  refine wpAny_bind (wpAny_bind (I.type.here (wpAny_bind (hml.here ?_))))
  rw [hm, bad_pass]
  refine wpAny_pure (wpAny_bind (I.type.here (wpAny_bind ((looks_findIn X bad_tr).here (wpAny_bind (wpAny_pure ?_))))))
  refine wpAny_bind (wpAny_pure (wpAny_bind (wpAny_bind (wpAny_loadPart he (wpAny_bind ((looks_clsIn X hc).here ?_))))))
  rw [hh]
  have hes : e ≠ s.heap.objs.size := Nat.ne_of_lt (Heap.lt_size he)
  have he1 : (s.heap.push { cls := .type "dict", data := .dict #[] }).get? e = some (excO e0 none) := Heap.get?_push_of_some _ he
  show wpAny _ _ (alloc { cls := .type "dict", data := .dict #[] } >>= _) _ _ _
  refine wpAny_bind (wpAny_alloc (wpAny_bind (wpAny_update he1 (wpAny_bind (wpAny_pure (wpAny_pure ?_))))))
  have hd : ((s.heap.push { cls := .type "dict", data := .dict #[] }).update e fun o => { cls := o.cls, dict := some s.heap.objs.size, data := o.data, slots := o.slots }).get? s.heap.objs.size = some { cls := .type "dict", data := .dict #[] } :=
    (Heap.get?_update_other _ _ hes).trans (Heap.get?_push_size _ rfl)
  have he2 : ((s.heap.push { cls := .type "dict", data := .dict #[] }).update e fun o => { cls := o.cls, dict := some s.heap.objs.size, data := o.data, slots := o.slots }).get? e = some (excO e0 (some s.heap.objs.size)) :=
    Heap.get?_update_self _ he1 rfl
  show wpAny _ _ (Builtin.ObjectAttr.storeInDict s.heap.objs.size (.str "reason" tk) "reason" v) _ _ _
  unfold Builtin.ObjectAttr.storeInDict
  refine wpAny_bind (wpAny_pure (wpAny_bind ?_))
  unfold nsSet
  refine wpAny_bind (wpAny_bind (wpAny_askSetting (wpAny_pure (wpAny_bind (wpAny_mkText (wpAny_bind (wpAny_loadPart hd ?_)))))))
  dsimp only
  rw [aRefKeyMayBeTheName_at, show (!(#[] : Array DictEntry).any (·.key.isStr "reason") && (#[] : Array DictEntry).any (·.refKey)) = false by simp]
  refine wpAny_updatePart hd ?_
  have hself := Heap.get?_update_self (Obj.putName "reason" (PyData.keyHash w.params "reason") (.str "reason" s.toks) v) hd rfl
  refine wpAny_bind (wpAny_lookBehind hself (pastItsLine_dict (by rw [sizeLine_eq]; show (1 : Nat) ≤ 16777216 + 1; decide)) ?_)
  have hfr : s.heap.get? s.heap.objs.size = none := get_size _
  have k1 : ∀ b o, b ≠ e → s.heap.get? b = some o → (((s.heap.push { cls := .type "dict", data := .dict #[] }).update e fun o => { cls := o.cls, dict := some s.heap.objs.size, data := o.data, slots := o.slots }).update s.heap.objs.size (Obj.putName "reason" (PyData.keyHash w.params "reason") (.str "reason" s.toks) v)).get? b = some o := by
    intro b o hb ho
    have hbs : s.heap.objs.size ≠ b := Ne.symm (Nat.ne_of_lt (Heap.lt_size ho))
    rw [Heap.get?_update_other _ _ hbs, Heap.get?_update_other _ _ (Ne.symm hb)]
    exact Heap.get?_push_of_some _ ho
  refine wpAny_pure (h s.heap.objs.size { s with heap := _, toks := s.toks + 1 } hS (F.updA (hO _) k1 ?_))
  rw [Heap.get?_update_other _ _ (Ne.symm hes)]; exact he2
theorem bad_set {v : Value} {Q : Unit → Shared → Prop} {own' : Obj → List (Addr × Obj)} (S : Sta (KK w) B) (hS : Same s₀ s) (F : Fm B G env own V s.heap) (hO : ∀ o', OA own e (excO e0 none) o' (own' o'))
    (h : ∀ dx s', Same s₀ s' → Fm B G env (own' (excO e0 (some dx))) V s'.heap → Q () s') : wpAny (model prog w) A (setAttr (.ref e) "reason" v) Q E s :=
  set_plain (F.inK S) (od := none) (C := 45) ⟨F.has (e, excO e0 none) (hO (excO e0 none)).mem, rfl, rfl, trivial⟩ bad_ts (bad_osa (s := { s with toks := s.toks + 1 }) S hS F hO h)
end
end Mine
namespace Mine
section
variable {prog : Program} {w : World} {B G : Heap} {env : Env} {own own' : List (Addr × Obj)} {V V' : Vars} {A : Around} {E : Value → Shared → Prop} {s₀ s : Shared} {e e0 : Addr}
theorem ve_find {w : World} : findCls (KK w) (.type "ValueError") (.type "type") "__init__" = some (.val (.builtin "ValueError.__init__")) := by kernel_rfl
theorem ve_type : typeOf (.type "ValueError") = pure (.type "type") := by kernel_rfl
theorem ve_stub : Manifest.isStub "ValueError" = false := by kernel_rfl
theorem ve_meth {pl : Sem Bool} {Q : Value × List Value → Shared → Prop} (S : Sta (KK w) B) (hS : Same s₀ s) (F : Fm B G env own V s.heap) (h : ∀ s', Same s₀ s' → Fm B G env own V s'.heap → Q (.builtin "ValueError.__init__", []) s') :
    wpAny (model prog w) A (getMethod (.type "ValueError") "__init__" pl) Q E s := by
  have X := F.inK S
  have hstub : opaqueClassAbove (.type "ValueError") = pure none := by unfold opaqueClassAbove; dsimp only; rw [ve_stub]; rfl
  have L0 : Looks (model prog w) s.heap (typeOf (.type "ValueError")) (.type "type") := Looks.of_pure ve_type
  have hg : findIn (KK w) (.type "type") "__getattribute__" = some (some (.builtin "type.__getattribute__")) := type_tga
  unfold getMethod specialOf
  refine wpAny_bind (wpAny_bind (L0.here ((looks_findIn X hg).here ?_)))
  dsimp only
  rw [if_pos canon_tga]
  refine wpAny_bind (wpAny_mono (Q := fun v => Q (v, [])) (E := E) ?_ (fun _ _ z => wpAny_pure z) fun _ _ z => z)
  refine cls_open X (Looks.of_pure hstub) L0 hg (looks_hook X (r := none) (by rfl)) (by show subIn (KK w) _ _ = _; rfl) ve_find
    (wpAny_pure (by show wpAny _ _ (handedOut (.builtin "ValueError.__init__")) _ _ _; rw [handedOut_of (by kernel_rfl)]; exact wpAny_pure (h { s with toks := s.toks + 1 } hS F)))

variable {h : Heap} {g : Array GenState} {d : Drawn} {t : Nat} {os : OsState}
variable {nm q : Str} {C N : Addr} {bs : List Value} {hdct : Bool} {sn : List Str} {sub : List Value} {ab : Bool} {col : Option Bool} {dd : Option Addr} {k0 k1 k2 k3 k5 : Option Value}
theorem bad_check_init {M : Model} {oe : Obj} {rest : List Value} {Q : Unit → Shared → Prop}
    (hC : h.get? C = some (excClassObj nm q C N bs bmBad hdct sn sub ab col dd k0 k1 k2 k3 k5 "ValueError.__new__")) (he : h.get? e = some oe) (hcls : oe.cls = .ref C) (hq : Q () ⟨h, g, d, t, os⟩) :
    wpAny M A (checkBuiltinCall "ValueError.__init__" ⟨.ref e :: rest, []⟩) Q E ⟨h, g, d, t, os⟩ := by
  have F := PySem.F.excBase_ValueError
  have hcB : (Value.ref C :: bmBad).contains (.type "ValueError") = true := by rw [List.contains_cons, show bmBad.contains (.type "ValueError") = true by decide, Bool.or_true]
  have hshort := F.noStar
  simp only [checkBuiltinCall, F.initKind, F.initSplit, F.initRow]
  repeat (first | (with_reducible refine wpAny_loadPart_at he ?_; rw [hcls]) | with_reducible refine wpAny_loadPart_at hC ?_ | (with_reducible refine wpAny_isSubtype_exc hC ?_; rw [hcB]) | wp_step)
  refine wpAny_onRaise ?_
  rw [show ∀ (a b : String) (n : Nat), Bind.check ⟨.positional, "*", "ValueError", .self, [⟨"args", .varPos, false⟩]⟩ a b n (List.map (fun x => x.fst) ({ pos := Value.ref e :: rest } : Args).kw) = pure () from
    fun a b n => check_star_args _ _ _ _ _ _]
  exact wpAny_pure hq
theorem ve_init {x : Value} {Q : Value → Shared → Prop} {own' : Obj → List (Addr × Obj)} (S : Sta (KK w) B) (hS : Same s₀ s) (F : Fm B G env own V s.heap) (hO : ∀ o', OA own e (excO e0 none) o' (own' o'))
    (h : ∀ e1 s', Same s₀ s' → Fm B G env (own' (excO e1 none)) V s'.heap → Q .none s') : wpAny (model prog w) A (call (.builtin "ValueError.__init__") [.ref e, x]) Q E s := by
  have Fx := PySem.F.excBase_ValueError
  have he := F.has (e, excO e0 none) (hO (excO e0 none)).mem
  obtain ⟨nm, q, bs, hdct, sn, sub, ab, col, dd, k0, k1, k2, k3, k5, hl⟩ := bad_at w
  have hC := F.inK S _ _ hl
  have hes : e ≠ s.heap.objs.size := Nat.ne_of_lt (Heap.lt_size he)
  obtain ⟨hp, g, d, t, os⟩ := s
  refine wpAny_call (codeAny_call_builtin Fx.init.plain Fx.initEntry (bad_check_init hC he rfl ?_))
  wp_walk
  have he1 : (hp.push { cls := .type "tuple", data := .seq #[x] }).get? e = some (excO e0 none) := Heap.get?_push_of_some _ he
  have hself : ((hp.push { cls := .type "tuple", data := .seq #[x] }).update e (Obj.mapFields fun y => y.setIfInBounds 0 (.ref hp.objs.size))).get? e = some (excO hp.objs.size none) := Heap.get?_update_self _ he1 rfl
  exact h hp.objs.size ⟨_, g, d, t, os⟩ hS (F.updA (hO _) (fun b o hb ho => (Heap.get?_update_other _ _ (Ne.symm hb)).trans (Heap.get?_push_of_some _ ho)) hself)
end
end Mine
namespace Mine
theorem Sc.inter {env : Env} {V : Vars} (S : Sc env V) : interactive env = false := by unfold interactive; rw [S.kind]; rfl
theorem ExprF {prog : Program} {w : World} {A : Around} {E : Value → Shared → Prop} {s : Shared} {env : Env} {V : Vars} {e : PySem.Expr} {pos : Pos} {Q : Flow → Shared → Prop} (S : Sc env V) (h : wpAny (model prog w) A (eval e env) (fun _ => Q .next) E s)
    (hs : swapsWith e none pos.line env = pure false := by rfl) : wpAny (model prog w) A (exec (.Expr e pos) env) Q E s := wpAny_Expr_any h S.inter hs
end Mine
end F13
section F14
set_option maxRecDepth 100000
namespace Mine
section
variable {prog : Program} {w : World} {K : Frag} {B G : Heap} {own : List (Addr × Obj)} {A : Around} {s : Shared}
theorem enterR {R : Result → Shared → Prop} {name qual : Str} {params : Arguments} {body : List Stmt} {scope : Scope} {dV kV doc pm cdv ct oc : Value} {an od : Option Addr} {osl : Array (Option Value)} {f : Addr} {args : Args} {binds : List (Str × Value)} {base : Heap} {outer : List Env} {P : Prop}
    (own : List (Addr × Obj)) (hfr : A.frames = some outer) (hfun : s.heap.FunFrames base outer) (hbase : base.StaysIn s.heap)
    (herr : ∀ e a0 s', P → Same s s' → Heap.FlyingW base outer e (.ref 45) a0 s'.heap → s.heap.UpToSlots s'.heap → R (.error (.ref e)) s')
    (S : Sta K B) (hBG : ∀ b o, B.get? b = some o → G.get? b = some o) (hG : ∀ b o, G.get? b = some o → s.heap.get? b = some o)
    (hown : ∀ p ∈ own, s.heap.get? p.1 = some p.2 ∧ G.get? p.1 = none) (hnd : (own.map (·.1)).Nodup)
    (ho : K.lookup f = some ⟨oc, od, .func (fnOf name qual params body scope dV kV doc pm an cdv ct), osl⟩) (hcd : codeIn K cdv qual = true) {n : Nat} (Rm : Room A (n + 1))
    (hbind : BindsTo s (fnOf name qual params body scope dV kV doc pm an cdv ct) args binds)
    (h : ∀ env A' E' s₁, env.func.isSome = true → Same s s₁ → (∀ b o, s.heap.get? b = some o → s₁.heap.get? b = some o) → Fm B G env own (initV scope.names binds) s₁.heap → Room A' n →
      (∀ e e1 dx own' V' s', P → Same s s' → (∀ b o, s.heap.get? b = some o → s'.heap.get? b = some o) → s.heap.get? e = none → s'.heap.get? e = some (excO e1 (some dx)) → Fm B G env own' V' s'.heap → E' (.ref e) s') →
      wpAny (model prog w) A' (execs body env) (fun fl s' => R (.ok (.ret (match fl with | .ret v => v | _ => .none))) s') E' s₁)
    (hpre : preOf scope.names binds) (hcn : (scope.names.map (·.1)).Nodup) (hdb : (scope.names.all fun p => !(p.1 == ("__debug__" : Str)) && !(p.1 == ("__classdict__" : Str))) = true)
    (hco : scope.isCoroutine = false) (hgen : scope.isGenerator = false) (hk : scope.kind = .function) :
    codeAny (model prog w) A (.call (.ref f) args) R s := by
  refine enter0 S hBG hG hown hnd ho hcd Rm hbind (fun L s₁ hS hk1 hL F R' => ?_) hpre hcn hdb hco hgen hk
  refine h _ _ _ s₁ rfl hS hk1 F R' fun e e1 dx own' V' s' hP hS' hk' hen he F' => ?_
  have hbL : base.get? L = none := by
    cases q : base.get? L with
    | none => rfl
    | some o => have := hbase _ _ q; rw [hL] at this; cases this
  have hbe : base.get? e = none := by
    cases q : base.get? e with
    | none => rfl
    | some o => have := hbase _ _ q; rw [hen] at this; cases this
  refine wpAny_leaving_firstW (base := base) (outer := outer) (L := L) (a0 := .ref e1) (Around.frames_deeper hfr) ⟨?_, ⟨L, ?_⟩, ?_⟩ rfl he (fun b o hb => hk' b o (hbase b o hb)) hbe rfl rfl rfl fun h' hL' => ?_
  · rw [F'.sc.kind]; decide
  · obtain ⟨m, ⟨o, es, ep, ho, hd, _⟩, _⟩ := F'.loc.ns
    exact ⟨o, rfl, hbL, ho, fun vs q => by rw [hd] at q; cases q⟩
  · exact hfun.of_keeps fun b o hb _ => ⟨o, hk' b o hb, rfl⟩
  · obtain ⟨k1, ⟨_, _, k2⟩, k3, k4⟩ := hL'
    exact herr e _ { s' with heap := h' } hP hS' ⟨k1, hbe, k2, k3⟩ ((Heap.UpToSlots.of_keeps hk').trans k4)
end
end Mine
end F14
section F15
set_option maxRecDepth 100000
namespace Mine
theorem slot_join : Slot "bytes" "join" "bytes.join" := .of (owner := "bytes") (n := "join") (by rw [typeLookup_type, builtinLookup_eq_fast]; kernel_rfl) (by decide +kernel) (by decide +kernel) (by decide +kernel)
    (by first | exact .inl (by decide +kernel) | exact .inr (by decide +kernel)) (by rw [isSubtype_type]; kernel_rfl)
theorem type_join : typeOf (.builtin "bytes.join") = pure (.type "method_descriptor") := by show builtinType _ = _; rw [builtinType_eq_fast]; kernel_rfl
theorem entry_join : entryFor table "bytes.join" = some Builtin.«bytes.join» := entryFor_of_tree (by kernel_rfl)
theorem args_join (a b : Value) : argsOk "bytes.join" ⟨[a, b], []⟩ := by unfold argsOk; kernel_rfl
open Builtin
theorem takeQ {id : String} {b : Array UInt8} {t : Tok} : Bytes.takeBufferQuiet? id (.bytes b t) 0 = pure (some (b, none)) := by
  unfold Bytes.takeBufferQuiet? Bytes.takeBuffer?
  rw [KBy.special_eq KBy.look_buffer, KBy.own_buffer]
  simp only [pure_bind]
  rw [show (0 == Bytes.fullReadOnly) = false by decide, KBy.buffer_eq]
  rfl
end Mine
namespace Mine
open Builtin
section
variable {prog : Program} {w : World} {A : Around} {E : Value → Shared → Prop} {s : Shared}
theorem letGo_bytes {Q : Unit → Shared → Prop} {M : Model} : ∀ (rest : List Value) (keep : List Value), Q () s → wpAny M A (letGo rest keep) Q E s
  | [], _, h => wpAny_pure h
  | _ :: r, keep, h => wpAny_bind (wpAny_holding (wpAny_point (letGo_bytes r keep h)))
theorem joinLetGo_bytes {Q : Unit → Shared → Prop} {M : Model} : ∀ (taken : List (Value × Option Value)) (keep : List Value), (∀ p ∈ taken, p.2 = none) → Q () s → wpAny M A (Bytes.joinLetGo taken keep) Q E s
  | [], _, _, h => wpAny_pure h
  | (x, o) :: r, keep, ht, h => by
    have : o = none := ht _ List.mem_cons_self
    subst this
    exact wpAny_bind (letGo_bytes _ _ (joinLetGo_bytes r keep (fun p hp => ht p (List.mem_cons_of_mem _ hp)) h))
theorem forIn_list_wp {β : Type} {M : Model} {f : Nat → β → Sem (ForInStep β)} (I : Nat → β → Shared → Prop) {Q : β → Shared → Prop} {n : Nat} (step : ∀ i b s, i < n → I i b s → wpAny M A (f i b) (fun r s' => ∃ b', r = .yield b' ∧ I (i + 1) b' s') E s)
    (fin : ∀ b s, I n b s → Q b s) : ∀ (k i : Nat) (b : β) (s : Shared), i + k = n → I i b s → wpAny M A (forIn (List.range' i k 1) b f) Q E s
  | 0, i, b, s, e, h => by
    rw [List.range'_zero, List.forIn_nil]
    exact wpAny_pure (fin b s (by rw [← e]; exact h))
  | k + 1, i, b, s, e, h => by
    rw [List.range'_succ, List.forIn_cons]
    refine wpAny_bind (wpAny_mono (step i b s (by lia) h) (fun r s' hr => ?_) fun _ _ e => e)
    obtain ⟨b', rfl, h'⟩ := hr
    exact forIn_list_wp I step fin k (i + 1) b' s' (by lia) h'
theorem forIn_range_wp {β : Type} {M : Model} {f : Nat → β → Sem (ForInStep β)} (I : Nat → β → Shared → Prop) {Q : β → Shared → Prop} {n : Nat} {b : β} (hI : I 0 b s) (step : ∀ i b s, i < n → I i b s → wpAny M A (f i b) (fun r s' => ∃ b', r = .yield b' ∧ I (i + 1) b' s') E s)
    (fin : ∀ b s, I n b s → Q b s) : wpAny M A (forIn [:n] b f) Q E s := by
  rw [Std.Legacy.Range.forIn_eq_forIn_range']
  have : [:n].size = n := by simp [Std.Legacy.Range.size]
  rw [this]
  exact forIn_list_wp I step fin n 0 b s (by lia) hI
theorem jm_one {motive : Array Value → Sort _} (x : Value) (h1 : ∀ x, motive #[x]) (h2 : ∀ x, motive x) : PySem.Builtin.Bytes.joinM.match_1 motive [x].toArray h1 h2 = h1 x := rfl
theorem jm_ne {motive : Array Value → Sort _} {arr : Array Value} (h : ¬ arr.size = 1) (h1 : ∀ x, motive #[x]) (h2 : ∀ x, motive x) : PySem.Builtin.Bytes.joinM.match_1 motive arr h1 h2 = h2 arr := by
  unfold PySem.Builtin.Bytes.joinM.match_1
  rw [dif_neg h]
theorem joined_nil : ∀ (xs : List Bs) (k : Nat) (acc : Array UInt8), ((xs.map List.toArray).zipIdx k).foldl (fun out (p, i) => (if i > 0 then out ++ (#[] : Array UInt8) else out) ++ p) acc = acc ++ xs.flatten.toArray
  | [], k, acc => by simp
  | x :: r, k, acc => by
    rw [List.map_cons, List.zipIdx_cons, List.foldl_cons, joined_nil r (k + 1)]
    simp
theorem total_len : ∀ (xs : List Bs) (n : Nat), (xs.map List.toArray).foldl (fun x1 x2 => x1 + x2.size) n = n + xs.flatten.length
  | [], n => by simp
  | x :: r, n => by rw [List.map_cons, List.foldl_cons, total_len r]; simp; lia
theorem meets_join {l : Addr} {vs : List Value} {xs : List Bs} {t : Tok} :
    Meets («bytes.join» ⟨[.bytes #[] t, .ref l], []⟩) (fun _ R s => s.heap.IsList l vs.toArray ∧ (vs.length = xs.length ∧ ∀ (i : Nat) (x : Bs), xs[i]? = some x → ∃ t, vs[i]? = some (Value.bytes x.toArray t)) ∧ xs.flatten.length ≤ 1000000 ∧ ∀ t' k, R (.ok (.ret (.bytes xs.flatten.toArray t'))) { s with toks := k }) := by
  refine .of_wp fun prog w A R s hS => ?_
  obtain ⟨hl, ⟨hlen, hv⟩, hsz, h⟩ := hS
  have hT : s.TypeIs (.ref l) "list" := hl.typeIs
  obtain ⟨ol, hol, hoc, nl, hod⟩ := id hl
  unfold Builtin.«bytes.join» Bytes.joinM
  refine wpAny_bind (wpAny_of_eq (a := (Value.bytes #[] t, Value.ref l)) rfl ?_)
  refine wpAny_bind ?_
  show wpAny _ _ (Bytes.joinItems (.ref l)) _ _ s
  unfold Bytes.joinItems
  refine wpAny_bind (wpAny_typeOf hT ?_)
  refine wpAny_pure ?_
  refine wpAny_bind ?_
  show wpAny _ _ (load l >>= _) _ _ s
  refine wpAny_bind (wpAny_load hol ?_)
  rw [hod]
  refine wpAny_pure ?_
  dsimp only
  refine wpAny_ite (KBc.ite_yes rfl ?_)
  have items : ∀ i, i < vs.length → ∃ x t, vs[i]? = some (Value.bytes (List.toArray x) t) ∧ xs[i]? = some x := fun i hi => by
    obtain ⟨t, ht⟩ := hv i xs[i] (by simp [hlen ▸ hi])
    exact ⟨_, t, ht, by simp [hlen ▸ hi]⟩
  by_cases h1 : vs.length = 1
  · obtain ⟨x, rfl⟩ : ∃ x, vs = [x] := List.length_eq_one_iff.mp h1
    rw [jm_one]
    obtain ⟨y, ty, hy, hxy⟩ := items 0 (by simp)
    have hxs : xs = [y] := by
      cases xs with
      | nil => simp at hlen
      | cons z r => cases r with
        | nil => simp at hxy; rw [hxy]
        | cons _ _ => simp at hlen
    simp at hy
    subst hy hxs
    refine wpAny_bind (wpAny_of_eq (a := .type "bytes") rfl ?_)
    refine wpAny_ite (KBc.ite_yes rfl ?_)
    refine wpAny_bind (wpAny_rule ?_)
    exact wpAny_pure ⟨_, rfl, by have := h ty s.toks; simpa using this⟩
  · rw [jm_ne (by simpa using h1)]
    refine wpAny_bind (forIn_range_wp (fun i p s' => s' = s ∧ p.1.toList = (xs.take i).map List.toArray ∧ (∀ q ∈ p.2, q.2 = none ∧ q.1.onHeap = false)) ⟨rfl, by simp, by simp⟩ ?_ ?_)
    · rintro i ⟨parts, taken⟩ s' hi ⟨rfl, hp, ht⟩
      have hi' : i < vs.length := by simpa using hi
      obtain ⟨x, tx, hx, hxx⟩ := items i hi'
      refine wpAny_bind ?_
      show wpAny _ _ (load l >>= _) _ _ s'
      refine wpAny_bind (wpAny_load hol ?_)
      rw [hod]
      refine wpAny_pure ?_
      have hany : (taken.any fun x => x.1.onHeap) = false := by rw [List.any_eq_false]; intro q hq; simp [(ht q hq).2]
      have hgetD : vs.toArray.getD i .none = .bytes x.toArray tx := by simp [Array.getD, hi', List.getElem?_eq_some_iff.mp hx |>.2]
      dsimp only
      rw [hany, hgetD]
      refine wpAny_ite (KBy.ite_no (by decide) ?_)
      refine wpAny_bind (wpAny_holding (wpAny_of_eq takeQ ?_))
      dsimp only
      refine wpAny_bind ?_
      show wpAny _ _ (load l >>= _) _ _ s'
      refine wpAny_bind (wpAny_load hol ?_)
      rw [hod]
      refine wpAny_pure ?_
      dsimp only
      refine wpAny_ite (KBy.ite_no (by simp) ?_)
      refine wpAny_pure ⟨_, rfl, rfl, ?_, ?_⟩
      · simp only [Array.toList_push]
        rw [hp, List.take_add_one, hxx]; simp
      · intro q hq
        rcases List.mem_append.mp hq with hq | hq
        · exact ht q hq
        · rw [List.mem_singleton.mp hq]; exact ⟨rfl, rfl⟩
    · rintro ⟨parts, taken⟩ s' ⟨rfl, hp, ht⟩
      dsimp only
      refine wpAny_bind (wpAny_of_eq (a := #[]) rfl ?_)
      have hxs : parts = (xs.map List.toArray).toArray := by
        rw [show vs.toArray.size = xs.length by simp [hlen], List.take_length] at hp
        rw [← hp]
      subst hxs
      have htl : Bytes.tooLong (Array.foldl (fun x1 x2 => x1 + x2.size) ((#[] : Array UInt8).size * ((xs.map List.toArray).toArray.size - 1)) (xs.map List.toArray).toArray) = false := by
        refine KBy.tooLong_not ?_
        rw [← Array.foldl_toList, show ((#[] : Array UInt8).size * ((xs.map List.toArray).toArray.size - 1)) = 0 by simp]
        rw [show (xs.map List.toArray).toArray.toList = xs.map List.toArray from rfl, total_len]
        lia
      rw [htl]
      refine wpAny_ite (KBy.ite_no (by decide) ?_)
      have hj : Bytes.joined #[] (xs.map List.toArray).toArray.toList = xs.flatten.toArray := by
        unfold Bytes.joined
        rw [show (xs.map List.toArray).toArray.toList = xs.map List.toArray from rfl, joined_nil]
        simp
      rw [hj]
      refine wpAny_bind ?_
      refine wpAny_mkBytes ?_ (by rw [List.size_toArray, sizeLine_eq]; lia)
      refine wpAny_bind (wpAny_holding (wpAny_point (wpAny_bind (joinLetGo_bytes _ _ (fun p hp => (ht p hp).1) ?_))))
      exact wpAny_pure ⟨_, rfl, h _ _⟩
theorem joinF {B G : Heap} {env : Env} {own : List (Addr × Obj)} {V : Vars} {s₀ : Shared} {l : Addr} {vs : List Value} {xs : List Bs} {t : Tok} {Q : Value → Shared → Prop} (hS : Same s₀ s) (F : Fm B G env own V s.heap) (hl : s.heap.IsList l vs.toArray)
    (hv : vs.length = xs.length ∧ ∀ (i : Nat) (x : Bs), xs[i]? = some x → ∃ t, vs[i]? = some (Value.bytes x.toArray t)) (hsz : xs.flatten.length ≤ 1000000)
    (h : ∀ t' s', Same s₀ s' → Fm B G env own V s'.heap → Q (.bytes xs.flatten.toArray t') s') : wpAny (model prog w) A (call (.builtin "bytes.join") [.bytes #[] t, .ref l]) Q E s :=
  call_meets slot_join (typeIs_bytes _ _ _) entry_join (args_join _ _) meets_join ⟨hl, hv, hsz, fun t' k => h t' { s with toks := k } hS F⟩
theorem join_meth {b : Array UInt8} {t : Tok} {pl : Sem Bool} {Q : Value × List Value → Shared → Prop} (h : Q (.builtin "bytes.join", [.bytes b t]) s) : wpAny (model prog w) A (getMethod (.bytes b t) "join" pl) Q E s :=
  by with_reducible exact KBd.method_of (.bytes b t) (typeIs_bytes _ _ _) slot_join type_join KBd.noRef h
theorem ends_meth {b : Array UInt8} {t : Tok} {pl : Sem Bool} {Q : Value × List Value → Shared → Prop} (h : Q (.builtin "bytes.endswith", [.bytes b t]) s) : wpAny (model prog w) A (getMethod (.bytes b t) "endswith" pl) Q E s :=
  by with_reducible exact KBd.method_of (.bytes b t) (typeIs_bytes _ _ _) FB.slot_bytes_endswith FB.type_bytes_endswith KBd.noRef h
end
end Mine
end F15
section F16
set_option maxRecDepth 100000
namespace Mine
open Builtin
section
variable {prog : Program} {w : World} {A : Around} {E : Value → Shared → Prop} {s : Shared} {b : Array UInt8} {t : Tok}
theorem look_bytes : typeLookup (.type "bytes") "__bytes__" = pure (some (.builtin "bytes.__bytes__")) := by rw [typeLookup_type, builtinLookup_eq_fast]; kernel_rfl
theorem bb_new {Q : Value → Shared → Prop} (hQ : Q (.bytes b t) s) :
    codeAny (model prog w) A (.call (.builtin "bytes.__new__") ⟨[.type "bytes", .bytes b t], []⟩) (wants Q E) s := by
  refine codeAny_of_tree ?_
  show wpAny _ A.in1 (do checkBuiltinCall "bytes.__new__" ⟨[.type "bytes", .bytes b t], []⟩; again (.builtin "bytes.__new__" ⟨[.type "bytes", .bytes b t], []⟩)) _ _ s
  refine wpAny_bind (wpAny_of_eq (F.bm_newCall _) (wpAny_pure ⟨plainId_quiet F.bm_plain _, codeAny_builtin F.bm_entry ?_⟩))
  rw [Around.under_plainId F.bm_plain _]
  unfold Builtin.«bytes.__new__»
  refine wpAny_bind (wpAny_of_eq (a := true) rfl ?_)
  refine wpAny_ite (KBy.ite_no (by decide) ?_)
  refine wpAny_bind (wpAny_of_eq F.bm_sub ?_)
  refine wpAny_ite (KBy.ite_no (by decide) ?_)
  refine wpAny_bind (wpAny_of_eq (F.bm_bind _) ?_)
  refine wpAny_bind (wpAny_of_eq (a := ()) rfl ?_)
  refine wpAny_bind (wpAny_of_eq (a := ()) rfl ?_)
  refine wpAny_ite (KBy.ite_no (by decide) ?_)
  refine wpAny_bind (wpAny_of_eq (KBy.special_eq look_bytes) ?_)
  refine wpAny_bind (wpAny_rule ?_)
  refine wpAny_bind (wpAny_of_eq (a := .type "bytes") rfl ?_)
  refine wpAny_ite (KBc.ite_yes rfl ?_)
  refine wpAny_of_eq (a := Fin.done (.ret (.bytes b t))) (by first | rfl | kernel_rfl) ?_
  exact hQ
theorem bytes_bytes {B G : Heap} {env : Env} {own : List (Addr × Obj)} {V : Vars} {s₀ : Shared} {Q : Value → Shared → Prop} (hS : Same s₀ s) (Fx : Fm B G env own V s.heap)
    (h : ∀ s', Same s₀ s' → Fm B G env own V s'.heap → Q (.bytes b t) s') : wpAny (model prog w) A (call (.type "bytes") [.bytes b t]) Q E s := by
  refine callType_codes (Q₁ := fun obj s₁ => s₁.TypeIs obj "bytes" ∧ Q obj s₁) F.bm_called (F.bm_typeCall _) F.entry_object_init (bb_new ⟨PySem.W.typeIs_bytes _ _ _, h s hS Fx⟩) fun obj s₁ h₁ => ?_
  exact ⟨h₁.1, F.args_object_init_2 obj _, object_init_meets F.bm_called.init.lookup F.bm_called.made (by decide) prog w A.in1 _ s₁ ⟨h₁.1, rfl, h₁.2⟩⟩
end
end Mine
end F16
section F17
set_option maxRecDepth 100000
namespace Mine
section
variable {prog : Program} {w : World} {A : Around} {E : Value → Shared → Prop} {B G : Heap} {env : Env} {own : List (Addr × Obj)} {V : Vars} {s₀ s : Shared} {l : Addr} {o : Obj} {items : List Value}
theorem meth_append {pl : Sem Bool} {Q : Value × List Value → Shared → Prop} (e : s.heap.get? l = some o) (L : LO o items) (hd : o.dict = none) (h : Q (.builtin "list.append", [.ref l]) s) : wpAny (model prog w) A (getMethod (.ref l) "append" pl) Q E s :=
  getMethod_builtin (L.at e).typeIs PySem.F.plainAttrs_list PySem.F.slot_list_append PySem.F.type_list_append (fun a q => by cases q; exact ⟨_, e, hd⟩) h
theorem add_bytesF {x y : Bs} {t u : Tok} {Q : Value → Shared → Prop} (hS : Same s₀ s) (F : Fm B G env own V s.heap) (hsz : x.length + y.length ≤ 1000000) (h : ∀ t' s', Same s₀ s' → Fm B G env own V s'.heap → Q (.bytes (x ++ y).toArray t') s') :
    wpAny (model prog w) A (binaryOp .Add (.bytes x.toArray t) (.bytes y.toArray u)) Q E s := by
  refine KBy.add_bytes (by rw [List.size_toArray, List.size_toArray]; lia) fun t' k => ?_
  have := h t' { s with toks := k } hS F
  rw [show x.toArray ++ y.toArray = (x ++ y).toArray by simp]; exact this
end
end Mine
end F17
section F18
set_option maxRecDepth 100000
namespace Mine
theorem swTrue {env : Env} {V : Vars} {y : Str} {o : Option Value} {py pos : Pos} {scope : Scope} {elt : PySem.Expr} {g : List Comprehension} {n : Nat} (S : Sc env V) (h1 : (y, .local, o) ∈ V) (hl : (py.line == pos.line) = true)
    (hn : (scope.names.any fun (m, k) => m == y && (k == .local || k == .cell)) = false) : swapsWith (.ListComp elt g scope pos) (some (.Name y py)) n env = pure true := by
  have k1 : env.kindOf y = some .local := S.knd _ h1
  show (pure (env.blockKind == .function && env.kindOf y == some .local && py.line == pos.line && !(scope.names.any fun (m, k) => m == y && (k == .local || k == .cell))) : Sem Bool) = pure true
  rw [S.block, k1, hl, hn]; rfl
theorem swCellC {env : Env} {V : Vars} {y : Str} {o : Option Value} {py pos : Pos} {scope : Scope} {elt : PySem.Expr} {g : List Comprehension} {n : Nat} (S : Sc env V) (h1 : (y, .cell, o) ∈ V) : swapsWith (.ListComp elt g scope pos) (some (.Name y py)) n env = pure false := by
  have k1 : env.kindOf y = some .cell := S.knd _ h1
  show (pure (env.blockKind == .function && env.kindOf y == some .local && py.line == pos.line && !(scope.names.any fun (m, k) => m == y && (k == .local || k == .cell))) : Sem Bool) = pure false
  rw [S.block, k1]; rfl
end Mine
namespace Mine
section
variable {prog : Program} {w : World} {A : Around} {E : Value → Shared → Prop} {s₀ s : Shared} {B G : Heap} {env : Env} {V V' : Vars} {x : Value} {n : Nat} {Ob : Nat → Obj → Prop} {dep : Heap → Prop} {P : Nat → Value → Prop}
theorem Comp_k {elt target iter : PySem.Expr} {ifs : List PySem.Expr} {scope : Scope} {pos : Pos} {ms stat : List (Addr × Obj)} {y : Str} {py : Pos} {V₁ : Addr → Vars} {K : Shared → Prop} (M : IMakes prog w A E B G env (ms ++ stat) V s x n Ob dep P)
    (J : Nat → List Value → List (Addr × Obj) → Prop) (hS : Same s₀ s) (hfn : env.func.isSome = true) (hJ : J 0 [] ms) (hn : n ≤ 1000000)
    (C : CompOk scope V V') (hA : ∀ D, SA V y .local (.ref D) (V₁ D)) (hlen : ∀ i items ms, J i items ms → items.length ≤ i)
    (hdep : ∀ h', (∀ b ob, b ∉ ms.map (·.1) → s.heap.get? b = some ob → h'.get? b = some ob) → dep h')
    (turn : CTurn prog w A s₀ B s ms V' n P J elt target ifs)
    (fin : ∀ D items ms' oD s₁, J n items ms' → LO oD items ∧ oD.dict = none → Same s₀ s₁ → Fm B G env ((D, oD) :: (ms' ++ stat)) (V₁ D) s₁.heap → K s₁) :
    wpAny (model prog w) A (pyIter x) (fun it s₂ => CompK prog w A E env scope elt target iter ifs pos (compPost (model prog w) A E (some (assign (.Name y py) env)) (fun _ s' => K s')) it s₂) E s :=
  Comp_a (Q := fun _ s' => K s') M J hS hfn hJ hn C hA hlen hdep turn fin
end
end Mine
end F18
section F19
set_option maxRecDepth 100000
namespace Mine
section
variable {prog : Program} {w : World} {A : Around} {E : Value → Shared → Prop} {s₀ s : Shared} {B G : Heap} {env : Env} {own : List (Addr × Obj)} {V : Vars}
/-- what stands behind a while -/
inductive WDone (s₀ : Shared) (B G : Heap) (env : Env) (JF : List (Addr × Obj) → Vars → Prop) (s' : Shared) : Prop
  | mk (own' : List (Addr × Obj)) (V' : Vars) (hj : JF own' V') (hS : Same s₀ s') (hF : Fm B G env own' V' s'.heap)
theorem While_fin {test : PySem.Expr} {body : List Stmt} {pos : Pos} {Q : Flow → Shared → Prop} (J : Nat → List (Addr × Obj) → Vars → Prop) (JF : List (Addr × Obj) → Vars → Prop) (n : Nat) (hS : Same s₀ s) (F : Fm B G env own V s.heap) (hJ : J n own V)
    (turn : ∀ n own' V' s₁, J n own' V' → Same s₀ s₁ → Fm B G env own' V' s₁.heap →
      ∀ TE : Flow → Shared → Prop, (∀ f s', WEnd s₀ B G env n J (fun f s' => match f with | .next => WDone s₀ B G env JF s' | f => Q f s') f s' → TE f s') →
      wpAny (model prog w) A (isTrue test env (eval test env)) (fun b s₂ => if b = true then wpAny (model prog w) A (execs body env) TE (fun _ _ => False) s₂ else TE .brk s₂) (fun _ _ => False) s₁)
    (fin : ∀ own' V' s₁, JF own' V' → Same s₀ s₁ → Fm B G env own' V' s₁.heap → Q .next s₁) :
    wpAny (model prog w) A (exec (.While test body [] pos) env) Q E s := by
  refine While_rule J n hS F hJ fun n own' V' s₁ hj hS₁ F₁ => wpAny_mono (turn n own' V' s₁ hj hS₁ F₁ _ fun _ _ h => h) (fun b s₂ h₂ => ?_) fun _ _ e => e
  have done : ∀ s', WDone s₀ B G env JF s' → Q .next s' := fun s' ⟨o, v, h1, h2, h3⟩ => fin o v s' h1 h2 h3
  cases b with
  | false => simp only [Bool.false_eq_true, if_false] at h₂ ⊢; exact done _ h₂
  | true =>
    simp only [if_true] at h₂ ⊢
    refine wpAny_mono h₂ (fun f s₃ h₃ => ?_) fun _ _ e => e
    cases f with
    | next => exact h₃
    | cont => exact h₃
    | brk => exact done _ h₃
    | ret v => exact h₃
end
theorem pk_last (x : List UInt8) : pk x (some (-8)) none = x.drop (x.length - 8) := by
  unfold pk kms_lo kms_hi
  simp only [show ((-8 : Int) < 0) by decide, if_true, show (-(-8 : Int)).toNat = 8 by decide]
  exact List.take_of_length_le (by rw [List.length_drop]; lia)
theorem bsAre_rev {vs : List Value} {xs : List (List UInt8)} (h : vs.length = xs.length ∧ ∀ (i : Nat) (x : List UInt8), xs[i]? = some x → ∃ t, vs[i]? = some (Value.bytes x.toArray t)) :
    vs.reverse.length = xs.reverse.length ∧ ∀ (i : Nat) (x : List UInt8), xs.reverse[i]? = some x → ∃ t, vs.reverse[i]? = some (Value.bytes x.toArray t) := by
  refine ⟨by simp [h.1], fun i x e => ?_⟩
  have hi : i < xs.length := by
    have := (List.getElem?_eq_some_iff.mp e).1; simpa using this
  rw [List.getElem?_reverse hi] at e
  rw [List.getElem?_reverse (by rw [h.1]; exact hi), h.1]
  exact h.2 _ _ e
theorem bsAre_snoc {vs : List Value} {xs : List (List UInt8)} {y : List UInt8} {t : Tok} (h : vs.length = xs.length ∧ ∀ (i : Nat) (x : List UInt8), xs[i]? = some x → ∃ t, vs[i]? = some (Value.bytes x.toArray t)) :
    (vs ++ [Value.bytes y.toArray t]).length = (xs ++ [y]).length ∧ ∀ (i : Nat) (x : List UInt8), (xs ++ [y])[i]? = some x → ∃ t', (vs ++ [Value.bytes y.toArray t])[i]? = some (Value.bytes x.toArray t') := by
  refine ⟨by simp [h.1], fun i x e => ?_⟩
  rcases Nat.lt_or_ge i xs.length with hi | hi
  · rw [List.getElem?_append_left hi] at e
    obtain ⟨t', ht⟩ := h.2 i x e
    exact ⟨t', by rw [List.getElem?_append_left (by rw [h.1]; exact hi)]; exact ht⟩
  · rw [List.getElem?_append_right hi] at e
    rcases Nat.eq_zero_or_pos (i - xs.length) with h0 | h0
    · rw [h0] at e; simp at e
      exact ⟨t, by rw [List.getElem?_append_right (by rw [h.1]; exact hi), h.1, h0]; simp [e]⟩
    · rw [List.getElem?_eq_none (by simp; lia)] at e; cases e
end Mine
end F19
section F20
set_option maxRecDepth 100000
namespace Mine
open Builtin
section
variable {prog : Program} {w : World} {A : Around} {E : Value → Shared → Prop} {s : Shared} {b c : Array UInt8} {t u : Tok}
theorem nt_eq_bytes : Gives (Builtin.«NoneType.__eq__» ⟨[.none, .bytes b t], []⟩) (.val (Value.notImplemented)) :=
  .of_wp fun M A E s Q h => by obtain ⟨hp, g, d, tk, os⟩ := s; wp_walk; exact ⟨_, rfl, h⟩
theorem nt_ne_bytes : Gives (Builtin.«NoneType.__ne__» ⟨[.none, .bytes b t], []⟩) (.val (Value.notImplemented)) :=
  .of_wp fun M A E s Q h => by obtain ⟨hp, g, d, tk, os⟩ := s; wp_walk; exact ⟨_, rfl, h⟩
theorem b_eq_none : Gives (Builtin.«bytes.__eq__» ⟨[.bytes b t, .none], []⟩) (.val (Value.notImplemented)) :=
  .of_wp fun M A E s Q h => by
    have f1 := F.sub_NoneType_bytes
    obtain ⟨hp, g, d, tk, os⟩ := s; wp_walk; exact ⟨_, rfl, h⟩
theorem b_ne_none : Gives (Builtin.«bytes.__ne__» ⟨[.bytes b t, .none], []⟩) (.val (Value.notImplemented)) :=
  .of_wp fun M A E s Q h => by
    have f1 := F.sub_NoneType_bytes
    obtain ⟨hp, g, d, tk, os⟩ := s; wp_walk; exact ⟨_, rfl, h⟩
theorem slot_beq_refl : Slot "bytes" (cmpInfo .Eq).2.2 "bytes.__eq__" := FB.slot_bytes_eq
theorem slot_bne_refl : Slot "bytes" (cmpInfo .NotEq).2.2 "bytes.__ne__" := FB.slot_bytes_ne
theorem eq_bytes_none {Q : Value → Shared → Prop} (h : Q (.bool false) s) : wpAny (model prog w) A (compareOp .Eq (.bytes b t) .none) Q E s := by
  show wpAny _ A (richCompare .Eq _ _) Q E s
  exact EqNone.wpAny_richCompare_eq_decline (k := false) (fun s' => typeIs_bytes s' b t) (fun _ => rfl) (by decide) F.sub_NoneType_bytes FB.slot_bytes_eq F.slot_NoneType_eq_refl rfl
    (call_gives FB.slot_bytes_eq (typeIs_bytes s b t) FB.entry_bytes_eq (FB.args_bytes_eq_2 _ _) b_eq_none
      ⟨rfl, call_gives F.slot_NoneType_eq_refl rfl F.entry_NoneType_eq (F.args_NoneType_eq_2 _ _) nt_eq_bytes ⟨rfl, h⟩⟩)
theorem eq_none_bytes {Q : Value → Shared → Prop} (h : Q (.bool false) s) : wpAny (model prog w) A (compareOp .Eq .none (.bytes b t)) Q E s := by
  show wpAny _ A (richCompare .Eq _ _) Q E s
  exact EqNone.wpAny_richCompare_eq_decline (k := false) (fun _ => rfl) (fun s' => typeIs_bytes s' b t) (by decide) F.sub_bytes_NoneType F.slot_NoneType_eq slot_beq_refl rfl
    (call_gives F.slot_NoneType_eq rfl F.entry_NoneType_eq (F.args_NoneType_eq_2 _ _) nt_eq_bytes
      ⟨rfl, call_gives slot_beq_refl (typeIs_bytes s b t) FB.entry_bytes_eq (FB.args_bytes_eq_2 _ _) b_eq_none ⟨rfl, h⟩⟩)
theorem ne_bytes_none {Q : Value → Shared → Prop} (h : Q (.bool true) s) : wpAny (model prog w) A (compareOp .NotEq (.bytes b t) .none) Q E s := by
  show wpAny _ A (richCompare .NotEq _ _) Q E s
  exact EqNone.wpAny_richCompare_ne_decline (k := false) (fun s' => typeIs_bytes s' b t) (fun _ => rfl) (by decide) F.sub_NoneType_bytes FB.slot_bytes_ne F.slot_NoneType_ne_refl rfl
    (call_gives FB.slot_bytes_ne (typeIs_bytes s b t) FB.entry_bytes_ne (FB.args_bytes_ne_2 _ _) b_ne_none
      ⟨rfl, call_gives F.slot_NoneType_ne_refl rfl F.entry_NoneType_ne (F.args_NoneType_ne_2 _ _) nt_ne_bytes ⟨rfl, h⟩⟩)
theorem ne_none_bytes {Q : Value → Shared → Prop} (h : Q (.bool true) s) : wpAny (model prog w) A (compareOp .NotEq .none (.bytes b t)) Q E s := by
  show wpAny _ A (richCompare .NotEq _ _) Q E s
  exact EqNone.wpAny_richCompare_ne_decline (k := false) (fun _ => rfl) (fun s' => typeIs_bytes s' b t) (by decide) F.sub_bytes_NoneType F.slot_NoneType_ne slot_bne_refl rfl
    (call_gives F.slot_NoneType_ne rfl F.entry_NoneType_ne (F.args_NoneType_ne_2 _ _) nt_ne_bytes
      ⟨rfl, call_gives slot_bne_refl (typeIs_bytes s b t) FB.entry_bytes_ne (FB.args_bytes_ne_2 _ _) b_ne_none ⟨rfl, h⟩⟩)
/-- what told and content give -/
noncomputable def OB (o : Option Bs) (t : Tok) : Value := match o with | some x => .bytes x.toArray t | none => .none
theorem eq_ob {x y : Option Bs} {Q : Value → Shared → Prop} (h : Q (.bool (decide (x = y))) s) : wpAny (model prog w) A (compareOp .Eq (OB x t) (OB y u)) Q E s := by
  cases x with
  | none => cases y with
    | none => exact EqNone.eq_none_none (by simpa using h)
    | some y => exact eq_none_bytes (by simpa using h)
  | some x => cases y with
    | none => exact eq_bytes_none (by simpa using h)
    | some y => exact eq_bytes (by simpa [Bool.beq_eq_decide_eq] using h)
theorem ne_ob {x y : Option Bs} {Q : Value → Shared → Prop} (h : Q (.bool (!decide (x = y))) s) : wpAny (model prog w) A (compareOp .NotEq (OB x t) (OB y u)) Q E s := by
  cases x with
  | none => cases y with
    | none => exact EqNone.ne_none_none (by simpa using h)
    | some y => exact ne_none_bytes (by simpa using h)
  | some x => cases y with
    | none => exact ne_bytes_none (by simpa using h)
    | some y => exact ne_bytes (by simpa [bne, Bool.beq_eq_decide_eq] using h)
theorem is_ob {x : Option Bs} {Q : Value → Shared → Prop} {M : Model} (h : Q (.bool x.isNone) s) : wpAny M A (compareOp .Is (OB x t) .none) Q E s := by
  cases x with
  | none => exact is_none_none h
  | some x => exact is_bytes_none h
theorem eqAt_bytes (x y : Bs) : SeqAt.EqAt A s (.bytes x.toArray t) (.bytes y.toArray u) (decide (x = y)) := fun prog w E Q hq => by
  unfold eqBool
  refine wpAny_holding ?_
  refine wpAny_ite_split (fun hab => ?_) (fun _ => ?_)
  · have : x = y := by
      have := eq_of_beq hab
      injection this with h1
      simpa using h1
    rw [decide_eq_true this] at hq
    exact wpAny_bind (wpAny_rule (wpAny_pure hq))
  · refine wpAny_bind (m := richCompare .Eq _ _) ?_
    show wpAny _ A (compareOp .Eq _ _) _ E s
    exact eq_bytes (wpAny_truthy_bool (by simpa [Bool.beq_eq_decide_eq] using hq))
end
end Mine
end F20
section F21
set_option maxRecDepth 100000
namespace Mine
open Builtin
/-- x stands in y -/
noncomputable def isIn (x y : Bs) : Bool := (List.range (y.length + 1 - x.length)).any fun i => decide ((y.drop i).take x.length = x)
noncomputable def endsB (y x : Bs) : Bool := decide (x.length ≤ y.length ∧ y.drop (y.length - x.length) = x)
theorem ext_eq (x y : Bs) (i : Nat) : (y.toArray.extract i (i + x.length) == x.toArray) = decide ((y.drop i).take x.length = x) := by
  rw [Bool.eq_iff_iff, beq_iff_eq, decide_eq_true_iff, List.extract_toArray]
  constructor
  · intro h
    have := congrArg Array.toList h
    simpa [List.extract_eq_take_drop] using this
  · intro h
    simp [h]
theorem find_isIn (x y : Bs) : (Bytes.find? y.toArray x.toArray 0 y.toArray.size).isSome = isIn x y := by
  unfold Bytes.find? isIn
  rw [Bool.eq_iff_iff, List.find?_isSome, List.any_eq_true]
  simp only [Nat.zero_add, Nat.add_zero, List.map_id', List.size_toArray, ext_eq]
theorem noIndex_bytes : typeLookup (.type "bytes") "__index__" = pure none := by rw [typeLookup_type, builtinLookup_eq_fast]; kernel_rfl
section
variable {prog : Program} {w : World} {A : Around} {E : Value → Shared → Prop} {s : Shared}
theorem asIndex_bytes {M : Model} {b : Array UInt8} {t : Tok} {Q : Int → Shared → Prop} (hh : A.handled = none) (h : ∀ e h' k, (∀ b o, s.heap.get? b = some o → h'.get? b = some o) → E e { s with heap := h', toks := k }) :
    wpAny M A (asIndex (.bytes b t)) Q E s := by
  unfold asIndex
  refine wpAny_bind (wpAny_of_eq (a := none) rfl ?_)
  refine wpAny_bind ?_
  unfold callSpecial?
  refine wpAny_bind (wpAny_of_eq (KBy.special_eq noIndex_bytes) ?_)
  refine wpAny_pure ?_
  refine wpAny_bind (m := typeNameOfCut 200 _) (wpAny_of_eq (a := "bytes") rfl ?_)
  exact raiseError_exc excClass_TypeError hh (fun h' tk e hn => h _ _ _ hn.1) (by rw [sizeLine_eq]; decide +kernel)
theorem meets_contains {x y : Bs} {t u : Tok} : Meets («bytes.__contains__» ⟨[.bytes y.toArray u, .bytes x.toArray t], []⟩) (fun A R s => A.handled = none ∧ ∀ h' k, (∀ b o, s.heap.get? b = some o → h'.get? b = some o) → R (.ok (.ret (.bool (isIn x y)))) { s with heap := h', toks := k }) := by
  refine .of_wp fun prog w A R s hS => ?_
  obtain ⟨hh, h⟩ := hS
  unfold Builtin.«bytes.__contains__»
  refine wpAny_bind (wpAny_of_eq (a := (Value.bytes y.toArray u, [Value.bytes x.toArray t])) rfl ?_)
  refine wpAny_bind ?_
  unfold Bytes.containsIn
  refine wpAny_bind (wpAny_attempt (asIndex_bytes hh fun e h' k hk => ?_))
  refine wpAny_bind (wpAny_of_eq KBy.buffer_eq ?_)
  refine wpAny_bind (wpAny_of_eq KBy.buffer_eq ?_)
  refine wpAny_bind (wpAny_rule ?_)
  refine wpAny_pure ?_
  refine wpAny_pure ⟨_, rfl, ?_⟩
  rw [find_isIn]
  exact h _ _ hk
theorem in_bytesF {B G : Heap} {env : Env} {own : List (Addr × Obj)} {V : Vars} {s₀ : Shared} {x y : Bs} {t u : Tok} {Q : Value → Shared → Prop} (hS : Same s₀ s) (F : Fm B G env own V s.heap) (hh : A.handled = none)
    (h : ∀ s', Same s₀ s' → Fm B G env own V s'.heap → Q (.bool (isIn x y)) s') : wpAny (model prog w) A (compareOp .In (.bytes x.toArray t) (.bytes y.toArray u)) Q E s :=
  SeqRoads2.in_meets (typeIs_bytes s _ u) FB.slot_bytes_contains FB.entry_bytes_contains (FB.args_bytes_contains_2 _ _) meets_contains ⟨hh, fun h' k hk => ⟨_, rfl, h _ (Same.trans hS ⟨rfl, rfl, rfl⟩) (F.grow hk)⟩⟩
theorem notIn_bytesF {B G : Heap} {env : Env} {own : List (Addr × Obj)} {V : Vars} {s₀ : Shared} {x y : Bs} {t u : Tok} {Q : Value → Shared → Prop} (hS : Same s₀ s) (F : Fm B G env own V s.heap) (hh : A.handled = none)
    (h : ∀ s', Same s₀ s' → Fm B G env own V s'.heap → Q (.bool (!isIn x y)) s') : wpAny (model prog w) A (compareOp .NotIn (.bytes x.toArray t) (.bytes y.toArray u)) Q E s :=
  SeqRoads2.notIn_meets (typeIs_bytes s _ u) FB.slot_bytes_contains FB.entry_bytes_contains (FB.args_bytes_contains_2 _ _) meets_contains ⟨hh, fun h' k hk => ⟨_, rfl, h _ (Same.trans hS ⟨rfl, rfl, rfl⟩) (F.grow hk)⟩⟩
theorem gives_endswith {x y : Bs} {t u : Tok} : Gives («bytes.endswith» ⟨[.bytes y.toArray u, .bytes x.toArray t], []⟩) (.val (.bool (endsB y x))) := by
  refine .of_wp fun M A E s Q hq => ?_
  unfold Builtin.«bytes.endswith» Bytes.tailMatchM
  refine wpAny_bind (wpAny_of_eq (a := (Value.bytes y.toArray u, [Value.bytes x.toArray t])) rfl ?_)
  refine wpAny_bind (wpAny_of_eq (a := none) rfl ?_)
  refine wpAny_bind (wpAny_of_eq (a := none) rfl ?_)
  refine wpAny_bind (m := Bytes.payload _) (wpAny_of_eq (a := y.toArray) rfl ?_)
  refine wpAny_bind (wpAny_isInstance (typeIs_bytes s _ t) F.sub_bytes_tuple ?_)
  dsimp only
  rw [if_neg Bool.false_ne_true]
  refine wpAny_bind (wpAny_of_eq KBy.buffer_eq ?_)
  refine wpAny_pure ⟨_, rfl, ?_⟩
  have e : ((if (Bytes.window y.toArray.size none none).2 - (Bytes.window y.toArray.size none none).1 < (x.toArray.size : Int) then false
    else y.toArray.extract ((Bytes.window y.toArray.size none none).2.toNat - x.toArray.size) (Bytes.window y.toArray.size none none).2.toNat == x.toArray) : Bool) = endsB y x := by
    have w1 : (Bytes.window y.toArray.size none none).1 = 0 := by simp [Bytes.window]
    have w2 : (Bytes.window y.toArray.size none none).2 = (y.length : Int) := by
      simp only [Bytes.window, Option.getD_none, List.size_toArray]
      rw [if_neg (by lia)]; lia
    rw [w1, w2]
    unfold endsB
    simp only [List.size_toArray, Int.toNat_natCast]
    by_cases hlt : y.length < x.length
    · rw [if_pos (by lia), decide_eq_false (by lia)]
    · rw [if_neg (by lia)]
      have := ext_eq x y (y.length - x.length)
      rw [show y.length - x.length + x.length = y.length by lia] at this
      rw [this, Bool.eq_iff_iff, decide_eq_true_iff, decide_eq_true_iff, List.take_of_length_le (by rw [List.length_drop]; lia)]
      exact ⟨fun h => ⟨by lia, h⟩, fun h => h.2⟩
  exact (congrArg (fun z => Q (.bool z) s) e).mpr hq
theorem endswithF {x y : Bs} {t u : Tok} {Q : Value → Shared → Prop} (h : Q (.bool (endsB y x)) s) : wpAny (model prog w) A (call (.builtin "bytes.endswith") [.bytes y.toArray u, .bytes x.toArray t]) Q E s :=
  call_gives FB.slot_bytes_endswith (typeIs_bytes s _ u) FB.entry_bytes_endswith (FB.args_bytes_endswith_2 _ _) gives_endswith h
end
end Mine
end F21
section F22
set_option maxRecDepth 100000
namespace Mine
/-- a row of bytes values -/
abbrev BsA (vs : List Value) (xs : List Bs) : Prop := vs.length = xs.length ∧ ∀ (i : Nat) (x : Bs), xs[i]? = some x → ∃ t, vs[i]? = some (Value.bytes x.toArray t)
theorem BsA.get {vs : List Value} {xs : List Bs} (h : BsA vs xs) {i : Nat} (hi : i < vs.length) : ∃ (x : Bs) (t : Tok) (hx : i < xs.length), xs[i] = x ∧ vs[i] = Value.bytes x.toArray t := by
  have hi' : i < xs.length := h.1 ▸ hi
  obtain ⟨t, ht⟩ := h.2 i xs[i] (by simp [hi'])
  exact ⟨_, t, hi', rfl, (List.getElem?_eq_some_iff.mp ht).2⟩
theorem all_eq {xs ys : List Bs} (h : xs.length = ys.length) : ((List.range xs.length).all fun j => decide (xs[j]? = ys[j]?)) = decide (xs = ys) := by
  rw [Bool.eq_iff_iff, List.all_eq_true, decide_eq_true_iff]
  constructor
  · intro hj
    refine List.ext_getElem? fun j => ?_
    rcases Nat.lt_or_ge j xs.length with hlt | hge
    · exact of_decide_eq_true (hj j (List.mem_range.mpr hlt))
    · rw [List.getElem?_eq_none hge, List.getElem?_eq_none (h ▸ hge)]
  · rintro rfl j _
    simp
section
variable {prog : Program} {w : World} {A : Around} {E : Value → Shared → Prop} {s : Shared} {a b : Addr} {vs us : List Value} {xs ys : List Bs}
theorem at_eq (hx : BsA vs xs) (hy : BsA us ys) : ∀ j (h1 : j < vs.toArray.size) (h2 : j < us.toArray.size), SeqAt.EqAt A.in1 s vs.toArray[j] us.toArray[j] (decide (xs[j]? = ys[j]?)) := by
  intro j h1 h2
  obtain ⟨x, t, hx1, e1, e2⟩ := hx.get (by simpa using h1)
  obtain ⟨y, u, hy1, e3, e4⟩ := hy.get (by simpa using h2)
  rw [List.getElem_toArray, List.getElem_toArray, e2, e4]
  have : decide (xs[j]? = ys[j]?) = decide (x = y) := by
    rw [List.getElem?_eq_getElem hx1, List.getElem?_eq_getElem hy1, e1, e3]; simp
  rw [this]
  exact eqAt_bytes x y
theorem ne_bs {Q : Value → Shared → Prop} (ha : s.heap.IsList a vs.toArray) (hb : s.heap.IsList b us.toArray) (hx : BsA vs xs) (hy : BsA us ys) (hu : A.units < cLine) (h : Q (.bool (!decide (xs = ys))) s) :
    wpAny (model prog w) A (compareOp .NotEq (.ref a) (.ref b)) Q E s := by
  by_cases hl : vs.length = us.length
  · refine SeqAt.RcNeAt.lists ha hb (by simpa using hl) hu (at_eq hx hy) prog w E Q ?_
    rw [List.size_toArray, hx.1, all_eq (by rw [← hx.1, ← hy.1, hl])]
    exact h
  · refine SeqAt.RcNeAt.lists_lengths ha hb (by simpa using hl) hu prog w E Q ?_
    rw [decide_eq_false (fun e => hl (by rw [hx.1, hy.1, e]))] at h
    exact h
theorem notIn_bs {x : Bs} {t : Tok} {Q : Value → Shared → Prop} (ha : s.heap.IsList a vs.toArray) (hx : BsA vs xs) (h : Q (.bool (!decide (x ∈ xs))) s) :
    wpAny (model prog w) A (compareOp .NotIn (.bytes x.toArray t) (.ref a)) Q E s := by
  refine SeqAt.notIn_listAt (fun v => match v with | .bytes c _ => decide (c.toList = x) | _ => false) ha ?_ ?_
  · intro v hv
    obtain ⟨j, hj, e⟩ := List.getElem_of_mem (by simpa using hv : v ∈ vs)
    obtain ⟨y, u, _, _, e2⟩ := hx.get hj
    rw [← e, e2]
    simpa using eqAt_bytes y x
  · have : (vs.toArray.any fun v => match v with | .bytes c _ => decide (c.toList = x) | _ => false) = decide (x ∈ xs) := by
      rw [Bool.eq_iff_iff, List.any_toArray, List.any_eq_true, decide_eq_true_iff]
      constructor
      · rintro ⟨v, hv, he⟩
        obtain ⟨j, hj, e⟩ := List.getElem_of_mem hv
        obtain ⟨y, u, hy1, e1, e2⟩ := hx.get hj
        rw [← e, e2] at he
        have : y = x := by simpa using he
        rw [← this, ← e1]
        exact List.getElem_mem hy1
      · intro hm
        obtain ⟨j, hj, e⟩ := List.getElem_of_mem hm
        obtain ⟨t, ht⟩ := hx.2 j x (by rw [List.getElem?_eq_getElem hj, e])
        exact ⟨_, List.mem_of_getElem? ht, by simp⟩
    rw [this]; exact h
theorem ne_ib {i k : Int} {x y : Bs} {t1 t2 t3 t4 : Tok} {Q : Value → Shared → Prop} (ha : s.heap.IsTuple a [Value.int i t1, .bytes x.toArray t2].toArray) (hb : s.heap.IsTuple b [Value.int k t3, .bytes y.toArray t4].toArray) (hu : A.units < cLine)
    (h : Q (.bool (!decide (i = k ∧ x = y))) s) : wpAny (model prog w) A (compareOp .NotEq (.ref a) (.ref b)) Q E s := by
  refine SeqAt.RcNeAt.tuples (e := fun j => if j = 0 then decide (i = k) else decide (x = y)) ha hb hu ?_ prog w E Q ?_
  · intro j h1 h2
    have : j = 0 ∨ j = 1 := by simp at h1; lia
    rcases this with rfl | rfl
    · exact SeqAt.EqAt.int_int i t1 k t3
    · exact eqAt_bytes x y
  · have e : ((List.range (min [Value.int i t1, .bytes x.toArray t2].toArray.size [Value.int k t3, .bytes y.toArray t4].toArray.size)).all (fun j => if j = 0 then decide (i = k) else decide (x = y)) && [Value.int i t1, .bytes x.toArray t2].toArray.size == [Value.int k t3, .bytes y.toArray t4].toArray.size) = decide (i = k ∧ x = y) := by
      show (((List.range 2).all _) && true) = _
      simp [List.range, List.range.loop]
    rw [e]; exact h
theorem ne_is {ns ms : List Int} {Q : Value → Shared → Prop} (ha : s.heap.IsList a vs.toArray) (hb : s.heap.IsList b us.toArray) (hi : IntsAre vs ns) (hj : IntsAre us ms) (hu : A.units + 64 < cLine) (h : Q (.bool (!decide (ns = ms))) s) :
    wpAny (model prog w) A (compareOp .NotEq (.ref a) (.ref b)) Q E s := ke_ne_ints ha hb hi hj hu h
theorem eq_is {ns ms : List Int} {Q : Value → Shared → Prop} (ha : s.heap.IsList a vs.toArray) (hb : s.heap.IsList b us.toArray) (hi : IntsAre vs ns) (hj : IntsAre us ms) (hu : A.units + 64 < cLine) (h : Q (.bool (decide (ns = ms))) s) :
    wpAny (model prog w) A (compareOp .Eq (.ref a) (.ref b)) Q E s := ke_eq_ints ha hb hi hj hu h
end
section
variable {prog : Program} {w : World} {A : Around} {E : Value → Shared → Prop} {s₀ s : Shared} {B G : Heap} {env : Env} {own : List (Addr × Obj)} {V : Vars} {a b : Addr} {vs us : List Value}
theorem add_listF {Q : Value → Shared → Prop} (hS : Same s₀ s) (F : Fm B G env own V s.heap) (hl : s.heap.IsList a vs.toArray) (hb : s.heap.IsList b us.toArray) (hz : vs.length + us.length ≤ 16777216)
    (h : ∀ o r s', Same s₀ s' → s.heap.get? r = none → LO o (vs ++ us) → Fm B G env ((r, o) :: own) V s'.heap → Q (.ref r) s') : wpAny (model prog w) A (binaryOp .Add (.ref a) (.ref b)) Q E s := by
  obtain ⟨⟨cls, dd, data, sl⟩, ho, hc, n, hd⟩ := id hl
  obtain ⟨⟨cls2, dd2, data2, sl2⟩, ho2, hc2, n2, hd2⟩ := id hb
  simp only at hc hd hc2 hd2
  subst hc hd hc2 hd2
  have e : vs.toArray ++ us.toArray = (vs ++ us).toArray := by simp
  refine concat_meets ⟨_, ho, rfl⟩ ⟨_, ho2, rfl⟩ noFill_list_add seq_list_add PySem.F.slot_list_add PySem.F.entry_list_add (PySem.F.args_list_add_2 _ _) (list_addW a b vs.toArray us.toArray n n2 dd dd2 sl sl2 (by simpa [sizeLine_eq] using hz)) ⟨ho, ho2, ?_⟩
  rw [e]
  exact h _ _ { s with heap := s.heap.push _ } hS (get_size _) (LO.mk _) (F.alloc _)
theorem rep_if (items : Array Value) (k : Nat) : List.foldl (fun x1 x2 => x1 ++ x2) #[] (List.replicate (if items.isEmpty = true then 0 else k) items) = (List.replicate k items.toList).flatten.toArray := listMul_foldl_if items k
theorem mul_listF {x : Int} {u : Tok} {Q : Value → Shared → Prop} (hS : Same s₀ s) (F : Fm B G env own V s.heap) (hl : s.heap.IsList a vs.toArray) (h0 : 0 ≤ x) (hx : x < 2 ^ 63) (hz : vs.length * x.toNat ≤ 2 ^ 24)
    (h : ∀ o r s', Same s₀ s' → s.heap.get? r = none → LO o (List.replicate x.toNat vs).flatten → Fm B G env ((r, o) :: own) V s'.heap → Q (.ref r) s') : wpAny (model prog w) A (binaryOp .Mult (.ref a) (.int x u)) Q E s := by
  obtain ⟨⟨cls, d, data, sl⟩, ho, hcl, k, hd⟩ := id hl
  simp only at hcl hd
  subst hcl hd
  have hsz' : vs.toArray.size * x.toNat ≤ 2 ^ 24 := by simpa using hz
  refine wpAny_binaryOp_repeat_ref (T := "list") (U := "int") (by decide) ⟨_, ho, rfl⟩ (fun s' => typeIs_int s' x u) noFill_list_mul PySem.F.fills_int_mul PySem.F.slot_int_rmul repeat_list PySem.F.slot_int_index.lookup
    (call_meets PySem.F.slot_int_rmul (typeIs_int s x u) PySem.F.entry_int_rmul (PySem.F.args_int_rmul_2 _ _) (lm_int_rmul_list_any x u a vs.toArray k d sl)
      ⟨ho, rfl, ⟨_, ho, rfl⟩, call_meets PySem.F.slot_list_mul ⟨_, ho, rfl⟩ PySem.F.entry_list_mul (PySem.F.args_list_mul_2 _ _)
        (lm_list_mul_any a vs.toArray k d sl x u (by simp [Builtin.List.listFitsIndex]; lia) (by lia) (by simp [Builtin.List.listTooLong, sizeLine]; lia))
        ⟨ho, ?_⟩⟩)
  rw [listMul_foldl_if]
  exact h _ _ { s with heap := s.heap.push _ } hS (get_size _) (LO.mk _) (F.alloc _)
end
theorem flat_rep {α : Type} (x : α) (k : Nat) : (List.replicate k [x]).flatten = List.replicate k x := lm_rep_flat_one x k
end Mine
end F22
section F23
set_option maxRecDepth 100000
namespace Mine
open Builtin
theorem entry_dul : entryFor table "dict.update.loop" = some Builtin.«dict.update.loop» := entryFor_of_tree (by kernel_rfl)
theorem plain_dul : plainId "dict.update.loop" = true := by decide +kernel
/-- the pairs in a row of tuples -/
def PairsAt (h : Heap) (vs : List Value) (ps : List (Bs × Value)) : Prop := vs.length = ps.length ∧ ∀ (i : Nat) (k : Bs) (u : Value), ps[i]? = some (k, u) → ∃ p t, vs[i]? = some (.ref p) ∧ h.IsTuple p [Value.bytes k.toArray t, u].toArray
noncomputable def putAll (acc ps : List (Bs × Value)) : List (Bs × Value) := ps.foldl (fun a p => stored a p.1 p.2) acc
theorem stored_len (kvs : List (Bs × Value)) (k : Bs) (v : Value) : (stored kvs k v).length ≤ kvs.length + 1 := by
  have := congrArg List.length (map_fst_stored kvs k v)
  rw [List.length_map] at this
  rw [this]
  split <;> simp
section
variable {prog : Program} {w : World} {A : Around} {E : Value → Shared → Prop} {s : Shared} {R : Result → Shared → Prop}
theorem dul {d I l : Addr} (hh : A.handled = none) (hdI : d ≠ I) (hdl : d ≠ l) (hlI : l ≠ I) {vs : List Value} {ps : List (Bs × Value)} (hz : ps.length ≤ 100000) (hpd : ∀ (i : Nat) (p : Addr), vs[i]? = some (.ref p) → p ≠ d ∧ p ≠ I) :
    ∀ (k i : Nat) (s : Shared) (oI : Obj) (acc : List (Bs × Value)), vs.length - i = k → i ≤ vs.length → s.heap.get? I = some oI → ListOb l i oI → s.heap.IsList l vs.toArray → PairsAt s.heap vs ps → s.heap.DictOf (bytesKind prog w) d acc → acc.length ≤ i →
    (∀ s', Same s s' → s'.heap.DictOf (bytesKind prog w) d (putAll acc (ps.drop i)) → (∀ b o, b ≠ d → b ≠ I → s.heap.get? b = some o → s'.heap.get? b = some o) → R (.ok (.ret .none)) s') →
    codeAny (model prog w) A (.builtin "dict.update.loop" ⟨[.ref d, .ref I, rawInt i, .none], []⟩) R s := by
  intro k
  have hh1 : A.in1.handled = none := hh
  have X := itr_list (prog := prog) (w := w) (A := A.in1) hh1 hlI vs
  induction k with
  | zero =>
    intro i s oI acc hk hi hI hO hl hP hD hacc hR
    have hin : i = vs.length := by lia
    subst hin
    refine codeAny_builtin entry_dul ?_
    rw [Around.under_plainId plain_dul _]
    show wpAny _ A.in1 (pyNext (.ref I) >>= _) _ _ s
    refine wpAny_bind (X.done s oI _ _ hI hO hl fun s' hS hk' => ?_)
    refine wpAny_bind (m := Builtin.Dict.addKeywords d []) (wpAny_pure ?_)
    refine wpAny_pure (hR s' hS ?_ fun b o _ hb e => hk' b o hb e)
    rw [List.drop_of_length_le (by rw [← hP.1]; exact Nat.le_refl _)]
    obtain ⟨o', ho', hd'⟩ := Heap.dictOf_iff.mp hD
    exact Heap.dictOf_iff.mpr ⟨o', hk' _ _ hdI ho', hd'⟩
  | succ k ih =>
    intro i s oI acc hk hi hI hO hl hP hD hacc hR
    have hlt : i < vs.length := by lia
    refine codeAny_builtin entry_dul ?_
    rw [Around.under_plainId plain_dul _]
    show wpAny _ A.in1 (pyNext (.ref I) >>= _) _ _ s
    refine wpAny_bind (X.item i s oI _ _ hlt hI hO hl fun v s' o' hS hv ho' hO' hk' => ?_)
    obtain ⟨⟨key, u⟩, hku⟩ : ∃ q, ps[i]? = some q := ⟨ps[i]'(hP.1 ▸ hlt), by simp [hP.1 ▸ hlt]⟩
    obtain ⟨p, t, hvp, hT⟩ := hP.2 i key u hku
    have hv' : v = .ref p := by
      have hv9 : vs[i]? = some v := hv
      rw [hvp] at hv9; cases hv9; rfl
    subst hv'
    obtain ⟨hpd1, hpI⟩ := hpd i p hvp
    have keepT : ∀ {q : Addr} {xs : Array Value}, q ≠ I → s.heap.IsTuple q xs → s'.heap.IsTuple q xs := fun hq ⟨o, ho, r⟩ => ⟨o, hk' _ _ hq ho, r⟩
    have hT' := keepT hpI hT
    have hl' : s'.heap.IsList l vs.toArray := by obtain ⟨o, ho, r⟩ := hl; exact ⟨o, hk' _ _ hlI ho, r⟩
    have hD' : s'.heap.DictOf (bytesKind prog w) d acc := by
      obtain ⟨o', ho', hd'⟩ := Heap.dictOf_iff.mp hD
      exact Heap.dictOf_iff.mpr ⟨o', hk' _ _ hdI ho', hd'⟩
    refine wpAny_bind (wpAny_holding ?_)
    refine wpAny_bind (wpAny_tryCatch ?_)
    unfold Builtin.Dict.pairItems
    refine wpAny_bind (wpAny_typeOf hT'.typeIs ?_)
    rw [if_pos (by decide)]
    obtain ⟨op, hop, _, np, hpd'⟩ := id hT'
    refine wpAny_bind (m := seqItems? _) ?_
    show wpAny _ _ (load p >>= _) _ _ s'
    refine wpAny_bind (wpAny_load hop ?_)
    rw [hpd']
    refine wpAny_pure ?_
    refine wpAny_pure ?_
    show wpAny _ _ (holding [Value.bytes key.toArray t, u] (dictSet d (Value.bytes key.toArray t) u)) _ _ s'
    refine wpAny_holding (wpAny_dictSet_pairs (isB prog w key t) hD' (fun h' hm hs => ?_) (by rw [sizeLine_eq]; have := hP.1; lia))
    have e1 : (rawInt ((i : Int) + 1)) = rawInt ((i + 1 : Nat) : Int) := by push_cast; rfl
    refine wpAny_pure ⟨plainId_quiet plain_dul _, ?_⟩
    rw [e1]
    have keep2 : ∀ b ob, b ≠ d → b ≠ I → s.heap.get? b = some ob → h'.get? b = some ob := fun b ob h1 h2 e => (hs.2 b h1).trans (hk' b ob h2 e)
    refine ih (i + 1) { s' with heap := h', toks := s'.toks + 1 } o' (stored acc key u) (by lia) hlt ((hs.2 I (Ne.symm hdI)).trans ho') hO' ?_ ?_ hm (by have := stored_len acc key u; lia) ?_
    · obtain ⟨o, ho, r⟩ := hl; exact ⟨o, keep2 _ _ (Ne.symm hdl) hlI ho, r⟩
    · refine ⟨hP.1, fun j k9 u9 e9 => ?_⟩
      obtain ⟨p9, t9, hv9, o9, ho9, r9⟩ := hP.2 j k9 u9 e9
      obtain ⟨n1, n2⟩ := hpd j p9 hv9
      exact ⟨p9, t9, hv9, o9, keep2 _ _ n1 n2 ho9, r9⟩
    · intro s'' hS'' hD'' hk''
      refine hR s'' (hS.trans (Same.trans ⟨rfl, rfl, rfl⟩ hS'')) ?_ fun b ob h1 h2 e => hk'' b ob h1 h2 (keep2 b ob h1 h2 e)
      have e2 : ps.drop i = (key, u) :: ps.drop (i + 1) := by
        have hlt' : i < ps.length := hP.1 ▸ hlt
        rw [List.drop_eq_getElem_cons hlt', ← (List.getElem?_eq_some_iff.mp hku).2]
      rw [e2]
      exact hD''
theorem noKeys_list : typeLookup (.type "list") "keys" = pure none := by rw [typeLookup_type, builtinLookup_eq_fast]; kernel_rfl
theorem keys_list {a : Addr} {o : Obj} {xs : Array Value} {k : Nat} {Q : Option Value → Shared → Prop}
    (hx : s.heap.get? a = some o) (hc : o.cls = .type "list") (hdat : o.data = .seq xs k) (hd : o.dict = none) (hA : A.handled = none)
    (h : ∀ s', Same s s' → (∀ b o, s.heap.get? b = some o → s'.heap.get? b = some o) → Q none s') :
    wpAny (model prog w) A (getAttr? (.ref a) "keys") Q E s := by
  obtain ⟨c, dct, dat, sl⟩ := o
  simp only at hc hdat hd
  subst hc hdat hd
  obtain ⟨hp, g, d, tk, os⟩ := s
  have hT : ∀ tk', (⟨hp, g, d, tk', os⟩ : Shared).TypeIs (.ref a) "list" := fun _ => ⟨_, hx, rfl⟩
  have f1 := sub_AttributeError
  have f3 := F.slot_list_getattribute.lookup
  have f4 := F.slot_list_getattribute.bind (.ref a)
  have f5 := am_list_getattr_none
  unfold getAttr? getAttrBy? getAttrBy
  repeat (any_goals (first | assumption | exact hT _ | ((with_reducible show wpAny _ _ (call (Value.builtin "list.__getattribute__") _ _) _ _ _); refine call_meets F.slot_list_getattribute (hT _) am_entry_list_getattribute (F.args_list_getattribute_2 _ _) (meets_getattribute_miss_list a xs k sl "keys" _ noKeys_list (by decide) (by size_fits)) ⟨hx, hA, fun h' tk' e hx' => ?_⟩) | wp_step))
  obtain ⟨t9, u9, he9⟩ := hx'.there
  have hT9 : (⟨h', g, d, tk', os⟩ : Shared).TypeIs (.ref e) "AttributeError" := ⟨_, he9, rfl⟩
  show wpAny _ _ (getattributeRaised _ _ _ _ _ _ _) _ _ _
  unfold getattributeRaised
  repeat (any_goals (first | assumption | wp_step))
  exact h _ ⟨rfl, rfl, rfl⟩ hx'.keeps
theorem dict_listF {K : Frag} {B G : Heap} {env : Env} {own : List (Addr × Obj)} {V : Vars} {s₀ : Shared} {l : Addr} {ol : Obj} {vs : List Value} {ps : List (Bs × Value)} {Q : Value → Shared → Prop} (S : Sta K B) (hS : Same s₀ s) (Fx : Fm B G env own V s.heap) (hh : A.handled = none)
    (hl : s.heap.get? l = some ol) (L : LO ol vs) (hdn : ol.dict = none) (hP : PairsAt s.heap vs ps) (hz : ps.length ≤ 100000)
    (h : ∀ o d s', Same s₀ s' → s.heap.get? d = none → (d == sysModules) = false → DO prog w o (putAll [] ps) → Fm B G env ((d, o) :: own) V s'.heap → Q (.ref d) s') :
    wpAny (model prog w) A (call (.type "dict") [.ref l]) Q E s := by
  have hsys : (s.heap.objs.size == sysModules) = false := by
    have := modules_low (S.nolimit.keeps Fx.inB)
    rw [beq_eq_false_iff_ne]; exact fun e => absurd this (by rw [← e]; exact Nat.lt_irrefl _)
  refine callType_codes (Q₁ := fun obj s₁ => obj = .ref s.heap.objs.size ∧ s₁ = { s with heap := s.heap.push { cls := .type "dict", data := .dict #[] } }) F.kt_called_dict (F.kt_typeCall_dict_1 _) F.entry_dict_init (kt_code_dict_new _ ⟨rfl, rfl⟩) ?_
  rintro obj s₁ ⟨rfl, rfl⟩
  have hnew : (s.heap.push { cls := .type "dict", data := .dict #[] }).DictOf (bytesKind prog w) s.heap.objs.size [] := Heap.DictOf.new s.heap
  have hl1 : (s.heap.push { cls := .type "dict", data := .dict #[] }).get? l = some ol := Heap.get?_push_of_some _ hl
  have hlt : l < s.heap.objs.size := Heap.lt_size hl
  refine ⟨hnew.typeIs, F.args_dict_init_2 _ _, ?_⟩
  unfold Builtin.«dict.__init__»
  refine wpAny_bind ?_
  unfold Builtin.Dict.selfAndRest
  refine wpAny_bind (wpAny_notOrdered_dict hnew.typeIs ?_)
  show wpAny _ _ (pure (s.heap.objs.size, [Value.ref l])) _ _ _
  refine wpAny_pure ?_
  show wpAny _ _ (Builtin.Dict.updateFrom "dict.__init__" s.heap.objs.size (.ref l) [] .none) _ _ _
  unfold Builtin.Dict.updateFrom
  refine wpAny_bind (wpAny_typeOf (L.at hl1).typeIs ?_)
  rw [if_pos (by decide)]
  obtain ⟨hc, n, hd⟩ := id L
  refine wpAny_bind (keys_list hl1 hc hd hdn hh fun s₂ hS₂ hk₂ => ?_)
  rw [if_pos (show (none : Option Value).isNone = true from rfl)]
  refine wpAny_bind (wpAny_rule ?_)
  refine wpAny_bind (wpAny_pyIter_list (L.at (hk₂ _ _ hl1)) ?_)
  have hd1 : s₂.heap.get? s.heap.objs.size = some { cls := .type "dict", data := .dict #[] } := hk₂ _ _ (Heap.get?_push_size _ rfl)
  have hlt2 : s.heap.objs.size < s₂.heap.objs.size := Heap.lt_size hd1
  have hkA : ∀ b o, s.heap.get? b = some o → (s₂.heap.push { cls := .type "list_iterator", data := .fields #[.ref l, .int 0 0] }).get? b = some o := fun b o e => Heap.get?_push_of_some _ (hk₂ _ _ (Heap.get?_push_of_some _ e))
  refine wpAny_pure ⟨plainId_quiet plain_dul _, ?_⟩
  refine dul (A := A.in1) (d := s.heap.objs.size) (I := s₂.heap.objs.size) (l := l) (vs := vs) (ps := ps) hh (Nat.ne_of_lt hlt2) (Nat.ne_of_gt hlt) (Nat.ne_of_lt (Nat.lt_trans hlt hlt2)) hz ?_ vs.length 0 { s₂ with heap := s₂.heap.push { cls := .type "list_iterator", data := .fields #[.ref l, .int 0 0] } } { cls := .type "list_iterator", data := .fields #[.ref l, .int 0 0] } [] (by lia) (Nat.zero_le _) (Heap.get?_push_size _ rfl) ⟨rfl, rfl⟩ (L.at (hkA _ _ hl)) ?_ ?_ (by simp) ?_
  · intro i p hv
    have hi : i < ps.length := by rw [← hP.1]; exact (List.getElem?_eq_some_iff.mp hv).1
    obtain ⟨p', t, hv', o, ho, _⟩ := hP.2 i ps[i].1 ps[i].2 (by simp [hi])
    rw [hv] at hv'; cases hv'
    have := Heap.lt_size ho
    exact ⟨Nat.ne_of_lt this, Nat.ne_of_lt (Nat.lt_trans this hlt2)⟩
  · exact ⟨hP.1, fun i k u e => by obtain ⟨p, t, hv, o, ho, r⟩ := hP.2 i k u e; exact ⟨p, t, hv, o, hkA _ _ ho, r⟩⟩
  · obtain ⟨o', ho', hd'⟩ := Heap.dictOf_iff.mp hnew
    exact Heap.dictOf_iff.mpr ⟨o', Heap.get?_push_of_some _ (hk₂ _ _ ho'), hd'⟩
  · intro s' hS' hD' hk'
    rw [List.drop_zero] at hD'
    obtain ⟨o', ho', hd'⟩ := Heap.dictOf_iff.mp hD'
    refine ⟨rfl, h o' _ s' (hS.trans (Same.trans (Same.trans ⟨rfl, rfl, rfl⟩ hS₂) (Same.trans ⟨rfl, rfl, rfl⟩ hS'))) (get_size _) hsys hd' (Fx.adopt1 (fun b o e => hk' b o ?_ ?_ (hkA b o e)) (get_size _) ho')⟩
    · exact Nat.ne_of_lt (Heap.lt_size e)
    · exact Nat.ne_of_lt (Nat.lt_trans (Heap.lt_size e) hlt2)
end
end Mine
end F23
section F24
set_option maxRecDepth 100000
namespace Mine
section
variable {prog : Program} {w : World} {A : Around} {E : Value → Shared → Prop} {s₀ s : Shared} {B G h h' : Heap} {env : Env} {own own1 own2 : List (Addr × Obj)} {V : Vars} {a b : Addr} {vs : List Value}
theorem bytes_listF {ns : List Int} {Q : Value → Shared → Prop} (hS : Same s₀ s) (F : Fm B G env own V s.heap) (hh : A.handled = none) (hl : s.heap.IsList a vs.toArray) (hi : IntsAre vs ns) (hr : ∀ n ∈ ns, 0 ≤ n ∧ n < 256) (hz : ns.length ≤ 100000)
    (h : ∀ x t s', Same s₀ s' → x.length = ns.length → Fm B G env own V s'.heap → Q (.bytes (List.toArray x) t) s') : wpAny (model prog w) A (call (.type "bytes") [.ref a]) Q E s := by
  refine call_bytes_ints hl hi hr (by rw [hi.length, sizeLine_eq]; lia) hh fun h' t k hk => ?_
  have := h (byteArr ns).toList t { s with heap := h', toks := k } hS (by simp [byteArr]) (F.grow hk)
  simpa using this
theorem nodup_inj : ∀ {l : List (Addr × Obj)}, (l.map (·.1)).Nodup → ∀ {p q : Addr × Obj}, p ∈ l → q ∈ l → p.1 = q.1 → p = q
  | [], _, _, _, hp, _, _ => nomatch hp
  | x :: r, hn, p, q, hp, hq, e => by
    rw [List.map_cons] at hn
    obtain ⟨h1, h2⟩ := List.nodup_cons.mp hn
    rcases List.mem_cons.mp hp with ep | hp'
    · rcases List.mem_cons.mp hq with eq | hq'
      · rw [ep, eq]
      · exact absurd (List.mem_map.mpr ⟨q, hq', by rw [← e, ep]⟩) h1
    · rcases List.mem_cons.mp hq with eq | hq'
      · exact absurd (List.mem_map.mpr ⟨p, hp', by rw [e, eq]⟩) h1
      · exact nodup_inj h2 hp' hq' e
theorem OA.adr {o o' : Obj} (x : OA own a o o' own1) : own1.map (·.1) = own.map (·.1) := by cases x; simp
theorem OA.self {o o' : Obj} (x : OA own a o o' own1) : (a, o') ∈ own1 := by cases x; simp
theorem OA.others {o o' : Obj} (x : OA own a o o' own1) {p : Addr × Obj} (hp : p ∈ own1) : p = (a, o') ∨ p ∈ own := by
  cases x
  rcases List.mem_append.mp hp with hp | hp
  · exact .inr (List.mem_append_left _ hp)
  · rcases List.mem_cons.mp hp with rfl | hp
    · exact .inl rfl
    · exact .inr (List.mem_append_right _ (List.mem_cons_of_mem _ hp))
theorem Fm.upd2 {oa oa' ob ob' : Obj} (F : Fm B G env own V h) (h1 : OA own a oa oa' own1) (h2 : OA own1 b ob ob' own2) (hab : a ≠ b) (k : ∀ c o, c ≠ a → c ≠ b → h.get? c = some o → h'.get? c = some o) (ha : h'.get? a = some oa') (hb : h'.get? b = some ob') : Fm B G env own2 V h' := by
  have e := h2.adr.trans h1.adr
  have hnd : (own2.map (·.1)).Nodup := e ▸ F.nodup
  have ma : (a, oa) ∈ own := h1.mem
  have mb : b ∈ own.map (·.1) := h1.adr ▸ List.mem_map.mpr ⟨_, h2.mem, rfl⟩
  refine F.turn (fun p hp => e ▸ List.mem_map_of_mem hp) hnd (fun c o hc e => k c o (fun q => hc (q ▸ List.mem_map.mpr ⟨_, ma, rfl⟩)) (fun q => hc (q ▸ mb)) e) fun p hp => ?_
  by_cases pa : p.1 = a
  · rcases h2.others hp with rfl | hp
    · exact absurd pa (Ne.symm hab)
    · rcases h1.others hp with rfl | hp'
      · exact ha
      · have hn1 : (own1.map (·.1)).Nodup := h1.adr ▸ F.nodup
        have : p = (a, oa') := by
          have h9 := h1.self
          exact nodup_inj hn1 hp h9 pa
        rw [this]; exact ha
  · by_cases pb : p.1 = b
    · have : p = (b, ob') := nodup_inj hnd hp h2.self pb
      rw [this]; exact hb
    · rcases h2.others hp with rfl | hp
      · exact absurd rfl pb
      · rcases h1.others hp with rfl | hp
        · exact absurd rfl pa
        · exact k _ _ pa pb (F.has p hp)
theorem Fm.offB {o : Obj} (F : Fm B G env own V h) (hm : (a, o) ∈ own) : B.get? a = Option.none := by
  cases q : B.get? a with
  | none => rfl
  | some o9 => have := F.base _ _ q; rw [F.off _ hm] at this; cases this
theorem Fm.ne01 {p q : Addr × Obj} (F : Fm B G env own V h) {i j : Nat} (hp : own[i]? = some p) (hq : own[j]? = some q) (hij : i ≠ j) : p.1 ≠ q.1 := by
  intro e
  obtain ⟨hi, rfl⟩ := List.getElem?_eq_some_iff.mp hp
  obtain ⟨hj, rfl⟩ := List.getElem?_eq_some_iff.mp hq
  have := (List.getElem_inj (xs := own.map (·.1)) (i := i) (j := j) (h₀ := by simpa using hi) (h₁ := by simpa using hj) F.nodup).mp (by simpa using e)
  exact hij this
/-- an item of a row of numbers -/
theorem pickItem {ns : List Int} (hi : IntsAre vs ns) {d : Int} (h0 : 0 ≤ d) (h1 : d < ns.length) : ∃ m t, vs[d.toNat]? = some (.int m t) ∧ m ∈ ns := by
  have hl : d.toNat < ns.length := by lia
  obtain ⟨t, hx⟩ := hi.get d.toNat ns[d.toNat] (by simp [hl])
  exact ⟨_, t, hx, List.getElem_mem hl⟩
end
/-- the heap without what p tells -/
noncomputable def hideP (h : Heap) (p : Addr → Bool) : Heap := hideAll h ((List.range h.objs.size).filter p)
theorem of_hideP {h : Heap} {p : Addr → Bool} {a : Addr} {o : Obj} (e : (hideP h p).get? a = some o) : h.get? a = some o := of_hideAll _ e
theorem hideP_get {h : Heap} {p : Addr → Bool} {a : Addr} {o : Obj} (e : h.get? a = some o) (hp : p a = false) : (hideP h p).get? a = some o :=
  hideAll_get _ e fun hm => by rw [List.mem_filter, hp] at hm; exact Bool.false_ne_true hm.2
theorem hideP_none {h : Heap} {p : Addr → Bool} {a : Addr} (hp : p a = true) : (hideP h p).get? a = none := by
  cases q : (hideP h p).get? a with
  | none => rfl
  | some o =>
    have e := of_hideAll _ q
    exact absurd (q.symm.trans (hideAll_none _ (List.mem_filter.mpr ⟨List.mem_range.mpr (Heap.lt_size e), hp⟩))) (by simp)
end Mine
end F24
section F25
set_option maxRecDepth 100000
namespace Mine
section
variable {B G h : Heap} {env : Env} {own : List (Addr × Obj)} {V : Vars}
theorem sel_mem : ∀ {is : List Nat} {p : Addr × Obj}, p ∈ is.filterMap (own[·]?) → ∃ i ∈ is, own[i]? = some p := by
  intro is p hp
  simpa using hp
theorem sel_nodup (hn : (own.map (·.1)).Nodup) : ∀ {is : List Nat}, is.Nodup → ((is.filterMap (own[·]?)).map (·.1)).Nodup
  | [], _ => .nil
  | i :: r, h => by
    obtain ⟨h1, h2⟩ := List.nodup_cons.mp h
    have ih := sel_nodup hn h2
    rw [List.filterMap_cons]
    cases e : own[i]? with
    | none => exact ih
    | some p =>
      show (p.1 :: _).Nodup
      refine List.nodup_cons.mpr ⟨fun hm => ?_, ih⟩
      obtain ⟨q, hq, e'⟩ := List.mem_map.mp hm
      obtain ⟨j, hj, ej⟩ := sel_mem hq
      obtain ⟨hi', rfl⟩ := List.getElem?_eq_some_iff.mp e
      obtain ⟨hj', rfl⟩ := List.getElem?_eq_some_iff.mp ej
      have := (List.getElem_inj (xs := own.map (·.1)) (i := j) (j := i) (h₀ := by simpa using hj') (h₁ := by simpa using hi') hn).mp (by simpa using e')
      exact h1 (this ▸ hj)
/-- some of the owned objects, in another order -/
theorem Fm.sel (F : Fm B G env own V h) (is : List Nat) (hn : is.Nodup := by decide) : Fm B G env (is.filterMap (own[·]?)) V h :=
  F.sub (fun p hp => by obtain ⟨i, _, e⟩ := sel_mem hp; exact List.mem_of_getElem? e) (sel_nodup F.nodup hn)
end
end Mine
end F25
section F26
set_option maxRecDepth 100000
namespace Mine
/-- a dict of numbers over bytes: at most n keys, as a function, its keys in their order -/
def DMK (prog : Program) (w : World) (o : Obj) (n : Nat) (f : Bs → Option Int) (ks : List Bs) : Prop :=
  ∃ kvs, DO prog w o kvs ∧ kvs.length ≤ n ∧ (∀ k, (∀ v, valueAt kvs k = some v → ∃ i t, v = .int i t ∧ f k = some i) ∧ (valueAt kvs k = none → f k = none)) ∧ kvs.map (·.1) = ks
section
variable {prog : Program} {w : World} {K : Frag} {B G : Heap} {env : Env} {own : List (Addr × Obj)} {V V' : Vars} {A : Around} {E : Value → Shared → Prop} {s₀ s : Shared} {x : Bs} {t : Tok} {d : Addr} {o : Obj} {n : Nat} {f : Bs → Option Int} {ks : List Bs}
theorem DMK.dm (D : DMK prog w o n f ks) : DM prog w o n f := let ⟨kvs, h1, h2, h3, _⟩ := D; ⟨kvs, h1, h2, h3⟩
theorem DMK.dk (D : DMK prog w o n f ks) : DKs prog w o ks := let ⟨kvs, h1, _, _, h4⟩ := D; ⟨kvs, h1, h4⟩
theorem DMK.nodup (D : DMK prog w o n f ks) : ks.Nodup := by
  obtain ⟨kvs, h1, _, _, rfl⟩ := D
  obtain ⟨_, _, _, _, _, _, hn⟩ := h1
  exact hn
theorem DMK.len (D : DMK prog w o n f ks) : ks.length ≤ n := by obtain ⟨kvs, _, h2, _, rfl⟩ := D; simpa using h2
theorem DMK.le {m : Nat} (D : DMK prog w o n f ks) (h : n ≤ m) : DMK prog w o m f ks := let ⟨kvs, h1, h2, h3, h4⟩ := D; ⟨kvs, h1, Nat.le_trans h2 h, h3, h4⟩
theorem valueAt_isSome (kvs : List (Bs × Value)) (k : Bs) : (valueAt kvs k).isSome = true ↔ k ∈ kvs.map (·.1) := by
  rw [← any_key, List.any_eq_true, List.mem_map]
  exact ⟨fun ⟨p, hp, e⟩ => ⟨p, hp, of_decide_eq_true e⟩, fun ⟨p, hp, e⟩ => ⟨p, hp, decide_eq_true e⟩⟩
theorem DMK.mem (D : DMK prog w o n f ks) (k : Bs) : k ∈ ks ↔ (f k).isSome = true := by
  obtain ⟨kvs, h1, _, h3, rfl⟩ := D
  rw [← valueAt_isSome]
  cases e : valueAt kvs k with
  | none => rw [(h3 k).2 e]; simp
  | some v => obtain ⟨i, t, _, hi⟩ := (h3 k).1 v e; rw [hi]; simp
theorem set_dmk {own' : Obj → List (Addr × Obj)} {i : Int} {u : Tok} {Q : Unit → Shared → Prop} (hS : Same s₀ s) (F : Fm B G env own V s.heap) (hO : ∀ o', OA own d o o' (own' o')) (D : DMK prog w o n f ks) (hsz : n ≤ 1000000)
    (h : ∀ o' s', Same s₀ s' → DMK prog w o' (n + 1) (fun y => if x = y then some i else f y) (if x ∈ ks then ks else ks ++ [x]) → Fm B G env (own' o') V s'.heap → Q () s') :
    wpAny (model prog w) A (setItem (.ref d) (.bytes x.toArray t) (.int i u)) Q E s := by
  obtain ⟨kvs, D, hl, hf, rfl⟩ := D
  refine set_dictF hS F hO D (by rw [sizeLine_eq]; lia) fun o' s' hS' D' F' => h o' s' hS' ⟨_, D', Nat.le_trans (stored_length_le _ _ _) (Nat.succ_le_succ hl), ?_, map_fst_stored _ _ _⟩ F'
  intro k
  rw [valueAt_stored]
  by_cases e : x = k
  · subst e
    refine ⟨fun v h => ?_, fun h => ?_⟩
    · simp only [if_true] at h; cases h; exact ⟨i, u, rfl, by simp⟩
    · simp at h
  · simp only [if_neg e]; exact hf k
theorem new_dmk {pos : Pos} {Q : Value → Shared → Prop} (S : Sta K B) (hS : Same s₀ s) (F : Fm B G env own V s.heap)
    (h : ∀ o l s', Same s₀ s' → (l == sysModules) = false → DMK prog w o 0 (fun _ => none) [] → Fm B G env ((l, o) :: own) V s'.heap → Q (.ref l) s') : wpAny (model prog w) A (eval (.Dict [] [] pos) env) Q E s :=
  new_dictF S hS F fun o l s' hS' _ hm D F' => h o l s' hS' hm ⟨[], D, Nat.le_refl _, fun k => ⟨fun v e => (by cases e), fun _ => rfl⟩, rfl⟩ F'
/-- the pairs are read as a function -/
def PairF (ps : List (Bs × Value)) (f : Bs → Option Int) : Prop := ∀ p ∈ ps, ∃ i t, p.2 = .int i t ∧ f p.1 = some i
theorem valueAt_some_mem {kvs : List (Bs × Value)} {k : Bs} {v : Value} (e : valueAt kvs k = some v) : (k, v) ∈ kvs := by
  induction kvs with
  | nil => cases e
  | cons p r ih =>
    obtain ⟨k', v'⟩ := p
    rw [valueAt_cons] at e
    by_cases h : k' = k
    · rw [if_pos h] at e; cases e; rw [h]; exact List.mem_cons_self
    · rw [if_neg h] at e; exact List.mem_cons_of_mem _ (ih e)
theorem dict_dmk {l : Addr} {ol : Obj} {vs : List Value} {ps : List (Bs × Value)} {Q : Value → Shared → Prop} (S : Sta K B) (hS : Same s₀ s) (F : Fm B G env own V s.heap) (hh : A.handled = none)
    (hl : s.heap.get? l = some ol) (L : LO ol vs) (hdn : ol.dict = none) (hP : PairsAt s.heap vs ps) (hz : ps.length ≤ 100000) (hnd : (ps.map (·.1)).Nodup) (hf : PairF ps f)
    (h : ∀ o d s', Same s₀ s' → (d == sysModules) = false → DMK prog w o ps.length (fun k => if k ∈ ps.map (·.1) then f k else none) (ps.map (·.1)) → Fm B G env ((d, o) :: own) V s'.heap → Q (.ref d) s') :
    wpAny (model prog w) A (call (.type "dict") [.ref l]) Q E s := by
  refine dict_listF S hS F hh hl L hdn hP hz fun o d s' hS' _ hm D F' => h o d s' hS' hm ⟨ps, ?_, Nat.le_refl _, fun k => ⟨fun v e => ?_, fun e => ?_⟩, rfl⟩ F'
  · rw [show putAll [] ps = ps from merged_nil_of_nodup ps hnd] at D; exact D
  · have hm := valueAt_some_mem e
    obtain ⟨i, t, h1, h2⟩ := hf _ hm
    have hk : k ∈ ps.map (·.1) := List.mem_map.mpr ⟨_, hm, rfl⟩
    exact ⟨i, t, h1, by simp only [if_pos hk]; exact h2⟩
  · have hk : ¬ k ∈ ps.map (·.1) := fun hk => by rw [← valueAt_isSome, e] at hk; cases hk
    simp only [if_neg hk]
end
/-- all that stands but an environment's own places and some owned ones -/
noncomputable def frz (h : Heap) (env : Env) (own : List (Addr × Obj)) : Heap := hideP h fun a => @decide (priv env a ∨ a ∈ own.map (·.1)) (Classical.propDecidable _)
theorem frz_of {h : Heap} {env : Env} {own : List (Addr × Obj)} {a : Addr} {o : Obj} (e : (frz h env own).get? a = some o) : h.get? a = some o := of_hideP e
theorem frz_get {h : Heap} {env : Env} {own : List (Addr × Obj)} {a : Addr} {o : Obj} (e : h.get? a = some o) (hp : ¬ priv env a) (ho : a ∉ own.map (·.1)) : (frz h env own).get? a = some o :=
  hideP_get e (@decide_eq_false _ (Classical.propDecidable _) (fun q => q.elim hp ho))
theorem frz_none {h : Heap} {env : Env} {own : List (Addr × Obj)} {a : Addr} (hp : priv env a ∨ a ∈ own.map (·.1)) : (frz h env own).get? a = none :=
  hideP_none (@decide_eq_true _ (Classical.propDecidable _) hp)
theorem Fm.freeze {B G h : Heap} {env : Env} {own : List (Addr × Obj)} {V : Vars} (F : Fm B G env own V h) : Fm B (frz h env own) env own V h := by
  have hGp : ∀ b o, G.get? b = some o → (frz h env own).get? b = some o := fun b o e => frz_get (F.keep b o e) (fun hp => by rw [F.prv b hp] at e; cases e) fun hm => by
    obtain ⟨q, hq, rfl⟩ := List.mem_map.mp hm
    rw [F.off q hq] at e; cases e
  refine ⟨F.sc, fun b o e => hGp b o (F.base b o e), fun b o e => frz_of e, F.has, F.nodup, fun q hq => frz_none (.inr (List.mem_map_of_mem hq)), F.offp, fun a ha => frz_none (.inl ha), ⟨F.loc.ns, fun x k v hx hne => ?_, F.loc.ce⟩, F.cls⟩
  obtain ⟨hk, c, hc, hor⟩ := F.loc.cl x k v hx hne
  exact ⟨hk, c, hc, hor.imp id fun ⟨hf, o, ho, hd⟩ => ⟨hf, o, hGp _ _ ho, hd⟩⟩
theorem Fm.frz_keep {B G h : Heap} {env : Env} {own : List (Addr × Obj)} {V : Vars} (F : Fm B G env own V h) : ∀ b o, G.get? b = some o → (frz h env own).get? b = some o := fun b o e => frz_get (F.keep b o e) (fun hp => by rw [F.prv b hp] at e; cases e) fun hm => by
    obtain ⟨q, hq, rfl⟩ := List.mem_map.mp hm
    rw [F.off q hq] at e; cases e
end Mine
end F26
section F27
set_option maxRecDepth 100000
namespace Mine
section
variable {B G h : Heap} {env : Env} {own : List (Addr × Obj)} {V : Vars} {p q r x : Addr × Obj}
theorem Fm.rot2 (F : Fm B G env (p :: q :: r :: own) V h) : Fm B G env (q :: r :: p :: own) V h :=
  F.perm (List.Perm.trans (List.Perm.cons q (List.Perm.swap p r own)) (List.Perm.swap p q (r :: own)))
theorem Fm.last3 (F : Fm B G env (p :: q :: r :: x :: own) V h) : Fm B G env (x :: p :: q :: r :: own) V h :=
  F.perm (List.perm_middle (l₁ := [p, q, r]) (a := x) (l₂ := own)).symm
theorem Fm.last2 (F : Fm B G env (p :: q :: x :: own) V h) : Fm B G env (x :: p :: q :: own) V h :=
  F.perm (List.perm_middle (l₁ := [p, q]) (a := x) (l₂ := own)).symm
end
/-- pairs among owned tuples -/
def PairsIn (ms : List (Addr × Obj)) (vs : List Value) (ps : List (Bs × Value)) : Prop :=
  vs.length = ps.length ∧ ∀ (i : Nat) (k : Bs) (u : Value), ps[i]? = some (k, u) → ∃ a t o, vs[i]? = some (.ref a) ∧ (a, o) ∈ ms ∧ TO o [Value.bytes k.toArray t, u]
theorem PairsIn.at {ms : List (Addr × Obj)} {vs : List Value} {ps : List (Bs × Value)} {h : Heap} (P : PairsIn ms vs ps) (hm : ∀ p ∈ ms, h.get? p.1 = some p.2) : PairsAt h vs ps :=
  ⟨P.1, fun i k u e => by obtain ⟨a, t, o, h1, h2, h3⟩ := P.2 i k u e; exact ⟨a, t, h1, h3.at (hm _ h2)⟩⟩
theorem PairsIn.snoc {ms : List (Addr × Obj)} {vs : List Value} {ps : List (Bs × Value)} (P : PairsIn ms vs ps) {a : Addr} {o : Obj} {k : Bs} {t : Tok} {u : Value} (T : TO o [Value.bytes k.toArray t, u]) : PairsIn ((a, o) :: ms) (vs ++ [.ref a]) (ps ++ [(k, u)]) := by
  refine ⟨by simp [P.1], fun i k' u' e => ?_⟩
  rcases Nat.lt_or_ge i ps.length with hlt | hge
  · rw [List.getElem?_append_left hlt] at e
    obtain ⟨a', t', o', h1, h2, h3⟩ := P.2 i k' u' e
    exact ⟨a', t', o', by rw [List.getElem?_append_left (by rw [P.1]; exact hlt)]; exact h1, List.mem_cons_of_mem _ h2, h3⟩
  · rw [List.getElem?_append_right hge] at e
    have hi : i - ps.length = 0 := by
      have := (List.getElem?_eq_some_iff.mp e).1
      simp at this; lia
    rw [hi] at e
    simp at e
    obtain ⟨rfl, rfl⟩ := e
    exact ⟨a, t, o, by rw [List.getElem?_append_right (by rw [P.1]; exact hge), P.1, hi]; rfl, List.mem_cons_self, T⟩
/-- turns among owned tuples and lists -/
def TurnsIn (ms : List (Addr × Obj)) (vs : List Value) (ts : List (Nat × Int × List Bs)) : Prop :=
  vs.length = ts.length ∧ ∀ (i m : Nat) (T : Int) (ys : List Bs), ts[i]? = some (m, T, ys) → ∃ a o t1 t2 b p us, vs[i]? = some (.ref a) ∧ (a, o) ∈ ms ∧ TO o [.int m t1, .int T t2, .ref b] ∧ (b, p) ∈ ms ∧ LO p us ∧ BsA us ys
theorem TurnsIn.nil (ms : List (Addr × Obj)) : TurnsIn ms [] [] := ⟨rfl, fun i m T ys e => by simp at e⟩
theorem TurnsIn.mono {ms ms' : List (Addr × Obj)} {vs : List Value} {ts : List (Nat × Int × List Bs)} (P : TurnsIn ms vs ts) (h : ∀ p ∈ ms, p ∈ ms') : TurnsIn ms' vs ts :=
  ⟨P.1, fun i m T ys e => by obtain ⟨a, o, t1, t2, b, p, us, h1, h2, h3, h4, h5, h6⟩ := P.2 i m T ys e; exact ⟨a, o, t1, t2, b, p, us, h1, h _ h2, h3, h _ h4, h5, h6⟩⟩
theorem TurnsIn.snoc {ms : List (Addr × Obj)} {vs : List Value} {ts : List (Nat × Int × List Bs)} (P : TurnsIn ms vs ts) {a b : Addr} {o p : Obj} {m : Nat} {T : Int} {ys : List Bs} {us : List Value} {t1 t2 : Tok} (h1 : (a, o) ∈ ms) (h2 : TO o [.int m t1, .int T t2, .ref b]) (h3 : (b, p) ∈ ms) (h4 : LO p us) (h5 : BsA us ys) :
    TurnsIn ms (vs ++ [.ref a]) (ts ++ [(m, T, ys)]) := by
  refine ⟨by simp [P.1], fun i m' T' ys' e => ?_⟩
  rcases Nat.lt_or_ge i ts.length with hlt | hge
  · rw [List.getElem?_append_left hlt] at e
    obtain ⟨a', o', t1', t2', b', p', us', g1, g2, g3, g4, g5, g6⟩ := P.2 i m' T' ys' e
    exact ⟨a', o', t1', t2', b', p', us', by rw [List.getElem?_append_left (by rw [P.1]; exact hlt)]; exact g1, g2, g3, g4, g5, g6⟩
  · rw [List.getElem?_append_right hge] at e
    have hi : i - ts.length = 0 := by
      have := (List.getElem?_eq_some_iff.mp e).1
      simp at this; lia
    rw [hi] at e
    simp at e
    obtain ⟨rfl, rfl, rfl⟩ := e
    exact ⟨a, o, t1, t2, b, p, us, by rw [List.getElem?_append_right (by rw [P.1]; exact hge), P.1, hi]; rfl, h1, h2, h3, h4, h5⟩
end Mine
end F27
section F28
set_option maxRecDepth 100000
namespace Mine
/-- after a caught exception: what no frame owns stays, the frames' objects stay up to their slots -/
theorem Fm.slots {B G base h h' : Heap} {env : Env} {own : List (Addr × Obj)} {V : Vars} (F : Fm B G env own V h) (hf : env.func.isSome = true) (hb : ∀ b o, B.get? b = some o → base.get? b = some o) (hp : ∀ a, priv env a → base.get? a = Option.none)
    (st : base.StaysIn h') (up : h.UpToSlots h') : Fm B base env [] V h' := by
  have cell : ∀ {c v}, h.IsCell c v → h'.IsCell c v := fun ⟨o, ho, hd⟩ => by
    obtain ⟨sl, hs⟩ := up _ o ho (fun vs q => by rw [hd] at q; cases q)
    exact ⟨_, hs, hd⟩
  refine ⟨F.sc, hb, st, (fun _ q => nomatch q), .nil, (fun _ q => nomatch q), (fun _ q => nomatch q), hp, ⟨?_, ?_, ?_⟩, fun _ => ⟨fun n c hm => ?_, (F.cls hf).2⟩⟩
  · obtain ⟨m, hn, hv⟩ := F.loc.ns
    exact ⟨m, up.ns hn, hv⟩
  · intro x k v hx hne
    obtain ⟨hk, c, hc, hor⟩ := F.loc.cl x k v hx hne
    refine ⟨hk, c, hc, .inl ⟨hf, ?_⟩⟩
    rcases hor with ⟨_, h1⟩ | ⟨h1, _⟩
    · exact cell h1
    · rw [hf] at h1; cases h1
  · intro _ x hx
    obtain ⟨c, v₀, hc, h1⟩ := F.loc.ce hf x hx
    exact ⟨c, v₀, hc, cell h1⟩
  · obtain ⟨hne, v₀, h1⟩ := (F.cls hf).1 n c hm
    exact ⟨hne, v₀, cell h1⟩
section
variable {prog : Program} {w : World} {K : Frag} {B G : Heap} {A : Around} {s : Shared}
/-- a def that raises nothing, what stands around known: for one that catches -/
theorem enterF {R : Result → Shared → Prop} {name qual : Str} {params : Arguments} {body : List Stmt} {scope : Scope} {dV kV doc pm cdv ct oc : Value} {an od : Option Addr} {osl : Array (Option Value)} {f : Addr} {args : Args} {binds : List (Str × Value)} {outer : List Env}
    (own : List (Addr × Obj)) (hfr : A.frames = some outer) (S : Sta K B) (hBG : ∀ b o, B.get? b = some o → G.get? b = some o) (hG : ∀ b o, G.get? b = some o → s.heap.get? b = some o)
    (hown : ∀ p ∈ own, s.heap.get? p.1 = some p.2 ∧ G.get? p.1 = none) (hnd : (own.map (·.1)).Nodup)
    (ho : K.lookup f = some ⟨oc, od, .func (fnOf name qual params body scope dV kV doc pm an cdv ct), osl⟩) (hcd : codeIn K cdv qual = true) {n : Nat} (Rm : Room A (n + 1))
    (hbind : BindsTo s (fnOf name qual params body scope dV kV doc pm an cdv ct) args binds)
    (h : ∀ env A' s₁, env.func.isSome = true → env.frame = some env.locals → A'.frames = some (env :: outer) → s.heap.get? env.locals = none → Same s s₁ → (∀ b o, s.heap.get? b = some o → s₁.heap.get? b = some o) → Fm B G env own (initV scope.names binds) s₁.heap → Room A' n →
      wpAny (model prog w) A' (execs body env) (fun fl s' => R (.ok (.ret (match fl with | .ret v => v | _ => .none))) s') (fun _ _ => False) s₁)
    (hpre : preOf scope.names binds) (hcn : (scope.names.map (·.1)).Nodup) (hdb : (scope.names.all fun p => !(p.1 == ("__debug__" : Str)) && !(p.1 == ("__classdict__" : Str))) = true)
    (hco : scope.isCoroutine = false) (hgen : scope.isGenerator = false) (hk : scope.kind = .function) :
    codeAny (model prog w) A (.call (.ref f) args) R s :=
  enter0 S hBG hG hown hnd ho hcd Rm hbind (fun L s₁ hS hk1 hL F R' => wpAny_mono (h _ _ s₁ rfl rfl (Around.frames_deeper hfr) hL hS hk1 F R') (fun _ _ q => q) fun _ _ q => q.elim) hpre hcn hdb hco hgen hk
/-- the frames with one more -/
theorem Fm.frames {h base : Heap} {env : Env} {own : List (Addr × Obj)} {V : Vars} {outer : List Env} (F : Fm B G env own V h) (hf : env.frame = some env.locals) (hb : base.get? env.locals = Option.none) (ho : h.FunFrames base outer) : h.FunFrames base (env :: outer) := by
  refine ⟨?_, ⟨env.locals, ?_⟩, ho⟩
  · rw [F.sc.kind]; decide
  · obtain ⟨m, ⟨o, es, ep, ho, hd, _⟩, _⟩ := F.loc.ns
    exact ⟨o, hf, hb, ho, fun vs q => by rw [hd] at q; cases q⟩
end
theorem bmBad_base : bmBad.contains (.type "BaseException") = true := by decide +kernel
end Mine
end F28
set_option maxRecDepth 100000
namespace Mine
local macro_rules | `(tactic| walk_at "execs cons") => `(tactic| ((with_reducible refine execs_consN ?_); intro _ _))
local macro_rules | `(tactic| walk_at "w") => `(tactic| (first | walk1 | ((with_reducible rename Nx _ _ _ _ _ _ _ => kQ); (with_reducible first | refine Nx.nxt kQ ?_ | refine Nx.ret kQ ?_ | refine Nx.brk kQ ?_ | refine Nx.cont kQ ?_); clear kQ)))
local macro_rules | `(tactic| walk_at "mem") => `(tactic| (with_reducible first | exact mem0 | exact mem1 | exact mem2 | exact mem3 | exact mem4 | exact mem5 | exact mem6 | exact mem7 | exact mem8 | exact mem9 | exact mem10 | exact mem11 | exact mem12 | exact mem13 | exact mem14 | exact mem15 | exact mem16 | exact mem17 | exact mem18 | exact mem19))
local macro_rules | `(tactic| walk_at "sa") => `(tactic| (with_reducible first | exact sa0 | exact sa1 | exact sa2 | exact sa3 | exact sa4 | exact sa5 | exact sa6 | exact sa7 | exact sa8 | exact sa9 | exact sa10 | exact sa11 | exact sa12 | exact sa13 | exact sa14 | exact sa15))
local macro_rules | `(tactic| walk_at "oa") => `(tactic| (with_reducible first | exact oa0 | exact oa1 | exact oa2 | exact oa3 | exact oa4 | exact oa5 | exact oa6 | exact oa7 | exact oa8 | exact oa9))
local macro_rules | `(tactic| walk_at "kk") => `(tactic| (with_reducible first | exact .inl rfl | exact .inr ⟨rfl, by assumption⟩))
local macro_rules | `(tactic| walk_at "lst") => `(tactic| (first | exact lst_own (by assumption) (by walk_at "mem") (by assumption) | exact lst_G (by assumption) (by assumption) (by assumption)))
local macro_rules | `(tactic| walk_at "tpl") => `(tactic| (first | exact tpl_own (by assumption) (by walk_at "mem") (by assumption) | exact tpl_G (by assumption) (by assumption) (by assumption)))
local macro_rules | `(tactic| walk_at "eval Name") => `(tactic| ((with_reducible rename Fm _ _ _ _ _ _ => kF); first | ((with_reducible refine' ldV kF ?m ?_); (case m => walk_at "mem")) | ((with_reducible rename Sta _ _ => kT); first | ((with_reducible refine' ldB kT kF ?e ?b ?m ?_); (case e => with_reducible first | exact b_len _ | exact b_range _ | exact b_abs _ | exact b_sum _ | exact b_min _ | exact b_max _ | exact b_bytes _ | exact b_dict _ | exact b_ValueError _); (case b => with_reducible first | exact h_len | exact h_range | exact h_abs | exact h_sum | exact h_min | exact h_max | exact h_bytes | exact h_dict | exact h_ValueError); (case m => walk_at "mem")) | ((with_reducible refine' ldG kT kF ?e ?m ?_); (case e => with_reducible first | exact g_pick _ | exact g_jar _ | exact g_samples _ | exact g_shared _ | exact g_dearest _ | exact g_turns _ | exact g_content _ | exact g_told _ | exact g_cright _ | exact g_played _ | exact g_other _ | exact g_train _ | exact g_trimmed _ | exact g_best _ | exact g_Shingles _ | exact g_Bad _ | assumption); (case m => walk_at "mem")))))
local macro_rules | `(tactic| walk_at "storeName") => `(tactic| ((with_reducible rename Same _ _ => kS); (with_reducible rename Fm _ _ _ _ _ _ => kF); (with_reducible refine' stV kS kF ?a ?k ?_); (case a => walk_at "sa"); (case k => walk_at "kk"); clear kF kS; intro _ _ _))
local macro_rules | `(tactic| walk_at "bindName") => `(tactic| ((with_reducible rename Same _ _ => kS); (with_reducible rename Fm _ _ _ _ _ _ => kF); (with_reducible refine' bindNameF kS kF ?a ?k ?_); (case a => walk_at "sa"); (case k => walk_at "kk"); clear kF kS; intro _ _ _))
local macro_rules | `(tactic| walk_at "assign Name") => `(tactic| ((with_reducible rename Same _ _ => kS); (with_reducible rename Fm _ _ _ _ _ _ => kF); (with_reducible refine' assign_NameF kS kF ?a ?k ?_); (case a => walk_at "sa"); (case k => walk_at "kk"); clear kF kS; intro _ _ _))
local macro_rules | `(tactic| walk_at "assign Tuple") => `(tactic| ((with_reducible rename Same _ _ => kS); (with_reducible rename Fm _ _ _ _ _ _ => kF); (first | ((with_reducible refine' unpack_list kS kF ?hh ?hl ?hn ?hs ?_); (case hl => walk_at "lst"); (case hh => exact Room.handled (by assumption)); (case hn => rfl); (case hs => rfl)) | ((with_reducible refine' unpack_tup kS kF ?hh ?hl ?hn ?hs ?_); (case hl => walk_at "tpl"); (case hh => exact Room.handled (by assumption)); (case hn => rfl); (case hs => rfl))); clear kF kS; intro _ _ _))
local macro_rules | `(tactic| walk_at "assignInOrder") => `(tactic| (k_dflt (first | refine inOrder_cons ?_ | refine inOrder_nil ?_)))
local macro_rules | `(tactic| walk_at "swNone") => `(tactic| (first | rfl | exact swNone2 rfl rfl rfl | exact swCell2 (Fm.sc (by assumption)) (by walk_at "mem") | exact swCell2' (Fm.sc (by assumption)) (by walk_at "mem")))
local macro_rules | `(tactic| walk_at "swSome") => `(tactic| (first | exact swSome2 (Fm.sc (by assumption)) (by walk_at "mem") (by walk_at "mem") rfl (by decide) rfl rfl rfl rfl | exact swSome3 (Fm.sc (by assumption)) (by walk_at "mem") (by walk_at "mem") (by walk_at "mem") rfl rfl (by decide) (by decide) (by decide) rfl rfl rfl rfl rfl))
local macro_rules | `(tactic| walk_at "exec Assign cons Tuple") => `(tactic| (first | ((with_reducible refine' Assign_Tup ?_ ?a ?b); (case a => rfl); (case b => walk_at "swNone")) | ((with_reducible refine' Assign_Tuple_swapped ?_ ?a ?b); (case b => walk_at "swSome"); (case a => rfl))))
local macro_rules | `(tactic| walk_at "unpackItems") => `(tactic| ((with_reducible rename Same _ _ => kS); (with_reducible rename Fm _ _ _ _ _ _ => kF); (k_dflt (refine' unpackItemsF kS kF ?hh ?hl ?hn ?_)); (case hl => walk_at "tpl"); (case hh => exact Room.handled (by assumption)); (case hn => rfl); clear kF kS; intro _ _ _))
local macro_rules | `(tactic| walk_at "newTuple") => `(tactic| ((with_reducible rename Same _ _ => kS); (with_reducible rename Fm _ _ _ _ _ _ => kF); (with_reducible refine' newTupleF kS kF ?_ ?z); (case z => first | decide | (rw [sizeLine_eq]; (try simp only [List.length_cons, List.length_nil]); lia)); clear kF kS; intro _ _ _ _ hx9 _ _; clear hx9))
local macro_rules | `(tactic| walk_at "newList") => `(tactic| ((with_reducible rename Same _ _ => kS); (with_reducible rename Fm _ _ _ _ _ _ => kF); (with_reducible refine' newListD kS kF ?_ ?z); (case z => first | decide | (rw [sizeLine_eq]; (try simp only [List.length_cons, List.length_nil]); lia)); clear kF kS; intro _ _ _ _ hx9 _ _ _; clear hx9))
local macro_rules | `(tactic| walk_at "call builtin:len") => `(tactic| (first | ((with_reducible rename Same _ _ => kS); (with_reducible rename Fm _ _ _ _ _ _ => kF); (with_reducible refine' len_bytesF kS kF ?z ?_); (case z => walk_at "fit"); clear kF kS; intro _ _ _ _) | walk_at "len list"))
local macro_rules | `(tactic| walk_at "len list") => `(tactic| ((with_reducible refine' len_listF ?hl ?hf ?_); (case hl => walk_at "lst"); (case hf => (first | lia | (have hLen9 := IntsAre.length (by assumption); lia)))))
local macro_rules | `(tactic| walk_at "cond") => `(tactic| (simp only [decide_eq_true_eq, decide_eq_false_iff_not, Bool.false_eq_true, not_false_eq_true, not_true_eq_false, Bool.not_eq_true, Bool.not_eq_false, Bool.not_eq_true', Bool.not_eq_false', bne_iff_ne, ne_eq, beq_iff_eq, Bool.not_true, Bool.not_false, Bool.true_eq_false, if_true, if_false]; first | done | lia))
local macro_rules | `(tactic| walk_at "ite") => `(tactic| (first | (refine' iteT ?c ?_; (case c => walk_at "cond")) | (refine' iteF ?c ?_; (case c => walk_at "cond")) | (refine iteS (fun hc9 => ?_) (fun hc9 => ?_) <;> (try simp only [decide_eq_true_eq, Bool.not_eq_true, decide_eq_false_iff_not] at hc9))))
local macro_rules | `(tactic| walk_at "setItem ref int") => `(tactic| ((with_reducible rename Same _ _ => kS); (with_reducible rename Fm _ _ _ _ _ _ => kF); (with_reducible refine' setItem_listF kS kF ?O ?L ?a ?b ?c ?_); (case O => walk_at "oa"); (case L => assumption); (case a => first | decide | lia); (case b => first | decide | lia); (case c => ((try simp only [List.length_cons, List.length_nil]); first | decide | lia)); clear kF kS; intro _ _ _ _ _))
local macro_rules | `(tactic| walk_at "subscriptTail") => `(tactic| (first | ((with_reducible show wpAny _ _ (subscriptTail _ _ (Value.ref _) (Value.int _ _)) _ _ _); walk_at "subscriptTail item") | ((with_reducible show wpAny _ _ (subscriptTail _ _ (Value.ref _) (Value.bytes _ _)) _ _ _); walk_at "subscriptTail dict") | ((with_reducible show wpAny _ _ (subscriptTail _ _ (Value.bytes _ _) (Value.ref _)) _ _ _); walk_at "subscriptTail bytes") | ((with_reducible show wpAny _ _ (subscriptTail _ _ (Value.ref _) (Value.ref _)) _ _ _); walk_at "subscriptTail slice")))
local macro_rules | `(tactic| walk_at "subscriptTail item") => `(tactic| ((with_reducible refine' getItem_listF ?hl ?h0 ?h1 ?hx ?_ ?hs); (case hl => walk_at "lst"); (case h0 => first | decide | lia); (case h1 => first | decide | lia); (case hx => first | rfl | assumption); (case hs => with_unfolding_all rfl)))
local macro_rules | `(tactic| walk_at "obj") => `(tactic| (first | exact obj_own (by assumption) (by walk_at "mem") | exact obj_G (by assumption) (by assumption)))
local macro_rules | `(tactic| walk_at "inst") => `(tactic| (exact SO.inst (by walk_at "obj") (by assumption) (by walk_at "obj")))
local macro_rules | `(tactic| walk_at "fit") => `(tactic| (first | lia | (refine Nat.le_trans (Nat.add_le_add_left (length_pk_le _ _ _) _) ?_; lia) | (simp only [List.length_append]; lia) | (simp only [List.length_cons, List.length_nil]; lia) | (have hLen9 := IntsAre.length (by assumption); lia)))
local macro_rules | `(tactic| walk_at "part") => `(tactic| (with_reducible first | exact IsPart.none | exact IsPart.int _ _))
local macro_rules | `(tactic| walk_at "getAttr ref") => `(tactic| ((with_reducible rename Same _ _ => kS); (with_reducible rename Fm _ _ _ _ _ _ => kF); (with_reducible rename Sta _ _ => kT); (first | (with_reducible refine' attr_counts kT kS kF ?I ?D ?_) | (with_reducible refine' attr_size kT kS kF ?I ?D ?_)); (case I => walk_at "inst"); (case D => assumption); clear kF kS; intros))
local macro_rules | `(tactic| walk_at "getMethod ref") => `(tactic| ((with_reducible rename Fm _ _ _ _ _ _ => kF); (first | ((with_reducible refine' meth_dm ?e ?D ?_); (case e => walk_at "obj"); (case D => assumption)) | ((with_reducible rename Sta _ _ => kT); (first | (with_reducible refine' meth_worth kT kF ?I ?D ?_) | (with_reducible refine' meth_worths kT kF ?I ?D ?_) | (with_reducible refine' meth_take kT kF ?I ?D ?_)); (case I => walk_at "inst"); (case D => assumption)))))
local macro_rules | `(tactic| walk_at "call builtin:dict.get") => `(tactic| ((with_reducible rename Same _ _ => kS); (with_reducible rename Fm _ _ _ _ _ _ => kF); (k_dflt (refine' get_dm kS kF ?e ?D ?d ?_)); (case e => walk_at "obj"); (case D => assumption); (case d => assumption); clear kF kS; intro _ _ _ _))
local macro_rules | `(tactic| walk_at "compareOp In bytes ref") => `(tactic| ((with_reducible rename Same _ _ => kS); (with_reducible rename Fm _ _ _ _ _ _ => kF); (with_reducible refine' in_dm kS kF ?e ?D ?d ?_); (case e => walk_at "obj"); (case D => assumption); (case d => assumption); clear kF kS; intro _ _ _))
local macro_rules | `(tactic| walk_at "setItem ref bytes") => `(tactic| ((with_reducible rename Same _ _ => kS); (with_reducible rename Fm _ _ _ _ _ _ => kF); (first | ((with_reducible refine' set_dm kS kF ?O ?D ?z ?_); (case O => walk_at "oa"); (case D => assumption)) | ((with_reducible refine' set_dk kS kF ?O ?D ?z ?_); (case O => walk_at "oa"); (case D => assumption))); (case z => walk_at "fit"); clear kF kS; intro _ _ _ _ _))
local macro_rules | `(tactic| walk_at "eval Dict") => `(tactic| ((with_reducible rename Same _ _ => kS); (with_reducible rename Fm _ _ _ _ _ _ => kF); (with_reducible rename Sta _ _ => kT); (with_reducible refine' new_dm kT kS kF ?_); clear kF kS; intro _ _ _ _ hx9 _ _ _ _; clear hx9))
local macro_rules | `(tactic| walk_at "subscriptTail bytes") => `(tactic| ((with_reducible rename Same _ _ => kS); (with_reducible rename Fm _ _ _ _ _ _ => kF); (k_dflt (refine' slice_bytesF kS kF ?l ?u ?z ?_ ?a ?b)); (case l => walk_at "part"); (case u => walk_at "part"); (case a => with_unfolding_all rfl); (case b => intro _; with_unfolding_all rfl); (case z => walk_at "fit"); clear kF kS; intro _ _ _ _))
local macro_rules | `(tactic| walk_at "subscriptTail slice") => `(tactic| ((with_reducible rename Same _ _ => kS); (with_reducible rename Fm _ _ _ _ _ _ => kF); (k_dflt (first | (refine' slice_listF kS kF ?l ?p ?q ?z ?_ ?a ?b; (case p => walk_at "part"); (case q => walk_at "part")) | (refine' rev_listF kS kF ?l ?z ?_ ?a ?b))); (case l => walk_at "lst"); (case a => with_unfolding_all rfl); (case b => intro _; with_unfolding_all rfl); (case z => walk_at "fit"); clear kF kS; intro _ _ _ _ hx9 _ _; clear hx9))
local macro_rules | `(tactic| walk_at "subscriptTail dict") => `(tactic| ((with_reducible rename Same _ _ => kS); (with_reducible rename Fm _ _ _ _ _ _ => kF); (with_reducible refine' item_dm kS kF ?e ?D ?v ?_ ?a ?b); (case e => walk_at "obj"); (case D => assumption); (case v => assumption); (case a => with_unfolding_all rfl); (case b => intro _; with_unfolding_all rfl); clear kF kS; intro _ _ _ _))
local macro_rules | `(tactic| walk_at "cv") => `(tactic| (first | exact CV.nil | exact CV.own (by decide) (by decide) (by walk_at "cv") | exact CV.free (by walk_at "mem") (by walk_at "cv")))
local macro_rules | `(tactic| walk_at "compok") => `(tactic| ((refine' CompOk.mk ?cv rfl ?nm ?db); (case cv => walk_at "cv"); (case nm => decide); (case db => decide)))
local macro_rules | `(tactic| walk_at "eval ListComp") => `(tactic| ((with_reducible rename Fm _ _ _ _ _ _ => kF); (with_reducible refine' ListComp_ _ kF ?C ?hs ?_); (case C => walk_at "compok"); (case hs => intro _; k_dflt (rfl))))
local macro_rules | `(tactic| walk_at "call type:range") => `(tactic| ((with_reducible rename Same _ _ => kS); (with_reducible rename Fm _ _ _ _ _ _ => kF); (k_dflt (refine' call_range1F kS kF ?_)); clear kF kS; intro _ _ _ _ _ _ _ _))
local macro_rules | `(tactic| walk_at "pyIter ref") => `(tactic| (fail "by hand"))
local macro_rules | `(tactic| walk_at "callWith ref") => `(tactic| ((with_reducible rename Sta _ _ => kT); (k_dflt (refine' callS kT ?hk ?_ ?he ?hp)); (case hk => k_dflt (kernel_rfl)); (case he => k_dflt (rfl)); (case hp => k_dflt (rfl))))
local macro_rules | `(tactic| walk_at "In") => `(tactic| (exact Fm.inK (by assumption) (by assumption)))
local macro_rules | `(tactic| walk_at "vle") => `(tactic| (repeat (first | exact trivial | refine ⟨rfl, rfl, by first | exact .inr rfl | exact .inl rfl, ?_⟩)))
local macro_rules | `(tactic| walk_at "exec For") => `(tactic| ((with_reducible refine' For_stmt ?_ ?hs); (case hs => intro _; k_dflt (rfl))))
local macro_rules | `(tactic| walk_at "setAttr ref") => `(tactic| ((with_reducible rename Same _ _ => kS); (with_reducible rename Fm _ _ _ _ _ _ => kF); (with_reducible rename Sta _ _ => kT); (first | (with_reducible refine' set_size kT kS kF ?O ?x ?X ?D ?_) | (with_reducible refine' set_counts kT kS kF ?O ?x ?X ?D ?_)); (case X => assumption); (case x => walk_at "obj"); (case O => walk_at "oa"); (case D => assumption); clear kF kS; intro _ _ _ _ _))
local macro_rules | `(tactic| walk_at "exec Assign") => `(tactic| ((with_reducible refine plainObj_wpAny_Assign_Attribute ?_ ?_); rotate_left; with_unfolding_all rfl))
local macro_rules | `(tactic| walk_at "loadName") => `(tactic| ((with_reducible rename Fm _ _ _ _ _ _ => kF); (with_reducible refine' ld0 kF ?m ?_); (case m => walk_at "mem")))
local macro_rules | `(tactic| walk_at "ints") => `(tactic| (first | assumption | exact ints_pk (by walk_at "ints") _ _))
local macro_rules | `(tactic| walk_at "call builtin:sum") => `(tactic| ((with_reducible rename Same _ _ => kS); (with_reducible rename Fm _ _ _ _ _ _ => kF); (with_reducible refine' sumF kS kF ?hh ?hl ?hi ?_); (case hl => walk_at "lst"); (case hi => walk_at "ints"); (case hh => exact Room.handled (by assumption)); clear kF kS; intro _ _ _ _))
local macro_rules | `(tactic| walk_at "call builtin:max") => `(tactic| ((with_reducible rename Same _ _ => kS); (with_reducible rename Fm _ _ _ _ _ _ => kF); (with_reducible refine' maxF kS kF ?hh ?_); (case hh => exact Room.handled (by assumption)); clear kF kS; intro _ _ _ _))
local macro_rules | `(tactic| walk_at "call builtin:min") => `(tactic| ((with_reducible rename Same _ _ => kS); (with_reducible rename Fm _ _ _ _ _ _ => kF); (with_reducible refine' minF kS kF ?hh ?_); (case hh => exact Room.handled (by assumption)); clear kF kS; intro _ _ _ _))
local macro_rules | `(tactic| walk_at "call builtin:abs") => `(tactic| ((with_reducible rename Same _ _ => kS); (with_reducible rename Fm _ _ _ _ _ _ => kF); (with_reducible refine' absF kS kF ?_); clear kF kS; intro _ _ _ _))
local macro_rules | `(tactic| walk_at "getMethod type:ValueError") => `(tactic| ((with_reducible rename Same _ _ => kS); (with_reducible rename Fm _ _ _ _ _ _ => kF); (with_reducible rename Sta _ _ => kT); (k_dflt (refine' ve_meth kT kS kF ?_)); clear kF kS; intro _ _ _))
local macro_rules | `(tactic| walk_at "call builtin:ValueError.__init__") => `(tactic| ((with_reducible rename Same _ _ => kS); (with_reducible rename Fm _ _ _ _ _ _ => kF); (with_reducible rename Sta _ _ => kT); (k_dflt (refine' ve_init kT kS kF ?O ?_)); (case O => walk_at "oa"); clear kF kS; intro _ _ _ _))
local macro_rules | `(tactic| walk_at "setAttr ref") => `(tactic| ((with_reducible rename Same _ _ => kS); (with_reducible rename Fm _ _ _ _ _ _ => kF); (with_reducible rename Sta _ _ => kT); (with_reducible refine' bad_set kT kS kF ?O ?_); (case O => walk_at "oa"); clear kF kS; intro _ _ _ _))
local macro_rules | `(tactic| walk_at "exec Expr") => `(tactic| ((with_reducible rename Fm _ _ _ _ _ _ => kF); (with_reducible refine' ExprF kF.sc ?_ ?s); (case s => rfl)))
local macro_rules | `(tactic| walk_at "getMethod ref") => `(tactic| ((with_reducible rename Fm _ _ _ _ _ _ => kF); (with_reducible refine' meth_append ?e ?L ?d ?_); (case e => walk_at "obj"); (case L => assumption); (case d => assumption)))
local macro_rules | `(tactic| walk_at "call builtin:list.append") => `(tactic| ((with_reducible rename Same _ _ => kS); (with_reducible rename Fm _ _ _ _ _ _ => kF); (k_dflt (refine' appendD kS kF ?O ?L ?d ?z ?_)); (case O => walk_at "oa"); (case L => assumption); (case d => assumption); (case z => ((try simp only [List.length_append, List.length_cons, List.length_nil]); walk_at "fit")); clear kF kS; intro _ _ _ _ _ _))
local macro_rules | `(tactic| walk_at "getMethod bytes") => `(tactic| (with_reducible first | refine join_meth ?_ | refine ends_meth ?_))
local macro_rules | `(tactic| walk_at "call builtin:bytes.join") => `(tactic| ((with_reducible rename Same _ _ => kS); (with_reducible rename Fm _ _ _ _ _ _ => kF); (k_dflt (refine' joinF kS kF ?hl ?hv ?z ?_)); (case hl => walk_at "lst"); (case hv => assumption); (case z => assumption); clear kF kS; intro _ _ _ _))
local macro_rules | `(tactic| walk_at "call type:bytes") => `(tactic| ((with_reducible rename Same _ _ => kS); (with_reducible rename Fm _ _ _ _ _ _ => kF); (with_reducible refine' bytes_bytes kS kF ?_); clear kF kS; intro _ _ _))
local macro_rules | `(tactic| walk_at "binaryOp Add") => `(tactic| ((with_reducible rename Same _ _ => kS); (with_reducible rename Fm _ _ _ _ _ _ => kF); (with_reducible refine' add_bytesF kS kF ?z ?_); (case z => walk_at "fit"); clear kF kS; intro _ _ _ _))
local macro_rules | `(tactic| walk_at "testChain") => `(tactic| (k_dflt (first | refine test_link ?_ | refine test_last ?_)))
local macro_rules | `(tactic| walk_at "exec Assign") => `(tactic| ((with_reducible rename Fm _ _ _ _ _ _ => kF); (with_reducible refine' Assign_ListComp_ _ kF ?C ?sw ?hs ?_); (case C => walk_at "compok"); (case sw => exact swTrue kF.sc (by walk_at "mem") rfl rfl); (case hs => intro _; k_dflt (rfl))))
local macro_rules | `(tactic| walk_at "compareOp In bytes bytes") => `(tactic| ((with_reducible rename Same _ _ => kS); (with_reducible rename Fm _ _ _ _ _ _ => kF); (with_reducible refine' in_bytesF kS kF ?hh ?_); (case hh => exact Room.handled (by assumption)); clear kF kS; intro _ _ _))
local macro_rules | `(tactic| walk_at "compareOp NotIn bytes bytes") => `(tactic| ((with_reducible rename Same _ _ => kS); (with_reducible rename Fm _ _ _ _ _ _ => kF); (with_reducible refine' notIn_bytesF kS kF ?hh ?_); (case hh => exact Room.handled (by assumption)); clear kF kS; intro _ _ _))
local macro_rules | `(tactic| walk_at "bsa") => `(tactic| (assumption))
local macro_rules | `(tactic| walk_at "compareOp NotIn bytes ref") => `(tactic| ((k_dflt (refine' notIn_bs ?ha ?hx ?_)); (case ha => walk_at "lst"); (case hx => walk_at "bsa")))
local macro_rules | `(tactic| walk_at "units") => `(tactic| ((have hU9 := Room.units (by assumption); lia)))
local macro_rules | `(tactic| walk_at "compareOp NotEq ref ref") => `(tactic| (k_dflt (first | (refine' ne_ib ?ha ?hb ?u ?_; (case ha => walk_at "tpl"); (case hb => walk_at "tpl"); (case u => walk_at "units")) | (refine' ne_is ?ha ?hb ?hi ?hj ?u ?_; (case ha => walk_at "lst"); (case hb => walk_at "lst"); (case hi => walk_at "ints"); (case hj => walk_at "ints"); (case u => walk_at "units")) | (refine' ne_bs ?ha ?hb ?hi ?hj ?u ?_; (case ha => walk_at "lst"); (case hb => walk_at "lst"); (case hi => walk_at "bsa"); (case hj => walk_at "bsa"); (case u => walk_at "units")))))
local macro_rules | `(tactic| walk_at "compareOp Eq ref ref") => `(tactic| (k_dflt (refine' eq_is ?ha ?hb ?hi ?hj ?u ?_; (case ha => walk_at "lst"); (case hb => walk_at "lst"); (case hi => walk_at "ints"); (case hj => first | walk_at "ints" | exact IntsAre.nil); (case u => walk_at "units"))))
local macro_rules | `(tactic| walk_at "binaryOp Add ref ref") => `(tactic| ((with_reducible rename Same _ _ => kS); (with_reducible rename Fm _ _ _ _ _ _ => kF); (k_dflt (refine' add_listF kS kF ?ha ?hb ?z ?_)); (case ha => walk_at "lst"); (case hb => walk_at "lst"); (case z => walk_at "fit"); clear kF kS; intro _ _ _ _ hx9 _ _; clear hx9))
local macro_rules | `(tactic| walk_at "binaryOp Mult ref int") => `(tactic| ((with_reducible rename Same _ _ => kS); (with_reducible rename Fm _ _ _ _ _ _ => kF); (k_dflt (refine' mul_listF kS kF ?ha ?h0 ?hx ?z ?_)); (case ha => walk_at "lst"); (case h0 => walk_at "fit"); (case hx => walk_at "fit"); (case z => walk_at "fit"); clear kF kS; intro _ _ _ _ hx9 _ _; clear hx9))
local macro_rules | `(tactic| walk_at "call type:bytes") => `(tactic| ((with_reducible rename Same _ _ => kS); (with_reducible rename Fm _ _ _ _ _ _ => kF); (k_dflt (refine' bytes_listF kS kF ?hh ?hl ?hi ?hr ?z ?_)); (case hh => exact Room.handled (by assumption)); (case hl => walk_at "lst"); (case hi => walk_at "ints"); (case hr => assumption); (case z => walk_at "fit"); clear kF kS; intro _ _ _ _ _ _))
local macro_rules | `(tactic| walk_at "call builtin:bytes.endswith") => `(tactic| ((k_dflt (refine endswithF ?_))))
local macro_rules | `(tactic| walk_at "execs cons") => `(tactic| (with_reducible refine wpAny_execs_cons ?_))
local macro_rules | `(tactic| walk_at "execs nil") => `(tactic| (with_reducible refine wpAny_execs_nil ?_))
local macro_rules | `(tactic| walk_at "exec If") => `(tactic| (with_reducible refine wpAny_If ?_))
local macro_rules | `(tactic| walk_at "exec Return some") => `(tactic| (with_reducible refine wpAny_Return_some ?_))
local macro_rules | `(tactic| walk_at "eval BinOp") => `(tactic| (with_reducible refine wpAny_BinOp ?_))
local macro_rules | `(tactic| walk_at "eval Subscript") => `(tactic| (with_reducible refine Subscript_ ?_))
local macro_rules | `(tactic| walk_at "eval Constant int") => `(tactic| (with_reducible refine wpAny_Constant_int ?_))
local macro_rules | `(tactic| walk_at "eval Constant bool") => `(tactic| (with_reducible refine wpAny_Constant_bool ?_))
local macro_rules | `(tactic| walk_at "eval Constant none") => `(tactic| (with_reducible refine wpAny_Constant_none ?_))
local macro_rules | `(tactic| walk_at "eval IfExp") => `(tactic| (with_reducible refine IfExp_ ?_))
local macro_rules | `(tactic| walk_at "eval UnaryOp") => `(tactic| (with_reducible refine UnaryOp_ ?_))
local macro_rules | `(tactic| walk_at "isTrue UnaryOp") => `(tactic| (with_reducible refine isTrue_not ?_))
local macro_rules | `(tactic| walk_at "eval Call Name") => `(tactic| (with_reducible refine wpAny_Call_ofName ?_))
local macro_rules | `(tactic| walk_at "eval Tuple") => `(tactic| (with_reducible refine Tuple_ ?_))
local macro_rules | `(tactic| walk_at "eval List") => `(tactic| (with_reducible refine List_ ?_))
local macro_rules | `(tactic| walk_at "spliced") => `(tactic| (with_reducible first | refine wpAny_items_cons ?_ | refine wpAny_items_nil ?_))
local macro_rules | `(tactic| walk_at "isTrue BoolOp") => `(tactic| (with_reducible first | refine isTrue_and ?_ | refine isTrue_and_nil ?_ | refine isTrue_or ?_ | refine isTrue_or_nil ?_))
local macro_rules | `(tactic| walk_at "pre") => `(tactic| (repeat (first | exact trivial | refine ⟨rfl, by first | exact .inl rfl | exact .inr rfl, ?_⟩)))
local macro_rules | `(tactic| walk_at "enter") => `(tactic| ((case' ho => rfl); (case' hcd => kernel_rfl); (case' hb => first | exact BindsTo.of_eq rfl | exact kp_binds (Frag.In.keeps (Sta.K (by assumption)) (by assumption)) (fun _ => by kernel_rfl)); (case' hpre => walk_at "pre"); (case' hcn => decide); (case' hdb => decide); (case' hco => rfl); (case' hgen => rfl); (case' hk => rfl)))
def JarO (oj orow : Obj) (row : Addr) (b : Int) : Prop := ∃ at' t1 salt t2 vs ns, LO oj [.ref row, .int at' t1, .int salt t2] ∧ LO orow vs ∧ IntsAre vs ns ∧ ns.length ≤ 60 ∧ 0 ≤ at' ∧ at' ≤ b ∧ 0 ≤ salt ∧ salt < 1009 ∧ ∀ n ∈ ns, 0 ≤ n

theorem ints_set {vs : List Value} {ns : List Int} (h : IntsAre vs ns) (i : Nat) (n : Int) (t : Tok) : IntsAre (vs.set i (.int n t)) (ns.set i n) := by
  induction h generalizing i with
  | nil => cases i <;> exact .nil
  | cons m u h ih => cases i with
    | zero => exact .cons _ _ h
    | succ i => exact .cons _ _ (ih i)

set_option maxHeartbeats 4000000 in
theorem pick_call {prog : Program} {w : World} {B : Heap} {A : Around} {E : Value → Shared → Prop} {s : Shared} {Q : Value → Shared → Prop} {jar row : Addr} {oj orow : Obj} {b many : Int} {t : Tok}
    (S : Sta (KK w) B) (R : Room A 2) (hB : ∀ b o, B.get? b = some o → s.heap.get? b = some o) (hj : s.heap.get? jar = some oj) (hr : s.heap.get? row = some orow) (hne : jar ≠ row)
    (hBj : B.get? jar = none) (hBr : B.get? row = none) (J : JarO oj orow row b) (hb : b < 10 ^ 9) (hm : 0 < many) (hm2 : many < 1000)
    (h : ∀ d t' oj' orow' s', Same s s' → 0 ≤ d → d < many → JarO oj' orow' row (b + 1) → (∀ c o, c ≠ jar → c ≠ row → s.heap.get? c = some o → s'.heap.get? c = some o) → s'.heap.get? jar = some oj' → s'.heap.get? row = some orow' →
      Q (.int d t') s') :
    wpAny (model prog w) A (call (.ref 119) [.ref jar, .int many t]) Q E s := by
  refine wpAny_call ?_
  refine' enter (K := KK w) (G := hideAll s.heap [jar, row]) (binds := [(Str.ofString "jar", .ref jar), (Str.ofString "many", .int many t)]) [(jar, oj), (row, orow)] S ?hBG ?hG ?hown ?hnd ?ho ?hcd R ?hb ?h ?hpre ?hcn ?hdb ?hco ?hgen ?hk
  case ho => rfl
  case hcd => kernel_rfl
  case hb => exact BindsTo.of_eq rfl
  case hpre => walk_at "pre"
  case hcn => decide
  case hdb => decide
  case hco => rfl
  case hgen => rfl
  case hk => rfl
  case hBG => exact fun c o e => hideAll_get _ (hB c o e) (by simp only [List.mem_cons, List.not_mem_nil, or_false, not_or]; exact ⟨fun q => (by rw [q, hBj] at e; cases e), fun q => (by rw [q, hBr] at e; cases e)⟩)
  case hG => exact fun c o e => of_hideAll _ e
  case hown =>
    intro p hp
    simp only [List.mem_cons, List.not_mem_nil, or_false] at hp
    rcases hp with rfl | rfl
    · exact ⟨hj, hideAll_none _ (by simp)⟩
    · exact ⟨hr, hideAll_none _ (by simp)⟩
  case hnd => simp [hne]
  intro env A' s₁ hf hS hk F R1
  refine hideQ fun QF hQF => ?_
  dsimp only [initV] at F
  obtain ⟨at', t1, salt, t2, vs, ns, Lj, Lr, hi, hn, ha0, hab, hs0, hs1, hns⟩ := J
  have hlen : vs.length = ns.length := hi.length
  rcases Int.lt_or_le at' vs.length with hlt | hge
  · obtain ⟨n, tn, hx, hn0⟩ : ∃ n tn, vs[at'.toNat]? = some (.int n tn) ∧ 0 ≤ n := by
      have hl : at'.toNat < ns.length := by lia
      obtain ⟨tn, hx⟩ := hi.get at'.toNat ns[at'.toNat] (by simp [hl])
      exact ⟨_, tn, hx, hns _ (List.getElem_mem hl)⟩
    have hd0 := Int.fmod_nonneg_of_pos n hm
    have hd1 := Int.fmod_lt_of_pos n hm
    repeat' walk_at "w"
    · rename Fm _ _ _ _ _ _ => F'
      rename Same _ _ => S'
      rename LO _ (List.set _ _ _) => L'
      refine hQF _ _ (h _ _ oj _ _ S' hd0 hd1 ⟨at', t1, salt, t2, _, ns.set at'.toNat (n.fdiv many), Lj, L', ints_set hi _ _ _, by simpa using hn, ha0, by lia, hs0, hs1, fun m hm' => ?_⟩ (keep2 F') (F'.has (_, _) mem0) (F'.has (_, _) mem1))
      rcases List.mem_or_eq_of_mem_set hm' with h1 | rfl
      · exact hns _ h1
      · exact Int.fdiv_nonneg hn0 (Int.le_of_lt hm)
    · rename Fm _ _ _ _ _ _ => F'
      rename Same _ _ => S'
      rename LO _ (List.set _ _ _) => L'
      exact hQF _ _ (h _ _ _ orow _ S' hd0 hd1 ⟨at' + 1, _, salt, t2, vs, ns, L', Lr, hi, hn, by lia, by lia, hs0, hs1, hns⟩ (keep2 F') (F'.has (_, _) mem0) (F'.has (_, _) mem1))
  · repeat' walk_at "w"
    rename Fm _ _ _ _ _ _ => F'
    rename Same _ _ => S'
    rename LO _ (List.set _ _ _) => L'
    exact hQF _ _ (h _ _ _ orow _ S' (Int.fmod_nonneg_of_pos _ hm) (Int.fmod_lt_of_pos _ hm) ⟨at' + 1, _, salt, t2, vs, ns, L', Lr, hi, hn, by lia, by lia, hs0, hs1, hns⟩ (keep2 F') (F'.has (_, _) mem0) (F'.has (_, _) mem1))
structure Sh (prog : Program) (w : World) (size : Int) (n : Nat) (f : Bs → Option Int) (x dx c : Addr) (ox od oc : Obj) : Prop where
  X : SO ox dx
  D : SD w od size c
  C : DM prog w oc n f
  m : (c == sysModules) = false
  nx : x ≠ c
  nd : dx ≠ c
noncomputable def wor (f : Bs → Option Int) (k : Bs) : Int := if 1 < (f k).getD 0 then (f k).getD 0 else 0
set_option maxHeartbeats 4000000 in
theorem worth_call {prog : Program} {w : World} {B : Heap} {A : Around} {E : Value → Shared → Prop} {s : Shared} {Q : Value → Shared → Prop} {x dx c : Addr} {ox od oc : Obj} {size : Int} {k : Bs} {t : Tok} {n : Nat} {f : Bs → Option Int}
    (S : Sta (KK w) B) (R : Room A 2) (hB : ∀ b o, B.get? b = some o → s.heap.get? b = some o) (hx : s.heap.get? x = some ox) (hd : s.heap.get? dx = some od) (hc : s.heap.get? c = some oc)
    (H : Sh prog w size n f x dx c ox od oc)
    (h : ∀ t' s', Same s s' → (∀ c o, s.heap.get? c = some o → s'.heap.get? c = some o) → Q (.int (wor f k) t') s') :
    wpAny (model prog w) A (call (.ref 68) [.ref x, .bytes k.toArray t]) Q E s := by
  obtain ⟨X, D, C, hcm, -, -⟩ := H
  refine wpAny_call ?_
  refine' enter (K := KK w) (G := s.heap) (binds := [(Str.ofString "self", .ref x), (Str.ofString "shingle", .bytes k.toArray t)]) [] S hB (fun _ _ e => e) ?hown ?hnd ?ho ?hcd R ?hb ?h ?hpre ?hcn ?hdb ?hco ?hgen ?hk
  case hown => intro p hp; cases hp
  case hnd => exact .nil
  walk_at "enter"
  intro env A' s₁ hf hS hk F R1
  refine hideQ fun QF hQF => ?_
  dsimp only [initV] at F
  repeat' walk_at "w"
  all_goals
    rename Fm _ _ _ _ _ _ => F'
    rename Same _ _ => S'
  · have e : wor f k = (f k).getD 0 := by unfold wor; rw [if_pos]; lia
    rw [← e]; exact hQF _ _ (h _ _ S' F'.keep)
  · have e : wor f k = 0 := by unfold wor; rw [if_neg]; lia
    rw [← e]; exact hQF _ _ (h _ _ S' F'.keep)
noncomputable def worL (f : Bs → Option Int) (size : Nat) (x : Bs) : List Int := (List.range (x.length + 1 - size)).map fun i => wor f (cut x i size)
set_option maxHeartbeats 4000000 in
theorem worths_call {prog : Program} {w : World} {B : Heap} {A : Around} {E : Value → Shared → Prop} {s : Shared} {Q : Value → Shared → Prop} {x dx c : Addr} {ox od oc : Obj} {size : Nat} {k : Bs} {t : Tok} {n : Nat} {f : Bs → Option Int}
    (S : Sta (KK w) B) (R : Room A 3) (hB : ∀ b o, B.get? b = some o → s.heap.get? b = some o) (hx : s.heap.get? x = some ox) (hd : s.heap.get? dx = some od) (hc : s.heap.get? c = some oc)
    (H : Sh prog w size n f x dx c ox od oc) (hk : k.length ≤ 100) (hs1 : 1 ≤ size) (hs2 : size ≤ 100)
    (h : ∀ l o vs s', Same s s' → (∀ c o, s.heap.get? c = some o → s'.heap.get? c = some o) → s.heap.get? l = none → s'.heap.get? l = some o → LO o vs → IntsAre vs (worL f size k) → Q (.ref l) s') :
    wpAny (model prog w) A (call (.ref 73) [.ref x, .bytes k.toArray t]) Q E s := by
  have H' := H
  obtain ⟨X, D, C, hcm, -, -⟩ := H
  refine wpAny_call ?_
  refine' enter (K := KK w) (G := s.heap) (binds := [(Str.ofString "self", .ref x), (Str.ofString "sample", .bytes k.toArray t)]) [] S hB (fun _ _ e => e) ?hown ?hnd ?ho ?hcd R ?hb ?h ?hpre ?hcn ?hdb ?hco ?hgen ?hk
  case hown => intro p hp; cases hp
  case hnd => exact .nil
  walk_at "enter"
  intro env A' s₁ hf hS hk F R1
  refine hideQ fun QF hQF => ?_
  dsimp only [initV] at F
  repeat' walk_at "w"
  rename IsRange _ _ _ _ _ _ _ _ => hr
  rename Fm _ _ _ _ _ _ => F1
  rename Same _ _ => S1
  have hN : ((k.length:Int) - size + 1).toNat = k.length + 1 - size := by lia
  refine' Comp_v (ms := []) (stat := []) (mk_range R1.handled F1 hr (by lia) (by lia)) (fun i items ms => ms = [] ∧ IntsAre items ((List.range i).map fun i => wor f (cut k i size))) S1 hf ⟨rfl, .nil⟩ (by lia) ?C (fun i items ms hj => by have := hj.2.length; simp at this; lia) (fun _ _ => trivial) ?turn ?fin
  case C => walk_at "compok"
  case turn =>
    intro G' cenv I D i v items ms' oI oD s₂ hG hi hv hj S2 F2 QT hQT
    obtain ⟨tt, rfl⟩ := hv
    obtain ⟨rfl, hit⟩ := hj
    have hx' := hG x ox (by simp) (F1.keep _ _ hx)
    have hd' := hG dx od (by simp) (F1.keep _ _ hd)
    have hc' := hG c oc (by simp) (F1.keep _ _ hc)
    clear F1 S1
    repeat' walk_at "w"
    rename Sta _ _ => S
    rename Fm _ _ _ _ _ _ => F3
    rename Same _ _ => S3
    refine worth_call S R1 F3.inB (F3.keep _ _ hx') (F3.keep _ _ hd') (F3.keep _ _ hc') H' fun t' s' hS' hk' => ?_
    refine hQT _ _ ⟨_, _, ⟨rfl, ?_⟩, ?_, S3.trans hS', F3.grow hk'⟩
    · rw [map_range_succ, pk_cut (by lia)]; exact ints_snoc hit _ _
    · walk_at "vle"
  case fin =>
    intro D items ms' oD s₂ hj ⟨L, _⟩ S2 F2
    obtain ⟨rfl, hit⟩ := hj
    rw [hN] at hit
    exact hQF _ _ (h _ _ _ _ S2 F2.keep (F2.off (D, oD) mem0) (F2.has (D, oD) mem0) L hit)
noncomputable def takeF (f : Bs → Option Int) (size : Nat) (x : Bs) : Nat → Bs → Option Int
  | 0 => f
  | i + 1 => fun y => if cut x i size = y then some 0 else takeF f size x i y
theorem hide1_get {h : Heap} {a b : Addr} {o : Obj} (hb : b ≠ a) (e : h.get? b = some o) : (hideAll h [a]).get? b = some o := hideAll_get _ e (by simpa using hb)
theorem hide1_base {B h : Heap} {c : Addr} (hB : ∀ b o, B.get? b = some o → h.get? b = some o) (hc : B.get? c = none) : ∀ b o, B.get? b = some o → (hideAll h [c]).get? b = some o :=
  fun b o e => hide1_get (fun q => by rw [q, hc] at e; cases e) (hB b o e)
noncomputable abbrev vTake (x : Addr) (k : Bs) (t : Tok) (p : Option Value) : Vars := [(Str.ofString "self", .local, some (.ref x)), (Str.ofString "segment", .local, some (.bytes k.toArray t)), (Str.ofString "place", .local, p), (Str.ofString "range", .globalImplicit, none), (Str.ofString "len", .globalImplicit, none)]
theorem keep1 {B h h' : Heap} {env : Env} {own : List (Addr × Obj)} {V : Vars} {a : Addr} (F : Fm B (hideAll h [a]) env own V h') : ∀ c o, c ≠ a → h.get? c = some o → h'.get? c = some o := fun c o hn e => F.keep c o (hide1_get hn e)
set_option maxHeartbeats 4000000 in
theorem take_call {prog : Program} {w : World} {B : Heap} {A : Around} {E : Value → Shared → Prop} {s : Shared} {Q : Value → Shared → Prop} {x dx c : Addr} {ox od oc : Obj} {size : Nat} {k : Bs} {t : Tok} {n : Nat} {f : Bs → Option Int}
    (S : Sta (KK w) B) (R : Room A 2) (hB : ∀ b o, B.get? b = some o → s.heap.get? b = some o) (hx : s.heap.get? x = some ox) (hd : s.heap.get? dx = some od) (hc : s.heap.get? c = some oc) (hBc : B.get? c = none)
    (H : Sh prog w size n f x dx c ox od oc) (hk : k.length ≤ 100) (hs1 : 1 ≤ size) (hs2 : size ≤ 100) (hn : n ≤ 900000)
    (h : ∀ oc' s', Same s s' → (∀ b o, b ≠ c → s.heap.get? b = some o → s'.heap.get? b = some o) → s'.heap.get? c = some oc' → Sh prog w size (n + (k.length + 1 - size)) (takeF f size k (k.length + 1 - size)) x dx c ox od oc' → Q .none s') :
    wpAny (model prog w) A (call (.ref 80) [.ref x, .bytes k.toArray t]) Q E s := by
  obtain ⟨X, D, C, hcm, nx, nd⟩ := H
  refine wpAny_call ?_
  refine' enter (K := KK w) (G := hideAll s.heap [c]) (binds := [(Str.ofString "self", .ref x), (Str.ofString "segment", .bytes k.toArray t)]) [(c, oc)] S (hide1_base hB hBc) (fun _ _ e => of_hideAll _ e) ?hown ?hnd ?ho ?hcd R ?hb ?h ?hpre ?hcn ?hdb ?hco ?hgen ?hk
  case hown => intro p hp; rw [List.mem_singleton.mp hp]; exact ⟨hc, hideAll_none _ (by simp)⟩
  case hnd => simp
  walk_at "enter"
  intro env A' s₁ hf hS hk1 F R1
  refine hideQ fun QF hQF => ?_
  dsimp only [initV] at F
  have hx' := hide1_get nx hx
  have hd' := hide1_get nd hd
  repeat' walk_at "w"
  rename IsRange _ _ _ _ _ _ _ _ => hr
  rename Fm _ _ _ _ _ _ => F1
  rename Same _ _ => S1
  have hN : ((k.length:Int) - size + 1).toNat = k.length + 1 - size := by lia
  refine For_it (mk_range R1.handled F1 hr (by lia) (by lia)) (fun i own' V' => X2 fun oc' p => N3 (own' = [(c, oc')]) (V' = vTake x k t p) (DM prog w oc' (n + i) (takeF f size k i))) S1 ⟨oc, _, rfl, rfl, C⟩ (fun _ _ _ _ _ _ => trivial) ?_ ?_
  · intro i v own' V' I oI s₂ hi hv hj S2 F2 QT hQT
    obtain ⟨tt, rfl⟩ := hv
    obtain ⟨oc', p, rfl, rfl, C'⟩ := hj
    clear F1 S1 C
    repeat' walk_at "w"
    rename DM _ _ _ _ _ => D9
    rename Fm _ _ _ _ _ _ => F9
    rename Same _ _ => S9
    rw [pk_cut (by lia)] at D9
    exact hQT _ _ ⟨_, _, ⟨_, _, rfl, rfl, D9⟩, S9, F9⟩
  · intro own' V' s₂ hj S2 F2
    obtain ⟨oc', p, rfl, rfl, C'⟩ := hj
    repeat' walk_at "w"
    exact hQF _ _ (h _ _ S2 (keep1 F2) (F2.has (_, _) mem0) ⟨X, D, hN ▸ C', hcm, nx, nd⟩)
def BsAre (vs : List Value) (xs : List Bs) : Prop := vs.length = xs.length ∧ ∀ (i : Nat) (x : Bs), xs[i]? = some x → ∃ t, vs[i]? = some (Value.bytes x.toArray t)
noncomputable def addK (f : Bs → Option Int) (k : Bs) : Bs → Option Int := fun y => if k = y then some ((f k).getD 0 + 1) else f y
noncomputable def ownK (x : Bs) (size : Nat) : Nat → List Bs
  | 0 => []
  | i + 1 => if cut x i size ∈ ownK x size i then ownK x size i else ownK x size i ++ [cut x i size]
noncomputable def addX (size : Nat) (f : Bs → Option Int) (x : Bs) : Bs → Option Int := (ownK x size (x.length + 1 - size)).foldl addK f
noncomputable def cntF (xs : List Bs) (size : Nat) : Bs → Option Int := xs.foldl (addX size) (fun _ => none)
theorem hide1_none {h : Heap} {a b : Addr} (hb : b ≠ a) (e : (hideAll h [a]).get? b = none) : h.get? b = none := by
  cases q : h.get? b with
  | none => rfl
  | some o => rw [hide1_get hb q] at e; cases e
theorem length_ownK (x : Bs) (size : Nat) : ∀ i, (ownK x size i).length ≤ i
  | 0 => Nat.le_refl _
  | i + 1 => by
    have := length_ownK x size i
    unfold ownK; split
    · lia
    · rw [List.length_append, List.length_singleton]; lia
theorem DM.le {prog : Program} {w : World} {o : Obj} {n m : Nat} {f : Bs → Option Int} (D : DM prog w o n f) (h : n ≤ m) : DM prog w o m f := by
  obtain ⟨kvs, a, b, c⟩ := D; exact ⟨kvs, a, Nat.le_trans b h, c⟩
theorem take_succ' {α : Type} {l : List α} {i : Nat} {x : α} (h : l[i]? = some x) : l.take (i + 1) = l.take i ++ [x] := by
  rw [List.take_add_one, h]; rfl
noncomputable abbrev vInit (x sl : Addr) (size : Nat) (t : Tok) (sa ow pl sh : Option Value) : Vars := [(Str.ofString "self", .local, some (.ref x)), (Str.ofString "samples", .local, some (.ref sl)), (Str.ofString "size", .local, some (.int size t)), (Str.ofString "sample", .local, sa), (Str.ofString "own", .local, ow), (Str.ofString "place", .local, pl), (Str.ofString "shingle", .local, sh), (Str.ofString "range", .globalImplicit, none), (Str.ofString "len", .globalImplicit, none)]
set_option maxHeartbeats 4000000 in
theorem init_code {prog : Program} {w : World} {B : Heap} {A : Around} {s : Shared} {R : Result → Shared → Prop} {x dx sl : Addr} {ox od ol : Obj} {size : Nat} {t : Tok} {vs : List Value} {xs : List Bs}
    (S : Sta (KK w) B) (Rm : Room A 2) (hB : ∀ b o, B.get? b = some o → s.heap.get? b = some o) (hx : s.heap.get? x = some ox) (hd : s.heap.get? dx = some od) (hl : s.heap.get? sl = some ol) (hBd : B.get? dx = none)
    (X : SO ox dx) (D : SD0 od) (L : LO ol vs) (hv : BsAre vs xs) (nx : x ≠ dx) (nl : sl ≠ dx) (hs1 : 1 ≤ size) (hs2 : size ≤ 100) (hxs : xs.length ≤ 100) (hxl : ∀ y ∈ xs, y.length ≤ 100)
    (h : ∀ od' c oc s', Same s s' → (∀ b o, b ≠ dx → s.heap.get? b = some o → s'.heap.get? b = some o) → s.heap.get? c = none → s'.heap.get? dx = some od' → s'.heap.get? c = some oc → Sh prog w size 10100 (cntF xs size) x dx c ox od' oc → R (.ok (.ret .none)) s') :
    codeAny (model prog w) A (.call (.ref 61) ⟨[.ref x, .ref sl, .int size t], []⟩) R s := by
  refine' enter (K := KK w) (G := hideAll s.heap [dx]) (binds := [(Str.ofString "self", .ref x), (Str.ofString "samples", .ref sl), (Str.ofString "size", .int size t)]) [(dx, od)] S (hide1_base hB hBd) (fun _ _ e => of_hideAll _ e) ?hown ?hnd ?ho ?hcd Rm ?hb ?h ?hpre ?hcn ?hdb ?hco ?hgen ?hk
  case hown => intro p hp; rw [List.mem_singleton.mp hp]; exact ⟨hd, hideAll_none _ (by simp)⟩
  case hnd => simp
  walk_at "enter"
  intro env A' s₁ hf hS hk1 F R1
  refine hideQ fun QF hQF => ?_
  dsimp only [initV] at F
  have hx' := hide1_get nx hx
  have hl' := hide1_get nl hl
  repeat' walk_at "w"
  rename Fm _ _ _ _ _ _ => F1
  rename Same _ _ => S1
  rename (_ == sysModules) = false => hcm
  rename SD _ _ _ _ => D2
  rename DM _ _ _ _ _ => C0
  rename DKs _ _ _ _ => K0
  clear K0
  rename_i c _ od2 _
  have hlen : vs.length = xs.length := hv.1
  have hlc : (hideAll s.heap [dx]).get? c = none := F1.off (c, _) mem0
  refine For_it (mk_list R1.handled F1 (L.at (F1.keep _ _ hl'))) (fun i own' V' => X5 fun oc' sa ow pl sh => N3 (own' = [(c, oc'), (dx, od2)]) (V' = vInit x sl size t sa ow pl sh) (DM prog w oc' (101 * i) ((xs.take i).foldl (addX size) fun _ => none))) S1 ⟨_, _, _, _, _, rfl, rfl, C0⟩ (fun _ _ _ _ _ F' => L.at (F'.keep _ _ hl')) ?_ ?_
  · intro i v own' V' I oI s₂ hi hv' hj S2 F2 QT hQT
    clear F1 S1 C0
    obtain ⟨y, hy⟩ : ∃ y, xs[i]? = some y := ⟨xs[i]'(hv.1 ▸ hi), by simp [hv.1 ▸ hi]⟩
    have hyl : y.length ≤ 100 := hxl y (List.mem_of_getElem? hy)
    obtain ⟨ty, hvy⟩ := hv.2 i y hy
    rw [hvy] at hv'; cases hv'
    obtain ⟨oc', sa, ow, pl, sh, rfl, rfl, C'⟩ := hj
    have hi' : i < 100 := by have := hv.1; lia
    repeat' walk_at "w"
    rename IsRange _ _ _ _ _ _ _ _ => hr
    rename Fm _ _ _ _ _ _ => F3
    rename Same _ _ => S3
    rename DM _ _ _ _ (fun _ => none) => K1
    rename DKs _ _ _ _ => K0
    rename (_ == sysModules) = false => hlm
    clear K1
    rename_i o0 l0 _ _ _ _ _ _ _ _ _
    have hN : ((y.length:Int) - size + 1).toNat = y.length + 1 - size := by lia
    refine For_it (mk_range R1.handled F3 hr (by lia) (by lia)) (fun j own' V' => X2 fun o' pl' => N3 (own' = [(l0, o'), (I, oI), (c, oc'), (dx, od2)]) (V' = vInit x sl size t (some (.bytes y.toArray ty)) (some (.ref l0)) pl' sh) (DKs prog w o' (ownK y size j))) S3 ⟨_, _, rfl, rfl, K0⟩ (fun _ _ _ _ _ _ => trivial) ?_ ?_
    · intro j v own' V' I2 oI2 s₃ hj' hv3 hj S4 F4 QT hQT
      clear F3 S3 K0
      obtain ⟨tt, rfl⟩ := hv3
      obtain ⟨o', pl', rfl, rfl, K'⟩ := hj
      have hkl := length_ownK y size j
      repeat' walk_at "w"
      rename Fm _ _ _ _ _ _ => F5
      rename Same _ _ => S5
      rename DKs _ _ _ _ => K5
      rw [pk_cut (by lia)] at K5
      exact hQT _ _ ⟨_, _, ⟨_, _, rfl, rfl, K5⟩, S5, F5⟩
    · intro own' V' s₃ hj S4 F4
      clear F3 S3 K0
      obtain ⟨o', pl', rfl, rfl, K'⟩ := hj
      rw [hN] at K'
      have hkl := length_ownK y size (y.length + 1 - size)
      repeat' walk_at "w"
      rename Fm _ _ _ _ _ _ => F5
      rename Same _ _ => S5
      obtain ⟨Ob, M⟩ := mk_dict (prog := prog) (w := w) (E := fun _ _ => False) R1.handled F5 (F5.has _ mem0) K' hlm
      refine For_it M (fun j own' V' => X2 fun oc'' sh' => N3 (own' = [(l0, o'), (I, oI), (c, oc''), (dx, od2)]) (V' = vInit x sl size t (some (.bytes y.toArray ty)) (some (.ref l0)) pl' sh') (DM prog w oc'' (101 * i + j) (((ownK y size (y.length + 1 - size)).take j).foldl addK ((xs.take i).foldl (addX size) fun _ => none)))) S5 ⟨_, _, rfl, rfl, C'⟩ (fun _ _ _ _ hj F6 => by obtain ⟨_, _, rfl, _⟩ := hj; exact F6.has _ mem0) ?_ ?_
      · intro j v own' V' I2 oI2 s₄ hj' hv4 hj S6 F6 QT hQT
        clear F5 S5
        obtain ⟨k, tk, hk, rfl⟩ := hv4
        obtain ⟨oc'', sh', rfl, rfl, C''⟩ := hj
        clear K' C' M
        repeat' walk_at "w"
        rename Fm _ _ _ _ _ _ => F7
        rename Same _ _ => S7
        rename DM _ _ _ (_ + 1) _ => C7
        refine hQT _ _ ⟨_, _, ⟨_, _, rfl, rfl, ?_⟩, S7, F7⟩
        rw [take_succ' hk, List.foldl_append]; exact C7
      · intro own' V' s₄ hj S6 F6
        clear F5 S5
        obtain ⟨oc'', sh', rfl, rfl, C''⟩ := hj
        repeat' walk_at "w"
        refine hQT _ _ ⟨_, _, ⟨_, _, _, _, _, rfl, rfl, ?_⟩, S6, F6.tail⟩
        rw [List.take_length] at C''
        rw [take_succ' hy, List.foldl_append]; exact C''.le (by lia)
  · intro own' V' s₂ hj S2 F2
    obtain ⟨oc', sa, ow, pl, sh, rfl, rfl, C'⟩ := hj
    repeat' walk_at "w"
    have hcd : c ≠ dx := by have := F2.nodup; simp at this; exact this
    have hcn := hide1_none hcd hlc
    refine hQF _ _ (h od2 c oc' s₂ S2 (keep1 F2) hcn (F2.has (_, _) mem1) (F2.has (_, _) mem0) ⟨X, D2, ?_, hcm, fun e => ?_, Ne.symm hcd⟩)
    · rw [hlen, List.take_length] at C'; exact C'.le (by lia)
    · rw [← e, hx] at hcn; cases hcn
theorem Room.typeCall {A : Around} {n : Nat} {C : Addr} {vals : List Value} {kw : List (Str × Value)} (R : Room A (n + 1)) : Room (A.under (.builtin "type.__call__" ⟨.ref C :: vals, kw⟩)) n := by
  refine ⟨R.handled, ?_, ?_⟩
  · have := R.depth; show A.depth + 1 + n < _; lia
  · have := R.units; show A.units + 1 + 64 * n < _; lia
theorem sh_makes {w : World} : makesIn (KK w) 83 = true := by kernel_rfl
theorem sh_init {w : World} : findIn (KK w) (.ref 83) "__init__" = some (some (.ref 61)) := by kernel_rfl
theorem fn_init {w : World} : isFn (KK w) (.ref 61) = true := by kernel_rfl
theorem new_call {prog : Program} {w : World} {B : Heap} {A : Around} {E : Value → Shared → Prop} {s : Shared} {Q : Value → Shared → Prop} {sl : Addr} {ol : Obj} {size : Nat} {t : Tok} {vs : List Value} {xs : List Bs}
    (S : Sta (KK w) B) (Rm : Room A 3) (hB : ∀ b o, B.get? b = some o → s.heap.get? b = some o) (hl : s.heap.get? sl = some ol) (L : LO ol vs) (hv : BsAre vs xs) (hs1 : 1 ≤ size) (hs2 : size ≤ 100) (hxs : xs.length ≤ 100) (hxl : ∀ y ∈ xs, y.length ≤ 100)
    (h : ∀ x ox dx od c oc s', Same s s' → (∀ b o, s.heap.get? b = some o → s'.heap.get? b = some o) → s.heap.get? x = none → s.heap.get? dx = none → s.heap.get? c = none → x ≠ dx → s'.heap.get? x = some ox → s'.heap.get? dx = some od → s'.heap.get? c = some oc → Sh prog w size 10100 (cntF xs size) x dx c ox od oc → Q (.ref x) s') :
    wpAny (model prog w) A (call (.ref 83) [.ref sl, .int size t]) Q E s := by
  refine wpAny_call ?_
  have XK : (KK w).In s.heap := S.K.keeps hB
  obtain ⟨hh, g, d, tk, os⟩ := s
  have hsz : hh.get? (hh.objs.size + 1) = none := by
    cases q : hh.get? (hh.objs.size + 1) with
    | none => rfl
    | some o => exact absurd (Heap.lt_size q) (Nat.not_lt.mpr (Nat.le_succ _))
  have e1 : (hh.push emptyDict).objs.size = hh.objs.size + 1 := Heap.size_push _ _
  have k1 : ∀ b o, hh.get? b = some o → ((hh.push emptyDict).push (instObj 83 hh.objs.size)).get? b = some o := fun b o e => Heap.get?_push_of_some _ (Heap.get?_push_of_some _ e)
  have hd : ((hh.push emptyDict).push (instObj 83 hh.objs.size)).get? hh.objs.size = some emptyDict := Heap.get?_push_of_some _ (Heap.get?_push_size _ rfl)
  have hx : ((hh.push emptyDict).push (instObj 83 hh.objs.size)).get? (hh.objs.size + 1) = some (instObj 83 hh.objs.size) := by
    have := Heap.get?_push_size (hh.push emptyDict) (o := instObj 83 hh.objs.size) rfl
    rwa [e1] at this
  refine make_core (makes_of XK sh_makes) (looks_findIn XK sh_init) (fun self => bind_fn XK self (beq_iff_eq.mp fn_init)) (.inl rfl) ?_
  refine init_code (s := ⟨(hh.push emptyDict).push (instObj 83 hh.objs.size), g, d, tk, os⟩) S (Rm.typeCall) (fun b o e => k1 b o (hB b o e)) hx hd (k1 _ _ hl) ?_ rfl ⟨0, rfl⟩ L hv (Nat.succ_ne_self _) (Nat.ne_of_lt (Heap.lt_size hl)) hs1 hs2 hxs hxl ?_
  · cases q : B.get? hh.objs.size with
    | none => rfl
    | some o => have := hB _ _ q; rw [get_size] at this; cases this
  · intro od' c oc s' hS hk hc hd' hc' H
    have hkx := hk _ _ (Nat.succ_ne_self _) hx
    refine ⟨rfl, h _ _ _ _ _ _ s' hS (fun b o e => hk b o (Nat.ne_of_lt (Heap.lt_size e)) (k1 b o e)) hsz (get_size _) ?_ (Nat.succ_ne_self _) hkx hd' hc' H⟩
    cases q : hh.get? c with
    | none => rfl
    | some o => rw [k1 _ _ q] at hc; cases hc
theorem ints_at {vs : List Value} {ws : List Int} (h : IntsAre vs ws) {i : Nat} {m : Int} (e : ws[i]? = some m) : ∃ t, vs[(i : Int).toNat]? = some (.int m t) := by
  obtain ⟨t, ht⟩ := h.get i m e
  exact ⟨t, by simpa using ht⟩
noncomputable abbrev vTrim (k : Bs) (t : Tok) (wl : Addr) (b : Int) (tb : Tok) (e : Int) (te : Tok) (size : Nat) (ts : Tok) : Vars := [(Str.ofString "sample", .local, some (.bytes k.toArray t)), (Str.ofString "worths", .local, some (.ref wl)), (Str.ofString "begin", .local, some (.int b tb)), (Str.ofString "end", .local, some (.int e te)), (Str.ofString "size", .local, some (.int size ts))]
set_option maxHeartbeats 4000000 in
theorem trim_call {prog : Program} {w : World} {B : Heap} {A : Around} {E : Value → Shared → Prop} {s : Shared} {Q : Value → Shared → Prop} {wl : Addr} {ow : Obj} {size b e p : Nat} {k : Bs} {t tb te ts : Tok} {vs : List Value} {ws : List Int}
    (S : Sta (KK w) B) (R : Room A 2) (hB : ∀ b o, B.get? b = some o → s.heap.get? b = some o) (hl : s.heap.get? wl = some ow) (L : LO ow vs) (hi : IntsAre vs ws) (hk : k.length ≤ 100) (hw : ws.length ≤ 101) (hs1 : 1 ≤ size) (hs2 : size ≤ 100)
    (hb : b ≤ p) (he : p < e) (hew : e ≤ ws.length) (hp : ws[p]? ≠ some 0)
    (h : ∀ b' e' t' s', Same s s' → (∀ b o, s.heap.get? b = some o → s'.heap.get? b = some o) → b ≤ b' → b' ≤ p → p < e' → e' ≤ e → (∀ i, b ≤ i → i < b' → ws[i]? = some 0) → ws[b']? ≠ some 0 → (∀ i, e' ≤ i → i < e → ws[i]? = some 0) → ws[e' - 1]? ≠ some 0 →
      Q (.bytes (pk k (some (b' : Int)) (some ((e' : Int) - 1 + size))).toArray t') s') :
    wpAny (model prog w) A (call (.ref 101) [.bytes k.toArray t, .ref wl, .int b tb, .int e te, .int size ts]) Q E s := by
  refine wpAny_call ?_
  refine' enter (K := KK w) (G := s.heap) (binds := [(Str.ofString "sample", .bytes k.toArray t), (Str.ofString "worths", .ref wl), (Str.ofString "begin", .int b tb), (Str.ofString "end", .int e te), (Str.ofString "size", .int size ts)]) [] S hB (fun _ _ e => e) ?hown ?hnd ?ho ?hcd R ?hb ?h ?hpre ?hcn ?hdb ?hco ?hgen ?hk
  case hown => intro p hp; cases hp
  case hnd => exact .nil
  walk_at "enter"
  intro env A' s₁ hf hS hk1 F R1
  refine hideQ fun QF hQF => ?_
  dsimp only [initV] at F
  have hlen : vs.length = ws.length := hi.length
  walk1
  refine While_rule (fun n own' V' => X2 fun (b' : Nat) (tb' : Tok) => N6 (own' = []) (V' = vTrim k t wl b' tb' e te size ts) (n = p - b') (b ≤ b') (b' ≤ p) (∀ i, b ≤ i → i < b' → ws[i]? = some 0)) (p - b) hS F ⟨b, _, rfl, rfl, rfl, Nat.le_refl _, hb, fun i h1 h2 => by lia⟩ ?_
  intro n own' V' s₂ hj S2 F2
  obtain ⟨b', tb', rfl, rfl, rfl, hb1, hb2, hz⟩ := hj
  clear F hS
  obtain ⟨m, hm⟩ : ∃ m, ws[b']? = some m := ⟨ws[b']'(by lia), by simp [show b' < ws.length by lia]⟩
  obtain ⟨tm, hx⟩ := ints_at hi hm
  repeat' walk_at "w"
  · rename Fm _ _ _ _ _ _ => F9
    rename Same _ _ => S9
    rename (m == 0) = true => hm0
    have hm0' : m = 0 := by simpa using hm0
    subst hm0'
    have hbp : b' ≠ p := fun q => hp (q ▸ hm)
    refine ⟨_, _, _, ?_, ⟨b' + 1, _, rfl, rfl, rfl, by lia, by lia, fun i h1 h2 => ?_⟩, S9, F9⟩
    · lia
    · rcases Nat.lt_or_ge i b' with h3 | h3
      · exact hz i h1 h3
      · obtain rfl : i = b' := by lia
        exact hm
  refine While_rule (fun n own' V' => X2 fun (e' : Nat) (te' : Tok) => N6 (own' = []) (V' = vTrim k t wl b' tb' e' te' size ts) (n = e' - p) (p < e') (e' ≤ e) (∀ i, e' ≤ i → i < e → ws[i]? = some 0)) (e - p) S2 (by assumption) ⟨e, _, rfl, rfl, rfl, he, Nat.le_refl _, fun i h1 h2 => by lia⟩ ?_
  intro n own' V' s₃ hj S3 F3
  obtain ⟨e', te', rfl, rfl, rfl, he1, he2, hz2⟩ := hj
  obtain ⟨m2, hm2⟩ : ∃ m, ws[e' - 1]? = some m := ⟨ws[e' - 1]'(by lia), by simp [show e' - 1 < ws.length by lia]⟩
  obtain ⟨tm2, hx2⟩ := ints_at hi hm2
  rw [show ((e' - 1 : Nat) : Int) = (e' : Int) - 1 by lia] at hx2
  clear S2
  rename Fm _ _ _ _ (vTrim _ _ _ _ _ e te _ _) s₂.heap => Fx
  clear Fx
  repeat' walk_at "w"
  · rename Fm _ _ _ _ _ _ => F9
    rename Same _ _ => S9
    rename (m2 == 0) = true => hm0
    have hm0' : m2 = 0 := by simpa using hm0
    subst hm0'
    have hbp : e' - 1 ≠ p := fun q => hp (q ▸ hm2)
    refine ⟨_, _, _, ?_, ⟨e' - 1, _, rfl, (congrArg (fun z => vTrim k t wl b' tb' z _ size ts) (show (e' : Int) - 1 = ((e' - 1 : Nat) : Int) by lia)), rfl, by lia, by lia, fun i h1 h2 => ?_⟩, S9, F9⟩
    · lia
    · rcases Nat.lt_or_ge i e' with h3 | h3
      · obtain rfl : i = e' - 1 := by lia
        exact hm2
      · exact hz2 i h3 h2
  · rename Fm _ _ _ _ _ _ => F9
    rename Same _ _ => S9
    rename (m == 0) = false => hm0
    rename (m2 == 0) = false => hm1
    refine hQF _ _ (h b' e' _ _ S9 F9.keep hb1 hb2 he1 he2 hz (fun q => ?_) hz2 (fun q => ?_))
    · rw [hm] at q; cases q; simp at hm0
    · rw [hm2] at q; cases q; simp at hm1
noncomputable def trimF (ws : List Int) (x : Bs) (b e sh : Nat) : Bs :=
  (x.drop (b + (ws.drop b).findIdx (· ≠ 0))).take ((e - (ws.take e).reverse.findIdx (· ≠ 0)) - 1 + sh - (b + (ws.drop b).findIdx (· ≠ 0)))
noncomputable def stepB (ws : List Int) (x : Bs) (sh many : Nat) (st : Int × Bs) (place : Nat) : Int × Bs :=
  if st.1 < ((ws.drop place).take many).sum then (((ws.drop place).take many).sum, trimF ws x place (min (place + many) ws.length) sh) else st
noncomputable def bestX (f : Bs → Option Int) (sh many : Nat) (st : Int × Bs) (x : Bs) : Int × Bs :=
  (List.range (max 1 ((worL f sh x).length + 1 - many))).foldl (stepB (worL f sh x) x sh many) st
noncomputable def bestF (xs : List Bs) (f : Bs → Option Int) (sh size : Nat) : Int × Bs := xs.foldl (bestX f sh (size + 1 - sh)) (0, [])
noncomputable abbrev vBest (sl x : Addr) (size : Nat) (ts : Tok) (m : Int) (tm : Tok) (fd : Bs) (tf : Tok) (mny : Int) (tn : Tok) (sa wo pl wr : Option Value) : Vars := [(Str.ofString "samples", .local, some (.ref sl)), (Str.ofString "shingles", .local, some (.ref x)), (Str.ofString "size", .local, some (.int size ts)), (Str.ofString "most", .local, some (.int m tm)), (Str.ofString "found", .local, some (.bytes fd.toArray tf)), (Str.ofString "many", .local, some (.int mny tn)), (Str.ofString "sample", .local, sa), (Str.ofString "worths", .local, wo), (Str.ofString "place", .local, pl), (Str.ofString "worth", .local, wr), (Str.ofString "range", .globalImplicit, none), (Str.ofString "max", .globalImplicit, none), (Str.ofString "len", .globalImplicit, none), (Str.ofString "sum", .globalImplicit, none), (Str.ofString "trimmed", .globalImplicit, none), (Str.ofString "min", .globalImplicit, none)]
theorem length_worL (f : Bs → Option Int) (size : Nat) (x : Bs) : (worL f size x).length = x.length + 1 - size := by simp [worL]
theorem sum_pos' : ∀ {l : List Int}, 0 < l.sum → ∃ i, i < l.length ∧ l[i]? ≠ some 0
  | [], h => by simp at h
  | a :: r, h => by
    by_cases ha : a = 0
    · subst ha
      rw [List.sum_cons] at h
      obtain ⟨i, h1, h2⟩ := sum_pos' (l := r) (by lia)
      exact ⟨i + 1, by rw [List.length_cons]; lia, by simpa using h2⟩
    · exact ⟨0, by simp, by simp [ha]⟩
theorem trim_eq {ws : List Int} {y : Bs} {b e sh b' e' p : Nat} (h1 : b ≤ b') (h2 : b' ≤ p) (h3 : p < e') (h4 : e' ≤ e) (he : e ≤ ws.length) (hy : ws.length ≤ y.length) (hs : 1 ≤ sh)
    (z1 : ∀ i, b ≤ i → i < b' → ws[i]? = some 0) (n1 : ws[b']? ≠ some 0) (z2 : ∀ i, e' ≤ i → i < e → ws[i]? = some 0) (n2 : ws[e' - 1]? ≠ some 0) :
    pk y (some (b' : Int)) (some ((e' : Int) - 1 + sh)) = trimF ws y b e sh := by
  have e1 : (ws.drop b).findIdx (· ≠ 0) = b' - b := by
    rw [List.findIdx_eq (by rw [List.length_drop]; lia)]
    refine ⟨?_, fun j hj => ?_⟩
    · have : ws[b']? = some (ws[b']'(by lia)) := by simp [show b' < ws.length by lia]
      rw [this] at n1
      simp only [List.getElem_drop, show b + (b' - b) = b' by lia]
      simpa using n1
    · have := z1 (b + j) (by lia) (by lia)
      rw [List.getElem?_eq_getElem (by lia)] at this
      simp only [List.getElem_drop]
      simpa using this
  have hlt : (ws.take e).length = e := by rw [List.length_take]; lia
  have e2 : (ws.take e).reverse.findIdx (· ≠ 0) = e - e' := by
    rw [List.findIdx_eq (by rw [List.length_reverse, hlt]; lia)]
    refine ⟨?_, fun j hj => ?_⟩
    · have : ws[e' - 1]? = some (ws[e' - 1]'(by lia)) := by simp [show e' - 1 < ws.length by lia]
      rw [this] at n2
      simp only [List.getElem_reverse, List.getElem_take, hlt, show e - 1 - (e - e') = e' - 1 by lia]
      simpa using n2
    · have := z2 (e - 1 - j) (by lia) (by lia)
      rw [List.getElem?_eq_getElem (by lia)] at this
      simp only [List.getElem_reverse, List.getElem_take, hlt]
      simpa using this
  unfold trimF
  rw [e1, e2, show ((e' : Int) - 1 + sh) = ((e' - 1 + sh : Nat) : Int) by lia, pk_run (by lia) (by lia), show b + (b' - b) = b' by lia, show e - (e - e') - 1 + sh - b' = e' - 1 + sh - b' by lia]
set_option maxHeartbeats 4000000 in
theorem best_call {prog : Program} {w : World} {B : Heap} {A : Around} {E : Value → Shared → Prop} {s : Shared} {Q : Value → Shared → Prop} {sl x dx c : Addr} {ol ox od oc : Obj} {sh size n : Nat} {ts : Tok} {vs : List Value} {xs : List Bs} {f : Bs → Option Int}
    (S : Sta (KK w) B) (R : Room A 4) (hB : ∀ b o, B.get? b = some o → s.heap.get? b = some o) (hl : s.heap.get? sl = some ol) (L : LO ol vs) (hv : BsAre vs xs) (hx : s.heap.get? x = some ox) (hd : s.heap.get? dx = some od) (hc : s.heap.get? c = some oc)
    (H : Sh prog w sh n f x dx c ox od oc) (hs1 : 1 ≤ sh) (hs2 : sh ≤ size) (hs3 : size ≤ 100) (hxs : xs.length ≤ 100) (hxl : ∀ y ∈ xs, y.length ≤ 100)
    (h : ∀ l o t1 t2 s', Same s s' → (∀ b o, s.heap.get? b = some o → s'.heap.get? b = some o) → s.heap.get? l = none → s'.heap.get? l = some o → TO o [.int (bestF xs f sh size).1 t1, .bytes (bestF xs f sh size).2.toArray t2] → Q (.ref l) s') :
    wpAny (model prog w) A (call (.ref 94) [.ref sl, .ref x, .int size ts]) Q E s := by
  have H' := H
  obtain ⟨X, D, C, hcm, -, -⟩ := H
  refine wpAny_call ?_
  refine' enter (K := KK w) (G := s.heap) (binds := [(Str.ofString "samples", .ref sl), (Str.ofString "shingles", .ref x), (Str.ofString "size", .int size ts)]) [] S hB (fun _ _ e => e) ?hown ?hnd ?ho ?hcd R ?hb ?h ?hpre ?hcn ?hdb ?hco ?hgen ?hk
  case hown => intro p hp; cases hp
  case hnd => exact .nil
  walk_at "enter"
  intro env A' s₁ hf hS hk1 F R1
  refine hideQ fun QF hQF => ?_
  dsimp only [initV] at F
  repeat' walk_at "w"
  rename Fm _ _ _ _ _ _ => F0
  rename Same _ _ => S1
  obtain ⟨M, hM⟩ : ∃ M : Nat, size + 1 - sh = M := ⟨_, rfl⟩
  have hM1 : M + sh = size + 1 := by lia
  rw [show ((size : Int) - sh + 1) = (M : Int) by lia] at F0
  have F1 := F0.none
  clear F0
  refine For_it (mk_list R1.handled F1 (L.at (F1.keep _ _ hl))) (fun i own' V' => X9 fun (m : Int) (fd : Bs) (tm tf tn : Tok) (sa wo pl wr : Option Value) => N4 (own' = []) (V' = vBest sl x size ts m tm fd tf (M : Int) tn sa wo pl wr) ((m, fd) = (xs.take i).foldl (bestX f sh M) (0, [])) (0 ≤ m)) S1 ⟨0, [], _, _, _, _, _, _, _, rfl, rfl, rfl, Int.le_refl _⟩ (fun _ _ _ _ _ F' => L.at (F'.keep _ _ hl)) ?_ ?_
  · intro i v own' V' I oI s₂ hi hv' hj S2 F2 QT hQT
    clear F1 S1
    obtain ⟨y, hy⟩ : ∃ y, xs[i]? = some y := ⟨xs[i]'(hv.1 ▸ hi), by simp [hv.1 ▸ hi]⟩
    have hyl : y.length ≤ 100 := hxl y (List.mem_of_getElem? hy)
    obtain ⟨ty, hvy⟩ := hv.2 i y hy
    rw [hvy] at hv'; cases hv'
    obtain ⟨m, fd, tm, tf, tn, sa, wo, pl, wr, rfl, rfl, hst, hm0⟩ := hj
    repeat' walk_at "w"
    rename Sta _ _ => S
    rename Fm _ _ _ _ _ _ => F3
    rename Same _ _ => S3
    refine worths_call S R1 F3.inB (F3.keep _ _ hx) (F3.keep _ _ hd) (F3.keep _ _ hc) H' hyl hs1 (by lia) fun wl ow ws s₃ hS3 hk3 hfr hw Lw hiw => ?_
    have F4 := F3.adopt1 hk3 hfr hw
    have S4 := S3.trans hS3
    clear F3 S3
    have hwl := hiw.length
    obtain ⟨n, hn⟩ : ∃ n, (worL f sh y).length = n := ⟨_, rfl⟩
    have hn1 : n ≤ y.length ∧ n ≤ 100 ∧ n + sh ≤ y.length + sh := by rw [← hn, length_worL]; lia
    have hn2 : n = 0 ∨ n + sh = y.length + 1 := by rw [← hn, length_worL]; lia
    have hM2 : 1 ≤ M := by lia
    rw [hn] at hwl
    repeat' walk_at "w"
    rename IsRange _ _ _ _ _ _ _ _ => hr
    rename Fm _ _ _ _ _ _ => F5
    rename Same _ _ => S5
    have hN : (max 1 ((ws.length : Int) - (M : Int) + 1)).toNat = max 1 (n + 1 - M) := by clear hn1 hn2 hM1 hM2; rw [hwl]; lia
    have hN1 : max 1 (n + 1 - M) ≤ n + 1 := by clear hN hn1 hn2; lia
    obtain ⟨N, hNe⟩ : ∃ N, max 1 (n + 1 - M) = N := ⟨_, rfl⟩
    rw [hNe] at hN hN1
    have hNI : 0 ≤ max 1 ((ws.length : Int) - (M : Int) + 1) ∧ max 1 ((ws.length : Int) - (M : Int) + 1) ≤ 1000 := by clear hN hN1 hNe hn2 hM1; rw [hwl]; lia
    generalize max 1 ((ws.length : Int) - (M : Int) + 1) = mx at hr hN hNI
    refine For_it (mk_range R1.handled F5 hr (by lia) (by lia)) (fun j own' V' => X6 fun (m : Int) (fd : Bs) (tm tf : Tok) (pl wr : Option Value) => N4 (own' = [(wl, ow), (I, oI)]) (V' = vBest sl x size ts m tm fd tf (M : Int) tn (some (.bytes y.toArray ty)) (some (.ref wl)) pl wr) ((m, fd) = (List.range j).foldl (stepB (worL f sh y) y sh M) ((xs.take i).foldl (bestX f sh M) (0, []))) (0 ≤ m)) S5 ⟨_, _, _, _, _, _, rfl, rfl, hst, hm0⟩ (fun _ _ _ _ _ _ => trivial) ?_ ?_
    · intro j v own' V' I2 oI2 s₄ hj' hv4 hj S6 F6 QT hQT
      clear F5 S5
      obtain ⟨tj, rfl⟩ := hv4
      obtain ⟨m', fd', tm', tf', pl', wr', rfl, rfl, hst', hm0'⟩ := hj
      have hjl : j ≤ n := by rw [hN] at hj'; lia
      have hW : pk (worL f sh y) (some (j : Int)) (some ((j : Int) + (M : Int))) = ((worL f sh y).drop j).take M := by
        rw [← Int.natCast_add, pk_run (Nat.le_add_right _ _) (by rw [hn]; exact hjl), Nat.add_sub_cancel_left]
      repeat' walk_at "w"
      · rename Sta _ _ => S
        rename Fm _ _ _ _ _ _ => F9
        rename Same _ _ => S9
        rename (m' < _) => hlt
        rw [hW] at F9 hlt
        have hE : min ((j : Int) + (M : Int)) (ws.length : Int) = ((min (j + M) (worL f sh y).length : Nat) : Int) := by rw [hwl, hn]; clear hn1 hn2 hM1 hM2 hN hN1 hNe hNI hwl hjl; lia
        rw [hE]
        obtain ⟨e9, he⟩ : ∃ e9, min (j + M) (worL f sh y).length = e9 := ⟨_, rfl⟩
        rw [he]
        have he1 : e9 ≤ n ∧ e9 ≤ j + M ∧ (e9 = n ∨ e9 = j + M) := by rw [← he, hn]; clear hn1 hn2 hM1 hM2 hN hN1 hNe hNI hwl hE; lia
        obtain ⟨q, hq1, hq2⟩ := sum_pos' (Int.lt_of_le_of_lt hm0' hlt)
        rw [List.length_take, List.length_drop, hn] at hq1
        have hq3 : q < M ∧ j + q < n := by clear hn1 hn2 hM1 hM2 hN hN1 hNe hNI hwl hE he1; lia
        rw [List.getElem?_take_of_lt hq3.1, List.getElem?_drop] at hq2
        have hll : (worL f sh y).length = n := hn
        clear hE hq1 hN hN1 hNe hNI hj' hr hwl hn2
        refine trim_call (p := j + q) S (R1.less (by decide)) F9.inB (F9.has _ mem2) Lw hiw hyl (by lia) hs1 (by lia) (Nat.le_add_right _ _) (by lia) (by lia) hq2 fun b' e' t' s₅ hS5 hk5 hb1 hb2 hb3 hb4 z1 n1 z2 n2 => ?_
        rw [trim_eq hb1 hb2 hb3 hb4 (by lia) (by lia) hs1 z1 n1 z2 n2]
        have F10 := F9.grow hk5
        have S10 := S9.trans hS5
        clear F9 S9
        repeat' walk_at "w"
        rename Fm _ _ _ _ _ _ => F11
        rename Same _ _ => S11
        refine hQT _ _ ⟨_, _, ⟨_, _, _, _, _, _, rfl, rfl, ?_, by lia⟩, S11, F11.tail⟩
        rw [List.range_succ, List.foldl_append, ← hst']
        show _ = stepB _ _ _ _ (m', fd') j
        unfold stepB; rw [if_pos hlt, he]
      · rename Fm _ _ _ _ _ _ => F11
        rename Same _ _ => S11
        rename (¬ (m' < _)) => hlt
        rw [hW] at hlt F11
        refine hQT _ _ ⟨_, _, ⟨_, _, _, _, _, _, rfl, rfl, ?_, hm0'⟩, S11, F11.tail⟩
        rw [List.range_succ, List.foldl_append, ← hst']
        show _ = stepB _ _ _ _ (m', fd') j
        unfold stepB; rw [if_neg hlt]
    · intro own' V' s₄ hj S6 F6
      clear F5 S5
      obtain ⟨m', fd', tm', tf', pl', wr', rfl, rfl, hst', hm0'⟩ := hj
      repeat' walk_at "w"
      refine hQT _ _ ⟨_, _, ⟨m', fd', _, _, _, _, _, _, _, rfl, rfl, ?_, hm0'⟩, S6, F6.tail⟩
      rw [take_succ' hy, List.foldl_append, hst', hN, ← hNe, ← hn]; rfl
  · intro own' V' s₄ hj S6 F6
    obtain ⟨m', fd', tm', tf', tn', sa', wo', pl', wr', rfl, rfl, hst', hm0'⟩ := hj
    repeat' walk_at "w"
    rename Fm _ _ _ _ _ _ => F9
    rename Same _ _ => S9
    rename TO _ _ => T9
    have hb : (m', fd') = bestF xs f sh size := by rw [hst', hv.1, List.take_length, ← hM]; rfl
    refine hQF _ _ (h _ _ tm' tf' _ S9 F9.keep (F9.off _ mem0) (F9.has _ mem0) ?_)
    rw [← hb]; exact T9
set_option maxHeartbeats 4000000 in
theorem badinit_call {prog : Program} {w : World} {B : Heap} {A : Around} {E : Value → Shared → Prop} {s : Shared} {Q : Value → Shared → Prop} {e e0 : Addr} {x : Str} {t : Tok}
    (S : Sta (KK w) B) (R : Room A 2) (hB : ∀ b o, B.get? b = some o → s.heap.get? b = some o) (he : s.heap.get? e = some (excO e0 none)) (hBe : B.get? e = none)
    (h : ∀ e1 dx s', Same s s' → (∀ b o, b ≠ e → s.heap.get? b = some o → s'.heap.get? b = some o) → s'.heap.get? e = some (excO e1 (some dx)) → Q .none s') :
    wpAny (model prog w) A (call (.ref 29) [.ref e, .str x t]) Q E s := by
  refine wpAny_call ?_
  refine' enter (K := KK w) (G := hideAll s.heap [e]) (binds := [(Str.ofString "self", .ref e), (Str.ofString "reason", .str x t)]) [(e, excO e0 none)] S (hide1_base hB hBe) (fun _ _ e => of_hideAll _ e) ?hown ?hnd ?ho ?hcd R ?hb ?h ?hpre ?hcn ?hdb ?hco ?hgen ?hk
  case hown => intro p hp; rw [List.mem_singleton.mp hp]; exact ⟨he, hideAll_none _ (by simp)⟩
  case hnd => simp
  walk_at "enter"
  intro env A' s₁ hf hS hk1 F R1
  refine hideQ fun QF hQF => ?_
  dsimp only [initV] at F
  repeat' walk_at "w"
  rename Fm _ _ _ _ _ _ => F9
  rename Same _ _ => S9
  exact hQF _ _ (h _ _ _ S9 (keep1 F9) (F9.has (_, _) mem0))
theorem bad_mk {prog : Program} {w : World} {B : Heap} {A : Around} {E : Value → Shared → Prop} {s : Shared} {Q : Value → Shared → Prop} {x : Str} {t : Tok}
    (S : Sta (KK w) B) (R : Room A 3) (hB : ∀ b o, B.get? b = some o → s.heap.get? b = some o)
    (h : ∀ e e1 dx s', Same s s' → (∀ b o, s.heap.get? b = some o → s'.heap.get? b = some o) → s.heap.get? e = none → s'.heap.get? e = some (excO e1 (some dx)) → Q (.ref e) s') :
    wpAny (model prog w) A (call (.ref 45) [.str x t]) Q E s := by
  obtain ⟨nm, q, bs, hdct, sn, sub, ab, col, dd, k0, k1, k2, k3, k5, hl⟩ := bad_at w
  have X : (KK w).In s.heap := S.K.keeps hB
  have hC := X _ _ hl
  obtain ⟨hp, g, d, tk, os⟩ := s
  refine bad_call (hrest := (show (1 : Nat) ≤ sizeLine by rw [sizeLine_eq]; decide)) X hC (show findIn (KK w) (.ref 45) "__init__" = some (some (.ref 29)) by kernel_rfl) (by kernel_rfl) fun h' e hm => ?_
  obtain ⟨t0, he, _, _⟩ := hm.there
  refine badinit_call (s := ⟨h', g, d, tk, os⟩) S R.typeCall (fun b o e => hm.keeps b o (hB b o e)) he ?_ fun e1 dx s' hS hk he' => ⟨rfl, h e e1 dx s' hS (fun b o eb => hk b o (fun q => ?_) (hm.keeps b o eb)) hm.new he'⟩
  · cases q : B.get? e with
    | none => rfl
    | some o => have := hB _ _ q; have h2 := hm.new; rw [h2] at this; cases this
  · rw [q] at eb; have h2 := hm.new; rw [h2] at eb; cases eb
theorem raise_bad {prog : Program} {w : World} {A : Around} {E : Value → Shared → Prop} {s : Shared} {Q : Flow → Shared → Prop} {env : Env} {x : PySem.Expr} {pos : Pos} (hh : A.handled = none)
    (h : wpAny (model prog w) A (eval x env) (fun v s₁ => ∃ e e1 dx, v = .ref e ∧ (KK w).In s₁.heap ∧ s₁.heap.get? e = some (excO e1 (some dx)) ∧ E (.ref e) s₁) E s) :
    wpAny (model prog w) A (exec (.Raise (some x) none pos) env) Q E s := by
  rw [arm_exec_Raise]
  have key : wpAny (model prog w) A (raiseStmt env (some (do let v ← eval x env; standAt pos; pure v)) none) Q E s := by
    have hcB : (Value.ref 45 :: bmBad).contains (.type "BaseException") = true := by decide
    unfold raiseStmt
    refine wpAny_bind (wpAny_bind (wpAny_mono h (fun v s₁ h₁ => wpAny_bind (wpAny_standAt (wpAny_pure ?_))) fun _ _ x => x))
    obtain ⟨e, e1, dx, rfl, X, he, hE⟩ := h₁
    obtain ⟨nm, q, bs, hdct, sn, sub, ab, col, dd, k0, k1, k2, k3, k5, hl⟩ := bad_at w
    have hC := X _ _ hl
    obtain ⟨hp, g, d, tk, os⟩ := s₁
    repeat (first | with_reducible refine wpAny_loadPart_at he ?_ | with_reducible refine wpAny_loadPart_at hC ?_ | (with_reducible refine wpAny_isSubtype_exc hC ?_; rw [hcB]) | wp_step)
    exact wpAny_raiseNew_none hh hE
  first
    | exact wpAny_bind (wpAny_standAt key)
    | (simp only [evalOpt, Option.map]; exact wpAny_bind (wpAny_standAt key))
noncomputable def play (xs : List Bs) (sh seg : Nat) : Nat → (Bs → Option Int) → Nat → List Bs
  | 0, _, _ => []
  | k + 1, f, room => if room < sh then [] else
    if (bestF xs f sh (min seg room)).1 = 0 then [] else
      (bestF xs f sh (min seg room)).2 :: play xs sh seg k (takeF f sh (bestF xs f sh (min seg room)).2 ((bestF xs f sh (min seg room)).2.length + 1 - sh)) (room - (bestF xs f sh (min seg room)).2.length)
noncomputable def lastN (n : Nat) (x : Bs) : Bs := x.drop (x.length - n)
noncomputable def trainF (xs : List Bs) (size seg sh : Nat) : Option Bs :=
  let c := (play xs sh seg (size + 1) (cntF xs sh) size).reverse.flatten
  let c := if c.length < 8 then lastN 8 (xs.flatten ++ c) else c
  if c.length < 8 then none else some c
theorem findIdx_le_at {α : Type} {q : α → Bool} {l : List α} {i : Nat} {a : α} (h : l[i]? = some a) (hq : q a = true) : l.findIdx q ≤ i := by
  rcases Nat.lt_or_ge i (l.findIdx q) with hlt | hge
  · have h1 := List.not_of_lt_findIdx hlt
    obtain ⟨hl, he⟩ := List.getElem?_eq_some_iff.mp h
    rw [he] at h1
    exact absurd hq (by simpa using h1)
  · exact hge
theorem trimF_len {ws : List Int} {x : Bs} {b e sh p : Nat} (hb : b ≤ p) (hp : p < e) (he : e ≤ ws.length) (hx : ws.length + sh ≤ x.length + 1) (hs : 1 ≤ sh) (hn : ws[p]? ≠ some 0) :
    sh ≤ (trimF ws x b e sh).length ∧ (trimF ws x b e sh).length + b + 1 ≤ e + sh := by
  have hpl : p < ws.length := by lia
  have hv : ws[p]? = some ws[p] := List.getElem?_eq_getElem hpl
  have hz : (fun z : Int => decide (z ≠ 0)) ws[p] = true := by
    rw [hv] at hn
    simpa using hn
  have h1 : (ws.drop b).findIdx (fun z : Int => decide (z ≠ 0)) ≤ p - b := findIdx_le_at (a := ws[p]) (by rw [List.getElem?_drop, show b + (p - b) = p by lia, hv]) hz
  have h2 : (ws.take e).reverse.findIdx (fun z : Int => decide (z ≠ 0)) ≤ e - 1 - p := by
    refine findIdx_le_at (a := ws[p]) ?_ hz
    rw [List.getElem?_reverse (by rw [List.length_take]; lia), List.length_take, show min e ws.length - 1 - (e - 1 - p) = p by lia, List.getElem?_take, if_pos hp, hv]
  unfold trimF
  generalize (ws.drop b).findIdx (fun z : Int => decide (z ≠ 0)) = i1 at h1
  generalize (ws.take e).reverse.findIdx (fun z : Int => decide (z ≠ 0)) = i2 at h2
  rw [List.length_take, List.length_drop]
  lia
def BOk (sh size : Nat) (st : Int × Bs) : Prop := 0 ≤ st.1 ∧ (st.1 ≠ 0 → sh ≤ st.2.length ∧ st.2.length ≤ size)
theorem foldl_inv {α β : Type} {P : β → Prop} {g : β → α → β} : ∀ (l : List α) (b : β), P b → (∀ b a, a ∈ l → P b → P (g b a)) → P (l.foldl g b)
  | [], _, h, _ => h
  | a :: r, b, h, hg => foldl_inv r (g b a) (hg b a List.mem_cons_self h) fun b' a' ha hb => hg b' a' (List.mem_cons_of_mem _ ha) hb
theorem best_bound {xs : List Bs} {f : Bs → Option Int} {sh size : Nat} (hs1 : 1 ≤ sh) (hs2 : sh ≤ size) (h : (bestF xs f sh size).1 ≠ 0) : sh ≤ (bestF xs f sh size).2.length ∧ (bestF xs f sh size).2.length ≤ size := by
  refine (foldl_inv (P := BOk sh size) xs (0, []) ⟨Int.le_refl _, fun h => absurd rfl h⟩ fun st x _ hst => ?_).2 h
  refine foldl_inv (P := BOk sh size) _ st hst fun st i hi hst => ?_
  unfold stepB
  split
  · rename_i hlt
    refine ⟨by have := hst.1; dsimp only; lia, fun _ => ?_⟩
    obtain ⟨j, hj, hne⟩ := sum_pos' (l := ((worL f sh x).drop i).take (size + 1 - sh)) (by have := hst.1; lia)
    rw [List.length_take, List.length_drop] at hj
    rw [List.getElem?_take, if_pos (by lia), List.getElem?_drop] at hne
    have hwl := length_worL f sh x
    have := trimF_len (ws := worL f sh x) (x := x) (b := i) (e := min (i + (size + 1 - sh)) (worL f sh x).length) (sh := sh) (p := i + j) (by lia) (by lia) (by lia) (by lia) hs1 hne
    dsimp only
    lia
  · exact hst
theorem flat_len : ∀ {xs : List Bs} {n : Nat}, (∀ y ∈ xs, y.length ≤ n) → xs.flatten.length ≤ xs.length * n
  | [], n, _ => by simp
  | x :: r, n, h => by
    have h1 := flat_len (xs := r) (n := n) fun y hy => h y (List.mem_cons_of_mem _ hy)
    have h2 := h x List.mem_cons_self
    rw [List.flatten_cons, List.length_append, List.length_cons, Nat.add_mul]; lia
theorem len_flat_rev (xs : List Bs) : xs.reverse.flatten.length = xs.flatten.length := by
  induction xs with
  | nil => rfl
  | cons x r ih => rw [List.reverse_cons, List.flatten_append, List.length_append, ih]; simp; lia
noncomputable abbrev vTrain (sm : Addr) (size : Nat) (t1 : Tok) (seg : Nat) (t2 : Tok) (sh : Nat) (t3 : Tok) (sg pa ro wo fo co : Option Value) : Vars := [(Str.ofString "samples", .local, some (.ref sm)), (Str.ofString "size", .local, some (.int size t1)), (Str.ofString "segment", .local, some (.int seg t2)), (Str.ofString "shingle", .local, some (.int sh t3)), (Str.ofString "shingles", .local, sg), (Str.ofString "parts", .local, pa), (Str.ofString "room", .local, ro), (Str.ofString "worth", .local, wo), (Str.ofString "found", .local, fo), (Str.ofString "content", .local, co), (Str.ofString "LEAST_RAW", .globalImplicit, none), (Str.ofString "BadArgument", .globalImplicit, none), (Str.ofString "Shingles", .globalImplicit, none), (Str.ofString "best_segment", .globalImplicit, none), (Str.ofString "min", .globalImplicit, none), (Str.ofString "len", .globalImplicit, none)]
set_option maxHeartbeats 4000000 in
theorem train_call {prog : Program} {w : World} {B : Heap} {A : Around} {E : Value → Shared → Prop} {s : Shared} {Q : Value → Shared → Prop} {sl : Addr} {ol : Obj} {sh seg size : Nat} {t1 t2 t3 : Tok} {vs : List Value} {xs : List Bs} {base : Heap} {outer : List Env}
    (S : Sta (KK w) B) (R : Room A 5) (hB : ∀ b o, B.get? b = some o → s.heap.get? b = some o) (hfr : A.frames = some outer) (hfun : s.heap.FunFrames base outer) (hbase : base.StaysIn s.heap)
    (hl : s.heap.get? sl = some ol) (L : LO ol vs) (hv : BsAre vs xs) (hs1 : 1 ≤ sh) (hs2 : sh ≤ seg) (hs3 : seg ≤ size) (hs4 : 8 ≤ size) (hs5 : size ≤ 100) (hxs : xs.length ≤ 100) (hxl : ∀ y ∈ xs, y.length ≤ 100)
    (h : ∀ c t s', Same s s' → (∀ b o, s.heap.get? b = some o → s'.heap.get? b = some o) → trainF xs size seg sh = some c → Q (.bytes c.toArray t) s')
    (hE : ∀ e a0 s', Same s s' → trainF xs size seg sh = none → Heap.FlyingW base outer e (.ref 45) a0 s'.heap → s.heap.UpToSlots s'.heap → E (.ref e) s') :
    wpAny (model prog w) A (call (.ref 107) [.ref sl, .int size t1, .int seg t2, .int sh t3]) Q E s := by
  obtain ⟨tl, hleast⟩ := g_least w
  refine wpAny_call ?_
  refine' enterR (K := KK w) (P := trainF xs size seg sh = none) (G := s.heap) (binds := [(Str.ofString "samples", .ref sl), (Str.ofString "size", .int size t1), (Str.ofString "segment", .int seg t2), (Str.ofString "shingle", .int sh t3)]) [] hfr hfun hbase (fun e a0 s' p a b c => hE e a0 s' a p b c) S hB (fun _ _ e => e) ?hown ?hnd ?ho ?hcd R ?hb ?h ?hpre ?hcn ?hdb ?hco ?hgen ?hk
  case hown => intro p hp; cases hp
  case hnd => exact .nil
  walk_at "enter"
  intro env A' E' s₁ hf hS hk1 F R1 hraise
  refine hideQ fun QF hQF => ?_
  dsimp only [initV] at F
  repeat' walk_at "w"
  rename Fm _ _ _ _ _ _ => F1
  have hlen : vs.length = xs.length := hv.1
  refine' Comp_k (s := { s₁ with toks := s₁.toks + 1 }) (ms := []) (stat := []) (V₁ := fun D => vTrain D size t1 seg t2 sh t3 none none none none none none) (mk_list R1.handled F1 (L.at (F1.keep _ _ hl))) (fun i items ms => ms = [] ∧ items = vs.take i) hS hf ⟨rfl, rfl⟩ (by lia) ?C (fun D => SA.mk []) (fun i items ms hj => by rw [hj.2, List.length_take]; lia) (fun h' hk => L.at (hk _ _ (by simp) (F1.keep _ _ hl))) ?turn ?fin
  case C => walk_at "compok"
  case turn =>
    intro G' cenv I D i v items ms' oI oD s₂ hG hi hv' hj S2 F2 QT hQT
    obtain ⟨rfl, rfl⟩ := hj
    obtain ⟨y, hy⟩ : ∃ y, xs[i]? = some y := ⟨xs[i]'(hv.1 ▸ hi), by simp [hv.1 ▸ hi]⟩
    obtain ⟨ty, hvy⟩ := hv.2 i y hy
    rw [hvy] at hv'; cases hv'
    clear F1 hS
    repeat' walk_at "w"
    rename Fm _ _ _ _ _ _ => F3
    rename Same _ _ => S3
    exact hQT _ _ ⟨_, _, ⟨rfl, by rw [List.take_add_one, hvy]; rfl⟩, by walk_at "vle", S3, F3⟩
  case fin =>
    intro D items ms' oD s₂ hj ⟨LD, _⟩ S2 F2
    obtain ⟨rfl, rfl⟩ := hj
    rw [List.take_length] at LD
    clear F1 hS
    repeat' walk_at "w"
    rename Sta _ _ => S
    rename Fm _ _ _ _ _ _ => F3
    refine new_call S (R1.less (by decide)) F3.inB (F3.has _ mem0) LD hv hs1 (by lia) hxs hxl fun x ox dx od c oc s₃ hS3 hk3 hx0 hd0 hc0 hne hx hd hc H => ?_
    have F4 : Fm B s.heap env [(c, oc), (dx, od), (x, ox), (D, oD)] (vTrain D size t1 seg t2 sh t3 none none none none none none) s₃.heap :=
      F3.adopt (new := [(c, oc), (dx, od), (x, ox)]) hk3 (fun p hp => by
        simp only [List.mem_cons, List.not_mem_nil, or_false] at hp
        rcases hp with rfl | rfl | rfl <;> assumption) (fun p hp => by
        simp only [List.mem_cons, List.not_mem_nil, or_false] at hp
        rcases hp with rfl | rfl | rfl <;> assumption) (by simp [Ne.symm H.nd, Ne.symm H.nx, Ne.symm hne])
    have S4 := S2.trans hS3
    clear F3 S2 hS3 hk3 hx0 hd0 hc0 hx hd hc
    repeat' walk_at "w"
    rename Fm _ _ _ _ _ _ => F5
    rename Same _ _ => S5
    rename LO _ [] => Lp
    rename Obj.dict _ = none => hpd
    rename TO _ _ => T5
    clear T5
    have F6 := F5.tail
    clear F5
    rename_i pl _ _ _ _ _ _ _ _
    refine While_fin (fun m own' V' => X11 fun (r k nn : Nat) (tr : Tok) (po oc' : Obj) (pvs : List Value) (ps : List Bs) (f : Bs → Option Int) (wo fo : Option Value) => N13 (own' = [(pl, po), (c, oc'), (dx, od), (x, ox), (D, oD)]) (V' = vTrain D size t1 seg t2 sh t3 (some (.ref x)) (some (.ref pl)) (some (.int r tr)) wo fo none) (LO po pvs) (po.dict = none) (BsAre pvs ps) (Sh prog w sh nn f x dx c ox od oc') (nn ≤ 10100 + 101 * (size - r)) (r ≤ size) (m = r) (r < k) (play xs sh seg (size + 1) (cntF xs sh) size = ps ++ play xs sh seg k f r) (ps.flatten.length + r ≤ size) (ps.length + r ≤ size))
      (fun own' V' => X6 fun (tr : Option Value) (po oc' : Obj) (pvs : List Value) (wo fo : Option Value) => N6 (own' = [(pl, po), (c, oc'), (dx, od), (x, ox), (D, oD)]) (V' = vTrain D size t1 seg t2 sh t3 (some (.ref x)) (some (.ref pl)) tr wo fo none) (LO po pvs) (BsAre pvs (play xs sh seg (size + 1) (cntF xs sh) size)) ((play xs sh seg (size + 1) (cntF xs sh) size).flatten.length ≤ size) ((play xs sh seg (size + 1) (cntF xs sh) size).length ≤ size))
      size S5 F6 ⟨size, size + 1, 10100, _, _, _, [], [], _, _, _, rfl, rfl, Lp, hpd, ⟨rfl, fun i x e => by simp at e⟩, H, by lia, Nat.le_refl _, rfl, Nat.lt_succ_self _, rfl, by simp, by simp⟩ ?_ ?_
    · intro m own' V' s₄ hj S7 F7 QT hQT
      obtain ⟨r, k, nn, tr, po, oc', pvs, ps, f, wo, fo, rfl, rfl, Lp', hpd', hps, H', hnn, hr, rfl, hk, hplay, hfl, hpn⟩ := hj
      clear F6 S5 H Lp hpd
      obtain ⟨k, rfl⟩ : ∃ k', k = k' + 1 := ⟨k - 1, by lia⟩
      repeat' walk_at "w"
      · rename Sta _ _ => S
        rename Fm _ _ _ _ _ _ => F8
        rename Same _ _ => S8
        rename ((sh : Int) ≤ (m : Int)) => hge
        rw [show min (seg : Int) (m : Int) = ((min seg m : Nat) : Int) by lia]
        refine best_call S R1 F8.inB (F8.has _ mem4) LD hv (F8.has _ mem3) (F8.has _ mem2) (F8.has _ mem1) H' hs1 (by lia) (by lia) hxs hxl fun l o u1 u2 s₅ hS5 hk5 hfr5 hl5 T5 => ?_
        have F9 := F8.adopt1 hk5 hfr5 hl5
        have S9 := S8.trans hS5
        have hbb := best_bound (xs := xs) (f := f) (sh := sh) (size := min seg m) hs1 (by lia)
        have hun : play xs sh seg (k + 1) f m = if (bestF xs f sh (min seg m)).1 = 0 then [] else (bestF xs f sh (min seg m)).2 :: play xs sh seg k (takeF f sh (bestF xs f sh (min seg m)).2 ((bestF xs f sh (min seg m)).2.length + 1 - sh)) (m - (bestF xs f sh (min seg m)).2.length) := by
          show (if m < sh then [] else _) = _
          rw [if_neg (by lia)]
        rw [hun] at hplay
        clear hun
        generalize bestF xs f sh (min seg m) = bm at T5 hbb hplay
        obtain ⟨bw, bf⟩ := bm
        dsimp only at T5 hbb hplay
        have hX := H'.X
        have hD := H'.D
        clear F8 S8
        repeat' walk_at "w"
        · rename Fm _ _ _ _ _ _ => F10
          rename Same _ _ => S10
          rename (bw == 0) = true => hw0
          have hw0' : bw = 0 := by simpa using hw0
          rw [if_pos hw0', List.append_nil] at hplay
          exact hQT _ _ ⟨_, _, ⟨_, _, _, _, _, _, rfl, rfl, Lp', hplay ▸ hps, by rw [hplay]; lia, by rw [hplay]; lia⟩, S10, F10.tail⟩
        · rename Sta _ _ => S
          rename Fm _ _ _ _ _ _ => F10
          rename Same _ _ => S10
          rename (bw == 0) = false => hw0
          have hw0' : bw ≠ 0 := by simpa using hw0
          rw [if_neg hw0'] at hplay
          obtain ⟨hb1, hb2⟩ := hbb hw0'
          have hBc : B.get? c = none := by
            cases q : B.get? c with
            | none => rfl
            | some o9 => have := F10.base _ _ q; rw [F10.off (c, oc') mem2] at this; cases this
          refine take_call S (R1.less (by decide)) F10.inB (F10.has _ mem4) (F10.has _ mem3) (F10.has _ mem2) hBc H' (by lia) hs1 (by lia) (by lia) fun oc2 s₆ hS6 hk6 hc6 H2 => ?_
          have F11 := F10.updA (oa2 _) hk6 hc6
          have S11 := S10.trans hS6
          clear F10 S10 hX hD H'
          have hpvs := hps.1
          repeat' walk_at "w"
          rename Fm _ _ _ _ _ _ => F12
          rename Same _ _ => S12
          rename LO _ (_ ++ _) => L12
          rw [show (m : Int) - (List.length bf : Int) = ((m - List.length bf : Nat) : Int) by lia] at F12
          refine hQT _ _ ⟨m - List.length bf, _, _, ?_, ⟨m - List.length bf, k, nn + (List.length bf + 1 - sh), _, _, oc2, _, ps ++ [bf], _, _, _, rfl, rfl, L12, by assumption, bsAre_snoc hps, H2, by lia, by lia, rfl, by lia, by rw [hplay]; simp, by rw [List.flatten_append, List.length_append]; simp only [List.flatten_cons, List.flatten_nil, List.append_nil]; lia, by simp; lia⟩, S12, F12.tail⟩
          lia
      · rename Fm _ _ _ _ _ _ => F8
        rename ¬ ((sh : Int) ≤ (m : Int)) => hge
        have hun : play xs sh seg (k + 1) f m = [] := by
          show (if m < sh then [] else _) = _
          rw [if_pos (by lia)]
        rw [hun, List.append_nil] at hplay
        exact hQT _ _ ⟨_, _, ⟨_, _, _, _, _, _, rfl, rfl, Lp', hplay ▸ hps, by rw [hplay]; lia, by rw [hplay]; lia⟩, S7, F8⟩
    · intro own' V' s₄ hj S7 F7
      obtain ⟨tr, po, oc', pvs, wo, fo, rfl, rfl, Lp', hps, hfl, hpl⟩ := hj
      clear F6 S5 H Lp hpd
      have hrev := bsAre_rev hps
      have hz1 : (play xs sh seg (size + 1) (cntF xs sh) size).reverse.flatten.length ≤ 1000000 := by rw [len_flat_rev]; lia
      have hz3 : xs.flatten.length ≤ 10000 := by
        have := flat_len hxl
        have h2 : xs.length * 100 ≤ 100 * 100 := Nat.mul_le_mul_right _ hxs
        lia
      have hz2 : xs.flatten.length ≤ 1000000 := by lia
      have hpvs := hps.1
      have htr : trainF xs size seg sh = (let c := (play xs sh seg (size + 1) (cntF xs sh) size).reverse.flatten; let c := if c.length < 8 then lastN 8 (xs.flatten ++ c) else c; if c.length < 8 then none else some c) := rfl
      have hzc : (play xs sh seg (size + 1) (cntF xs sh) size).reverse.flatten.length ≤ size := by rw [len_flat_rev]; exact hfl
      generalize play xs sh seg (size + 1) (cntF xs sh) size = pp at hps hfl hpl hrev hz1 hpvs htr hzc
      repeat' walk_at "w"
      · rename ((pp.reverse.flatten.length : Int) < 8) => hlt
        have hlt' : pp.reverse.flatten.length < 8 := by lia
        rename Fm _ _ _ _ _ _ => F9
        rw [pk_last] at F9 ⊢
        have hll : ((xs.flatten ++ pp.reverse.flatten).drop ((xs.flatten ++ pp.reverse.flatten).length - 8)).length ≤ 8 := by rw [List.length_drop]; lia
        dsimp only at htr
        rw [if_pos hlt'] at htr
        change trainF xs size seg sh = if ((xs.flatten ++ pp.reverse.flatten).drop ((xs.flatten ++ pp.reverse.flatten).length - 8)).length < 8 then none else some ((xs.flatten ++ pp.reverse.flatten).drop ((xs.flatten ++ pp.reverse.flatten).length - 8)) at htr
        generalize (xs.flatten ++ pp.reverse.flatten).drop ((xs.flatten ++ pp.reverse.flatten).length - 8) = cc at htr hll F9 ⊢
        repeat' walk_at "w"
        · rename ((cc.length : Int) < 8) => hcl
          rw [if_pos (by lia)] at htr
          refine raise_bad R1.handled ?_
          repeat' walk_at "w"
          rename Sta _ _ => S
          rename Fm _ _ _ _ _ _ => F9
          rename Same _ _ => S9
          refine bad_mk S (R1.less (by decide)) F9.inB fun e e1 dx' s5 hS5 hk5 hen he => ?_
          have F10 := F9.grow hk5
          refine ⟨e, e1, dx', rfl, F10.inK S, he, hraise e e1 dx' _ _ s5 htr (S9.trans hS5) F10.keep ?_ he F10⟩
          cases q : s.heap.get? e with
          | none => rfl
          | some o9 => rw [F9.keep _ _ q] at hen; cases hen
        · rename Fm _ _ _ _ _ _ => F9
          rename Same _ _ => S9
          rename ¬ ((cc.length : Int) < 8) => hcl
          rw [if_neg (by lia)] at htr
          exact hQF _ _ (h _ _ _ S9 F9.keep htr)
      · rename Fm _ _ _ _ _ _ => F9
        rename Same _ _ => S9
        rename ¬ ((pp.reverse.flatten.length : Int) < 8) => hge
        have hge' : ¬ pp.reverse.flatten.length < 8 := by lia
        dsimp only at htr
        rw [if_neg hge', if_neg hge'] at htr
        exact hQF _ _ (h _ _ _ S9 F9.keep htr)
theorem ints_take {vs : List Value} {ns : List Int} (h : IntsAre vs ns) : ∀ i : Nat, IntsAre (vs.take i) (ns.take i) := by
  induction h with
  | nil => intro i; simp; exact .nil
  | cons m u h ih => intro i; cases i with
    | zero => exact .nil
    | succ i => exact .cons _ _ (ih i)
noncomputable abbrev vJar (sc : Addr) : Vars := [(Str.ofString "script", .local, some (.ref sc)), (Str.ofString "sum", .globalImplicit, none)]
set_option maxHeartbeats 4000000 in
theorem jar_call {prog : Program} {w : World} {B : Heap} {A : Around} {E : Value → Shared → Prop} {s : Shared} {Q : Value → Shared → Prop} {sc : Addr} {os : Obj} {vs : List Value} {ns : List Int}
    (S : Sta (KK w) B) (R : Room A 2) (hB : ∀ b o, B.get? b = some o → s.heap.get? b = some o) (hs : s.heap.get? sc = some os) (L : LO os vs) (hi : IntsAre vs ns) (hn : ns.length ≤ 63)
    (h : ∀ jar oj row orow s', Same s s' → (∀ c o, s.heap.get? c = some o → s'.heap.get? c = some o) → s.heap.get? jar = none → s.heap.get? row = none → jar ≠ row → s'.heap.get? jar = some oj → s'.heap.get? row = some orow → JarO oj orow row 0 → Q (.ref jar) s') :
    wpAny (model prog w) A (call (.ref 112) [.ref sc]) Q E s := by
  refine wpAny_call ?_
  refine' enter (K := KK w) (G := s.heap) (binds := [(Str.ofString "script", .ref sc)]) [] S hB (fun _ _ e => e) ?hown ?hnd ?ho ?hcd R ?hb ?h ?hpre ?hcn ?hdb ?hco ?hgen ?hk
  case hown => intro p hp; cases hp
  case hnd => exact .nil
  walk_at "enter"
  intro env A' s₁ hf hS hk F R1
  refine hideQ fun QF hQF => ?_
  dsimp only [initV] at F
  have hlen := hi.length
  repeat' walk_at "w"
  rename Fm _ _ _ _ _ _ => F1
  rename Same _ _ => S1
  rename LO _ (pk _ _ _) => L60
  have hi60 := ints_pk hi none (some 60)
  have hl60 : (pk vs none (some 60)).length ≤ 60 := by
    have h9 : kms_lo none vs.length = 0 := rfl
    have h8 : kms_hi (some 60) vs.length = min 60 vs.length := rfl
    rw [pk, h9, h8, List.drop_zero, Nat.sub_zero, List.length_take]
    lia
  refine' Comp_v (ms := []) (stat := _) (mk_list R1.handled F1 (L60.at (F1.has _ mem0))) (fun i items ms => ms = [] ∧ ∃ ns', IntsAre items ns' ∧ ns'.length = i ∧ ∀ n ∈ ns', 0 ≤ n) S1 hf ⟨rfl, [], .nil, rfl, fun _ h => nomatch h⟩ (by lia) ?C (fun i items ms hj => by obtain ⟨_, ns', h1, h2, _⟩ := hj; have := h1.length; lia) (fun h' hk => L60.at (hk _ _ (by simp) (F1.has _ mem0))) ?turn ?fin
  case C => walk_at "compok"
  case turn =>
    intro G' cenv I D i v items ms' oI oD s₂ hG hi' hv hj S2 F2 QT hQT
    obtain ⟨tt, rfl⟩ := IntsAre.int_at hi60 i v hv
    obtain ⟨rfl, ns', hit, hnl, hn0⟩ := hj
    clear F1 S1
    repeat' walk_at "w"
    rename Fm _ _ _ _ _ _ => F3
    rename Same _ _ => S3
    refine hQT _ _ ⟨_, _, ⟨rfl, _, ints_snoc hit _ _, by simp [hnl], fun n hm => ?_⟩, by walk_at "vle", S3, F3⟩
    rcases List.mem_append.mp hm with hm | hm
    · exact hn0 n hm
    · rw [List.mem_singleton.mp hm]; exact Int.natCast_nonneg _
  case fin =>
    intro D items ms' oD s₂ hj ⟨LD, _⟩ S2 F2
    obtain ⟨rfl, ns', hit, hnl, hn0⟩ := hj
    clear F1 S1
    repeat' walk_at "w"
    rename Fm _ _ _ _ _ _ => F1
    rename Same _ _ => S1
    refine' Comp_v (ms := []) (stat := _) (mk_list R1.handled F1 (L.at (F1.keep _ _ hs))) (fun i items ms => ms = [] ∧ ∃ ns', IntsAre items ns' ∧ ns'.length = i ∧ ∀ n ∈ ns', 0 ≤ n) S1 hf ⟨rfl, [], .nil, rfl, fun _ h => nomatch h⟩ (by lia) ?C2 (fun i items ms hj => by obtain ⟨_, ns', h1, h2, _⟩ := hj; have := h1.length; lia) (fun h' hk => L.at (hk _ _ (by simp) (F1.keep _ _ hs))) ?turn2 ?fin2
    case C2 => walk_at "compok"
    case turn2 =>
      intro G' cenv I D2 i v items2 ms' oI oD2 s₂ hG hi' hv hj S2 F2 QT hQT
      obtain ⟨tt, rfl⟩ := IntsAre.int_at hi i v hv
      obtain ⟨rfl, ns2, hit2, hnl2, hn2⟩ := hj
      clear F1 S1
      repeat' walk_at "w"
      rename Fm _ _ _ _ _ _ => F3
      rename Same _ _ => S3
      refine hQT _ _ ⟨_, _, ⟨rfl, _, ints_snoc hit2 _ _, by simp [hnl2], fun n hm => ?_⟩, by walk_at "vle", S3, F3⟩
      rcases List.mem_append.mp hm with hm | hm
      · exact hn2 n hm
      · rw [List.mem_singleton.mp hm]; exact Int.natCast_nonneg _
    case fin2 =>
      intro D2 items2 ms' oD2 s₂ hj ⟨LD2, _⟩ S2 F2
      obtain ⟨rfl, ns2, hit2, hnl2, hn2⟩ := hj
      clear F1 S1
      repeat' walk_at "w"
      rename Fm _ _ _ _ _ _ => F3
      rename Same _ _ => S3
      rename LO _ [_, _, _] => Lj
      have hlt := hnl
      exact hQF _ _ (h _ _ D oD _ S3 F3.keep (F3.off _ mem0) (F3.off (D, oD) mem2) (F3.ne01 (i := 0) (j := 2) rfl rfl (by decide)) (F3.has _ mem0) (F3.has (D, oD) mem2) ⟨0, _, _, _, _, ns', Lj, LD, hit, by lia, by decide, by decide, Int.fmod_nonneg_of_pos _ (by decide), Int.fmod_lt_of_pos _ (by decide), hn0⟩)
theorem JarO.mono {oj orow : Obj} {row : Addr} {b c : Int} (J : JarO oj orow row b) (h : b ≤ c) : JarO oj orow row c := by
  obtain ⟨a, t1, sa, t2, vs, ns, h1, h2, h3, h4, h5, h6, h7⟩ := J
  exact ⟨a, t1, sa, t2, vs, ns, h1, h2, h3, h4, h5, by lia, h7⟩
section
variable {prog : Program} {w : World} {A : Around} {E : Value → Shared → Prop} {s₀ s : Shared} {B G : Heap} {env : Env} {own : List (Addr × Obj)} {V : Vars}
theorem pickF {own1 : Obj → List (Addr × Obj)} {own2 : Obj → Obj → List (Addr × Obj)} {jar row : Addr} {oj orow : Obj} {b many : Int} {t : Tok} {Q : Value → Shared → Prop} (S : Sta (KK w) B) (R : Room A 2) (hS : Same s₀ s) (F : Fm B G env own V s.heap)
    (J : JarO oj orow row b) (h1 : ∀ o', OA own jar oj o' (own1 o')) (h2 : ∀ o' o'', OA (own1 o') row orow o'' (own2 o' o'')) (hne : jar ≠ row) (hb : b < 10 ^ 9) (hm : 0 < many) (hm2 : many < 1000)
    (h : ∀ (d : Int) (t' : Tok) (oj' orow' : Obj) (s' : Shared), Same s₀ s' → 0 ≤ d → d < many → JarO oj' orow' row (b + 1) → Fm B G env (own2 oj' orow') V s'.heap → Q (.int d t') s') :
    wpAny (model prog w) A (call (.ref 119) [.ref jar, .int many t]) Q E s := by
  have m1 : (jar, oj) ∈ own := (h1 oj).mem
  have m2 : (row, orow) ∈ own := by
    rcases (h1 oj).others (h2 oj orow).mem with e | hm
    · exact absurd (congrArg Prod.fst e).symm hne
    · exact hm
  exact pick_call S R F.inB (F.has _ m1) (F.has _ m2) hne (F.offB m1) (F.offB m2) J hb hm hm2 fun d t' oj' orow' s' hS' h0 hlt J' hk hj hr =>
    h d t' oj' orow' s' (hS.trans hS') h0 hlt J' (F.upd2 (h1 oj') (h2 oj' orow') hne hk hj hr)
theorem getItem_ints {l : Addr} {vs : List Value} {ns : List Int} {k : Int} {u : Tok} {value slice : PySem.Expr} {Q : Value → Shared → Prop} (hl : s.heap.IsList l vs.toArray) (hi : IntsAre vs ns) (h0 : 0 ≤ k) (hhi : k < ns.length) (hz : ns.length < 1000000) (h : ∀ m t, m ∈ ns → Q (.int m t) s)
    (hs : subscripted slice false (.ref l) (.int k u) = operate [.ref l, .int k u] (getItem (.ref l) (.int k u)) := by with_unfolding_all rfl) :
    wpAny (model prog w) A (subscriptTail value slice (.ref l) (.int k u)) Q E s := by
  obtain ⟨m, t, hx, hm⟩ := pickItem hi h0 hhi
  exact getItem_listF hl h0 (by lia) hx (h m t hm) hs
end
local macro_rules | `(tactic| walk_at "room") => `(tactic| (first | exact Room.less (by assumption) (by decide)))
local macro_rules | `(tactic| walk_at "call ref") => `(tactic| ((with_reducible rename Same _ _ => kS); (with_reducible rename Fm _ _ _ _ _ _ => kF); (with_reducible rename Sta _ _ => kT); (k_dflt (refine' pickF kT ?R kS kF ?J ?h1 ?h2 ?hne ?hb ?hm ?hm2 ?_)); (case R => walk_at "room"); (case J => assumption); (case h1 => walk_at "oa"); (case h2 => intro _; walk_at "oa"); (case hne => assumption); (case hb => lia); (case hm => first | decide | lia); (case hm2 => first | decide | lia); clear kF kS; intro _ _ _ _ _ _ _ _ _ _))
local macro_rules | `(tactic| walk_at "eval Dict") => `(tactic| ((with_reducible rename Same _ _ => kS); (with_reducible rename Fm _ _ _ _ _ _ => kF); (with_reducible rename Sta _ _ => kT); (with_reducible refine' new_dmk kT kS kF ?_); clear kF kS; intro _ _ _ _ _ _ _))
local macro_rules | `(tactic| walk_at "setItem ref bytes") => `(tactic| ((with_reducible rename Same _ _ => kS); (with_reducible rename Fm _ _ _ _ _ _ => kF); (with_reducible refine' set_dmk kS kF ?O ?D ?z ?_); (case O => walk_at "oa"); (case D => assumption); (case z => walk_at "fit"); clear kF kS; intro _ _ _ _ _))
local macro_rules | `(tactic| walk_at "subscriptTail item") => `(tactic| (first | ((with_reducible refine' getItem_listF ?hl ?h0 ?h1 ?hx ?_ ?hs); (case hl => walk_at "lst"); (case h0 => first | decide | lia); (case h1 => first | decide | lia); (case hx => first | rfl | assumption); (case hs => with_unfolding_all rfl)) | ((with_reducible refine' item_tupleT ?ht ?a ?b ?hj ?hx ?_ ?hs); (case ht => walk_at "tpl"); (case a => decide); (case b => decide); (case hj => rfl); (case hx => rfl); (case hs => with_unfolding_all rfl))))
local macro_rules | `(tactic| walk_at "subscriptTail") => `(tactic| (first | ((fail_if_success (with_reducible show wpAny _ _ (subscriptTail (PySem.Expr.Name _ _) _ _ _) _ _ _)); (with_reducible show wpAny _ _ (subscriptTail _ _ (Value.ref _) (Value.ref _)) _ _ _); k_dflt (refine kba_turn (value' := PySem.Expr.Name (PySem.Str.ofString "_") ⟨0, 0, 0, 0⟩) (fun _ => rfl) ?_); walk_at "subscriptTail slice") | ((with_reducible show wpAny _ _ (subscriptTail _ _ (Value.ref _) (Value.int _ _)) _ _ _); walk_at "subscriptTail item") | ((with_reducible show wpAny _ _ (subscriptTail _ _ (Value.ref _) (Value.bytes _ _)) _ _ _); walk_at "subscriptTail dict") | ((with_reducible show wpAny _ _ (subscriptTail _ _ (Value.bytes _ _) (Value.ref _)) _ _ _); walk_at "subscriptTail bytes") | ((with_reducible show wpAny _ _ (subscriptTail _ _ (Value.ref _) (Value.ref _)) _ _ _); walk_at "subscriptTail slice")))
local macro_rules | `(tactic| walk_at "fit") => `(tactic| (first | assumption | lia | (refine Nat.le_trans (Nat.add_le_add_left (length_pk_le _ _ _) _) ?_; lia) | (refine Nat.le_trans (Nat.add_le_add_right (length_pk_le _ _ _) _) ?_; lia) | (simp only [List.length_append]; lia) | (simp only [List.length_cons, List.length_nil]; lia) | (have hLen9 := IntsAre.length (by assumption); lia)))
theorem mem_pk {α : Type} {l : List α} {lo hi : Option Int} {x : α} (h : x ∈ pk l lo hi) : x ∈ l := List.mem_of_mem_drop (List.mem_of_mem_take h)
theorem in_app {a b : List Int} (ha : ∀ n ∈ a, 0 ≤ n ∧ n < 256) (hb : ∀ n ∈ b, 0 ≤ n ∧ n < 256) : ∀ n ∈ a ++ b, 0 ≤ n ∧ n < 256 := fun n hm => (List.mem_append.mp hm).elim (ha n) (hb n)
theorem length_pk_to {α : Type} (l : List α) (n : Nat) : (pk l none (some (n : Int))).length ≤ n := by
  have h9 : kms_lo none l.length = 0 := rfl
  have h8 : kms_hi (some (n : Int)) l.length = min n l.length := by
    unfold kms_hi
    show (if (n : Int) < 0 then _ else min (n : Int).toNat l.length) = _
    rw [if_neg (by lia), Int.toNat_natCast]
  rw [pk, h9, h8, List.drop_zero, Nat.sub_zero, List.length_take]; lia
theorem hide2_none {h : Heap} {a b c : Addr} (e : (hideAll h [a, b]).get? c = none) (h1 : c ≠ a) (h2 : c ≠ b) : h.get? c = none := by
  cases q : h.get? c with
  | none => rfl
  | some o => rw [hideAll_get _ q (by simp [h1, h2])] at e; cases e
noncomputable abbrev vSam (jar : Addr) (sh : Nat) (t1 : Tok) (edge : Nat) (t2 : Tok) (lo fo k wo ro tu wa : Option Value) : Vars := [(Str.ofString "jar", .cell, some (.ref jar)), (Str.ofString "shingle", .local, some (.int sh t1)), (Str.ofString "edge", .local, some (.int edge t2)), (Str.ofString "low", .cell, lo), (Str.ofString "found", .local, fo), (Str.ofString "k", .local, k), (Str.ofString "word", .local, wo), (Str.ofString "row", .local, ro), (Str.ofString "turn", .local, tu), (Str.ofString "way", .local, wa), (Str.ofString "_law_pick", .globalImplicit, none), (Str.ofString "range", .globalImplicit, none), (Str.ofString "len", .globalImplicit, none), (Str.ofString "bytes", .globalImplicit, none)]
set_option maxHeartbeats 4000000 in
theorem samples_call {prog : Program} {w : World} {B : Heap} {A : Around} {E : Value → Shared → Prop} {s : Shared} {Q : Value → Shared → Prop} {jar row : Addr} {oj orow : Obj} {b : Int} {sh edge : Nat} {t1 t2 : Tok}
    (S : Sta (KK w) B) (R : Room A 3) (hB : ∀ b o, B.get? b = some o → s.heap.get? b = some o) (hj : s.heap.get? jar = some oj) (hr : s.heap.get? row = some orow) (hne : jar ≠ row)
    (hBj : B.get? jar = none) (hBr : B.get? row = none) (J : JarO oj orow row b) (hb : b ≤ 1000) (hs1 : 1 ≤ sh) (hs2 : sh ≤ 4) (he : edge ≤ 12)
    (h : ∀ l ol vs xs s', Same s s' → (∀ c o, c ≠ jar → c ≠ row → s.heap.get? c = some o → s'.heap.get? c = some o) → s.heap.get? l = none → s'.heap.get? l = some ol → LO ol vs → BsAre vs xs → xs.length ≤ 4 → (∀ y ∈ xs, y.length ≤ 12) → Q (.ref l) s') :
    wpAny (model prog w) A (call (.ref 124) [.ref jar, .int sh t1, .int edge t2]) Q E s := by
  refine wpAny_call ?_
  refine' enter (K := KK w) (G := hideAll s.heap [jar, row]) (binds := [(Str.ofString "jar", .ref jar), (Str.ofString "shingle", .int sh t1), (Str.ofString "edge", .int edge t2)]) [(jar, oj), (row, orow)] S ?hBG (fun c o e => of_hideAll _ e) ?hown ?hnd ?ho ?hcd R ?hb ?h ?hpre ?hcn ?hdb ?hco ?hgen ?hk
  case hBG => exact fun c o e => hideAll_get _ (hB c o e) (by simp only [List.mem_cons, List.not_mem_nil, or_false, not_or]; exact ⟨fun q => (by rw [q, hBj] at e; cases e), fun q => (by rw [q, hBr] at e; cases e)⟩)
  case hown =>
    intro p hp
    simp only [List.mem_cons, List.not_mem_nil, or_false] at hp
    rcases hp with rfl | rfl
    · exact ⟨hj, hideAll_none _ (by simp)⟩
    · exact ⟨hr, hideAll_none _ (by simp)⟩
  case hnd => simp [hne]
  walk_at "enter"
  intro env A' s₁ hf hS hk F R1
  refine hideQ fun QF hQF => ?_
  dsimp only [initV] at F
  repeat' walk_at "w"
  rename LO _ [_, _, _, _] => L4
  rename Fm _ _ _ _ _ _ => F1
  rename Same _ _ => S1
  refine getItem_ints (L4.at (F1.has _ (by walk_at "mem"))) (.cons _ _ (.cons _ _ (.cons _ _ (.cons _ _ .nil)))) (by assumption) (by assumption) (by decide) fun low tl hlow => ?_
  have hlow0 : 0 ≤ low ∧ low ≤ 254 := by simp at hlow; omega
  clear hlow
  repeat' walk_at "w"
  rename IsRange _ _ _ _ _ _ _ _ => hr
  rename Fm _ _ _ _ _ _ => F1
  rename Same _ _ => S1
  rename LO _ [] => Lf
  rename Obj.dict _ = none => hfd
  rename_i ofd fl _ _ _ _ _ _ _ _ _ _ _ _ _ _ _ _ _ _ _ _ _
  have F2 := F1.sel [3, 4, 1]
  change Fm _ _ _ [(_, _), (_, _), (_, _)] _ _ at F2
  clear F1 L4
  refine' Comp_k (ms := [(_, _), (_, _)]) (stat := [(_, _)]) (V₁ := fun D => vSam jar sh t1 edge t2 (some (.int low tl)) (some (.ref _)) none (some (.ref D)) none none none) (mk_range R1.handled F2 hr (by lia) (by lia)) (fun i items ms => ∃ oj' orow', ms = [(jar, oj'), (row, orow')] ∧ JarO oj' orow' row (b + 2 + i) ∧ ∃ ns', IntsAre items ns' ∧ ns'.length = i ∧ ∀ n ∈ ns', 0 ≤ n ∧ n < 256) S1 hf ⟨_, _, rfl, JarO.mono (by assumption) (by lia), [], .nil, rfl, fun _ h => nomatch h⟩ (by lia) ?C (fun D => sa6) (fun i items ms hj => by obtain ⟨_, _, _, _, ns', h1, h2, _⟩ := hj; have := h1.length; lia) (fun _ _ => trivial) ?turn ?fin
  case C => walk_at "compok"
  case turn =>
    intro G' cenv I D i v items ms' oI oD s₂ hG hi hv hj S2 F3 QT hQT
    obtain ⟨tt, rfl⟩ := hv
    obtain ⟨oj', orow', rfl, J', ns', hit, hnl, hn0⟩ := hj
    clear F2 S1
    repeat' walk_at "w"
    rename Fm _ _ _ _ _ _ => F4
    rename Same _ _ => S4
    refine hQT _ _ ⟨_, _, ⟨_, _, rfl, JarO.mono (by assumption) (by lia), _, ints_snoc hit _ _, by simp [hnl], fun n hm => ?_⟩, by walk_at "vle", S4, F4⟩
    rcases List.mem_append.mp hm with hm | hm
    · exact hn0 n hm
    · rw [List.mem_singleton.mp hm]; lia
  case fin =>
    intro D items ms' oD s₂ hj ⟨LD, _⟩ S2 F3
    obtain ⟨oj', orow', rfl, J', ns', hit, hnl, hn0⟩ := hj
    clear F2 S1
    simp only [List.cons_append, List.nil_append] at F3
    repeat' walk_at "w"
    rename LO _ [_, _, _, _, _, _, _, _, _, _, _] => L11
    rename Fm _ _ _ _ _ _ => F4
    rename Same _ _ => S4
    refine getItem_ints (L11.at (F4.has _ (by walk_at "mem"))) (.cons _ _ (.cons _ _ (.cons _ _ (.cons _ _ (.cons _ _ (.cons _ _ (.cons _ _ (.cons _ _ (.cons _ _ (.cons _ _ (.cons _ _ (.nil)))))))))))) (by assumption) (by assumption) (by decide) fun many tm hmany => ?_
    have hmany0 : 0 ≤ many ∧ many ≤ 4 := by simp at hmany; omega
    clear hmany
    have hwl : 1 ≤ items.length ∧ items.length ≤ 7 := by have := hit.length; lia
    repeat' walk_at "w"
    rename IsRange _ _ _ _ _ _ _ _ => hr2
    rename Fm _ _ _ _ _ _ => F5
    rename Same _ _ => S5
    have F6 := F5.sel [4, 1, 2, 3]
    change Fm _ _ _ [(_, _), (_, _), (_, _), (_, _)] _ _ at F6
    clear F5 L11
    refine For_it (mk_range R1.handled F6 hr2 (by lia) (by lia)) (fun k own' V' => X9 fun (oj' orow' of' : Obj) (bs : List Value) (xs : List Bs) (kk ro tu wa : Option Value) => N8 (own' = [(fl, of'), (D, oD), (jar, oj'), (row, orow')]) (V' = vSam jar sh t1 edge t2 (some (.int low tl)) (some (.ref fl)) kk (some (.ref D)) ro tu wa) (LO of' bs) (of'.dict = none) (BsAre bs xs) (xs.length = k) ((∀ y ∈ xs, y.length ≤ 12)) (JarO oj' orow' row (b + 20 + 20 * k))) S5 ⟨_, _, _, [], [], _, _, _, _, rfl, rfl, Lf, hfd, ⟨rfl, fun i x e => by simp at e⟩, rfl, (fun _ h => nomatch h), JarO.mono (by assumption) (by lia)⟩ (fun _ _ _ _ _ _ => trivial) ?_ ?_
    · intro k v own' V' I oI s₃ hk' hv hj S6 F7 QT hQT
      obtain ⟨tk, rfl⟩ := hv
      obtain ⟨oj2, or2, of2, bs, xs, kk, ro, tu, wa, rfl, rfl, Lf2, hfd2, hbs, hxl, hx12, J2⟩ := hj
      clear F6 S5
      repeat' walk_at "w"
      rename LO _ [_, _, _, _, _, _] => L6
      rename Fm _ _ _ _ _ _ => F8
      rename Same _ _ => S8
      refine getItem_ints (L6.at (F8.has _ (by walk_at "mem"))) (.cons _ _ (.cons _ _ (.cons _ _ (.cons _ _ (.cons _ _ (.cons _ _ (.nil))))))) (by assumption) (by assumption) (by decide) fun many2 tm2 hmany2 => ?_
      have hmany20 : 0 ≤ many2 ∧ many2 ≤ 3 := by simp at hmany2; omega
      clear hmany2
      repeat' walk_at "w"
      rename IsRange _ _ _ _ _ _ _ _ => hr3
      rename Fm _ _ _ _ _ _ => F9
      rename Same _ _ => S9
      rename LO _ [] => Lr0
      rename_i orl rl _ _ _ _ _ _ _ _ _ _ _ _ _ _ _ _ _ _ _ _
      have F10 := F9.sel [1, 2, 3, 4, 5, 6]
      change Fm _ _ _ [(_, _), (_, _), (_, _), (_, _), (_, _), (_, _)] _ _ at F10
      clear F9 L6
      refine For_it (mk_range R1.handled F10 hr3 (by lia) (by lia)) (fun m own' V' => X8 fun (oj' orow' orl' : Obj) (rl' : Addr) (rs : List Value) (ms : List Int) (tu wa : Option Value) => N7 (own' = [(rl', orl'), (I, oI), (fl, of2), (D, oD), (jar, oj'), (row, orow')]) (V' = vSam jar sh t1 edge t2 (some (.int low tl)) (some (.ref fl)) (some (.int k tk)) (some (.ref D)) (some (.ref rl')) tu wa) (LO orl' rs) (IntsAre rs ms) ((∀ n ∈ ms, 0 ≤ n ∧ n < 256)) (rs.length ≤ 10 * m) (JarO oj' orow' row (b + 20 + 20 * k + 1 + 5 * m))) S9 ⟨_, _, _, _, [], [], _, _, rfl, rfl, Lr0, .nil, (fun _ h => nomatch h), by simp, JarO.mono (by assumption) (by lia)⟩ (fun _ _ _ _ _ _ => trivial) ?_ ?_
      · intro m v own' V' I2 oI2 s₄ hm' hv hj S10 F11 QT hQT
        obtain ⟨tm', rfl⟩ := hv
        obtain ⟨oj3, or3, orl', rl', rs, ms, tu, wa, rfl, rfl, Lr, hri, hrn, hrl, J3⟩ := hj
        clear F10 S9
        repeat' walk_at "w"
        · rename Fm _ _ _ _ _ _ => F12
          rename Same _ _ => S12
          rename LO _ (_ ++ _) => Lnew
          exact hQT _ _ ⟨_, _, ⟨_, _, _, _, _, _, _, _, rfl, rfl, Lnew, hri.append hit, in_app hrn hn0, by simp; lia, JarO.mono (by assumption) (by lia)⟩, S12, F12.sel [1, 0, 3, 4, 5, 6, 7]⟩
        · rename Fm _ _ _ _ _ _ => F12
          rename Same _ _ => S12
          rename LO _ (_ ++ _) => Lnew
          exact hQT _ _ ⟨_, _, ⟨_, _, _, _, _, _, _, _, rfl, rfl, Lnew, hri.append (ints_pk hit _ _), in_app hrn (fun n hm => hn0 n (mem_pk hm)), by rw [List.length_append]; exact Nat.le_trans (Nat.add_le_add_left (length_pk_le _ _ _) _) (by lia), JarO.mono (by assumption) (by lia)⟩, S12, F12.sel [2, 0, 4, 5, 6, 7, 8]⟩
        · rename IsRange _ _ _ _ _ _ _ _ => hr4
          rename Fm _ _ _ _ _ _ => F12
          rename Same _ _ => S12
          have F13 := F12.sel [5, 6, 0, 1, 2, 3, 4]
          change Fm _ _ _ [(_, _), (_, _), (_, _), (_, _), (_, _), (_, _), (_, _)] _ _ at F13
          clear F12
          refine' Comp_v (ms := [(_, _), (_, _)]) (stat := [(_, _), (_, _), (_, _), (_, _), (_, _)]) (mk_range R1.handled F13 hr4 (by lia) (by lia)) (fun i items ms => ∃ oj' orow', ms = [(jar, oj'), (row, orow')] ∧ JarO oj' orow' row (b + 20 + 20 * k + 1 + 5 * m + 2 + i) ∧ ∃ ns', IntsAre items ns' ∧ ns'.length = i ∧ ∀ n ∈ ns', 0 ≤ n ∧ n < 256) S12 hf ⟨_, _, rfl, JarO.mono (by assumption) (by lia), [], .nil, rfl, fun _ h => nomatch h⟩ (by lia) ?C4 (fun i items ms hj => by obtain ⟨_, _, _, _, ns', h1, h2, _⟩ := hj; have := h1.length; lia) (fun _ _ => trivial) ?turn4 ?fin4
          case C4 => walk_at "compok"
          case turn4 =>
            intro G' cenv I4 D4 i v items4 ms' oI4 oD4 s₂ hG hi hv hj S2 F3 QT hQT
            obtain ⟨tt, rfl⟩ := hv
            obtain ⟨oj', orow', rfl, J', ns', hit', hnl', hn'⟩ := hj
            clear F13 S12
            repeat' walk_at "w"
            rename Fm _ _ _ _ _ _ => F4
            rename Same _ _ => S4
            refine hQT _ _ ⟨_, _, ⟨_, _, rfl, JarO.mono (by assumption) (by lia), _, ints_snoc hit' _ _, by simp [hnl'], fun n hm => ?_⟩, by walk_at "vle", S4, F4⟩
            rcases List.mem_append.mp hm with hm | hm
            · exact hn' n hm
            · rw [List.mem_singleton.mp hm]; lia
          case fin4 =>
            intro D4 items4 ms' oD4 s₅ hj ⟨LD4, _⟩ S13 F14
            obtain ⟨oj4, or4, rfl, J4, ns4, hit4, hnl4, hn4⟩ := hj
            clear F13 S12
            simp only [List.cons_append, List.nil_append] at F14
            have hl4 := hit4.length
            repeat' walk_at "w"
            rename Fm _ _ _ _ _ _ => F12
            rename Same _ _ => S12
            rename LO _ (_ ++ _) => Lnew
            exact hQT _ _ ⟨_, _, ⟨_, _, _, _, _, _, _, _, rfl, rfl, Lnew, hri.append hit4, in_app hrn hn4, by simp; lia, JarO.mono (by assumption) (by lia)⟩, S12, F12.sel [4, 0, 6, 7, 8, 2, 3]⟩
        · rename Fm _ _ _ _ _ _ => F12
          rename Same _ _ => S12
          rename LO _ (_ ++ _) => Lnew
          exact hQT _ _ ⟨_, _, ⟨_, _, _, _, _, _, _, _, rfl, rfl, Lnew, hri.append (.cons _ _ .nil), in_app hrn (fun n hm => by rw [List.mem_singleton.mp hm]; lia), by simp; lia, JarO.mono (by assumption) (by lia)⟩, S12, F12.sel [2, 0, 4, 5, 6, 7, 8]⟩
      · intro own' V' s₄ hj S10 F11
        obtain ⟨oj3, or3, orl', rl', rs, ms, tu, wa, rfl, rfl, Lr, hri, hrn, hrl, J3⟩ := hj
        clear F10 S9
        have hpk : ∀ n ∈ pk ms none (some (edge : Int)), 0 ≤ n ∧ n < 256 := fun n hm => hrn n (mem_pk hm)
        have hpl := length_pk_to ms edge
        have hbl := hbs.1
        repeat' walk_at "w"
        rename Fm _ _ _ _ _ _ => F12
        rename Same _ _ => S12
        rename LO _ (_ ++ _) => Lnew
        refine hQT _ _ ⟨_, _, ⟨_, _, _, _, xs ++ [_], _, _, _, _, rfl, rfl, Lnew, by assumption, bsAre_snoc hbs, by simp; lia, fun y hy => ?_, JarO.mono (by assumption) (by lia)⟩, S12, F12.sel [2, 3, 4, 5, 6]⟩
        rcases List.mem_append.mp hy with hy | hy
        · exact hx12 y hy
        · rw [List.mem_singleton.mp hy]; lia
    · intro own' V' s₃ hj S6 F7
      obtain ⟨oj2, or2, of2, bs, xs, kk, ro, tu, wa, rfl, rfl, Lf2, hfd2, hbs, hxl, hx12, J2⟩ := hj
      clear F6 S5
      repeat' walk_at "w"
      rename Fm _ _ _ _ _ _ => F12
      rename Same _ _ => S12
      exact hQF _ _ (h _ _ _ _ _ S12 (keep2 F12) (hide2_none (F12.off _ mem0) (F12.ne01 (i := 0) (j := 2) rfl rfl (by decide)) (F12.ne01 (i := 0) (j := 3) rfl rfl (by decide))) (F12.has _ mem0) Lf2 hbs (by lia) hx12)
noncomputable def cntIn (xs : List Bs) (p : Bs) : Nat := (xs.filter fun y => isIn p y).length
noncomputable def shP (xs : List Bs) (st : (Bs → Option Int) × List Bs) (p : Bs) : (Bs → Option Int) × List Bs :=
  if 1 < cntIn xs p then (fun y => if p = y then some (cntIn xs p : Int) else st.1 y, if p ∈ st.2 then st.2 else st.2 ++ [p]) else st
noncomputable def shX (xs : List Bs) (sh : Nat) (st : (Bs → Option Int) × List Bs) (x : Bs) : (Bs → Option Int) × List Bs := (List.range (x.length + 1 - sh)).foldl (fun st i => shP xs st (cut x i sh)) st
noncomputable def sharedF (xs : List Bs) (sh : Nat) : (Bs → Option Int) × List Bs := xs.foldl (shX xs sh) (fun _ => none, [])
noncomputable abbrev vShd (sl : Addr) (sh : Nat) (t1 : Tok) (dl : Addr) (te at' ma : Option Value) : Vars := [(Str.ofString "samples", .local, some (.ref sl)), (Str.ofString "shingle", .cell, some (.int sh t1)), (Str.ofString "found", .local, some (.ref dl)), (Str.ofString "text", .cell, te), (Str.ofString "at", .cell, at'), (Str.ofString "many", .local, ma), (Str.ofString "range", .globalImplicit, none), (Str.ofString "len", .globalImplicit, none)]
theorem filt_succ {xs : List Bs} {i : Nat} {z : Bs} {q : Bs → Bool} (hz : xs[i]? = some z) : ((xs.take (i + 1)).filter q).length = ((xs.take i).filter q).length + if q z = true then 1 else 0 := by
  rw [take_succ' hz, List.filter_append, List.length_append]
  by_cases h : q z = true
  · rw [if_pos h]; simp [h]
  · rw [if_neg h]; simp [h]
set_option maxHeartbeats 4000000 in
theorem shared_call {prog : Program} {w : World} {B : Heap} {A : Around} {E : Value → Shared → Prop} {s : Shared} {Q : Value → Shared → Prop} {sl : Addr} {ol : Obj} {sh : Nat} {t1 : Tok} {vs : List Value} {xs : List Bs}
    (S : Sta (KK w) B) (R : Room A 2) (hB : ∀ b o, B.get? b = some o → s.heap.get? b = some o) (hl : s.heap.get? sl = some ol) (L : LO ol vs) (hv : BsAre vs xs) (hs1 : 1 ≤ sh) (hs2 : sh ≤ 4) (hxs : xs.length ≤ 4) (hxl : ∀ y ∈ xs, y.length ≤ 12)
    (h : ∀ d od s', Same s s' → (∀ c o, s.heap.get? c = some o → s'.heap.get? c = some o) → s.heap.get? d = none → s'.heap.get? d = some od → (d == sysModules) = false → DMK prog w od 100 (sharedF xs sh).1 (sharedF xs sh).2 → Q (.ref d) s') :
    wpAny (model prog w) A (call (.ref 129) [.ref sl, .int sh t1]) Q E s := by
  refine wpAny_call ?_
  refine' enter (K := KK w) (G := s.heap) (binds := [(Str.ofString "samples", .ref sl), (Str.ofString "shingle", .int sh t1)]) [] S hB (fun _ _ e => e) ?hown ?hnd ?ho ?hcd R ?hb ?h ?hpre ?hcn ?hdb ?hco ?hgen ?hk
  case hown => intro p hp; cases hp
  case hnd => exact .nil
  walk_at "enter"
  intro env A' s₁ hf hS hk F R1
  refine hideQ fun QF hQF => ?_
  dsimp only [initV] at F
  repeat' walk_at "w"
  rename Fm _ _ _ _ _ _ => F1
  rename Same _ _ => S1
  rename DMK _ _ _ _ _ _ => D0
  rename (_ == sysModules) = false => hm
  rename_i od0 dl _ _
  have hlen : vs.length = xs.length := hv.1
  refine For_it (mk_list R1.handled F1 (L.at (F1.keep _ _ hl))) (fun i own' V' => X5 fun (od' : Obj) (n : Nat) (te at' ma : Option Value) => N4 (own' = [(dl, od')]) (V' = vShd sl sh t1 dl te at' ma) (n ≤ 20 * i) (DMK prog w od' n ((xs.take i).foldl (shX xs sh) (fun _ => none, [])).1 ((xs.take i).foldl (shX xs sh) (fun _ => none, [])).2)) S1 ⟨_, 0, _, _, _, rfl, rfl, by lia, D0⟩ (fun _ _ _ _ _ F' => L.at (F'.keep _ _ hl)) ?_ ?_
  · intro i v own' V' I oI s₂ hi hv' hj S2 F2 QT hQT
    obtain ⟨od1, n, te, at1, ma, rfl, rfl, hn, D1⟩ := hj
    obtain ⟨y, hy⟩ : ∃ y, xs[i]? = some y := ⟨xs[i]'(by lia), by simp [show i < xs.length by lia]⟩
    obtain ⟨ty, hvy⟩ := hv.2 i y hy
    rw [hvy] at hv'; cases hv'
    have hyl := hxl y (List.mem_of_getElem? hy)
    clear F1 S1 D0
    repeat' walk_at "w"
    rename IsRange _ _ _ _ _ _ _ _ => hr
    rename Fm _ _ _ _ _ _ => F3
    rename Same _ _ => S3
    have hN : ((y.length:Int) - sh + 1).toNat = y.length + 1 - sh := by lia
    have hfold : (xs.take (i + 1)).foldl (shX xs sh) (fun _ => none, []) = shX xs sh ((xs.take i).foldl (shX xs sh) (fun _ => none, [])) y := by rw [take_succ' hy, List.foldl_append]; rfl
    rw [hfold] at hQT
    clear hfold
    generalize (xs.take i).foldl (shX xs sh) (fun _ => none, []) = st at D1 hQT
    refine For_it (mk_range R1.handled F3 hr (by lia) (by lia)) (fun j own' V' => X4 fun (od' : Obj) (n' : Nat) (at' ma : Option Value) => N4 (own' = [(I, oI), (dl, od')]) (V' = vShd sl sh t1 dl (some (.bytes y.toArray ty)) at' ma) (n' ≤ n + j) (DMK prog w od' n' ((List.range j).foldl (fun st i => shP xs st (cut y i sh)) st).1 ((List.range j).foldl (fun st i => shP xs st (cut y i sh)) st).2)) S3 ⟨_, n, _, _, rfl, rfl, by lia, D1⟩ (fun _ _ _ _ _ _ => trivial) ?_ ?_
    · intro j v own' V' I2 oI2 s₃ hj' hv3 hj S4 F4 QT hQT
      obtain ⟨tj, rfl⟩ := hv3
      obtain ⟨od2, n2, at2, ma2, rfl, rfl, hn2, D2⟩ := hj
      clear F3 S3 D1
      repeat' walk_at "w"
      rename Fm _ _ _ _ _ _ => F5
      rename Same _ _ => S5
      have hcut := pk_cut (x := y) (i := j) (n := sh) (by lia)
      refine' Comp_v (ms := []) (stat := _) (mk_list R1.handled F5 (L.at (F5.keep _ _ hl))) (fun i items ms => ms = [] ∧ items.length = ((xs.take i).filter fun z => isIn (cut y j sh) z).length) S5 hf ⟨rfl, by simp⟩ (by lia) ?C (fun i items ms hj => by rw [hj.2]; exact Nat.le_trans (List.length_filter_le _ _) (by rw [List.length_take]; lia)) (fun h' hk => L.at (hk _ _ (by simp) (F5.keep _ _ hl))) ?turn ?fin
      case C => walk_at "compok"
      case turn =>
        intro G' cenv I3 D i' v items ms' oI3 oD s₄ hG hi' hv' hj S6 F6 QT hQT
        obtain ⟨rfl, hit⟩ := hj
        obtain ⟨z, hz⟩ : ∃ z, xs[i']? = some z := ⟨xs[i']'(by lia), by simp [show i' < xs.length by lia]⟩
        obtain ⟨tz, hvz⟩ := hv.2 i' z hz
        rw [hvz] at hv'; cases hv'
        clear F5 S5
        repeat' walk_at "w"
        · rename Fm _ _ _ _ _ _ => F7
          rename Same _ _ => S7
          rename isIn _ _ = true => hc
          rw [hcut] at hc
          exact hQT _ _ ⟨_, _, ⟨rfl, by rw [filt_succ hz, if_pos hc, List.length_append, hit]; rfl⟩, by walk_at "vle", S7, F7⟩
        · rename Fm _ _ _ _ _ _ => F7
          rename Same _ _ => S7
          rename isIn _ _ = false => hc
          rw [hcut] at hc
          exact hQT _ _ ⟨_, _, ⟨rfl, by rw [filt_succ hz, if_neg (by rw [hc]; decide), hit]; rfl⟩, by walk_at "vle", S7, F7⟩
      case fin =>
        intro D items ms' oD s₄ hj ⟨LD, _⟩ S6 F6
        obtain ⟨rfl, hit⟩ := hj
        have hcnt : items.length = cntIn xs (cut y j sh) := by rw [hit, hlen, List.take_length]; rfl
        have hlt : items.length ≤ 4 := by rw [hcnt]; exact Nat.le_trans (List.length_filter_le _ _) hxs
        have hfold : (List.range (j + 1)).foldl (fun st i => shP xs st (cut y i sh)) st = shP xs ((List.range j).foldl (fun st i => shP xs st (cut y i sh)) st) (cut y j sh) := by rw [List.range_succ, List.foldl_append]; rfl
        rw [hfold] at hQT
        clear hfold F5 S5
        simp only [List.nil_append] at F6
        generalize (List.range j).foldl (fun st i => shP xs st (cut y i sh)) st = st2 at D2 hQT
        repeat' walk_at "w"
        · rename Fm _ _ _ _ _ _ => F7
          rename Same _ _ => S7
          rename DMK _ _ _ (n2 + 1) _ _ => D3
          rename ((1 : Int) < _) => hc
          rw [hcut, hcnt] at D3
          refine hQT _ _ ⟨_, _, ⟨_, n2 + 1, _, _, rfl, rfl, by lia, ?_⟩, S7, F7.sel [1, 2, 3]⟩
          unfold shP
          rw [if_pos (by rw [← hcnt]; lia)]
          exact D3
        · rename Fm _ _ _ _ _ _ => F7
          rename Same _ _ => S7
          rename (¬ ((1 : Int) < _)) => hc
          refine hQT _ _ ⟨_, _, ⟨_, n2, _, _, rfl, rfl, by lia, ?_⟩, S7, F7.sel [1, 2, 3]⟩
          unfold shP
          rw [if_neg (by rw [← hcnt]; lia)]
          exact D2
    · intro own' V' s₃ hj S4 F4
      obtain ⟨od2, n2, at2, ma2, rfl, rfl, hn2, D2⟩ := hj
      rw [hN] at D2 hn2
      repeat' walk_at "w"
      exact hQT _ _ ⟨_, _, ⟨_, n2, _, _, _, rfl, rfl, by lia, D2⟩, S4, F4⟩
  · intro own' V' s₂ hj S2 F2
    obtain ⟨od1, n, te, at1, ma, rfl, rfl, hn, D1⟩ := hj
    rw [hlen, List.take_length] at D1
    clear F1 S1 D0
    repeat' walk_at "w"
    rename Fm _ _ _ _ _ _ => F3
    rename Same _ _ => S3
    exact hQF _ _ (h _ _ _ S3 F3.keep (F3.off _ mem0) (F3.has _ mem0) hm (D1.le (by lia)))
noncomputable def stepA (f : Bs → Option Int) (sh most : Nat) (x : Bs) (m0 : Nat) (q : Int × Int × List Bs) (a : Nat) : Int × Int × List Bs :=
  if a + sh ≤ most + m0 then
    if q.2.1 < q.1 + (f (cut x a sh)).getD 0 then (q.1 + (f (cut x a sh)).getD 0, q.1 + (f (cut x a sh)).getD 0, [cut x m0 (a + sh - m0)])
    else if q.1 + (f (cut x a sh)).getD 0 = q.2.1 then (q.1 + (f (cut x a sh)).getD 0, q.2.1, q.2.2 ++ [cut x m0 (a + sh - m0)])
    else (q.1 + (f (cut x a sh)).getD 0, q.2.1, q.2.2)
  else q
noncomputable def marksF (f : Bs → Option Int) (sh : Nat) (x : Bs) : List Nat := (List.range (x.length + 1 - sh)).filter fun i => (f (cut x i sh)).isSome
noncomputable def dearK (f : Bs → Option Int) (sh most : Nat) (x : Bs) (st : Int × List Bs) (k : Nat) : Int × List Bs :=
  (((marksF f sh x).drop k).foldl (stepA f sh most x ((marksF f sh x).getD k 0)) (0, st.1, st.2)).2
noncomputable def dearX (f : Bs → Option Int) (sh most : Nat) (st : Int × List Bs) (x : Bs) : Int × List Bs := (List.range (marksF f sh x).length).foldl (dearK f sh most x) st
noncomputable def dearF (xs : List Bs) (f : Bs → Option Int) (sh most : Nat) : Int × List Bs := xs.foldl (dearX f sh most) (0, [[]])
noncomputable abbrev vDear (sl d : Addr) (sh : Nat) (t1 : Tok) (most : Nat) (t2 : Tok) (T : Int) (tt : Tok) (fl : Addr) (te at' ma k to : Option Value) : Vars := [(Str.ofString "samples", .local, some (.ref sl)), (Str.ofString "counts", .cell, some (.ref d)), (Str.ofString "shingle", .cell, some (.int sh t1)), (Str.ofString "most", .local, some (.int most t2)), (Str.ofString "top", .local, some (.int T tt)), (Str.ofString "found", .local, some (.ref fl)), (Str.ofString "text", .cell, te), (Str.ofString "at", .local, at'), (Str.ofString "marks", .local, ma), (Str.ofString "k", .local, k), (Str.ofString "total", .local, to), (Str.ofString "range", .globalImplicit, none), (Str.ofString "len", .globalImplicit, none)]
theorem pk_from {α : Type} (l : List α) (k : Nat) (hk : k ≤ l.length) : pk l (some (k : Int)) none = l.drop k := by
  have h9 : kms_lo (some (k : Int)) l.length = k := by
    show (if (k : Int) < 0 then l.length - (-(k : Int)).toNat else min (k : Int).toNat l.length) = _
    rw [if_neg (by lia), Int.toNat_natCast]; lia
  have h8 : kms_hi none l.length = l.length := rfl
  rw [pk, h9, h8, List.take_of_length_le (by rw [List.length_drop]; lia)]
set_option maxHeartbeats 4000000 in
theorem dearest_call {prog : Program} {w : World} {B : Heap} {A : Around} {E : Value → Shared → Prop} {s : Shared} {Q : Value → Shared → Prop} {sl d : Addr} {ol od : Obj} {sh most n : Nat} {t1 t2 : Tok} {vs : List Value} {xs : List Bs} {f : Bs → Option Int}
    (S : Sta (KK w) B) (R : Room A 2) (hB : ∀ b o, B.get? b = some o → s.heap.get? b = some o) (hl : s.heap.get? sl = some ol) (L : LO ol vs) (hv : BsAre vs xs) (hd : s.heap.get? d = some od) (D : DM prog w od n f) (hm : (d == sysModules) = false) (hs1 : 1 ≤ sh) (hs2 : sh ≤ 4) (hxs : xs.length ≤ 4) (hxl : ∀ y ∈ xs, y.length ≤ 12)
    (h : ∀ (l fl : Addr) (o of : Obj) (bs : List Value) (t : Tok) (s' : Shared), Same s s' → (∀ c o, s.heap.get? c = some o → s'.heap.get? c = some o) → s.heap.get? l = none → s.heap.get? fl = none → l ≠ fl → s'.heap.get? l = some o → s'.heap.get? fl = some of → TO o [.int (dearF xs f sh most).1 t, .ref fl] → LO of bs → BsAre bs (dearF xs f sh most).2 → Q (.ref l) s') :
    wpAny (model prog w) A (call (.ref 134) [.ref sl, .ref d, .int sh t1, .int most t2]) Q E s := by
  refine wpAny_call ?_
  refine' enter (K := KK w) (G := s.heap) (binds := [(Str.ofString "samples", .ref sl), (Str.ofString "counts", .ref d), (Str.ofString "shingle", .int sh t1), (Str.ofString "most", .int most t2)]) [] S hB (fun _ _ e => e) ?hown ?hnd ?ho ?hcd R ?hb ?h ?hpre ?hcn ?hdb ?hco ?hgen ?hk
  case hown => intro p hp; cases hp
  case hnd => exact .nil
  walk_at "enter"
  intro env A' s₁ hf hS hk F R1
  refine hideQ fun QF hQF => ?_
  dsimp only [initV] at F
  repeat' walk_at "w"
  rename Fm _ _ _ _ _ _ => F1
  rename Same _ _ => S1
  rename LO _ _ => L0
  rename Obj.dict _ = none => hd0
  rename_i of0 fl0 _ _ _ _ _ _ _ _
  have F2 := F1.sel [1]
  change Fm _ _ _ [(_, _)] _ _ at F2
  clear F1
  have hlen : vs.length = xs.length := hv.1
  refine For_it (mk_list R1.handled F2 (L.at (F2.keep _ _ hl))) (fun i own' V' => X10 fun (st : Int × List Bs) (fl : Addr) (of : Obj) (bs : List Value) (tt : Tok) (te at' ma k to : Option Value) => N7 (own' = [(fl, of)]) (V' = vDear sl d sh t1 most t2 st.1 tt fl te at' ma k to) (LO of bs) (of.dict = none) (BsAre bs st.2) (st.2.length ≤ 1 + 200 * i) (st = (xs.take i).foldl (dearX f sh most) (0, [[]]))) S1 ⟨(0, [[]]), _, _, _, _, _, _, _, _, _, rfl, rfl, L0, hd0, ⟨rfl, fun i x e => by
      cases i with
      | zero => cases e; exact ⟨_, rfl⟩
      | succ i => simp at e⟩, by simp, rfl⟩ (fun _ _ _ _ _ F' => L.at (F'.keep _ _ hl)) ?_ ?_
  · intro i v own' V' I oI s₂ hi hv' hj S2 F3 QT hQT
    obtain ⟨st, fl, of, bs, tt, te, at', ma, k', to, rfl, rfl, Lf, hfd, hbs, hbl, hst⟩ := hj
    obtain ⟨y, hy⟩ : ∃ y, xs[i]? = some y := ⟨xs[i]'(by lia), by simp [show i < xs.length by lia]⟩
    obtain ⟨ty, hvy⟩ := hv.2 i y hy
    rw [hvy] at hv'; cases hv'
    have hyl := hxl y (List.mem_of_getElem? hy)
    have hfold : (xs.take (i + 1)).foldl (dearX f sh most) (0, [[]]) = dearX f sh most st y := by rw [take_succ' hy, List.foldl_append, ← hst]; rfl
    rw [hfold] at hQT
    clear hfold F2 S1 L0 hst
    repeat' walk_at "w"
    rename IsRange _ _ _ _ _ _ _ _ => hr
    rename Fm _ _ _ _ _ _ => F4
    rename Same _ _ => S4
    have hN : ((y.length:Int) - sh + 1).toNat = y.length + 1 - sh := by lia
    refine' Comp_k (ms := []) (stat := _) (V₁ := fun D => vDear sl d sh t1 most t2 st.1 tt fl (some (.bytes y.toArray ty)) at' (some (.ref D)) k' to) (mk_range R1.handled F4 hr (by lia) (by lia)) (fun i items ms => ms = [] ∧ IntsAre items (((List.range i).filter fun i => (f (cut y i sh)).isSome).map fun (i : Nat) => (i : Int))) S4 hf ⟨rfl, .nil⟩ (by lia) ?C (fun D => sa8) (fun i items ms hj => by have := hj.2.length; rw [this, List.length_map]; exact Nat.le_trans (List.length_filter_le _ _) (by simp)) (fun _ _ => trivial) ?turn ?fin
    case C => walk_at "compok"
    case turn =>
      intro G' cenv I3 D3 i' v items ms' oI3 oD3 s₄ hG hi' hv' hj S6 F6 QT hQT
      obtain ⟨tv, rfl⟩ := hv'
      obtain ⟨rfl, hit⟩ := hj
      have hd' := hG d od (by simp) (F4.keep _ _ hd)
      clear F4 S4
      have hcut := pk_cut (x := y) (i := i') (n := sh) (by lia)
      repeat' walk_at "w"
      · rename Fm _ _ _ _ _ _ => F7
        rename Same _ _ => S7
        rename Option.isSome _ = true => hc
        rw [hcut] at hc
        exact hQT _ _ ⟨_, _, ⟨rfl, by
          rw [List.range_succ, List.filter_append, List.map_append, show List.filter (fun i => (f (cut y i sh)).isSome) [i'] = [i'] by simp [hc]]; exact ints_snoc hit _ _⟩, by walk_at "vle", S7, F7⟩
      · rename Fm _ _ _ _ _ _ => F7
        rename Same _ _ => S7
        rename Option.isSome _ = false => hc
        rw [hcut] at hc
        exact hQT _ _ ⟨_, _, ⟨rfl, by
          rw [List.range_succ, List.filter_append, List.map_append, show List.filter (fun i => (f (cut y i sh)).isSome) [i'] = [] by simp [hc]]; simpa using hit⟩, by walk_at "vle", S7, F7⟩
    case fin =>
      intro DM1 mvs ms' oM s₄ hj ⟨LM, _⟩ S6 F6
      obtain ⟨rfl, hit⟩ := hj
      rw [hN] at hit
      simp only [List.nil_append] at F6
      have hdx : dearX f sh most st y = (List.range (marksF f sh y).length).foldl (dearK f sh most y) st := rfl
      rw [hdx] at hQT
      have hmm : ∀ a ∈ marksF f sh y, a + sh ≤ y.length ∧ (f (cut y a sh)).isSome = true := fun a ha => by
        have := List.mem_filter.mp ha
        exact ⟨by have := List.mem_range.mp this.1; lia, this.2⟩
      have hml : (marksF f sh y).length ≤ 12 := Nat.le_trans (List.length_filter_le _ _) (by rw [List.length_range]; lia)
      have hml2 : mvs.length = (marksF f sh y).length := by rw [hit.length, List.length_map]; rfl
      change IntsAre mvs ((marksF f sh y).map fun (i : Nat) => (i : Int)) at hit
      clear F4 S4 hdx
      repeat' walk_at "w"
      rename IsRange _ _ _ _ _ _ _ _ => hr2
      rename Fm _ _ _ _ _ _ => F7
      rename Same _ _ => S7
      generalize hgm : marksF f sh y = mk at hit hmm hml hml2 hQT ⊢
      refine For_it (mk_range R1.handled F7 hr2 (by lia) (by lia)) (fun k own' V' => X8 fun (q : Int × List Bs) (fl : Addr) (of : Obj) (bs : List Value) (tt : Tok) (at' k' to : Option Value) => N7 (own' = [(DM1, oM), (I, oI), (fl, of)]) (V' = vDear sl d sh t1 most t2 q.1 tt fl (some (.bytes y.toArray ty)) at' (some (.ref DM1)) k' to) (LO of bs) (of.dict = none) (BsAre bs q.2) (q.2.length ≤ 1 + 200 * i + 13 * k) (q = (List.range k).foldl (dearK f sh most y) st)) S7 ⟨st, _, _, _, _, _, _, _, rfl, rfl, Lf, hfd, hbs, by lia, rfl⟩ (fun _ _ _ _ _ _ => trivial) ?_ ?_
      · intro k v own' V' I2 oI2 s₅ hk' hv5 hj S8 F8 QT hQT
        obtain ⟨tk, rfl⟩ := hv5
        obtain ⟨q, fl2, of2, bs2, tt2, at2, k2, to2, rfl, rfl, Lf2, hfd2, hbs2, hbl2, hq⟩ := hj
        have hkl : k < mk.length := by lia
        have hfold : (List.range (k + 1)).foldl (dearK f sh most y) st = dearK f sh most y q k := by rw [List.range_succ, List.foldl_append, ← hq]; rfl
        rw [hfold] at hQT
        clear hfold F7 S7 hq hbs
        obtain ⟨tmk, hx0⟩ := ints_at hit (i := k) (m := (mk[k] : Int)) (by simp [hkl])
        have hm0 := hmm mk[k] (List.getElem_mem hkl)
        have hpk : pk mvs (some (k : Int)) none = mvs.drop k := pk_from _ _ (by lia)
        have hdk : dearK f sh most y q k = ((mk.drop k).foldl (stepA f sh most y mk[k]) (0, q.1, q.2)).2 := by
          unfold dearK
          rw [hgm]
          simp [hkl]
        rw [hdk] at hQT
        have hsort : ∀ a ∈ mk.drop k, mk[k] ≤ a := by
          intro a ha
          have hp : mk.Pairwise (· < ·) := by rw [← hgm]; exact List.Pairwise.filter _ List.pairwise_lt_range
          have hp2 := hp.sublist (List.drop_sublist k mk)
          rw [List.drop_eq_getElem_cons hkl] at hp2 ha
          rcases List.mem_cons.mp ha with rfl | ha
          · exact Nat.le_refl _
          · exact Nat.le_of_lt ((List.pairwise_cons.mp hp2).1 a ha)
        generalize mk[k] = m0 at hx0 hm0 hsort hQT
        repeat' walk_at "w"
        rename LO _ (pk _ _ _) => Lr
        rw [hpk] at Lr
        rename Fm _ _ _ _ _ _ => F9
        rename Same _ _ => S9
        rename_i orr rr _
        have hdl : (mvs.drop k).length = (mk.drop k).length := by rw [List.length_drop, List.length_drop, hml2]
        refine For_it (mk_list R1.handled F9 (Lr.at (F9.has _ mem0))) (fun j own' V' => X7 fun (g : Int × Int × List Bs) (fl : Addr) (of : Obj) (bs : List Value) (tt tto : Tok) (at' : Option Value) => N7 (own' = [(rr, orr), (I2, oI2), (DM1, oM), (I, oI), (fl, of)]) (V' = vDear sl d sh t1 most t2 g.2.1 tt fl (some (.bytes y.toArray ty)) at' (some (.ref DM1)) (some (.int k tk)) (some (.int g.1 tto))) (LO of bs) (of.dict = none) (BsAre bs g.2.2) (g.2.2.length ≤ 1 + 200 * i + 13 * k + j) (g = ((mk.drop k).take j).foldl (stepA f sh most y m0) (0, q.1, q.2))) S9 ⟨(0, q.1, q.2), _, _, _, _, _, _, rfl, rfl, Lf2, hfd2, hbs2, by lia, rfl⟩ (fun _ _ _ _ hj' F' => by obtain ⟨_, _, _, _, _, _, _, rfl, _⟩ := hj'; exact Lr.at (F'.has _ mem0)) ?_ ?_
        · intro j v own' V' I3 oI3 s₆ hj9 hv6 hj S10 F10 QT hQT
          obtain ⟨g, fl3, of3, bs3, tt3, tto3, at3, rfl, rfl, Lf3, hfd3, hbs3, hbl3, hg⟩ := hj
          have hj8 : j < (mk.drop k).length := by lia
          obtain ⟨a, ha⟩ : ∃ a, (mk.drop k)[j]? = some a := ⟨(mk.drop k)[j], by simp⟩
          have hfold : ((mk.drop k).take (j + 1)).foldl (stepA f sh most y m0) (0, q.1, q.2) = stepA f sh most y m0 g a := by rw [take_succ' ha, List.foldl_append, ← hg]; rfl
          rw [hfold] at hQT
          clear hfold F9 S9 hg
          have hva : ∃ ta, v = .int (a : Int) ta := by
            rw [List.getElem?_drop] at hv6 ha
            obtain ⟨ta, h9⟩ := ints_at hit (i := k + j) (m := (a:Int)) (by rw [List.getElem?_map, ha]; rfl)
            rw [Int.toNat_natCast] at h9; rw [h9] at hv6; cases hv6; exact ⟨_, rfl⟩
          obtain ⟨ta, rfl⟩ := hva
          have ham := List.mem_of_getElem? ha
          have haa := hmm a (List.mem_of_mem_drop ham)
          have hma := hsort a ham
          obtain ⟨c, hc⟩ := Option.isSome_iff_exists.mp haa.2
          have hcut := pk_cut (x := y) (i := a) (n := sh) (by lia)
          have hv9 : f (pk y (some (a : Int)) (some ((a : Int) + sh))) = some c := by rw [hcut, hc]
          have hseg : pk y (some (m0 : Int)) (some ((a : Int) + sh)) = cut y m0 (a + sh - m0) := by
            rw [show (a : Int) + sh = ((a + sh : Nat) : Int) by lia, pk_run (by lia) (by lia)]; rfl
          have hb3 := hbs3.1
          have hj7 : j < 12 := by rw [List.length_drop] at hj8; lia
          have hb4 : bs3.length ≤ 2000 := by rw [hb3]; lia
          clear hl hv hs1 hs2 hxl hk hy hvy hN hgm hdk hpk hdl hit hmm
          repeat' walk_at "w"
          · rename Fm _ _ _ _ _ _ => F11
            rename Same _ _ => S11
            rename LO _ (_ ++ _) => Lnew
            rename _ ≤ (most : Int) => hle
            rename g.2.1 < _ => hgt
            have hst : stepA f sh most y m0 g a = (g.1 + c, g.1 + c, [cut y m0 (a + sh - m0)]) := by
              unfold stepA; rw [if_pos (by lia), hc, Option.getD_some, if_pos hgt]
            rw [hseg] at Lnew
            exact hQT _ _ ⟨_, _, ⟨(g.1 + c, g.1 + c, [cut y m0 (a + sh - m0)]), _, _, _, _, _, _, rfl, rfl, Lnew, by assumption, bsAre_snoc (vs := []) (xs := []) ⟨rfl, fun i x e => by simp at e⟩, by simp only [List.length_cons, List.length_nil]; lia, hst.symm⟩, S11, F11.sel [2, 3, 4, 5, 6, 1]⟩
          · rename Fm _ _ _ _ _ _ => F11
            rename Same _ _ => S11
            rename LO _ (_ ++ _) => Lnew
            rename _ ≤ (most : Int) => hle
            rename ¬ (g.2.1 < _) => hgt
            rename (_ == _) = true => heq
            have heq' : g.1 + c = g.2.1 := by simpa using heq
            have hst : stepA f sh most y m0 g a = (g.1 + c, g.2.1, g.2.2 ++ [cut y m0 (a + sh - m0)]) := by
              unfold stepA; rw [if_pos (by lia), hc, Option.getD_some, if_neg hgt, if_pos heq']
            rw [hseg] at Lnew
            exact hQT _ _ ⟨_, _, ⟨(g.1 + c, g.2.1, g.2.2 ++ [cut y m0 (a + sh - m0)]), _, _, _, _, _, _, rfl, rfl, Lnew, by assumption, bsAre_snoc hbs3, by simp; lia, hst.symm⟩, S11, F11⟩
          · rename Fm _ _ _ _ _ _ => F11
            rename Same _ _ => S11
            rename _ ≤ (most : Int) => hle
            rename ¬ (g.2.1 < _) => hgt
            rename (_ == _) = false => heq
            have heq' : ¬ (g.1 + c = g.2.1) := by simpa using heq
            have hst : stepA f sh most y m0 g a = (g.1 + c, g.2.1, g.2.2) := by
              unfold stepA; rw [if_pos (by lia), hc, Option.getD_some, if_neg hgt, if_neg heq']
            exact hQT _ _ ⟨_, _, ⟨(g.1 + c, g.2.1, g.2.2), _, _, _, _, _, _, rfl, rfl, Lf3, hfd3, hbs3, by dsimp only; lia, hst.symm⟩, S11, F11⟩
          · rename Fm _ _ _ _ _ _ => F11
            rename Same _ _ => S11
            rename ¬ (_ ≤ (most : Int)) => hle
            have hst : stepA f sh most y m0 g a = g := by
              unfold stepA; rw [if_neg (by lia)]
            exact hQT _ _ ⟨_, _, ⟨g, _, _, _, _, _, _, rfl, rfl, Lf3, hfd3, hbs3, by lia, hst.symm⟩, S11, F11⟩
        · intro own' V' s₆ hj S10 F10
          obtain ⟨g, fl3, of3, bs3, tt3, tto3, at3, rfl, rfl, Lf3, hfd3, hbs3, hbl3, hg⟩ := hj
          rw [hdl, List.take_length] at hg
          rw [← hg] at hQT
          have hj8 : (mk.drop k).length ≤ 12 := by rw [List.length_drop]; lia
          clear F9 S9
          repeat' walk_at "w"
          rename Fm _ _ _ _ _ _ => F11
          rename Same _ _ => S11
          exact hQT _ _ ⟨_, _, ⟨g.2, _, _, _, _, _, _, _, rfl, rfl, Lf3, hfd3, hbs3, by lia, rfl⟩, S11, F11.sel [1, 2, 3, 4]⟩
      · intro own' V' s₅ hj S8 F8
        obtain ⟨q, fl2, of2, bs2, tt2, at2, k2, to2, rfl, rfl, Lf2, hfd2, hbs2, hbl2, hq⟩ := hj
        rw [show ((mvs.length : Int)).toNat = mk.length by lia] at hq hbl2
        rw [← hq] at hQT
        clear F7 S7
        repeat' walk_at "w"
        rename Fm _ _ _ _ _ _ => F11
        rename Same _ _ => S11
        exact hQT _ _ ⟨_, _, ⟨q, _, _, _, _, _, _, _, _, _, rfl, rfl, Lf2, hfd2, hbs2, by lia, rfl⟩, S11, F11.sel [1, 2]⟩
  · intro own' V' s₂ hj S2 F3
    obtain ⟨st, fl, of, bs, tt, te, at', ma, k', to, rfl, rfl, Lf, hfd, hbs, hbl, hst⟩ := hj
    rw [hlen, List.take_length] at hst
    change st = dearF xs f sh most at hst
    clear F2 S1
    repeat' walk_at "w"
    rename Fm _ _ _ _ _ _ => F4
    rename Same _ _ => S4
    rename TO _ [_, .ref fl] => T4
    rw [hst] at T4 hbs
    exact hQF _ _ (h _ _ _ _ _ _ _ S4 F4.keep (F4.off _ mem0) (F4.off _ mem1) (F4.ne01 (i := 0) (j := 1) rfl rfl (by decide)) (F4.has _ mem0) (F4.has _ mem1) T4 Lf hbs)
noncomputable def restK (ks : List Bs) (p : Bs) : List Bs := ks.filter fun k => !isIn k p
noncomputable def restF (f : Bs → Option Int) (ks : List Bs) (p : Bs) : Bs → Option Int := fun k => if k ∈ restK ks p then f k else none
noncomputable def turnsF (xs : List Bs) (sh seg : Nat) : Nat → Nat → (Bs → Option Int) → List Bs → List (Nat × Int × List Bs) × (Bs → Option Int) × List Bs
  | 0, _, f, ks => ([], f, ks)
  | k + 1, room, f, ks => if room < sh then ([], f, ks) else
    if (dearF xs f sh (min seg room)).1 = 0 then ([(min seg room, (dearF xs f sh (min seg room)).1, (dearF xs f sh (min seg room)).2)], f, ks) else
      ((min seg room, (dearF xs f sh (min seg room)).1, (dearF xs f sh (min seg room)).2) :: (turnsF xs sh seg k (room - ((dearF xs f sh (min seg room)).2.headD []).length) (restF f ks ((dearF xs f sh (min seg room)).2.headD [])) (restK ks ((dearF xs f sh (min seg room)).2.headD []))).1,
        (turnsF xs sh seg k (room - ((dearF xs f sh (min seg room)).2.headD []).length) (restF f ks ((dearF xs f sh (min seg room)).2.headD [])) (restK ks ((dearF xs f sh (min seg room)).2.headD []))).2)
def DOk (sh most : Nat) (st : Int × List Bs) : Prop := st.2 ≠ [] ∧ (st.1 ≠ 0 → ∀ y ∈ st.2, sh ≤ y.length ∧ y.length ≤ most)
theorem marks_ok {f : Bs → Option Int} {sh : Nat} {x : Bs} : (∀ a ∈ marksF f sh x, a + sh ≤ x.length ∨ x.length + 1 ≤ sh) ∧ (marksF f sh x).Pairwise (· < ·) :=
  ⟨fun a ha => by have := List.mem_range.mp (List.mem_filter.mp ha).1; lia, List.Pairwise.filter _ List.pairwise_lt_range⟩
theorem dear_ok {xs : List Bs} {f : Bs → Option Int} {sh most : Nat} (hs : 1 ≤ sh) : DOk sh most (dearF xs f sh most) := by
  refine foldl_inv (P := DOk sh most) xs (0, [[]]) ⟨by simp, fun h => absurd rfl h⟩ fun st x _ hst => ?_
  refine foldl_inv (P := DOk sh most) _ st hst fun st k hk hst => ?_
  have hkl : k < (marksF f sh x).length := List.mem_range.mp hk
  have hgd : (marksF f sh x).getD k 0 = (marksF f sh x)[k] := by simp [hkl]
  unfold dearK
  rw [hgd]
  refine (foldl_inv (P := fun q : Int × Int × List Bs => DOk sh most q.2) ((marksF f sh x).drop k) (0, st.1, st.2) hst fun q a ha hq => ?_)
  have ham := (marks_ok (f := f) (sh := sh) (x := x)).1 a (List.mem_of_mem_drop ha)
  have har : a < x.length + 1 - sh := List.mem_range.mp (List.mem_filter.mp (List.mem_of_mem_drop ha)).1
  have hma : (marksF f sh x)[k] ≤ a := by
    have hp2 := (marks_ok (f := f) (sh := sh) (x := x)).2.sublist (List.drop_sublist k _)
    rw [List.drop_eq_getElem_cons hkl] at hp2 ha
    rcases List.mem_cons.mp ha with rfl | ha
    · exact Nat.le_refl _
    · exact Nat.le_of_lt ((List.pairwise_cons.mp hp2).1 a ha)
  generalize (marksF f sh x)[k] = m0 at hma
  have hcl : a + sh ≤ most + m0 → sh ≤ (cut x m0 (a + sh - m0)).length ∧ (cut x m0 (a + sh - m0)).length ≤ most := fun h9 => by
    unfold cut
    rw [List.length_take, List.length_drop]; lia
  unfold stepA
  split
  · rename_i hle
    split
    · exact ⟨by simp, fun _ y hy => by rw [List.mem_singleton.mp hy]; exact hcl hle⟩
    · split
      · refine ⟨by simp, fun hn y hy => ?_⟩
        rcases List.mem_append.mp hy with hy | hy
        · exact hq.2 hn y hy
        · rw [List.mem_singleton.mp hy]; exact hcl hle
      · exact hq
  · exact hq
noncomputable abbrev vTur (sl cd zl : Addr) (r : Int) (tr : Tok) (seg : Nat) (t2 : Tok) (sh : Nat) (t3 : Tok) (fl : Addr) (mo to so : Option Value) : Vars := [(Str.ofString "samples", .local, some (.ref sl)), (Str.ofString "counts", .cell, some (.ref cd)), (Str.ofString "sizes", .local, some (.ref zl)), (Str.ofString "room", .local, some (.int r tr)), (Str.ofString "segment", .local, some (.int seg t2)), (Str.ofString "shingle", .local, some (.int sh t3)), (Str.ofString "found", .local, some (.ref fl)), (Str.ofString "most", .local, mo), (Str.ofString "top", .local, to), (Str.ofString "some", .cell, so), (Str.ofString "min", .globalImplicit, none), (Str.ofString "_law_dearest", .globalImplicit, none), (Str.ofString "dict", .globalImplicit, none), (Str.ofString "len", .globalImplicit, none)]
set_option maxHeartbeats 4000000 in
theorem turns_call {prog : Program} {w : World} {B : Heap} {A : Around} {E : Value → Shared → Prop} {s : Shared} {Q : Value → Shared → Prop} {sl d zl : Addr} {ol od oz : Obj} {sh seg size n : Nat} {t1 t2 t3 : Tok} {vs : List Value} {xs : List Bs} {f : Bs → Option Int} {ks : List Bs}
    (S : Sta (KK w) B) (R : Room A 3) (hB : ∀ b o, B.get? b = some o → s.heap.get? b = some o) (hl : s.heap.get? sl = some ol) (L : LO ol vs) (hv : BsAre vs xs) (hd : s.heap.get? d = some od) (D : DMK prog w od n f ks) (hn : n ≤ 100) (hm : (d == sysModules) = false)
    (hz : s.heap.get? zl = some oz) (Z : TO oz [.int size t1, .int seg t2, .int sh t3]) (hs1 : 1 ≤ sh) (hs2 : sh ≤ 4) (hs3 : size ≤ 20) (hs4 : sh ≤ seg) (hs5 : seg ≤ 100) (hxs : xs.length ≤ 4) (hxl : ∀ y ∈ xs, y.length ≤ 12)
    (h : ∀ (objs : List (Addr × Obj)) (l fl cd : Addr) (o of co : Obj) (tvs : List Value) (n' : Nat) (s' : Shared), Same s s' → (∀ c o, s.heap.get? c = some o → s'.heap.get? c = some o) → (∀ p ∈ objs, s.heap.get? p.1 = none ∧ s'.heap.get? p.1 = some p.2) → (l, o) ∈ objs → (fl, of) ∈ objs → ((cd = d ∧ co = od) ∨ (cd, co) ∈ objs) →
      TO o [.ref fl, .ref cd] → LO of tvs → TurnsIn objs tvs (turnsF xs sh seg (size + 1) size f ks).1 → n' ≤ 100 → DMK prog w co n' (turnsF xs sh seg (size + 1) size f ks).2.1 (turnsF xs sh seg (size + 1) size f ks).2.2 → (cd == sysModules) = false → Q (.ref l) s') :
    wpAny (model prog w) A (call (.ref 139) [.ref sl, .ref d, .ref zl]) Q E s := by
  refine wpAny_call ?_
  refine' enter (K := KK w) (G := s.heap) (binds := [(Str.ofString "samples", .ref sl), (Str.ofString "counts", .ref d), (Str.ofString "sizes", .ref zl)]) [] S hB (fun _ _ e => e) ?hown ?hnd ?ho ?hcd R ?hb ?h ?hpre ?hcn ?hdb ?hco ?hgen ?hk
  case hown => intro p hp; cases hp
  case hnd => exact .nil
  walk_at "enter"
  intro env A' s₁ hf hS hk F R1
  refine hideQ fun QF hQF => ?_
  dsimp only [initV] at F
  repeat' walk_at "w"
  rename Fm _ _ _ _ _ _ => F1
  rename Same _ _ => S1
  rename LO _ [] => L0
  rename Obj.dict _ = none => hd0
  rename_i of0 fl _ _
  refine While_fin (fun m own' V' => X15 fun (r fu n : Nat) (tr : Tok) (of : Obj) (tvs : List Value) (ts : List (Nat × Int × List Bs)) (f' : Bs → Option Int) (ks' : List Bs) (cd : Addr) (co : Obj) (objs : List (Addr × Obj)) (mo to so : Option Value) => N14 (own' = (fl, of) :: objs) (V' = vTur sl cd zl r tr seg t2 sh t3 fl mo to so) (LO of tvs) (of.dict = none) (TurnsIn objs tvs ts) (((cd = d ∧ co = od) ∨ (cd, co) ∈ objs)) ((cd == sysModules) = false) (n ≤ 100) (DMK prog w co n f' ks') (m = r) (r ≤ size) (r < fu) (ts.length + r ≤ size) (turnsF xs sh seg (size + 1) size f ks = (ts ++ (turnsF xs sh seg fu r f' ks').1, (turnsF xs sh seg fu r f' ks').2)))
    (fun own' V' => X11 fun (n : Nat) (r : Int) (tr : Tok) (of : Obj) (tvs : List Value) (cd : Addr) (co : Obj) (objs : List (Addr × Obj)) (mo to so : Option Value) => N8 (own' = (fl, of) :: objs) (V' = vTur sl cd zl r tr seg t2 sh t3 fl mo to so) (LO of tvs) (TurnsIn objs tvs (turnsF xs sh seg (size + 1) size f ks).1) (((cd = d ∧ co = od) ∨ (cd, co) ∈ objs)) ((cd == sysModules) = false) (n ≤ 100) (DMK prog w co n (turnsF xs sh seg (size + 1) size f ks).2.1 (turnsF xs sh seg (size + 1) size f ks).2.2))
    size S1 F1 ⟨size, size + 1, n, _, _, [], [], f, ks, _, _, [], _, _, _, rfl, rfl, L0, hd0, .nil _, .inl ⟨rfl, rfl⟩, hm, hn, D, rfl, Nat.le_refl _, Nat.lt_succ_self _, by simp, by simp⟩ ?_ ?_
  · intro m own' V' s₄ hj S2 F2 QT hQT
    obtain ⟨r, fu, n', tr, of, tvs, ts, f', ks', cd, co, objs, mo, to, so, rfl, rfl, Lf, hfd, hts, hcd, hm', hn', D', rfl, hr, hfu, htl, hbig⟩ := hj
    clear F1 S1
    obtain ⟨fu, rfl⟩ : ∃ k', fu = k' + 1 := ⟨fu - 1, by lia⟩
    have hcdH : ∀ {own V h}, Fm B s.heap env own V h → (∀ p ∈ objs, p ∈ own) → h.get? cd = some co := fun F' hs => by
      rcases hcd with ⟨rfl, rfl⟩ | hm
      · exact F'.keep _ _ hd
      · exact F'.has (cd, co) (hs _ hm)
    have htv := hts.1
    repeat' walk_at "w"
    · rename Sta _ _ => S
      rename Fm _ _ _ _ _ _ => F8
      rename Same _ _ => S8
      rename ((sh : Int) ≤ (m : Int)) => hge
      rw [show min (seg : Int) (m : Int) = ((min seg m : Nat) : Int) by lia] at F8 ⊢
      have hun : turnsF xs sh seg (fu + 1) m f' ks' = if (dearF xs f' sh (min seg m)).1 = 0 then ([(min seg m, (dearF xs f' sh (min seg m)).1, (dearF xs f' sh (min seg m)).2)], f', ks') else
          ((min seg m, (dearF xs f' sh (min seg m)).1, (dearF xs f' sh (min seg m)).2) :: (turnsF xs sh seg fu (m - ((dearF xs f' sh (min seg m)).2.headD []).length) (restF f' ks' ((dearF xs f' sh (min seg m)).2.headD [])) (restK ks' ((dearF xs f' sh (min seg m)).2.headD []))).1,
            (turnsF xs sh seg fu (m - ((dearF xs f' sh (min seg m)).2.headD []).length) (restF f' ks' ((dearF xs f' sh (min seg m)).2.headD [])) (restK ks' ((dearF xs f' sh (min seg m)).2.headD []))).2) := by
        show (if m < sh then _ else _) = _
        rw [if_neg (by lia)]
      rw [hun] at hbig
      clear hun
      refine dearest_call S R1 F8.inB (F8.keep _ _ hl) L hv (hcdH F8 (fun p hp => List.mem_cons_of_mem _ hp)) D'.dm hm' hs1 hs2 hxs hxl fun l9 fl9 o9 of9 bs9 t9 s₅ hS5 hk5 hl0 hf0 hlf hlo hfo T5 L5 hbs5 => ?_
      have F9 := F8.adopt (new := [(l9, o9), (fl9, of9)]) hk5 (fun p hp => by
        simp only [List.mem_cons, List.not_mem_nil, or_false] at hp
        rcases hp with rfl | rfl <;> assumption) (fun p hp => by
        simp only [List.mem_cons, List.not_mem_nil, or_false] at hp
        rcases hp with rfl | rfl <;> assumption) (by simp [hlf])
      simp only [List.cons_append, List.nil_append] at F9
      have S9 := S8.trans hS5
      have hok := dear_ok (xs := xs) (f := f') (sh := sh) (most := min seg m) hs1
      generalize dearF xs f' sh (min seg m) = dr at T5 hbs5 hok hbig
      obtain ⟨dT, dL⟩ := dr
      obtain ⟨p, dr, rfl⟩ : ∃ p r, dL = p :: r := by
        cases dL with
        | nil => exact absurd rfl hok.1
        | cons p r => exact ⟨p, r, rfl⟩
      dsimp only [List.headD_cons] at hbig T5 hbs5
      obtain ⟨tp, hx0⟩ : ∃ tp, bs9[(0 : Int).toNat]? = some (.bytes p.toArray tp) := hbs5.2 0 p rfl
      clear F8 S8 hlo hfo
      have Ddm := D'.dm
      repeat' walk_at "w"
      · rename Fm _ _ _ _ _ _ => F10
        rename Same _ _ => S10
        rename TO _ [.ref fl, .ref cd] => TR
        rename TO _ [_, _, _] => TT
        rename LO _ (_ ++ _) => Lnew
        rename (dT == 0) = true => hw0
        have hw0' : dT = 0 := by simpa using hw0
        rw [if_pos hw0'] at hbig
        refine hQT _ _ (hQF _ _ (h _ _ fl cd _ _ co _ n' _ S10 F10.keep (fun q hq => ⟨F10.off q hq, F10.has q hq⟩) mem0 mem4 (hcd.imp id fun h9 => by simp [h9]) TR Lnew ?_ hn' ?_ hm'))
        · rw [hbig]
          exact (hts.mono (fun q hq => by simp [hq])).snoc mem1 TT mem3 L5 hbs5
        · rw [hbig]; exact D'
      · rename Fm _ _ _ _ _ _ => F10
        rename Same _ _ => S10
        rename TO _ [_, _, _] => TT
        rename LO _ (_ ++ _) => Lnew
        rename (dT == 0) = false => hw0
        have hw0' : dT ≠ 0 := by simpa using hw0
        rw [if_neg hw0'] at hbig
        have hpl := hok.2 hw0' p List.mem_cons_self
        have hkl := D'.len
        have hcd10 := hcdH F10 (fun q hq => by simp [hq])
        have hks9 : ks'.length ≤ 1000000 := by lia
        rename_i ofN s9 hdN
        obtain ⟨Ob, M⟩ := mk_dict (E := fun _ _ => False) (s := { s9 with toks := s9.toks + 1 }) R1.handled F10 hcd10 D'.dk hm'
        have hrl : ∀ (l : List Bs), (restK l p).length ≤ l.length := fun l => List.length_filter_le _ _
        refine' Comp_v (s := { s9 with toks := s9.toks + 1 }) (ms := []) (stat := _) M (fun i items ms => ∃ ps : List (Bs × Value), PairsIn ms items ps ∧ ps.map (·.1) = restK (ks'.take i) p ∧ PairF ps f') S10 hf ⟨[], ⟨rfl, fun i k u e => by simp at e⟩, rfl, fun _ h => nomatch h⟩ hks9 ?C (fun i items ms hj => by
          obtain ⟨ps, h1, h2, _⟩ := hj
          have h3 := congrArg List.length h2
          have h4 := hrl (ks'.take i)
          rw [List.length_map] at h3
          rw [h1.1, h3]; rw [List.length_take] at h4; lia) (fun h' hk => hk _ _ (by simp) hcd10) ?turn ?fin
        case C => walk_at "compok"
        case turn =>
          intro G' cenv I3 D3 i v items ms' oI3 oD3 s₆ hG hi hv3 hj S11 F11 QT hQT
          obtain ⟨k, tk, hki, rfl⟩ := hv3
          obtain ⟨ps, hP, hpm, hpf⟩ := hj
          have hcdG := hG cd co (by simp) hcd10
          have hflG := hG fl9 of9 (by simp) (F10.has (fl9, of9) mem2)
          have hks : (f' k).isSome = true := (D'.mem k).mp (List.mem_of_getElem? hki)
          obtain ⟨c, hc⟩ := Option.isSome_iff_exists.mp hks
          have hrs : restK (ks'.take (i + 1)) p = restK (ks'.take i) p ++ restK [k] p := by rw [take_succ' hki]; exact List.filter_append _ _
          clear F10 S10
          repeat' walk_at "w"
          · rename Fm _ _ _ _ _ _ => F12
            rename Same _ _ => S12
            rename TO _ [_, _] => TP
            rename (!isIn _ _) = true => hin
            refine hQT _ _ ⟨_, _, ⟨ps ++ [(k, _)], hP.snoc TP, ?_, fun q hq => ?_⟩, by walk_at "vle", S12, F12.rot2⟩
            · rw [hrs, List.map_append, hpm]
              have : restK [k] p = [k] := by simp at hin; simp [restK, hin]
              rw [this]; rfl
            · rcases List.mem_append.mp hq with hq | hq
              · exact hpf q hq
              · rw [List.mem_singleton.mp hq]; exact ⟨c, _, rfl, hc⟩
          · rename Fm _ _ _ _ _ _ => F12
            rename Same _ _ => S12
            rename (!isIn _ _) = false => hin
            refine hQT _ _ ⟨_, _, ⟨ps, hP, ?_, hpf⟩, by walk_at "vle", S12, F12⟩
            have : restK [k] p = [] := by simp at hin; simp [restK, hin]
            rw [hrs, this, List.append_nil]; exact hpm
        case fin =>
          intro D9 items ms' oD9 s₆ hj ⟨LD, hdD⟩ S11 F11
          obtain ⟨ps, hP, hpm, hpf⟩ := hj
          rw [List.take_length] at hpm
          have hpsl : ps.length ≤ n' := by
            have h3 := congrArg List.length hpm
            have h4 := hrl ks'
            rw [List.length_map] at h3
            lia
          clear F10 S10
          repeat' walk_at "w"
          rename Sta _ _ => S
          rename Fm _ _ _ _ _ _ => F12
          rename Same _ _ => S12
          refine dict_dmk S S12 F12 R1.handled (F12.has (D9, oD9) mem0) LD hdD (hP.at fun q hq => F12.has q (by simp [hq])) (by lia) (by rw [hpm]; exact D'.nodup.filter _) hpf fun o' d' s₈ S13 hm2 D2 F13 => ?_
          have F14 := (F13.sublist (own' := (d', o') :: (_, _) :: (fl9, of9) :: (fl, ofN) :: objs) (.cons₂ _ (.cons _ ((List.Sublist.cons₂ _ (.cons _ (.cons₂ _ (.cons₂ _ (List.Sublist.refl _))))).trans (List.sublist_append_right _ _))))).last3
          rw [hpm] at D2
          change DMK prog w o' ps.length (restF f' ks' p) (restK ks' p) at D2
          clear F13 F12 S12
          repeat' walk_at "w"
          rename Fm _ _ _ _ _ _ => F15
          rename Same _ _ => S15
          rw [show (m : Int) - (List.length p : Int) = ((m - List.length p : Nat) : Int) by lia] at F15
          refine hQT _ _ ⟨m - List.length p, _, _, ?_, ⟨m - List.length p, fu, ps.length, _, _, _, ts ++ [(min seg m, dT, p :: dr)], _, _, _, _, _, _, _, _, rfl, rfl, Lnew, hdN, (hts.mono fun q hq => by simp [hq]).snoc mem1 TT mem2 L5 hbs5, .inr mem0, hm2, by lia, D2, rfl, by lia, by lia, by simp; lia, by rw [hbig]; simp⟩, S15, F15⟩
          lia
    · rename Fm _ _ _ _ _ _ => F8
      rename ¬ ((sh : Int) ≤ (m : Int)) => hge
      have hun : turnsF xs sh seg (fu + 1) m f' ks' = ([], f', ks') := by
        show (if m < sh then _ else _) = _
        rw [if_pos (by lia)]
      rw [hun, List.append_nil] at hbig
      exact hQT _ _ ⟨_, _, ⟨n', _, _, _, _, _, _, _, _, _, _, rfl, rfl, Lf, by rw [hbig]; exact hts, hcd, hm', hn', by rw [hbig]; exact D'⟩, S2, F8⟩
  · intro own' V' s₄ hj S2 F2
    obtain ⟨n', r, tr, of, tvs, cd, co, objs, mo, to, so, rfl, rfl, Lf, hts, hcd, hm', hn', D'⟩ := hj
    clear F1 S1
    repeat' walk_at "w"
    rename Fm _ _ _ _ _ _ => F10
    rename Same _ _ => S10
    rename TO _ [_, _] => TR
    exact hQF _ _ (h _ _ fl cd _ _ co _ n' _ S10 F10.keep (fun q hq => ⟨F10.off q hq, F10.has q hq⟩) mem0 mem1 (hcd.imp id fun h9 => by simp [h9]) TR Lf (hts.mono fun q hq => by simp [hq]) hn' D' hm')
noncomputable abbrev vTold (sl zl : Addr) : Vars := [(Str.ofString "samples", .local, some (.ref sl)), (Str.ofString "sizes", .local, some (.ref zl)), (Str.ofString "train_content", .globalImplicit, none), (Str.ofString "BadArgument", .globalImplicit, none)]
set_option maxHeartbeats 4000000 in
theorem told_call {prog : Program} {w : World} {B base : Heap} {outer : List Env} {A : Around} {E : Value → Shared → Prop} {s : Shared} {Q : Value → Shared → Prop} {sl zl : Addr} {ol oz : Obj} {sh seg size : Nat} {t1 t2 t3 : Tok} {vs : List Value} {xs : List Bs}
    (S : Sta (KK w) B) (R : Room A 6) (hB : ∀ b o, B.get? b = some o → base.get? b = some o) (hbase : base.StaysIn s.heap) (hfr : A.frames = some outer) (hfun : s.heap.FunFrames base outer)
    (hl : s.heap.get? sl = some ol) (L : LO ol vs) (hv : BsAre vs xs) (hz : s.heap.get? zl = some oz) (Z : TO oz [.int size t1, .int seg t2, .int sh t3]) (hs1 : 1 ≤ sh) (hs2 : sh ≤ seg) (hs3 : seg ≤ size) (hs4 : 8 ≤ size) (hs5 : size ≤ 100) (hxs : xs.length ≤ 100) (hxl : ∀ y ∈ xs, y.length ≤ 100)
    (h : ∀ t s', Same s s' → base.StaysIn s'.heap → s.heap.UpToSlots s'.heap → Q (OB (trainF xs size seg sh) t) s') :
    wpAny (model prog w) A (call (.ref 151) [.ref sl, .ref zl]) Q E s := by
  refine wpAny_call ?_
  refine' enterF (K := KK w) (G := s.heap) (binds := [(Str.ofString "samples", .ref sl), (Str.ofString "sizes", .ref zl)]) [] hfr S (fun b o e => hbase b o (hB b o e)) (fun _ _ e => e) ?hown ?hnd ?ho ?hcd R ?hb ?h ?hpre ?hcn ?hdb ?hco ?hgen ?hk
  case hown => intro p hp; cases hp
  case hnd => exact .nil
  walk_at "enter"
  intro env A' s₁ hf hfm hfr1 hL hS hk1 F R1
  refine hideQ fun QF hQF => ?_
  dsimp only [initV] at F
  have hbL : base.get? env.locals = none := by
    cases q : base.get? env.locals with
    | none => rfl
    | some o => have := hbase _ _ q; rw [hL] at this; cases this
  refine wpAny_execs_cons ?_
  refine wpAny_Try_except ?_
  repeat' walk_at "w"
  rename Sta _ _ => S
  rename Fm _ _ _ _ _ _ => F1
  have hfun1 : s₁.heap.FunFrames base (env :: outer) := F1.frames hfm hbL (hfun.of_keeps fun b o hb _ => ⟨o, hk1 b o hb, rfl⟩)
  have hpb : ∀ a, priv env a → base.get? a = none := fun a ha => by
    cases q : base.get? a with
    | none => rfl
    | some o => have := hbase _ _ q; rw [F1.prv a ha] at this; cases this
  refine train_call S R1 F1.inB hfr1 hfun1 (fun b o e => hk1 b o (hbase b o e)) (F1.keep _ _ hl) L hv hs1 hs2 hs3 hs4 hs5 hxs hxl (fun c t s₂ hS2 hk2 hc => ?_) (fun e a0 s₂ hS2 hc hfly hup => ?_)
  · have := h t s₂ (hS.trans hS2) (fun b o e => hk2 b o (hk1 b o (hbase b o e))) (.of_keeps fun b o e => hk2 b o (hk1 b o e))
    rw [hc] at this
    exact hQF _ _ this
  · refine wpAny_looks_onW hfr1 hfm hfly fun h₄ hheld sm₄ => ?_
    refine wpAny_landsW hheld fun h₅ hfl5 sm₅ => ?_
    have up5 : s₁.heap.UpToSlots h₅ := (hup.trans sm₄).trans sm₅
    have F5 := F1.slots hf hB hpb hfl5.1 up5
    obtain ⟨nm, q, bs, hdct, sn, sub, ab, col, dd, k0, k1, k2, k3, k5, hbad⟩ := bad_at w
    obtain ⟨ob, hob, hobc⟩ := hfl5.there
    refine wpAny_handleBy_cons (codeAny_handlers_test ?_) (by intro q; cases q)
    refine ldG S F5 (g_Bad w) mem3 ?_
    refine wpAny_excMatches_sub_self (F5.inK S _ _ hbad) hob hobc bmBad_base (codeAny_handlers_suite ?_)
    refine lands_againW hfl5 fun h₆ hfl6 sm6 => ?_
    have up6 : s₁.heap.UpToSlots h₆ := up5.trans sm6
    have F6 := F1.slots hf hB hpb hfl6.1 up6
    clear F1 F5
    have hh := h 0 { s₂ with heap := h₆ } (hS.trans (hS2.trans ⟨rfl, rfl, rfl⟩)) hfl6.1 ((Heap.UpToSlots.of_keeps hk1).trans up6)
    rw [hc] at hh
    repeat' walk_at "w"
    exact hQF _ _ hh
/-- turns in the heap -/
def TurnsAt (h : Heap) (vs : List Value) (ts : List (Nat × Int × List Bs)) : Prop :=
  vs.length = ts.length ∧ ∀ (i m : Nat) (T : Int) (ys : List Bs), ts[i]? = some (m, T, ys) → ∃ a o t1 t2 b p us, vs[i]? = some (.ref a) ∧ h.get? a = some o ∧ TO o [.int m t1, .int T t2, .ref b] ∧ h.get? b = some p ∧ LO p us ∧ BsA us ys
theorem TurnsIn.at {ms : List (Addr × Obj)} {vs : List Value} {ts : List (Nat × Int × List Bs)} {h : Heap} (P : TurnsIn ms vs ts) (hm : ∀ p ∈ ms, h.get? p.1 = some p.2) : TurnsAt h vs ts :=
  ⟨P.1, fun i m T ys e => by obtain ⟨a, o, t1, t2, b, p, us, h1, h2, h3, h4, h5, h6⟩ := P.2 i m T ys e; exact ⟨a, o, t1, t2, b, p, us, h1, hm _ h2, h3, hm _ h4, h5, h6⟩⟩
theorem TurnsAt.get {h : Heap} {vs : List Value} {ts : List (Nat × Int × List Bs)} (P : TurnsAt h vs ts) {i : Nat} (hi : i < vs.length) : ∃ m T ys, ts[i]? = some (m, T, ys) ∧ ∃ a o t1 t2 b p us, vs[i]? = some (.ref a) ∧ h.get? a = some o ∧ TO o [.int (m : Nat) t1, .int T t2, .ref b] ∧ h.get? b = some p ∧ LO p us ∧ BsA us ys := by
  have hi' : i < ts.length := P.1 ▸ hi
  refine ⟨ts[i].1, ts[i].2.1, ts[i].2.2, by simp [hi'], P.2 i _ _ _ (by simp [hi'])⟩
noncomputable def headsF (ts : List (Nat × Int × List Bs)) : List Bs := ts.map fun t => t.2.2.headD []
noncomputable def contF (xs : List Bs) (ts : List (Nat × Int × List Bs)) : Option Bs :=
  if 8 ≤ (headsF ts).reverse.flatten.length then some (headsF ts).reverse.flatten else
    if 8 - (headsF ts).reverse.flatten.length ≤ xs.flatten.length then some (xs.flatten.drop (xs.flatten.length - (8 - (headsF ts).reverse.flatten.length)) ++ (headsF ts).reverse.flatten) else none
theorem head_val {us : List Value} {ys : List Bs} (h : BsA us ys) (hn : ys ≠ []) : ∃ t, us[(0 : Int).toNat]? = some (.bytes (ys.headD []).toArray t) := by
  cases ys with
  | nil => exact absurd rfl hn
  | cons y r => exact h.2 0 y rfl
set_option maxHeartbeats 4000000 in
theorem content_call {prog : Program} {w : World} {B : Heap} {A : Around} {E : Value → Shared → Prop} {s : Shared} {Q : Value → Shared → Prop} {sl tl : Addr} {ol ot : Obj} {vs tvs : List Value} {xs : List Bs} {ts : List (Nat × Int × List Bs)}
    (S : Sta (KK w) B) (R : Room A 2) (hB : ∀ b o, B.get? b = some o → s.heap.get? b = some o) (hl : s.heap.get? sl = some ol) (L : LO ol vs) (hv : BsAre vs xs) (ht : s.heap.get? tl = some ot) (Lt : LO ot tvs) (hts : TurnsAt s.heap tvs ts)
    (hne : ∀ t ∈ ts, t.2.2 ≠ []) (hfl : (headsF ts).flatten.length ≤ 10000) (hxf : xs.flatten.length ≤ 10000) (htl : ts.length ≤ 1000)
    (h : ∀ t s', Same s s' → (∀ c o, s.heap.get? c = some o → s'.heap.get? c = some o) → Q (OB (contF xs ts) t) s') :
    wpAny (model prog w) A (call (.ref 144) [.ref sl, .ref tl]) Q E s := by
  refine wpAny_call ?_
  refine' enter (K := KK w) (G := s.heap) (binds := [(Str.ofString "samples", .ref sl), (Str.ofString "turns", .ref tl)]) [] S hB (fun _ _ e => e) ?hown ?hnd ?ho ?hcd R ?hb ?h ?hpre ?hcn ?hdb ?hco ?hgen ?hk
  case hown => intro p hp; cases hp
  case hnd => exact .nil
  walk_at "enter"
  intro env A' s₁ hf hS hk F R1
  refine hideQ fun QF hQF => ?_
  dsimp only [initV] at F
  have hts1 := hts.1
  repeat' walk_at "w"
  rename Fm _ _ _ _ _ _ => F1
  rename Same _ _ => S1
  refine' Comp_v (ms := []) (stat := _) (mk_list R1.handled F1 (Lt.at (F1.keep _ _ ht))) (fun i items ms => ms = [] ∧ BsAre items (headsF (ts.take i))) S1 hf ⟨rfl, rfl, fun i x e => by simp [headsF] at e⟩ (by lia) ?C (fun i items ms hj => by rw [hj.2.1, headsF, List.length_map, List.length_take]; lia) (fun h' hk => Lt.at (hk _ _ (by simp) (F1.keep _ _ ht))) ?turn ?fin
  case C => walk_at "compok"
  case turn =>
    intro G' cenv I D i v items ms' oI oD s₂ hG hi hv2 hj S2 F2 QT hQT
    obtain ⟨rfl, hit⟩ := hj
    obtain ⟨m, T, ys, hty, a, oa, ta, tb, b, ob, us, hva, ha, Ta, hb, Lb, hbs⟩ := hts.get hi
    rw [hva] at hv2; cases hv2
    have haG := hG a oa (by simp) (F1.keep _ _ ha)
    have hbG := hG b ob (by simp) (F1.keep _ _ hb)
    obtain ⟨t0, hx0⟩ := head_val hbs (hne _ (List.mem_of_getElem? hty))
    clear F1 S1
    repeat' walk_at "w"
    rename Fm _ _ _ _ _ _ => F3
    rename Same _ _ => S3
    refine hQT _ _ ⟨_, _, ⟨rfl, ?_⟩, by walk_at "vle", S3, F3⟩
    rw [show headsF (ts.take (i + 1)) = headsF (ts.take i) ++ [ys.headD []] by rw [headsF, take_succ' hty, List.map_append]; rfl]
    exact bsAre_snoc hit
  case fin =>
    intro D items ms' oD s₂ hj ⟨LD, _⟩ S2 F2
    obtain ⟨rfl, hit⟩ := hj
    rw [hts1, List.take_length] at hit
    have hrev := bsAre_rev hit
    have hz1 : (headsF ts).reverse.flatten.length ≤ 1000000 := by rw [len_flat_rev]; lia
    have hz2 : xs.flatten.length ≤ 1000000 := by lia
    have hz3 : (headsF ts).reverse.flatten.length ≤ 10000 := by rw [len_flat_rev]; lia
    have hil := hit.1
    have hhl : (headsF ts).length = ts.length := by simp [headsF]
    clear F1 S1
    change Fm _ _ _ [(_, _)] _ _ at F2
    have hcf : contF xs ts = if 8 ≤ (headsF ts).reverse.flatten.length then some (headsF ts).reverse.flatten else
      if 8 - (headsF ts).reverse.flatten.length ≤ xs.flatten.length then some (xs.flatten.drop (xs.flatten.length - (8 - (headsF ts).reverse.flatten.length)) ++ (headsF ts).reverse.flatten) else none := rfl
    repeat' walk_at "w"
    · rename Fm _ _ _ _ _ _ => F3
      rename Same _ _ => S3
      rename (_ : Int) ≤ 0 => hle
      rw [if_pos (by lia)] at hcf
      have := fun t s9 h1 h2 => h t s9 h1 h2
      rw [hcf] at this
      exact hQF _ _ (this _ _ S3 F3.keep)
    · rename Fm _ _ _ _ _ _ => F3
      rename Same _ _ => S3
      rename ¬ ((_ : Int) ≤ 0) => hle
      rename ((8 : Int) - _ ≤ _) => hle2
      rw [if_neg (by lia), if_pos (by lia)] at hcf
      have := fun t s9 h1 h2 => h t s9 h1 h2
      rw [hcf] at this
      rw [show (xs.flatten.length : Int) - (8 - ((headsF ts).reverse.flatten.length : Int)) = ((xs.flatten.length - (8 - (headsF ts).reverse.flatten.length) : Nat) : Int) by lia, pk_from _ _ (by lia)]
      exact hQF _ _ (this _ _ S3 F3.keep)
    · rename Fm _ _ _ _ _ _ => F3
      rename Same _ _ => S3
      rename ¬ ((_ : Int) ≤ 0) => hle
      rename ¬ ((8 : Int) - _ ≤ _) => hle2
      rw [if_neg (by lia), if_neg (by lia)] at hcf
      have := fun t s9 h1 h2 => h t s9 h1 h2
      rw [hcf] at this
      exact hQF _ _ (this 0 _ S3 F3.keep)
noncomputable def playS (sh : Nat) (f : Bs → Option Int) (ts : List (Nat × Int × List Bs)) : Bs → Option Int := ts.foldl (fun f t => takeF f sh (t.2.2.headD []) ((t.2.2.headD []).length + 1 - sh)) f
noncomputable abbrev vPla (sl tl cd : Addr) (sh : Nat) (t1 : Tok) (sg mo to so te : Option Value) : Vars := [(Str.ofString "samples", .local, some (.ref sl)), (Str.ofString "turns", .local, some (.ref tl)), (Str.ofString "counts", .cell, some (.ref cd)), (Str.ofString "shingle", .cell, some (.int sh t1)), (Str.ofString "shingles", .local, sg), (Str.ofString "most", .local, mo), (Str.ofString "top", .local, to), (Str.ofString "some", .local, so), (Str.ofString "text", .cell, te), (Str.ofString "Shingles", .globalImplicit, none), (Str.ofString "best_segment", .globalImplicit, none), (Str.ofString "range", .globalImplicit, none), (Str.ofString "len", .globalImplicit, none)]
theorem ints_map_succ {vs : List Value} {g : Nat → Int} {i : Nat} {t : Tok} (h : IntsAre vs ((List.range i).map g)) : IntsAre (vs ++ [.int (g i) t]) ((List.range (i + 1)).map g) := by
  rw [map_range_succ]; exact ints_snoc h _ _
set_option maxHeartbeats 4000000 in
theorem played_call {prog : Program} {w : World} {B : Heap} {A : Around} {E : Value → Shared → Prop} {s : Shared} {Q : Value → Shared → Prop} {sl tl cd : Addr} {ol ot co : Obj} {vs tvs : List Value} {xs : List Bs} {ts : List (Nat × Int × List Bs)} {sh n : Nat} {t1 : Tok} {fc : Bs → Option Int}
    (S : Sta (KK w) B) (R : Room A 6) (hB : ∀ b o, B.get? b = some o → s.heap.get? b = some o) (hl : s.heap.get? sl = some ol) (L : LO ol vs) (hv : BsAre vs xs) (ht : s.heap.get? tl = some ot) (Lt : LO ot tvs) (hts : TurnsAt s.heap tvs ts)
    (hc : s.heap.get? cd = some co) (D : DM prog w co n fc) (hm : (cd == sysModules) = false) (hs1 : 1 ≤ sh) (hs2 : sh ≤ 4) (hxs : xs.length ≤ 4) (hxl : ∀ y ∈ xs, y.length ≤ 12)
    (hne : ∀ t ∈ ts, t.2.2 ≠ [] ∧ sh ≤ t.1 ∧ t.1 ≤ 100 ∧ (t.2.2.headD []).length ≤ 100) (htl : ts.length ≤ 1000)
    (hp : ∀ (i m : Nat) (T : Int) (ys : List Bs), ts[i]? = some (m, T, ys) → bestF xs (playS sh (cntF xs sh) (ts.take i)) sh m = (T, ys.headD []))
    (hq : ∀ y ∈ xs, worL (playS sh (cntF xs sh) ts) sh y = (List.range (y.length + 1 - sh)).map fun i => (fc (cut y i sh)).getD 0)
    (h : ∀ s', Same s s' → (∀ c o, s.heap.get? c = some o → s'.heap.get? c = some o) → Q (.bool true) s') :
    wpAny (model prog w) A (call (.ref 161) [.ref sl, .ref tl, .ref cd, .int sh t1]) Q E s := by
  refine wpAny_call ?_
  refine' enter (K := KK w) (G := s.heap) (binds := [(Str.ofString "samples", .ref sl), (Str.ofString "turns", .ref tl), (Str.ofString "counts", .ref cd), (Str.ofString "shingle", .int sh t1)]) [] S hB (fun _ _ e => e) ?hown ?hnd ?ho ?hcd R ?hb ?h ?hpre ?hcn ?hdb ?hco ?hgen ?hk
  case hown => intro p hp; cases hp
  case hnd => exact .nil
  walk_at "enter"
  intro env A' s₁ hf hS hk F R1
  refine hideQ fun QF hQF => ?_
  dsimp only [initV] at F
  have hts1 := hts.1
  repeat' walk_at "w"
  rename Sta _ _ => S
  rename Fm _ _ _ _ _ _ => F1
  have hxl2 : ∀ y ∈ xs, y.length ≤ 100 := fun y hy => by have := hxl y hy; lia
  refine new_call S (R1.less (by decide)) F1.inB (F1.keep _ _ hl) L hv hs1 (by lia) (by lia) hxl2 fun x ox dx od c oc s₂ hS2 hk2 hx0 hd0 hc0 hxd hx hd hcc H => ?_
  have F2 := F1.adopt (new := [(c, oc), (dx, od), (x, ox)]) hk2 (fun p hp => by
        simp only [List.mem_cons, List.not_mem_nil, or_false] at hp
        rcases hp with rfl | rfl | rfl <;> assumption) (fun p hp => by
        simp only [List.mem_cons, List.not_mem_nil, or_false] at hp
        rcases hp with rfl | rfl | rfl <;> assumption) (by simp [Ne.symm H.nd, Ne.symm H.nx, Ne.symm hxd])
  change Fm _ _ _ [(c, oc), (dx, od), (x, ox)] _ _ at F2
  have S2 := hS.trans hS2
  clear F1 hS hS2 hk2 hx0 hd0 hc0 hx hd hcc
  repeat' walk_at "w"
  rename Fm _ _ _ _ _ _ => F3
  rename Same _ _ => S3
  refine For_it (mk_list R1.handled F3 (Lt.at (F3.keep _ _ ht))) (fun i own' V' => X5 fun (oc' : Obj) (nn : Nat) (mo to so : Option Value) => N4 (own' = [(c, oc'), (dx, od), (x, ox)]) (V' = vPla sl tl cd sh t1 (some (.ref x)) mo to so none) (nn ≤ 10100 + 101 * i) (Sh prog w sh nn (playS sh (cntF xs sh) (ts.take i)) x dx c ox od oc')) S3 ⟨oc, 10100, _, _, _, rfl, rfl, by lia, H⟩ (fun _ _ _ _ _ F' => Lt.at (F'.keep _ _ ht)) ?_ ?_
  · intro i v own' V' I oI s₃ hi hv2 hj S4 F4 QT hQT
    obtain ⟨oc', nn, mo, to, so, rfl, rfl, hnn, H'⟩ := hj
    obtain ⟨m, T, ys, hty, a, oa, ta, tb, b, ob, us, hva, ha, Ta, hb, Lb, hbs⟩ := hts.get hi
    rw [hva] at hv2; cases hv2
    obtain ⟨hn1, hn2, hn3, hn4⟩ := hne _ (List.mem_of_getElem? hty)
    dsimp only at hn1 hn2 hn3 hn4
    obtain ⟨t0, hx0⟩ := head_val hbs hn1
    have hbest := hp i m T ys hty
    have hplay : playS sh (cntF xs sh) (ts.take (i + 1)) = takeF (playS sh (cntF xs sh) (ts.take i)) sh (ys.headD []) ((ys.headD []).length + 1 - sh) := by
      unfold playS; rw [take_succ' hty, List.foldl_append]; rfl
    rw [hplay] at hQT
    clear F3 S3 H hplay
    generalize ys.headD [] = p at hx0 hn4 hbest hQT ⊢
    generalize playS sh (cntF xs sh) (ts.take i) = fi at H' hbest hQT
    repeat' walk_at "w"
    rename Sta _ _ => S
    rename Fm _ _ _ _ _ _ => F5
    rename Same _ _ => S5
    refine best_call S (R1.less (by decide)) F5.inB (F5.keep _ _ hl) L hv (F5.has (x, ox) mem3) (F5.has (dx, od) mem2) (F5.has (c, oc') mem1) H' hs1 hn2 hn3 (by lia) hxl2 fun l9 o9 u1 u2 s₄ hS4 hk4 hfr4 hl4 T4 => ?_
    rw [hbest] at T4
    dsimp only at T4
    have F6 := F5.adopt1 hk4 hfr4 hl4
    have S6 := S5.trans hS4
    have hX := H'.X
    have hD := H'.D
    clear F5 S5
    repeat' walk_at "w"
    · rename Sta _ _ => S
      rename Fm _ _ _ _ _ _ => F7
      rename Same _ _ => S7
      refine take_call S (R1.less (by decide)) F7.inB (F7.has (x, ox) mem5) (F7.has (dx, od) mem4) (F7.has (c, oc') mem3) (F7.offB (o := oc') mem3) H' hn4 hs1 (by lia) (by lia) fun oc2 s₅ hS5 hk5 hc5 H2 => ?_
      have F8 := F7.updA (oa3 _) hk5 hc5
      have S8 := S7.trans hS5
      clear F7 S7 hX hD H'
      repeat' walk_at "w"
      rename Fm _ _ _ _ _ _ => F9
      rename Same _ _ => S9
      exact hQT _ _ ⟨_, _, ⟨oc2, _, _, _, _, rfl, rfl, by lia, H2⟩, S9, F9.sel [2, 3, 4, 5]⟩
  · intro own' V' s₃ hj S4 F4
    obtain ⟨oc', nn, mo, to, so, rfl, rfl, hnn, H'⟩ := hj
    rw [hts1, List.take_length] at H'
    have hlen : vs.length = xs.length := hv.1
    clear F3 S3 H
    repeat' walk_at "w"
    rename Fm _ _ _ _ _ _ => F5
    rename Same _ _ => S5
    refine For_it (mk_list R1.handled F5 (L.at (F5.keep _ _ hl))) (fun i own' V' => X1 fun (te : Option Value) => N2 (own' = [(c, oc'), (dx, od), (x, ox)]) (V' = vPla sl tl cd sh t1 (some (.ref x)) mo to so te)) S5 ⟨_, rfl, rfl⟩ (fun _ _ _ _ _ F' => L.at (F'.keep _ _ hl)) ?_ ?_
    · intro i v own' V' I oI s₄ hi hv' hj S6 F6 QT hQT
      obtain ⟨te, rfl, rfl⟩ := hj
      obtain ⟨y, hy⟩ : ∃ y, xs[i]? = some y := ⟨xs[i]'(by lia), by simp [show i < xs.length by lia]⟩
      obtain ⟨ty, hvy⟩ := hv.2 i y hy
      rw [hvy] at hv'; cases hv'
      have hyl := hxl y (List.mem_of_getElem? hy)
      have hqy := hq y (List.mem_of_getElem? hy)
      have hX := H'.X
      have hD := H'.D
      clear F5 S5
      repeat' walk_at "w"
      rename Sta _ _ => S
      rename Fm _ _ _ _ _ _ => F7
      rename Same _ _ => S7
      refine worths_call S (R1.less (by decide)) F7.inB (F7.has (x, ox) mem3) (F7.has (dx, od) mem2) (F7.has (c, oc') mem1) H' (by lia) hs1 (by lia) fun wl ow wvs s₅ hS5 hk5 hw0 hwl Lw hiw => ?_
      rw [hqy] at hiw
      have F8 := F7.adopt1 hk5 hw0 hwl
      have S8 := S7.trans hS5
      clear F7 S7 hX hD
      repeat' walk_at "w"
      rename IsRange _ _ _ _ _ _ _ _ => hr
      rename Fm _ _ _ _ _ _ => F9
      rename Same _ _ => S9
      have hN : ((y.length:Int) - sh + 1).toNat = y.length + 1 - sh := by lia
      refine' Comp_v (ms := []) (stat := _) (mk_range R1.handled F9 hr (by lia) (by lia)) (fun i items ms => ms = [] ∧ IntsAre items ((List.range i).map fun i => (fc (cut y i sh)).getD 0)) S9 hf ⟨rfl, .nil⟩ (by lia) ?C (fun i items ms hj => by have := hj.2.length; simp at this; lia) (fun _ _ => trivial) ?turn ?fin
      case C => walk_at "compok"
      case turn =>
        intro G' cenv I2 D2 j v items ms' oI2 oD2 s₆ hG hj' hv3 hj S10 F10 QT hQT
        obtain ⟨tv, rfl⟩ := hv3
        obtain ⟨rfl, hit⟩ := hj
        have hcG := hG cd co (by simp) (F9.keep _ _ hc)
        have hcut := pk_cut (x := y) (i := j) (n := sh) (by lia)
        clear F9 S9
        repeat' walk_at "w"
        rename Fm _ _ _ _ _ _ => F11
        rename Same _ _ => S11
        refine hQT _ _ ⟨_, _, ⟨rfl, ?_⟩, by walk_at "vle", S11, F11⟩
        rw [hcut]
        exact ints_map_succ (g := fun i => (fc (cut y i sh)).getD 0) hit
      case fin =>
        intro D2 items ms' oD2 s₆ hj ⟨LD, _⟩ S10 F10
        obtain ⟨rfl, hit⟩ := hj
        rw [hN] at hit
        change Fm _ _ _ [(_, _), (_, _), (_, _), (_, _), (_, _), (_, _)] _ _ at F10
        clear F9 S9
        repeat' walk_at "w"
        rename Fm _ _ _ _ _ _ => F11
        rename Same _ _ => S11
        exact hQT _ _ ⟨_, _, ⟨_, rfl, rfl⟩, S11, F11.sel [2, 3, 4, 5]⟩
    · intro own' V' s₄ hj S6 F6
      obtain ⟨te, rfl, rfl⟩ := hj
      clear F5 S5
      repeat' walk_at "w"
      rename Fm _ _ _ _ _ _ => F7
      rename Same _ _ => S7
      exact hQF _ _ (h _ S7 F7.keep)
noncomputable def earlyF (ts : List (Nat × Int × List Bs)) (seg : Nat) : List Bs := headsF (ts.filter fun t => decide (t.1 = seg))
theorem TurnsAt.mono {h h' : Heap} {vs : List Value} {ts : List (Nat × Int × List Bs)} (P : TurnsAt h vs ts) (k : ∀ b o, h.get? b = some o → h'.get? b = some o) : TurnsAt h' vs ts :=
  ⟨P.1, fun i m T ys e => by obtain ⟨a, o, t1, t2, b, p, us, h1, h2, h3, h4, h5, h6⟩ := P.2 i m T ys e; exact ⟨a, o, t1, t2, b, p, us, h1, k _ _ h2, h3, k _ _ h4, h5, h6⟩⟩
theorem funframes_slots {h h' base : Heap} {l : List Env} (hl : h.FunFrames base l) (u : h.UpToSlots h') : h'.FunFrames base l :=
  hl.of_keeps fun b o ho hd => by obtain ⟨sl, hs⟩ := u b o ho hd; exact ⟨_, hs, rfl⟩
theorem Comp_d {prog : Program} {w : World} {A : Around} {E : Value → Shared → Prop} {s₀ s : Shared} {B G : Heap} {env : Env} {V V' : Vars} {elt target iter : PySem.Expr} {ifs : List PySem.Expr} {scope : Scope} {pos : Pos} {ms stat : List (Addr × Obj)} {Q : Value → Shared → Prop} {d : Addr} {o : Obj} {ks : List Bs}
    (hh : A.handled = none) (F : Fm B G env (ms ++ stat) V s.heap) (e : s.heap.get? d = some o) (D : DKs prog w o ks) (hd : (d == sysModules) = false)
    (J : Nat → List Value → List (Addr × Obj) → Prop) (hS : Same s₀ s) (hfn : env.func.isSome = true) (hJ : J 0 [] ms) (hn : ks.length ≤ 1000000)
    (C : CompOk scope V V') (hlen : ∀ i items ms, J i items ms → items.length ≤ i) (hdm : d ∉ ms.map (·.1))
    (turn : CTurn prog w A s₀ B s ms V' ks.length (fun i v => ∃ k t, ks[i]? = some k ∧ v = Value.bytes k.toArray t) J elt target ifs)
    (fin : ∀ D items ms' oD s₁, J ks.length items ms' → LO oD items ∧ oD.dict = none → Same s₀ s₁ → Fm B G env ((D, oD) :: (ms' ++ stat)) V s₁.heap → Q (.ref D) s₁) :
    wpAny (model prog w) A (pyIter (.ref d)) (fun it s₂ => CompK prog w A E env scope elt target iter ifs pos (compPost (model prog w) A E none Q) it s₂) E s := by
  obtain ⟨Ob, M⟩ := mk_dict (E := E) hh F e D hd
  exact Comp_v M J hS hfn hJ hn C hlen (fun h' hk => hk d o hdm e) turn fin
noncomputable abbrev vCri (sl d tl zl : Addr) (size : Nat) (t1 : Tok) (seg : Nat) (t2 : Tok) (sh : Nat) (t3 : Tok) (to wi ea : Option Value) : Vars := [(Str.ofString "samples", .local, some (.ref sl)), (Str.ofString "shared", .local, some (.ref d)), (Str.ofString "turns", .local, some (.ref tl)), (Str.ofString "sizes", .local, some (.ref zl)), (Str.ofString "size", .local, some (.int size t1)), (Str.ofString "segment", .cell, some (.int seg t2)), (Str.ofString "shingle", .local, some (.int sh t3)), (Str.ofString "told", .local, to), (Str.ofString "wide", .cell, wi), (Str.ofString "early", .local, ea), (Str.ofString "_law_told", .globalImplicit, none), (Str.ofString "_law_content", .globalImplicit, none), (Str.ofString "len", .globalImplicit, none)]
theorem earlyF_snoc {ts : List (Nat × Int × List Bs)} {i m seg : Nat} {T : Int} {ys : List Bs} (h : ts[i]? = some (m, T, ys)) : earlyF (ts.take (i + 1)) seg = earlyF (ts.take i) seg ++ if m = seg then [ys.headD []] else [] := by
  unfold earlyF headsF
  rw [take_succ' h, List.filter_append, List.map_append]
  by_cases e : m = seg <;> simp [e]
set_option maxHeartbeats 4000000 in
theorem cright_call {prog : Program} {w : World} {B base : Heap} {outer : List Env} {A : Around} {E : Value → Shared → Prop} {s : Shared} {Q : Value → Shared → Prop} {sl d tl zl : Addr} {ol od ot oz : Obj} {sh seg size n : Nat} {t1 t2 t3 : Tok} {vs tvs : List Value} {xs ks : List Bs} {ts : List (Nat × Int × List Bs)}
    (S : Sta (KK w) B) (R : Room A 7) (hB : ∀ b o, B.get? b = some o → base.get? b = some o) (hbase : base.StaysIn s.heap) (hfr : A.frames = some outer) (hfun : s.heap.FunFrames base outer)
    (hl : base.get? sl = some ol) (L : LO ol vs) (hv : BsAre vs xs) (hd : base.get? d = some od) (D : DKs prog w od ks) (hm : (d == sysModules) = false) (hkl : ks.length ≤ 1000) (ht : base.get? tl = some ot) (Lt : LO ot tvs) (hts : TurnsAt base tvs ts)
    (hz : base.get? zl = some oz) (Z : TO oz [.int size t1, .int seg t2, .int sh t3]) (hs1 : 1 ≤ sh) (hs2 : sh ≤ seg) (hs3 : seg ≤ size) (hs4 : 8 ≤ size) (hs5 : size ≤ 40) (hxs : xs.length ≤ 4) (hxl : ∀ y ∈ xs, y.length ≤ 12)
    (hne : ∀ t ∈ ts, t.2.2 ≠ []) (hfl : (headsF ts).flatten.length ≤ 10000) (htl : ts.length ≤ 1000) (hel : (earlyF ts seg).flatten.length ≤ 10000)
    (p1 : trainF xs size seg sh = contF xs ts) (p2 : (trainF xs (size + seg) seg sh).isNone = (trainF xs size seg sh).isNone) (p3 : ∀ w, trainF xs (size + seg) seg sh = some w → w.length ≤ 1000 ∧ endsB w (earlyF ts seg).reverse.flatten = true)
    (p4 : ∀ w, trainF xs (size + seg) seg sh = some w → size + seg - sh < w.length ∨ ∀ k ∈ ks, isIn k w = true)
    (h : ∀ s', Same s s' → base.StaysIn s'.heap → s.heap.UpToSlots s'.heap → Q (.bool true) s') :
    wpAny (model prog w) A (call (.ref 156) [.ref sl, .ref d, .ref tl, .ref zl]) Q E s := by
  refine wpAny_call ?_
  refine' enterF (K := KK w) (G := s.heap) (binds := [(Str.ofString "samples", .ref sl), (Str.ofString "shared", .ref d), (Str.ofString "turns", .ref tl), (Str.ofString "sizes", .ref zl)]) [] hfr S (fun b o e => hbase b o (hB b o e)) (fun _ _ e => e) ?hown ?hnd ?ho ?hcd R ?hb ?h ?hpre ?hcn ?hdb ?hco ?hgen ?hk
  case hown => intro p hp; cases hp
  case hnd => exact .nil
  walk_at "enter"
  intro env A' s₁ hf hfm hfr1 hL hS hk1 F R1
  refine hideQ fun QF hQF => ?_
  dsimp only [initV] at F
  have hlG := hbase _ _ hl
  have hdG := hbase _ _ hd
  have htG := hbase _ _ ht
  have hzG := hbase _ _ hz
  have hbL : base.get? env.locals = none := by
    cases q : base.get? env.locals with
    | none => rfl
    | some o => have := hbase _ _ q; rw [hL] at this; cases this
  repeat' walk_at "w"
  rename Sta _ _ => S
  rename Fm _ _ _ _ _ _ => F1
  rename Same _ _ => S1
  have hpb : ∀ a, priv env a → base.get? a = none := fun a ha => by
    cases q : base.get? a with
    | none => rfl
    | some o => have := hbase _ _ q; rw [F1.prv a ha] at this; cases this
  have hps : ∀ a, priv env a → s.heap.get? a = none := F1.prv
  have hxl2 : ∀ y ∈ xs, y.length ≤ 100 := fun y hy => by have := hxl y hy; lia
  refine told_call S R1 hB (fun b o e => F1.keep _ _ (hbase b o e)) hfr1 (F1.frames hfm hbL (hfun.of_keeps fun b o hb _ => ⟨o, F1.keep b o hb, rfl⟩)) (F1.keep _ _ hlG) L hv (F1.keep _ _ hzG) Z hs1 hs2 hs3 hs4 (by lia) (by lia) hxl2 fun u1 s₂ hS2 hb2 hu2 => ?_
  have F2 := (F1.slots hf hB hpb hb2 hu2).freeze
  have U2 : s.heap.UpToSlots (frz s₂.heap env []) := fun b o e hn => by
    obtain ⟨sl, hs⟩ := hu2 b o (F1.keep b o e) hn
    exact ⟨sl, frz_get hs (fun hp => by rw [hps b hp] at e; cases e) (by simp)⟩
  have K2 : ∀ b o, base.get? b = some o → (frz s₂.heap env []).get? b = some o := fun b o e => frz_get (hb2 b o e) (fun hp => by rw [hpb b hp] at e; cases e) (by simp)
  have S2 := S1.trans hS2
  generalize frz s₂.heap env [] = G2 at F2 U2 K2
  clear F1 S1 hS2 hb2 hu2 hlG hdG htG hzG
  repeat' walk_at "w"
  rename Sta _ _ => S
  rename Fm _ _ _ _ _ _ => F3
  rename Same _ _ => S3
  rename TO _ [_, _, _] => Z2
  rw [show (size : Int) + (seg : Int) = ((size + seg : Nat) : Int) by lia] at Z2
  refine told_call S R1 hB (fun b o e => F3.keep _ _ (K2 b o e)) hfr1 (F3.frames hfm hbL ((funframes_slots hfun U2).of_keeps fun b o hb _ => ⟨o, F3.keep b o hb, rfl⟩)) (F3.keep _ _ (K2 _ _ hl)) L hv (F3.has _ mem0) Z2 hs1 hs2 (by lia) (by lia) (by lia) (by lia) hxl2 fun u2 s₄ hS4 hb4 hu4 => ?_
  have F4 := (F3.slots hf hB hpb hb4 hu4).freeze
  have U4 : s.heap.UpToSlots (frz s₄.heap env []) := fun b o e hn => by
    obtain ⟨sl1, hs1⟩ := U2 b o e hn
    obtain ⟨sl, hs⟩ := hu4 b _ (F3.keep b _ hs1) hn
    exact ⟨sl, frz_get hs (fun hp => by rw [hps b hp] at e; cases e) (by simp)⟩
  have K4 : ∀ b o, base.get? b = some o → (frz s₄.heap env []).get? b = some o := fun b o e => frz_get (hb4 b o e) (fun hp => by rw [hpb b hp] at e; cases e) (by simp)
  have S4 := S3.trans hS4
  generalize frz s₄.heap env [] = G4 at F4 U4 K4
  clear F3 S3 hS4 hb4 hu4 K2 U2 Z2
  have hlG := K4 _ _ hl
  have hdG := K4 _ _ hd
  have htG := K4 _ _ ht
  have htsG := hts.mono K4
  have hxf : xs.flatten.length ≤ 10000 := by
    have h1 := flat_len hxl
    have h2 : xs.length * 12 ≤ 4 * 12 := Nat.mul_le_mul_right _ hxs
    lia
  rcases ho2 : trainF xs (size + seg) seg sh with _ | w9
  · have ho1 : trainF xs size seg sh = none := by rw [ho2] at p2; cases q : trainF xs size seg sh with
      | none => rfl
      | some c => rw [q] at p2; cases p2
    rw [ho1] at p1 ⊢
    dsimp only [OB]
    repeat' walk_at "w"
    rename Sta _ _ => S
    rename Fm _ _ _ _ _ _ => F5
    rename Same _ _ => S5
    refine content_call S (R1.less (by decide)) F5.inB (F5.keep _ _ hlG) L hv (F5.keep _ _ htG) Lt (htsG.mono F5.keep) hne hfl hxf htl fun u5 s₅ hS5 hk5 => ?_
    rw [← p1]
    dsimp only [OB]
    have F6 := F5.grow hk5
    have S6 := S5.trans hS5
    clear F5 S5
    repeat' walk_at "w"
    rename Fm _ _ _ _ _ _ => F7
    rename Same _ _ => S7
    exact hQF _ _ (h _ S7 (fun b o e => F7.keep _ _ (K4 b o e)) (U4.trans (.of_keeps F7.keep)))
  · obtain ⟨c9, ho1⟩ : ∃ c, trainF xs size seg sh = some c := by
      cases q : trainF xs size seg sh with
      | none => rw [ho2, q] at p2; cases p2
      | some c => exact ⟨c, rfl⟩
    obtain ⟨hwl, hw3⟩ := p3 w9 ho2
    have hp4 := p4 w9 ho2
    rw [ho1] at p1 ⊢
    dsimp only [OB]
    repeat' walk_at "w"
    rename Sta _ _ => S
    rename Fm _ _ _ _ _ _ => F5
    rename Same _ _ => S5
    refine content_call S (R1.less (by decide)) F5.inB (F5.keep _ _ hlG) L hv (F5.keep _ _ htG) Lt (htsG.mono F5.keep) hne hfl hxf htl fun u5 s₅ hS5 hk5 => ?_
    rw [← p1]
    dsimp only [OB]
    have F6 := F5.grow hk5
    have S6 := S5.trans hS5
    clear F5 S5
    repeat' walk_at "w"
    rename Fm _ _ _ _ _ _ => F7
    rename Same _ _ => S7
    have hts1 := hts.1
    have hel1 : ∀ i, (earlyF (ts.take i) seg).length ≤ i := fun i => by
      unfold earlyF headsF
      rw [List.length_map]
      exact Nat.le_trans (List.length_filter_le _ _) (by rw [List.length_take]; lia)
    refine' Comp_k (ms := []) (stat := _) (V₁ := fun D => vCri sl d tl zl size t1 seg t2 sh t3 (some (.bytes c9.toArray u1)) (some (.bytes w9.toArray u2)) (some (.ref D))) (mk_list R1.handled F7 (Lt.at (F7.keep _ _ htG))) (fun i items ms => ms = [] ∧ BsAre items (earlyF (ts.take i) seg)) S7 hf ⟨rfl, rfl, fun i x e => by simp [earlyF, headsF] at e⟩ (by lia) ?C (fun D => sa9) (fun i items ms hj => by rw [hj.2.1]; exact hel1 i) (fun h' hk => Lt.at (hk _ _ (by simp) (F7.keep _ _ htG))) ?turn ?fin
    case C => walk_at "compok"
    case turn =>
      intro G' cenv I D9 i v items ms' oI oD s₆ hG hi hv2 hj S8 F8 QT hQT
      obtain ⟨rfl, hit⟩ := hj
      obtain ⟨m, T, ys, hty, a, oa, ta, tb, b, ob, us, hva, ha, Ta, hb, Lb, hbs⟩ := htsG.get hi
      rw [hva] at hv2; cases hv2
      have haG := hG a oa (by simp) (F7.keep _ _ ha)
      have hbG := hG b ob (by simp) (F7.keep _ _ hb)
      obtain ⟨t0, hx0⟩ := head_val hbs (hne _ (List.mem_of_getElem? hty))
      have hsn := earlyF_snoc (seg := seg) hty
      clear F7 S7
      repeat' walk_at "w"
      · rename Fm _ _ _ _ _ _ => F9
        rename Same _ _ => S9
        rename ((m : Int) == seg) = true => hc
        have hc' : m = seg := by have := beq_iff_eq.mp hc; lia
        rw [if_pos hc'] at hsn
        exact hQT _ _ ⟨_, _, ⟨rfl, by rw [hsn]; exact bsAre_snoc hit⟩, by walk_at "vle", S9, F9⟩
      · rename Fm _ _ _ _ _ _ => F9
        rename Same _ _ => S9
        rename ((m : Int) == seg) = false => hc
        have hc' : ¬ m = seg := fun e => beq_eq_false_iff_ne.mp hc (by rw [e])
        rw [if_neg hc', List.append_nil] at hsn
        exact hQT _ _ ⟨_, _, ⟨rfl, by rw [hsn]; exact hit⟩, by walk_at "vle", S9, F9⟩
    case fin =>
      intro D9 items ms' oD s₆ hj ⟨LD, _⟩ S8 F8
      obtain ⟨rfl, hit⟩ := hj
      rw [hts1, List.take_length] at hit
      have hrev := bsAre_rev hit
      have hz1 : (earlyF ts seg).reverse.flatten.length ≤ 1000000 := by rw [len_flat_rev]; lia
      have hil := hit.1
      have hhl := hel1 ts.length
      rw [List.take_length] at hhl
      change Fm _ _ _ [(_, _), (_, _)] _ _ at F8
      clear F7 S7
      repeat' walk_at "w"
      · rename Fm _ _ _ _ _ _ => F9
        rename Same _ _ => S9
        rename (_ : Int) < _ => hlt
        rw [decide_eq_true hlt]
        exact hQF _ _ (h _ S9 (fun b o e => F9.keep _ _ (K4 b o e)) (U4.trans (.of_keeps F9.keep)))
      · rename Fm _ _ _ _ _ _ => F9
        rename Same _ _ => S9
        rename ¬ ((_ : Int) < _) => hlt
        have hall : ∀ k ∈ ks, isIn k w9 = true := hp4.resolve_left (by lia)
        refine' Comp_d (ms := []) (stat := _) R1.handled F9 (F9.keep _ _ hdG) D hm (fun i items ms => ms = [] ∧ items = []) S9 hf ⟨rfl, rfl⟩ (by lia) ?C2 (fun i items ms hj => by rw [hj.2]; exact Nat.zero_le _) (by simp) ?turn2 ?fin2
        case C2 => walk_at "compok"
        case turn2 =>
          intro G' cenv I D8 i v items ms' oI oD8 s₈ hG hi hv2 hj S10 F10 QT hQT
          obtain ⟨k, tk, hki, rfl⟩ := hv2
          obtain ⟨rfl, rfl⟩ := hj
          have hk1 := hall k (List.mem_of_getElem? hki)
          clear F9 S9
          repeat' walk_at "w"
          rename Fm _ _ _ _ _ _ => F11
          rename Same _ _ => S11
          exact hQT _ _ ⟨_, _, ⟨rfl, rfl⟩, by walk_at "vle", S11, F11⟩
        case fin2 =>
          intro D8 items ms' oD8 s₈ hj ⟨LD8, _⟩ S10 F10
          obtain ⟨rfl, rfl⟩ := hj
          change Fm _ _ _ [(_, _), (_, _), (_, _), (_, _)] _ _ at F10
          have hin : IntsAre [] [] := .nil
          clear F9 S9
          repeat' walk_at "w"
          rename Fm _ _ _ _ _ _ => F11
          rename Same _ _ => S11
          exact hQF _ _ (h _ S11 (fun b o e => F11.keep _ _ (K4 b o e)) (U4.trans (.of_keeps F11.keep)))
local macro_rules | `(tactic| walk_at "compareOp NotEq ref ref") => `(tactic| (k_dflt (refine' ne_bs ?ha ?hb ?hi ?hj ?u ?_; (case ha => walk_at "lst"); (case hb => walk_at "lst"); (case hi => assumption); (case hj => assumption); (case u => walk_at "units"))))
def uni (ys : List Bs) : Prop := ys = List.replicate ys.length (ys.headD [])
theorem funframes_rebase {h base base' : Heap} : ∀ {l : List Env}, h.FunFrames base l → (∀ L ∈ l.filterMap (·.frame), base'.get? L = none) → h.FunFrames base' l
  | [], _, _ => trivial
  | env :: r, ⟨hk, ⟨L, o, hf, _, ho, hd⟩, hr⟩, hn => by
    rw [List.filterMap_cons, hf] at hn
    exact ⟨hk, ⟨L, o, hf, hn L List.mem_cons_self, ho, hd⟩, funframes_rebase hr fun L' hm => hn L' (List.mem_cons_of_mem _ hm)⟩
/-- all that stands but an environment's places and the frames' around it -/
noncomputable def bas (h : Heap) (env : Env) (outer : List Env) : Heap := hideP h fun a => @decide (priv env a ∨ a ∈ outer.filterMap (·.frame)) (Classical.propDecidable _)
theorem bas_of {h : Heap} {env : Env} {outer : List Env} {a : Addr} {o : Obj} (e : (bas h env outer).get? a = some o) : h.get? a = some o := of_hideP e
theorem bas_get {h : Heap} {env : Env} {outer : List Env} {a : Addr} {o : Obj} (e : h.get? a = some o) (hp : ¬ priv env a) (ho : a ∉ outer.filterMap (·.frame)) : (bas h env outer).get? a = some o :=
  hideP_get e (@decide_eq_false _ (Classical.propDecidable _) (fun q => q.elim hp ho))
theorem bas_none {h : Heap} {env : Env} {outer : List Env} {a : Addr} (hp : priv env a ∨ a ∈ outer.filterMap (·.frame)) : (bas h env outer).get? a = none :=
  hideP_none (@decide_eq_true _ (Classical.propDecidable _) hp)
theorem mkbas {B base h₀ h9 : Heap} {env : Env} {own : List (Addr × Obj)} {V : Vars} {outer : List Env} (F : Fm B h₀ env own V h9) (hB : ∀ b o, B.get? b = some o → base.get? b = some o) (hbase : base.StaysIn h₀) (hfun : h₀.FunFrames base outer) (hfm : env.frame = some env.locals) :
    ∃ base' : Heap, (∀ b o, B.get? b = some o → base'.get? b = some o) ∧ base'.StaysIn h9 ∧ h9.FunFrames base' (env :: outer) ∧ (∀ b o, base.get? b = some o → base'.get? b = some o) ∧ (∀ p ∈ own, base'.get? p.1 = some p.2) ∧ ∀ a, priv env a → base'.get? a = none := by
  have k4 : ∀ b o, base.get? b = some o → (bas h9 env outer).get? b = some o := fun b o e =>
    bas_get (F.keep _ _ (hbase b o e)) (fun hp => by have := hbase _ _ e; rw [F.prv b hp] at this; cases this) fun hm => by rw [(hfun.mem hm).1] at e; cases e
  refine ⟨bas h9 env outer, fun b o e => k4 b o (hB b o e), fun b o e => bas_of e, F.frames hfm (bas_none (.inl (.inl rfl))) (funframes_rebase (hfun.of_keeps fun b o hb _ => ⟨o, F.keep b o hb, rfl⟩) fun L hm => bas_none (.inr hm)), k4, fun p hp => bas_get (F.has p hp) (F.offp p hp) fun hm => ?_, fun a ha => bas_none (.inl ha)⟩
  obtain ⟨o, ho, _⟩ := (hfun.mem hm).2
  rw [F.off p hp] at ho; cases ho
theorem rep_bs {us : List Value} {ys : List Bs} (h : BsA us ys) (hn : ys ≠ []) : BsA (List.replicate ((us.length : Int)).toNat (pk us none (some 1))).flatten (List.replicate ys.length (ys.headD [])) ∧ (pk us none (some 1)).length = 1 := by
  cases ys with
  | nil => exact absurd rfl hn
  | cons y r =>
    have hul := h.1
    obtain ⟨t, ht⟩ := h.2 0 y rfl
    have hp : pk us none (some 1) = [.bytes y.toArray t] := by
      cases us with
      | nil => simp at ht
      | cons u us =>
        simp at ht
        subst ht
        have h9 : kms_lo none (Value.bytes y.toArray t :: us).length = 0 := rfl
        have h8 : kms_hi (some 1) (Value.bytes y.toArray t :: us).length = min 1 (us.length + 1) := rfl
        rw [pk, h9, h8, List.drop_zero, Nat.sub_zero, show min 1 (us.length + 1) = 1 by lia]; rfl
    rw [hp, Int.toNat_natCast, flat_rep]
    refine ⟨⟨by simp [hul], fun i x e => ?_⟩, rfl⟩
    rw [List.getElem?_replicate] at e
    split at e
    · rename_i hi
      cases e
      exact ⟨t, by rw [List.getElem?_replicate, if_pos (by lia)]; rfl⟩
    · cases e
noncomputable abbrev vOth (sl tl zl ml x : Addr) (mo to so tt pa : Option Value) : Vars := [(Str.ofString "samples", .local, some (.ref sl)), (Str.ofString "turns", .local, some (.ref tl)), (Str.ofString "sizes", .local, some (.ref zl)), (Str.ofString "mirror", .local, some (.ref ml)), (Str.ofString "shingles", .local, some (.ref x)), (Str.ofString "most", .local, mo), (Str.ofString "top", .local, to), (Str.ofString "some", .local, so), (Str.ofString "total", .local, tt), (Str.ofString "part", .local, pa), (Str.ofString "Shingles", .globalImplicit, none), (Str.ofString "best_segment", .globalImplicit, none), (Str.ofString "len", .globalImplicit, none), (Str.ofString "_law_told", .globalImplicit, none), (Str.ofString "_law_content", .globalImplicit, none)]
set_option maxHeartbeats 4000000 in
theorem other_call {prog : Program} {w : World} {B base : Heap} {outer : List Env} {A : Around} {E : Value → Shared → Prop} {s : Shared} {Q : Value → Shared → Prop} {sl tl zl : Addr} {ol ot oz : Obj} {sh seg size : Nat} {t1 t2 t3 : Tok} {vs tvs : List Value} {xs : List Bs} {ts : List (Nat × Int × List Bs)}
    (S : Sta (KK w) B) (R : Room A 7) (hB : ∀ b o, B.get? b = some o → base.get? b = some o) (hbase : base.StaysIn s.heap) (hfr : A.frames = some outer) (hfun : s.heap.FunFrames base outer)
    (hl : base.get? sl = some ol) (L : LO ol vs) (hv : BsAre vs xs) (ht : base.get? tl = some ot) (Lt : LO ot tvs) (hts : TurnsAt base tvs ts)
    (hz : base.get? zl = some oz) (Z : TO oz [.int size t1, .int seg t2, .int sh t3]) (hs1 : 1 ≤ sh) (hs2 : sh ≤ seg) (hs3 : seg ≤ size) (hs4 : 8 ≤ size) (hs5 : size ≤ 40) (hxs : xs.length ≤ 4) (hxl : ∀ y ∈ xs, y.length ≤ 12)
    (hne : ∀ t ∈ ts, t.2.2 ≠ [] ∧ sh ≤ t.1 ∧ t.1 ≤ 100 ∧ t.2.2.length ≤ 1000 ∧ ∀ y ∈ t.2.2, y.length ≤ 100) (hfl : (headsF ts).flatten.length ≤ 10000) (htl : ts.length ≤ 1000)
    (hp : ∀ (i m : Nat) (T : Int) (ys : List Bs), ts[i]? = some (m, T, ys) → (∀ t ∈ ts.take i, uni t.2.2) → (bestF xs.reverse (playS sh (cntF xs.reverse sh) (ts.take i)) sh m).1 = T ∧ (bestF xs.reverse (playS sh (cntF xs.reverse sh) (ts.take i)) sh m).2 ∈ ys)
    (hend : (∀ t ∈ ts, uni t.2.2) → trainF xs.reverse size seg sh = contF xs.reverse ts)
    (h : ∀ s', Same s s' → base.StaysIn s'.heap → s.heap.UpToSlots s'.heap → Q (.bool true) s') :
    wpAny (model prog w) A (call (.ref 168) [.ref sl, .ref tl, .ref zl]) Q E s := by
  refine wpAny_call ?_
  refine' enterF (K := KK w) (G := s.heap) (binds := [(Str.ofString "samples", .ref sl), (Str.ofString "turns", .ref tl), (Str.ofString "sizes", .ref zl)]) [] hfr S (fun b o e => hbase b o (hB b o e)) (fun _ _ e => e) ?hown ?hnd ?ho ?hcd R ?hb ?h ?hpre ?hcn ?hdb ?hco ?hgen ?hk
  case hown => intro p hp; cases hp
  case hnd => exact .nil
  walk_at "enter"
  intro env A' s₁ hf hfm hfr1 hL hS hk1 F R1
  refine hideQ fun QF hQF => ?_
  dsimp only [initV] at F
  have hlG := hbase _ _ hl
  have htG := hbase _ _ ht
  have hzG := hbase _ _ hz
  have htsG := hts.mono hbase
  have hlen : vs.length = xs.length := hv.1
  have hbL : base.get? env.locals = none := by
    cases q : base.get? env.locals with
    | none => rfl
    | some o => have := hbase _ _ q; rw [hL] at this; cases this
  repeat' walk_at "w"
  rename Sta _ _ => S
  rename Fm _ _ _ _ _ _ => F1
  rename Same _ _ => S1
  rename_i om rm _ Lm o2 r2 _ L2
  have hvr : BsAre vs.reverse xs.reverse := bsAre_rev hv
  have hxr : xs.reverse.length ≤ 4 := by rw [List.length_reverse]; exact hxs
  have hxl2 : ∀ y ∈ xs.reverse, y.length ≤ 100 := fun y hy => by have := hxl y (List.mem_reverse.mp hy); lia
  refine new_call S (R1.less (by decide)) F1.inB (F1.has (r2, o2) mem0) L2 hvr hs1 (by lia) (by lia) hxl2 fun x ox dx od c oc s₂ hS2 hk2 hx0 hd0 hc0 hxd hx hd hcc H => ?_
  have F2 := (F1.adopt (new := [(c, oc), (dx, od), (x, ox)]) hk2 (fun p hp => by
        simp only [List.mem_cons, List.not_mem_nil, or_false] at hp
        rcases hp with rfl | rfl | rfl <;> assumption) (fun p hp => by
        simp only [List.mem_cons, List.not_mem_nil, or_false] at hp
        rcases hp with rfl | rfl | rfl <;> assumption) (by simp [Ne.symm H.nd, Ne.symm H.nx, Ne.symm hxd]))
  simp only [List.cons_append, List.nil_append] at F2
  have S2 := S1.trans hS2
  clear F1 S1 hS2 hk2 hx0 hd0 hc0 hx hd hcc
  repeat' walk_at "w"
  rename Fm _ _ _ _ _ _ => F3
  rename Same _ _ => S3
  have F4 := F3.sel [1, 2, 3, 5]
  change Fm _ _ _ [(c, oc), (dx, od), (x, ox), (rm, om)] _ _ at F4
  clear F3
  have hts1 := hts.1
  refine For_it (mk_list R1.handled F4 (Lt.at (F4.keep _ _ htG))) (fun i own' V' => X7 fun (oc' : Obj) (nn : Nat) (mo to so tt pa : Option Value) => N5 (own' = [(c, oc'), (dx, od), (x, ox), (rm, om)]) (V' = vOth sl tl zl rm x mo to so tt pa) (nn ≤ 10100 + 101 * i) (Sh prog w sh nn (playS sh (cntF xs.reverse sh) (ts.take i)) x dx c ox od oc') (∀ t ∈ ts.take i, uni t.2.2)) S3 ⟨oc, 10100, _, _, _, _, _, rfl, rfl, by lia, H, by simp⟩ (fun _ _ _ _ _ F' => Lt.at (F'.keep _ _ htG)) ?_ ?_
  · intro i v own' V' I oI s₃ hi hv2 hj S5 F5 QT hQT
    obtain ⟨oc', nn, mo, to, so, tt, pa, rfl, rfl, hnn, H', hun⟩ := hj
    obtain ⟨m, T, ys, hty, a, oa, ta, tb, b, ob, us, hva, ha, Ta, hb, Lb, hbs⟩ := htsG.get hi
    rw [hva] at hv2; cases hv2
    obtain ⟨hn1, hn2, hn3, hn4, hn5⟩ := hne _ (List.mem_of_getElem? hty)
    dsimp only at hn1 hn2 hn3 hn4 hn5
    obtain ⟨hbT, hbp⟩ := hp i m T ys hty hun
    have hplay : playS sh (cntF xs.reverse sh) (ts.take (i + 1)) = takeF (playS sh (cntF xs.reverse sh) (ts.take i)) sh (ys.headD []) ((ys.headD []).length + 1 - sh) := by
      unfold playS; rw [take_succ' hty, List.foldl_append]; rfl
    rw [hplay] at hQT
    clear F4 S3 H hplay
    generalize playS sh (cntF xs.reverse sh) (ts.take i) = fi at H' hbT hbp hQT
    repeat' walk_at "w"
    rename Sta _ _ => S
    rename Fm _ _ _ _ _ _ => F5
    rename Same _ _ => S5
    refine best_call S (R1.less (by decide)) F5.inB (F5.has (rm, om) mem4) Lm hvr (F5.has (x, ox) mem3) (F5.has (dx, od) mem2) (F5.has (c, oc') mem1) H' hs1 hn2 hn3 (by lia) hxl2 fun l9 o9 u1 u2 s₄ hS4 hk4 hfr4 hl4 T4 => ?_
    rw [hbT] at T4
    generalize (bestF xs.reverse fi sh m).2 = p at hbp T4
    have F6 := F5.adopt1 hk4 hfr4 hl4
    have S6 := S5.trans hS4
    have hX := H'.X
    have hD := H'.D
    obtain ⟨hrep, hr1⟩ := rep_bs hbs hn1
    have hul := hbs.1
    have hmul : (pk us none (some 1)).length * ((us.length : Int)).toNat ≤ 2 ^ 24 := by rw [hr1]; lia
    clear F5 S5
    repeat' walk_at "w"
    · rename Fm _ _ _ _ _ _ => F7
      rename Same _ _ => S7
      exact hQT _ _ (hQF _ _ (h _ S7 (fun b o e => F7.keep _ _ (hbase b o e)) (.of_keeps F7.keep)))
    · rename Sta _ _ => S
      rename Fm _ _ _ _ _ _ => F7
      rename Same _ _ => S7
      rename (!decide (ys = _)) = false => hcc
      have hu : uni ys := Classical.byContradiction fun hn => by
        rw [decide_eq_false (show ¬ ys = List.replicate ys.length (ys.headD []) from hn)] at hcc; cases hcc
      have hpy : p = ys.headD [] := by
        have h9 := hbp
        rw [hu] at h9
        exact List.eq_of_mem_replicate h9
      rw [hpy]
      have hpl : (ys.headD []).length ≤ 100 := hn5 _ (hpy ▸ hbp)
      have hun2 : ∀ t ∈ ts.take (i + 1), uni t.2.2 := fun t ht9 => by
        rw [take_succ' hty] at ht9
        rcases List.mem_append.mp ht9 with h9 | h9
        · exact hun t h9
        · rw [List.mem_singleton.mp h9]; exact hu
      refine take_call S (R1.less (by decide)) F7.inB (F7.has (x, ox) mem6) (F7.has (dx, od) mem5) (F7.has (c, oc') mem4) (F7.offB (o := oc') mem4) H' hpl hs1 (by lia) (by lia) fun oc2 s₅ hS5 hk5 hc5 H2 => ?_
      have F8 := F7.updA (oa4 _) hk5 hc5
      have S8 := S7.trans hS5
      clear F7 S7 hX hD H'
      repeat' walk_at "w"
      rename Fm _ _ _ _ _ _ => F9
      rename Same _ _ => S9
      exact hQT _ _ ⟨_, _, ⟨oc2, _, _, _, _, _, _, rfl, rfl, by lia, H2, hun2⟩, S9, F9.sel [3, 4, 5, 6, 7]⟩
  · intro own' V' s₃ hj S5 F5
    obtain ⟨oc', nn, mo, to, so, tt, pa, rfl, rfl, hnn, H', hun⟩ := hj
    rw [hts1, List.take_length] at hun
    have hE := hend hun
    have hxf : xs.reverse.flatten.length ≤ 10000 := by
      have h1 := flat_len (xs := xs.reverse) (n := 12) fun y hy => hxl y (List.mem_reverse.mp hy)
      have h2 : xs.reverse.length * 12 ≤ 4 * 12 := Nat.mul_le_mul_right _ hxr
      lia
    clear F4 S3 H
    repeat' walk_at "w"
    rename Sta _ _ => S
    rename Fm _ _ _ _ _ _ => F6
    rename Same _ _ => S6
    obtain ⟨base', k1, k2, k3, k4, k5, k6⟩ := mkbas F6 hB hbase hfun hfm
    have hps : ∀ a, priv env a → s.heap.get? a = none := F6.prv
    refine told_call S R1 k1 k2 hfr1 k3 (F6.has (rm, om) mem3) Lm hvr (F6.keep _ _ hzG) Z hs1 hs2 hs3 hs4 (by lia) (by lia) hxl2 fun u1 s₄ hS4 hb4 hu4 => ?_
    have F7 := (F6.slots hf k1 k6 hb4 hu4).freeze
    have U7 : s.heap.UpToSlots (frz s₄.heap env []) := fun b o e hn => by
      obtain ⟨sl, hs⟩ := hu4 b o (F6.keep b o e) hn
      exact ⟨sl, frz_get hs (fun hp => by rw [hps b hp] at e; cases e) (by simp)⟩
    have K7 : ∀ b o, base'.get? b = some o → (frz s₄.heap env []).get? b = some o := fun b o e => frz_get (hb4 b o e) (fun hp => by rw [k6 b hp] at e; cases e) (by simp)
    have S7 := S6.trans hS4
    have hmG := K7 _ _ (k5 (rm, om) mem3)
    dsimp only at hmG
    generalize frz s₄.heap env [] = G7 at F7 U7 K7 hmG
    clear F6 S6 hS4 hb4 hu4
    have htG7 := K7 _ _ (k4 _ _ ht)
    have hts7 := (hts.mono k4).mono K7
    have hne7 : ∀ t ∈ ts, t.2.2 ≠ [] := fun t ht9 => (hne t ht9).1
    rw [hE]
    repeat' walk_at "w"
    rename Sta _ _ => S
    rename Fm _ _ _ _ _ _ => F8
    rename Same _ _ => S8
    refine content_call S (R1.less (by decide)) F8.inB (F8.keep _ _ hmG) Lm hvr (F8.keep _ _ htG7) Lt (hts7.mono F8.keep) hne7 hfl hxf htl fun u5 s₅ hS5 hk5 => ?_
    have F9 := F8.grow hk5
    have S9 := S8.trans hS5
    refine eq_ob ?_
    rw [decide_eq_true rfl]
    exact hQF _ _ (h _ S9 (fun b o e => F9.keep _ _ (K7 _ _ (k4 b o e))) (U7.trans (.of_keeps F9.keep)))
structure PL (xs : List Bs) (sh seg size : Nat) (ts : List (Nat × Int × List Bs)) (fc : Bs → Option Int) (ks : List Bs) : Prop where
  hne : ∀ t ∈ ts, t.2.2 ≠ [] ∧ sh ≤ t.1 ∧ t.1 ≤ 100 ∧ t.2.2.length ≤ 1000 ∧ ∀ y ∈ t.2.2, y.length ≤ 100
  htl : ts.length ≤ 100
  p1 : trainF xs size seg sh = contF xs ts
  p2 : (trainF xs (size + seg) seg sh).isNone = (trainF xs size seg sh).isNone
  p3 : ∀ w, trainF xs (size + seg) seg sh = some w → w.length ≤ 1000 ∧ endsB w (earlyF ts seg).reverse.flatten = true
  p4 : ∀ w, trainF xs (size + seg) seg sh = some w → size + seg - sh < w.length ∨ ∀ k ∈ ks, isIn k w = true
  hp : ∀ (i m : Nat) (T : Int) (ys : List Bs), ts[i]? = some (m, T, ys) → bestF xs (playS sh (cntF xs sh) (ts.take i)) sh m = (T, ys.headD [])
  hq : ∀ y ∈ xs, worL (playS sh (cntF xs sh) ts) sh y = (List.range (y.length + 1 - sh)).map fun i => (fc (cut y i sh)).getD 0
  ho : ∀ (i m : Nat) (T : Int) (ys : List Bs), ts[i]? = some (m, T, ys) → (∀ t ∈ ts.take i, uni t.2.2) → (bestF xs.reverse (playS sh (cntF xs.reverse sh) (ts.take i)) sh m).1 = T ∧ (bestF xs.reverse (playS sh (cntF xs.reverse sh) (ts.take i)) sh m).2 ∈ ys
  hend : (∀ t ∈ ts, uni t.2.2) → trainF xs.reverse size seg sh = contF xs.reverse ts
/-- the first best one is kept -/
noncomputable def bst (st : Int × Bs) (c : Int × Bs) : Int × Bs := if st.1 < c.1 then c else st
/-- the best value, and all that attain it -/
noncomputable def dst (st : Int × List Bs) (c : Int × Bs) : Int × List Bs := if st.1 < c.1 then (c.1, [c.2]) else if c.1 = st.1 then (st.1, st.2 ++ [c.2]) else st
theorem bst_nop : ∀ {l : List (Int × Bs)} {st : Int × Bs}, (∀ c ∈ l, c.1 ≤ st.1) → l.foldl bst st = st
  | [], _, _ => rfl
  | c :: r, st, h => by
    have h1 : bst st c = st := by unfold bst; rw [if_neg (by have := h c List.mem_cons_self; lia)]
    rw [List.foldl_cons, h1]
    exact bst_nop fun d hd => h d (List.mem_cons_of_mem _ hd)
theorem bst_ge : ∀ {l : List (Int × Bs)} {st : Int × Bs}, st.1 ≤ (l.foldl bst st).1 ∧ ∀ c ∈ l, c.1 ≤ (l.foldl bst st).1
  | [], _ => ⟨Int.le_refl _, fun _ h => nomatch h⟩
  | c :: r, st => by
    have ih := bst_ge (l := r) (st := bst st c)
    have h1 : st.1 ≤ (bst st c).1 ∧ c.1 ≤ (bst st c).1 := by unfold bst; split <;> lia
    rw [List.foldl_cons]
    refine ⟨Int.le_trans h1.1 ih.1, fun d hd => ?_⟩
    rcases List.mem_cons.mp hd with rfl | hd
    · exact Int.le_trans h1.2 ih.1
    · exact ih.2 d hd
theorem dst_inc : ∀ {l : List (Int × Bs)} {st : Int × List Bs} (hn : l ≠ []), l.Pairwise (fun a b => a.1 < b.1) → l.foldl dst st = dst st (l.getLast hn)
  | [c], st, _, _ => rfl
  | c :: d :: r, st, _, hp => by
    obtain ⟨h1, h2⟩ := List.pairwise_cons.mp hp
    rw [List.foldl_cons, dst_inc (List.cons_ne_nil _ _) h2, List.getLast_cons (List.cons_ne_nil _ _)]
    have hlt := h1 _ (List.getLast_mem (List.cons_ne_nil d r))
    generalize (d :: r).getLast _ = e at hlt
    unfold dst
    by_cases ha : st.1 < c.1
    · rw [if_pos ha, if_pos hlt, if_pos (by lia)]
    · rw [if_neg ha]
      by_cases hb : c.1 = st.1
      · rw [if_pos hb, if_pos (by dsimp only; lia), if_pos (by lia)]
      · rw [if_neg hb]
/-- both kept side by side -/
def BD (b : Int × Bs) (d : Int × List Bs) : Prop := d.1 = b.1 ∧ d.2.head? = some b.2
theorem bd_step {b : Int × Bs} {d : Int × List Bs} {c : Int × Bs} (h : BD b d) : BD (bst b c) (dst d c) := by
  obtain ⟨h1, h2⟩ := h
  unfold bst dst BD
  rw [h1]
  by_cases ha : b.1 < c.1
  · rw [if_pos ha, if_pos ha]; exact ⟨rfl, rfl⟩
  · rw [if_neg ha, if_neg ha]
    by_cases hb : c.1 = b.1
    · rw [if_pos hb]; exact ⟨rfl, by dsimp only; rw [List.head?_append, h2]; rfl⟩
    · rw [if_neg hb]; exact ⟨h1, h2⟩
theorem bd_fold : ∀ {l : List (Int × Bs)} {b : Int × Bs} {d : Int × List Bs}, BD b d → BD (l.foldl bst b) (l.foldl dst d)
  | [], _, _, h => h
  | _ :: r, _, _, h => bd_fold (l := r) (bd_step h)
/-- a window's value, and what it is trimmed to -/
noncomputable def win (ws : List Int) (many p : Nat) : Int := ((ws.drop p).take many).sum
noncomputable def cnd (ws : List Int) (x : Bs) (sh many p : Nat) : Int × Bs := (win ws many p, trimF ws x p (min (p + many) ws.length) sh)
theorem sum_nn : ∀ {l : List Int}, (∀ z ∈ l, 0 ≤ z) → 0 ≤ l.sum
  | [], _ => Int.le_refl _
  | z :: r, h => by
    have h1 := sum_nn (l := r) fun y hy => h y (List.mem_cons_of_mem _ hy)
    have h2 := h z List.mem_cons_self
    rw [List.sum_cons]; lia
theorem sum_drop_le : ∀ {l : List Int} (k : Nat), (∀ z ∈ l, 0 ≤ z) → (l.drop k).sum ≤ l.sum
  | l, 0, _ => Int.le_refl _
  | [], _ + 1, _ => Int.le_refl _
  | z :: r, k + 1, h => by
    have h1 := sum_drop_le (l := r) k fun y hy => h y (List.mem_cons_of_mem _ hy)
    have h2 := h z List.mem_cons_self
    rw [List.drop_succ_cons, List.sum_cons]; lia
theorem sum_take_le : ∀ {l : List Int} (k : Nat), (∀ z ∈ l, 0 ≤ z) → (l.take k).sum ≤ l.sum
  | l, 0, h => by rw [List.take_zero]; exact sum_nn h
  | [], _ + 1, _ => Int.le_refl _
  | z :: r, k + 1, h => by
    have h1 := sum_take_le (l := r) k fun y hy => h y (List.mem_cons_of_mem _ hy)
    rw [List.take_succ_cons, List.sum_cons, List.sum_cons]; lia
theorem win_le_sum {ws : List Int} {many p q : Nat} (hw : ∀ z ∈ ws, 0 ≤ z) (hq : q ≤ p) (hm : ws.length ≤ q + many) : win ws many p ≤ win ws many q := by
  unfold win
  rw [List.take_of_length_le (l := ws.drop q) (by rw [List.length_drop]; lia)]
  refine Int.le_trans (sum_take_le _ fun z hz => hw z (List.mem_of_mem_drop hz)) ?_
  have := sum_drop_le (l := ws.drop q) (p - q) fun z hz => hw z (List.mem_of_mem_drop hz)
  rw [List.drop_drop, show q + (p - q) = p by lia] at this
  exact this
/-- the places behind the last full window say nothing new -/
theorem ext_win {ws : List Int} {x : Bs} {sh many : Nat} {st : Int × Bs} (hw : ∀ z ∈ ws, 0 ≤ z) (hm : 1 ≤ many) (h0 : 0 ≤ st.1) :
    ((List.range (max 1 (ws.length + 1 - many))).map (cnd ws x sh many)).foldl bst st = ((List.range ws.length).map (cnd ws x sh many)).foldl bst st := by
  rcases Nat.eq_zero_or_pos ws.length with hz | hp
  · have hnil : ws = [] := List.length_eq_zero_iff.mp hz
    subst hnil
    rw [show max 1 (([] : List Int).length + 1 - many) = 1 by simp]
    refine bst_nop fun c hc => ?_
    obtain ⟨p, _, rfl⟩ := List.mem_map.mp hc
    show win [] many p ≤ st.1
    simpa [win] using h0
  · obtain ⟨k, hk⟩ : ∃ k, max 1 (ws.length + 1 - many) = k + 1 := ⟨max 1 (ws.length + 1 - many) - 1, by lia⟩
    rw [hk]
    have hsplit : List.range ws.length = List.range (k + 1) ++ (List.range (ws.length - (k + 1))).map (k + 1 + ·) := by
      rw [← List.range_add]; congr 1; lia
    rw [hsplit, List.map_append, List.foldl_append]
    symm
    refine bst_nop fun c hc => ?_
    obtain ⟨p, hp9, rfl⟩ := List.mem_map.mp hc
    obtain ⟨j, _, rfl⟩ := List.mem_map.mp hp9
    have h1 := (bst_ge (l := (List.range (k + 1)).map (cnd ws x sh many)) (st := st)).2 (cnd ws x sh many k) (List.mem_map.mpr ⟨k, List.mem_range.mpr (Nat.lt_succ_self _), rfl⟩)
    exact Int.le_trans (win_le_sum hw (by lia) (by lia)) h1
/-- what the trained counts and the law's own counts have in common -/
structure Inv (sh : Nat) (f fc : Bs → Option Int) (ks : List Bs) : Prop where
  val : ∀ k, k.length = sh → wor f k = (fc k).getD 0
  pos : ∀ k v, fc k = some v → 0 < v
  key : ∀ k, k ∈ ks ↔ (fc k).isSome = true
theorem len_cut {x : Bs} {i sh : Nat} (h : i < x.length + 1 - sh) : (cut x i sh).length = sh := by
  unfold cut; rw [List.length_take, List.length_drop]; lia
theorem Inv.worL {sh : Nat} {f fc : Bs → Option Int} {ks : List Bs} (I : Inv sh f fc ks) (x : Bs) : worL f sh x = (List.range (x.length + 1 - sh)).map fun i => (fc (cut x i sh)).getD 0 := by
  unfold Mine.worL
  refine List.map_congr_left fun i hi => I.val _ (len_cut (List.mem_range.mp hi))
theorem wor_nn (f : Bs → Option Int) (k : Bs) : 0 ≤ wor f k := by
  unfold wor; split <;> lia
theorem worL_nn {f : Bs → Option Int} {sh : Nat} {x : Bs} : ∀ z ∈ worL f sh x, 0 ≤ z := fun z hz => by
  unfold worL at hz
  obtain ⟨i, _, rfl⟩ := List.mem_map.mp hz
  exact wor_nn _ _
theorem win_step {ws : List Int} {many p : Nat} (hm : 1 ≤ many) (hp : p < ws.length) (hz : ws[p] = 0) : win ws many (p + 1) = win ws many p + (ws[p + many]?).getD 0 := by
  obtain ⟨j, rfl⟩ : ∃ j, many = j + 1 := ⟨many - 1, by lia⟩
  unfold win
  rw [List.drop_eq_getElem_cons hp, hz, List.take_succ_cons, List.sum_cons, List.take_add_one, List.sum_append, List.getElem?_drop, show p + 1 + j = p + (j + 1) by lia]
  cases ws[p + (j + 1)]? <;> simp
theorem trim_skip {ws : List Int} {x : Bs} {b e sh : Nat} (hb : b < ws.length) (hz : ws[b] = 0) : trimF ws x b e sh = trimF ws x (b + 1) e sh := by
  have h : b + (ws.drop b).findIdx (· ≠ 0) = b + 1 + (ws.drop (b + 1)).findIdx (· ≠ 0) := by
    rw [List.drop_eq_getElem_cons hb, List.findIdx_cons, hz]
    simp; lia
  unfold trimF
  rw [h]
theorem trim_end {ws : List Int} {x : Bs} {b e sh : Nat} (he : e < ws.length) (hz : ws[e] = 0) : trimF ws x b (e + 1) sh = trimF ws x b e sh := by
  have h : e + 1 - (ws.take (e + 1)).reverse.findIdx (· ≠ 0) = e - (ws.take e).reverse.findIdx (· ≠ 0) := by
    rw [List.take_add_one, List.getElem?_eq_getElem he, Option.toList_some, List.reverse_append, List.reverse_singleton, List.singleton_append, List.findIdx_cons, hz]
    simp
  unfold trimF
  rw [h]
theorem trim_mark {ws : List Int} {x : Bs} {p c sh : Nat} (hp : p < ws.length) (hz : ws[p] ≠ 0) (he : p + c < ws.length) (hz2 : ws[p + c] ≠ 0) : trimF ws x p (p + c + 1) sh = cut x p (c + sh) := by
  have h1 : p + (ws.drop p).findIdx (· ≠ 0) = p := by
    rw [List.drop_eq_getElem_cons hp, List.findIdx_cons]
    simp [hz]
  have h2 : (ws.take (p + c + 1)).reverse.findIdx (· ≠ 0) = 0 := by
    rw [List.take_add_one, List.getElem?_eq_getElem he, Option.toList_some, List.reverse_append, List.reverse_singleton, List.singleton_append, List.findIdx_cons]
    simp [hz2]
  unfold trimF cut
  rw [h1, h2, show p + c + 1 - 0 - 1 + sh - p = c + sh by lia]
theorem cnd_zero {ws : List Int} {x : Bs} {sh many p : Nat} (hw : ∀ z ∈ ws, 0 ≤ z) (hm : 1 ≤ many) (hp : p < ws.length) (hz : ws[p] = 0) :
    win ws many p < win ws many (p + 1) ∨ cnd ws x sh many p = cnd ws x sh many (p + 1) := by
  have hs := win_step hm hp hz
  by_cases h : p + many < ws.length
  · have h0 := hw _ (List.getElem_mem h)
    rw [List.getElem?_eq_getElem h, Option.getD_some] at hs
    by_cases h9 : ws[p + many] = 0
    · refine .inr ?_
      rw [h9, Int.add_zero] at hs
      unfold cnd
      rw [hs, show min (p + many) ws.length = p + many by lia, show min (p + 1 + many) ws.length = p + many + 1 by lia, trim_end h h9, trim_skip hp hz]
    · exact .inl (by lia)
  · refine .inr ?_
    rw [List.getElem?_eq_none (by lia), Option.getD_none, Int.add_zero] at hs
    unfold cnd
    rw [hs, show min (p + many) ws.length = ws.length by lia, show min (p + 1 + many) ws.length = ws.length by lia, trim_skip hp hz]
theorem win_none {ws : List Int} {many p : Nat} (hp : ws.length ≤ p) : win ws many p = 0 := by
  unfold win; rw [List.drop_of_length_le hp]; simp
theorem bst_skip {st c d : Int × Bs} (h : c.1 < d.1 ∨ c = d) : bst (bst st c) d = bst st d := by
  rcases h with h | rfl
  · unfold bst
    by_cases h1 : st.1 < c.1
    · rw [if_pos h1, if_pos h, if_pos (by lia)]
    · rw [if_neg h1]
  · unfold bst
    by_cases h1 : st.1 < c.1
    · rw [if_pos h1, if_neg (by lia)]
    · rw [if_neg h1, if_neg h1]
theorem bst_nn {st c : Int × Bs} (h : 0 ≤ st.1) : 0 ≤ (bst st c).1 := by
  unfold bst; split <;> lia
theorem dst_skip {st : Int × List Bs} {c d : Int × Bs} (h : c.1 < d.1) : dst (dst st c) d = dst st d := by
  unfold dst
  by_cases ha : st.1 < c.1
  · rw [if_pos ha, if_pos h, if_pos (by lia)]
  · rw [if_neg ha]
    by_cases hb : c.1 = st.1
    · rw [if_pos hb, if_pos (by dsimp only; lia), if_pos (by lia)]
    · rw [if_neg hb]
/-- a place that is no mark may be skipped -/
theorem skip_place {ws : List Int} {x : Bs} {sh many p c : Nat} {b : Int × Bs} (hw : ∀ z ∈ ws, 0 ≤ z) (hm : 1 ≤ many) (hp : p + c + 1 = ws.length) (hz : ws[p]? = some 0) (hb : 0 ≤ b.1) :
    ((List.range' (p + 1) c).map (cnd ws x sh many)).foldl bst (bst b (cnd ws x sh many p)) = ((List.range' (p + 1) c).map (cnd ws x sh many)).foldl bst b := by
  have hpl : p < ws.length := by lia
  have hz' : ws[p] = 0 := by rw [List.getElem?_eq_getElem hpl] at hz; exact Option.some.inj hz
  cases c with
  | zero =>
    have h := win_step (ws := ws) hm hpl hz'
    rw [win_none (by lia), List.getElem?_eq_none (by lia)] at h
    have h2 : bst b (cnd ws x sh many p) = b := by
      unfold bst; rw [if_neg]; show ¬ b.1 < win ws many p; simp at h; lia
    rw [h2]
  | succ c =>
    rw [List.range'_succ, List.map_cons, List.foldl_cons, List.foldl_cons, bst_skip (cnd_zero hw hm hpl hz')]
noncomputable def mark (fc : Bs → Option Int) (sh : Nat) (x : Bs) (i : Nat) : Bool := (fc (cut x i sh)).isSome
theorem filter_snoc {q : Nat → Bool} {p c : Nat} : (List.range' p (c + 1)).filter q = (List.range' p c).filter q ++ (if q (p + c) = true then [p + c] else []) := by
  rw [List.range'_concat, List.filter_append, Nat.one_mul, List.filter_cons, List.filter_nil]
theorem ws_at {f fc : Bs → Option Int} {sh : Nat} {ks : List Bs} {x : Bs} {i : Nat} (I : Inv sh f fc ks) (hi : i < (worL f sh x).length) : (worL f sh x)[i] = (fc (cut x i sh)).getD 0 := by
  have := I.worL x
  simp only [this, List.getElem_map, List.getElem_range]
theorem ws_mark {f fc : Bs → Option Int} {sh : Nat} {ks : List Bs} {x : Bs} {i : Nat} (I : Inv sh f fc ks) (hi : i < (worL f sh x).length) : mark fc sh x i = true ↔ (worL f sh x)[i] ≠ 0 := by
  rw [ws_at I hi]; unfold mark
  cases h : fc (cut x i sh) with
  | none => simp
  | some v => have := I.pos _ _ h; simp; lia
/-- the run of totals from one mark is one candidate: the last in reach -/
theorem run_mark {f fc : Bs → Option Int} {sh most : Nat} {ks : List Bs} {x : Bs} {p : Nat} {d : Int × List Bs} (I : Inv sh f fc ks) (hm : sh ≤ most) (hp : p < (worL f sh x).length) (hz : (worL f sh x)[p] ≠ 0) :
    ∀ c, c + 1 ≤ most + 1 - sh → p + c < (worL f sh x).length → ((List.range' p (c + 1)).filter (mark fc sh x)).foldl (stepA fc sh most x p) (0, d.1, d.2) =
      ((((worL f sh x).drop p).take (c + 1)).sum, dst d ((((worL f sh x).drop p).take (c + 1)).sum, trimF (worL f sh x) x p (p + c + 1) sh))
  | 0, h1, h2 => by
    have e1 : (List.range' p (0 + 1)).filter (mark fc sh x) = [p] := by
      rw [filter_snoc]; simp [(ws_mark I hp).mpr hz]
    have e2 : ((worL f sh x).drop p).take (0 + 1) = [(worL f sh x)[p]] := by
      rw [List.drop_eq_getElem_cons hp, List.take_succ_cons, List.take_zero]
    rw [e1, e2, trim_mark (c := 0) hp hz hp hz]
    have e3 := ws_at I hp
    simp only [List.foldl_cons, List.foldl_nil, List.sum_cons, List.sum_nil, Int.add_zero, stepA, dst, if_pos (show p + sh ≤ most + p by lia), Int.zero_add, ← e3, show p + sh - p = sh by lia, show 0 + sh = sh by lia]
    split
    · rfl
    · split
      · rfl
      · rfl
  | c + 1, h1, h2 => by
    have ih := run_mark (d := d) I hm hp hz c (by lia) (by lia)
    have e2 : ((worL f sh x).drop p).take (c + 1 + 1) = ((worL f sh x).drop p).take (c + 1) ++ [(worL f sh x)[p + (c + 1)]] := by
      rw [List.take_add_one (i := c + 1), List.getElem?_drop, List.getElem?_eq_getElem h2]; rfl
    rw [filter_snoc, List.foldl_append, ih, e2, List.sum_append, List.sum_singleton]
    by_cases hq : mark fc sh x (p + (c + 1)) = true
    · have h9 := (ws_mark I h2).mp hq
      have h8 := worL_nn _ (List.getElem_mem h2)
      rw [if_pos hq, trim_mark hp hz h2 h9]
      have e3 := ws_at I h2
      generalize (worL f sh x)[p + (c + 1)] = v at *
      generalize (((worL f sh x).drop p).take (c + 1)).sum = u at *
      generalize trimF (worL f sh x) x p (p + c + 1) sh = tr at *
      rw [← dst_skip (st := d) (c := (u, tr)) (d := (u + v, cut x p (c + 1 + sh))) (by dsimp only; lia)]
      generalize dst d (u, tr) = d'
      simp only [List.foldl_cons, List.foldl_nil, stepA, dst, if_pos (show p + (c + 1) + sh ≤ most + p by lia), ← e3, show p + (c + 1) + sh - p = c + 1 + sh by lia]
      split
      · rfl
      · split
        · rfl
        · rfl
    · have h9 : (worL f sh x)[p + (c + 1)] = 0 := by
        by_cases h7 : (worL f sh x)[p + (c + 1)] = 0
        · exact h7
        · exact absurd ((ws_mark I h2).mpr h7) hq
      rw [if_neg hq, List.foldl_nil, h9, Int.add_zero, show p + (c + 1) + 1 = (p + (c + 1)) + 1 from rfl, trim_end h2 h9]
      rfl
/-- a fold over the tails -/
noncomputable def tl {σ : Type} (g : σ → List Nat → σ) : σ → List Nat → σ
  | s, [] => s
  | s, a :: r => tl g (g s (a :: r)) r
theorem tl_eq {σ : Type} (g : σ → List Nat → σ) : ∀ (l : List Nat) (s : σ), (List.range l.length).foldl (fun s k => g s (l.drop k)) s = tl g s l
  | [], s => rfl
  | a :: r, s => by
    rw [List.length_cons, List.range_succ_eq_map, List.foldl_cons, List.foldl_map]
    exact tl_eq g r _
noncomputable def gA (fc : Bs → Option Int) (sh most : Nat) (x : Bs) (d : Int × List Bs) (l : List Nat) : Int × List Bs := (l.foldl (stepA fc sh most x (l.headD 0)) (0, d.1, d.2)).2
theorem dearX_tl {fc : Bs → Option Int} {sh most : Nat} {x : Bs} {d : Int × List Bs} : dearX fc sh most d x = tl (gA fc sh most x) d ((List.range' 0 (x.length + 1 - sh)).filter (mark fc sh x)) := by
  rw [← List.range_eq_range']
  show _ = tl (gA fc sh most x) d (marksF fc sh x)
  rw [← tl_eq]
  unfold dearX
  congr 1
  funext d k
  unfold dearK gA
  have : (marksF fc sh x).getD k 0 = ((marksF fc sh x).drop k).headD 0 := by simp [List.headD_eq_head?_getD, List.head?_drop]
  rw [this]
/-- what a mark's run adds -/
theorem gA_mark {f fc : Bs → Option Int} {sh most : Nat} {ks : List Bs} {x : Bs} {p c : Nat} {d : Int × List Bs} (I : Inv sh f fc ks) (hm : sh ≤ most) (hp : p + c + 1 = (worL f sh x).length) (hq : mark fc sh x p = true) :
    gA fc sh most x d ((List.range' p (c + 1)).filter (mark fc sh x)) = dst d (cnd (worL f sh x) x sh (most + 1 - sh) p) := by
  have hpl : p < (worL f sh x).length := by lia
  have hz := (ws_mark I hpl).mp hq
  have hh : ((List.range' p (c + 1)).filter (mark fc sh x)).headD 0 = p := by
    rw [List.range'_succ, List.filter_cons_of_pos hq]; rfl
  unfold gA
  rw [hh]
  obtain ⟨M, hMe⟩ : ∃ M, most + 1 - sh = M := ⟨_, rfl⟩
  have hM : M + sh = most + 1 := by rw [← hMe]; exact Nat.sub_add_cancel (Nat.le_succ_of_le hm)
  obtain ⟨a, ha, hac, hor⟩ : ∃ a, a + 1 ≤ M ∧ a ≤ c ∧ (a + 1 = M ∨ a = c) := by
    rcases Nat.le_total M (c + 1) with h | h
    · obtain ⟨k, rfl⟩ : ∃ k, M = k + 1 := ⟨M - 1, by clear hp hz hh hpl; lia⟩
      exact ⟨k, Nat.le_refl _, Nat.le_of_succ_le_succ h, .inl rfl⟩
    · exact ⟨c, h, Nat.le_refl _, .inr rfl⟩
  have hsplit : List.range' p (c + 1) = List.range' p (a + 1) ++ List.range' (p + (a + 1)) (c - a) := by
    rw [List.range'_append_1, Nat.add_right_comm, Nat.add_sub_cancel' hac]
  have hlen : p + a < (worL f sh x).length := by rw [← hp]; exact Nat.lt_succ_of_le (Nat.add_le_add_left hac p)
  rw [hsplit, List.filter_append, List.foldl_append, run_mark I hm hpl hz a (hMe ▸ ha) hlen]
  have hno : ∀ (l : List Nat) (q : Int × Int × List Bs), (∀ i ∈ l, ¬ i + sh ≤ most + p) → l.foldl (stepA fc sh most x p) q = q := by
    intro l
    induction l with
    | nil => intro q _; rfl
    | cons i r ih =>
      intro q h
      rw [List.foldl_cons, show stepA fc sh most x p q i = q by unfold stepA; rw [if_neg (h i List.mem_cons_self)]]
      exact ih q fun j hj => h j (List.mem_cons_of_mem _ hj)
  rw [hno _ _ fun i hi => by
    obtain ⟨h1, h2⟩ := List.mem_range'_1.mp (List.mem_filter.mp hi).1
    clear hp hz hh hpl hsplit hlen hMe hno hq I hm ha
    lia]
  have e1 : ((worL f sh x).drop p).take (a + 1) = ((worL f sh x).drop p).take M := by
    rcases hor with h | h
    · rw [h]
    · have h9 : ((worL f sh x).drop p).length = a + 1 := by rw [List.length_drop, ← hp, h, Nat.add_assoc, Nat.add_sub_cancel_left]
      rw [List.take_of_length_le (Nat.le_of_eq h9), List.take_of_length_le (by rw [h9]; exact ha)]
  have e2 : min (p + M) (worL f sh x).length = p + a + 1 := by clear hz hh hsplit hlen hMe hno hq I hm e1; lia
  unfold cnd win
  rw [e1, hMe, e2]
theorem bd_x {f fc : Bs → Option Int} {sh most : Nat} {ks : List Bs} {x : Bs} (I : Inv sh f fc ks) (hm : sh ≤ most) : ∀ (c p : Nat) (b : Int × Bs) (d : Int × List Bs), p + c = (worL f sh x).length → BD b d → 0 ≤ b.1 →
    BD (((List.range' p c).map (cnd (worL f sh x) x sh (most + 1 - sh))).foldl bst b) (tl (gA fc sh most x) d ((List.range' p c).filter (mark fc sh x)))
  | 0, p, b, d, _, h, _ => h
  | c + 1, p, b, d, hp, h, hb => by
    have hpl : p < (worL f sh x).length := by lia
    by_cases hq : mark fc sh x p = true
    · have e := gA_mark (d := d) I hm (p := p) (c := c) (by lia) hq
      rw [List.range'_succ, List.filter_cons_of_pos hq] at e ⊢
      rw [List.map_cons, List.foldl_cons, tl, e]
      exact bd_x I hm c (p + 1) _ _ (by lia) (bd_step h) (bst_nn hb)
    · have h9 : (worL f sh x)[p] = 0 := by
        by_cases h7 : (worL f sh x)[p] = 0
        · exact h7
        · exact absurd ((ws_mark I hpl).mpr h7) hq
      rw [List.range'_succ, List.filter_cons_of_neg hq, List.map_cons, List.foldl_cons, skip_place worL_nn (by lia) (by lia) (by rw [List.getElem?_eq_getElem hpl, h9]) hb]
      exact bd_x I hm c (p + 1) _ _ (by lia) h hb
theorem bestX_eq {f : Bs → Option Int} {sh many : Nat} {st : Int × Bs} {x : Bs} (hm : 1 ≤ many) (h0 : 0 ≤ st.1) : bestX f sh many st x = ((List.range' 0 (worL f sh x).length).map (cnd (worL f sh x) x sh many)).foldl bst st := by
  rw [← List.range_eq_range', ← ext_win worL_nn hm h0, List.foldl_map]
  rfl
theorem bestX_nn {f : Bs → Option Int} {sh many : Nat} {st : Int × Bs} {x : Bs} (h0 : 0 ≤ st.1) : 0 ≤ (bestX f sh many st x).1 := by
  refine foldl_inv (P := fun st : Int × Bs => 0 ≤ st.1) _ st h0 fun b a _ hb => ?_
  exact bst_nn (c := cnd _ _ _ _ _) hb
theorem best_dear {f fc : Bs → Option Int} {sh m : Nat} {ks : List Bs} (I : Inv sh f fc ks) (hm : sh ≤ m) (xs : List Bs) : BD (bestF xs f sh m) (dearF xs fc sh m) := by
  have aux : ∀ (l : List Bs) (b : Int × Bs) (d : Int × List Bs), BD b d → 0 ≤ b.1 → BD (l.foldl (bestX f sh (m + 1 - sh)) b) (l.foldl (dearX fc sh m) d) := by
    intro l
    induction l with
    | nil => intro b d h _; exact h
    | cons x r ih =>
      intro b d h h0
      rw [List.foldl_cons, List.foldl_cons]
      refine ih _ _ ?_ (bestX_nn h0)
      rw [bestX_eq (by lia) h0, dearX_tl, ← length_worL f sh x]
      exact bd_x I hm _ 0 b d (by lia) h h0
  exact aux xs (0, []) (0, [[]]) ⟨rfl, rfl⟩ (Int.le_refl _)
theorem best_eq {f fc : Bs → Option Int} {sh m : Nat} {ks : List Bs} (I : Inv sh f fc ks) (hm : sh ≤ m) (xs : List Bs) : bestF xs f sh m = ((dearF xs fc sh m).1, (dearF xs fc sh m).2.headD []) := by
  obtain ⟨h1, h2⟩ := best_dear I hm xs
  rw [List.headD_eq_head?_getD, h2, h1]; rfl
theorem dst_top : ∀ {l : List (Int × Bs)} {st : Int × List Bs}, st.1 ≤ (l.foldl dst st).1 ∧ (∀ c ∈ l, c.1 ≤ (l.foldl dst st).1) ∧ ((l.foldl dst st).1 = st.1 ∨ ∃ c ∈ l, c.1 = (l.foldl dst st).1)
  | [], _ => ⟨Int.le_refl _, (fun _ h => nomatch h), .inl rfl⟩
  | c :: r, st => by
    obtain ⟨a, b, d⟩ := dst_top (l := r) (st := dst st c)
    rw [List.foldl_cons]
    have h1 : st.1 ≤ (dst st c).1 ∧ c.1 ≤ (dst st c).1 ∧ ((dst st c).1 = st.1 ∨ (dst st c).1 = c.1) := by
      unfold dst; split
      · dsimp only; lia
      · split
        · dsimp only; lia
        · lia
    refine ⟨by lia, fun e he => ?_, ?_⟩
    · rcases List.mem_cons.mp he with rfl | he
      · lia
      · exact b e he
    · rcases d with d | ⟨e, he, d⟩
      · rcases h1.2.2 with h | h
        · exact .inl (by lia)
        · exact .inr ⟨c, List.mem_cons_self, by lia⟩
      · exact .inr ⟨e, List.mem_cons_of_mem _ he, d⟩
theorem dst_mem : ∀ {l : List (Int × Bs)} {st : Int × List Bs} {y : Bs}, y ∈ (l.foldl dst st).2 ↔ ((l.foldl dst st).1 = st.1 ∧ y ∈ st.2) ∨ ((l.foldl dst st).1, y) ∈ l
  | [], st, y => by simp
  | c :: r, st, y => by
    have ih := dst_mem (l := r) (st := dst st c) (y := y)
    have ht := (dst_top (l := r) (st := dst st c)).1
    rw [List.foldl_cons, ih]
    generalize (r.foldl dst (dst st c)).1 = T at ht
    obtain ⟨c1, c2⟩ := c
    rw [List.mem_cons, Prod.mk.injEq]
    unfold dst at ht ⊢
    split at ht
    · rename_i h
      rw [if_pos h]
      dsimp only at ht ⊢
      rw [List.mem_singleton]
      constructor
      · rintro (h2 | h2)
        · exact .inr (.inl h2)
        · exact .inr (.inr h2)
      · rintro (h2 | h2 | h2)
        · dsimp only at h; lia
        · exact .inl h2
        · exact .inr h2
    · rename_i h
      rw [if_neg h]
      split at ht
      · rename_i h3
        rw [if_pos h3]
        dsimp only at ht h h3 ⊢
        rw [List.mem_append, List.mem_singleton]
        constructor
        · rintro (⟨h1, h2 | h2⟩ | h2)
          · exact .inl ⟨h1, h2⟩
          · exact .inr (.inl ⟨by lia, h2⟩)
          · exact .inr (.inr h2)
        · rintro (⟨h1, h2⟩ | ⟨h1, h2⟩ | h2)
          · exact .inl ⟨h1, .inl h2⟩
          · exact .inl ⟨by lia, .inr h2⟩
          · exact .inr h2
      · rename_i h3
        rw [if_neg h3]
        dsimp only at ht h h3 ⊢
        constructor
        · rintro (h2 | h2)
          · exact .inl h2
          · exact .inr (.inr h2)
        · rintro (h2 | ⟨h1, _⟩ | h2)
          · exact .inl h2
          · lia
          · exact .inr h2
theorem dst_len : ∀ {l : List (Int × Bs)} {st : Int × List Bs}, (l.foldl dst st).2.length ≤ st.2.length + l.length
  | [], _ => Nat.le_refl _
  | c :: r, st => by
    have ih := dst_len (l := r) (st := dst st c)
    rw [List.foldl_cons, List.length_cons]
    have h1 : (dst st c).2.length ≤ st.2.length + 1 := by
      unfold dst; split
      · simp
      · split
        · simp
        · lia
    lia
/-- all candidates of a text -/
noncomputable def cands (f fc : Bs → Option Int) (sh m : Nat) (x : Bs) : List (Int × Bs) := ((List.range' 0 (x.length + 1 - sh)).filter (mark fc sh x)).map (cnd (worL f sh x) x sh (m + 1 - sh))
theorem tl_dst {f fc : Bs → Option Int} {sh most : Nat} {ks : List Bs} {x : Bs} (I : Inv sh f fc ks) (hm : sh ≤ most) : ∀ (c p : Nat) (d : Int × List Bs), p + c = (worL f sh x).length →
    tl (gA fc sh most x) d ((List.range' p c).filter (mark fc sh x)) = (((List.range' p c).filter (mark fc sh x)).map (cnd (worL f sh x) x sh (most + 1 - sh))).foldl dst d
  | 0, p, d, _ => rfl
  | c + 1, p, d, hp => by
    by_cases hq : mark fc sh x p = true
    · have e := gA_mark (d := d) I hm (p := p) (c := c) (by lia) hq
      rw [List.range'_succ, List.filter_cons_of_pos hq] at e ⊢
      rw [List.map_cons, List.foldl_cons, tl, e]
      exact tl_dst I hm c (p + 1) _ (by lia)
    · rw [List.range'_succ, List.filter_cons_of_neg hq]
      exact tl_dst I hm c (p + 1) _ (by lia)
theorem dear_cands {f fc : Bs → Option Int} {sh m : Nat} {ks : List Bs} (I : Inv sh f fc ks) (hm : sh ≤ m) (xs : List Bs) : dearF xs fc sh m = (xs.flatMap (cands f fc sh m)).foldl dst (0, [[]]) := by
  have aux : ∀ (l : List Bs) (d : Int × List Bs), l.foldl (dearX fc sh m) d = (l.flatMap (cands f fc sh m)).foldl dst d := by
    intro l
    induction l with
    | nil => intro d; rfl
    | cons x r ih =>
      intro d
      rw [List.foldl_cons, List.flatMap_cons, List.foldl_append, ih, dearX_tl]
      have := tl_dst (x := x) I hm (x.length + 1 - sh) 0 d (by rw [length_worL]; lia)
      rw [this]; rfl
  exact aux xs (0, [[]])
theorem cands_pos {f fc : Bs → Option Int} {sh m : Nat} {ks : List Bs} {x : Bs} (I : Inv sh f fc ks) (hm : sh ≤ m) : ∀ c ∈ cands f fc sh m x, 0 < c.1 := by
  intro c hc
  obtain ⟨p, hp, rfl⟩ := List.mem_map.mp hc
  obtain ⟨h1, h2⟩ := List.mem_filter.mp hp
  have hpl : p < (worL f sh x).length := by have := List.mem_range'_1.mp h1; rw [length_worL]; lia
  have h3 := (ws_mark I hpl).mp h2
  have h4 := worL_nn _ (List.getElem_mem hpl)
  show 0 < win _ _ _
  unfold win
  obtain ⟨j, hj⟩ : ∃ j, m + 1 - sh = j + 1 := ⟨m - sh, by lia⟩
  rw [hj, List.drop_eq_getElem_cons hpl, List.take_succ_cons, List.sum_cons]
  have h5 : 0 ≤ (((worL f sh x).drop (p + 1)).take j).sum := sum_nn fun z hz => worL_nn _ (List.mem_of_mem_drop (List.mem_of_mem_take hz))
  lia
theorem dear_zero {f fc : Bs → Option Int} {sh m : Nat} {ks : List Bs} {xs : List Bs} (I : Inv sh f fc ks) (hm : sh ≤ m) (h : (dearF xs fc sh m).1 = 0) : (dearF xs fc sh m).2 = [[]] ∧ ∀ x ∈ xs, ∀ i, i < x.length + 1 - sh → fc (cut x i sh) = none := by
  rw [dear_cands I hm] at h ⊢
  have h1 := (dst_top (l := xs.flatMap (cands f fc sh m)) (st := (0, [[]]))).2.1
  rw [h] at h1
  have h2 : xs.flatMap (cands f fc sh m) = [] := by
    refine List.eq_nil_iff_forall_not_mem.mpr fun c hc => ?_
    have h3 := h1 c hc
    obtain ⟨x, _, hx⟩ := List.mem_flatMap.mp hc
    have := cands_pos I hm c hx
    lia
  rw [h2]
  refine ⟨rfl, fun x hx i hi => ?_⟩
  have h3 := List.flatMap_eq_nil_iff.mp h2 x hx
  cases h4 : fc (cut x i sh) with
  | none => rfl
  | some v =>
    have h5 : i ∈ (List.range' 0 (x.length + 1 - sh)).filter (mark fc sh x) := List.mem_filter.mpr ⟨List.mem_range'_1.mpr ⟨Nat.zero_le _, by lia⟩, by unfold mark; rw [h4]; rfl⟩
    have h6 := List.map_eq_nil_iff.mp h3
    rw [h6] at h5; cases h5
theorem dear_nn {f fc : Bs → Option Int} {sh m : Nat} {ks : List Bs} {xs : List Bs} (I : Inv sh f fc ks) (hm : sh ≤ m) : 0 ≤ (dearF xs fc sh m).1 := by
  rw [dear_cands I hm]
  exact (dst_top (l := xs.flatMap (cands f fc sh m)) (st := (0, [[]]))).1
theorem dear_len {f fc : Bs → Option Int} {sh m : Nat} {ks : List Bs} {xs : List Bs} (I : Inv sh f fc ks) (hm : sh ≤ m) (h1 : 1 ≤ sh) (hxs : xs.length ≤ 4) (hxl : ∀ y ∈ xs, y.length ≤ 12) : (dearF xs fc sh m).2.length ≤ 1000 := by
  rw [dear_cands I hm]
  refine Nat.le_trans dst_len ?_
  have aux : ∀ l : List Bs, (∀ y ∈ l, y.length ≤ 12) → (l.flatMap (cands f fc sh m)).length ≤ 12 * l.length := by
    intro l
    induction l with
    | nil => intro _; simp
    | cons x r ih =>
      intro h
      have h2 := ih fun y hy => h y (List.mem_cons_of_mem _ hy)
      have h3 : (cands f fc sh m x).length ≤ 12 := by
        unfold cands
        rw [List.length_map]
        refine Nat.le_trans (List.length_filter_le _ _) ?_
        rw [List.length_range']
        have := h x List.mem_cons_self
        lia
      rw [List.flatMap_cons, List.length_append, List.length_cons]; lia
  have := aux xs hxl
  simp only [List.length_singleton]
  lia
/-- the other order finds the same worth, and one of the same stretches -/
theorem dear_mirror {f fc : Bs → Option Int} {sh m : Nat} {ks : List Bs} {xs : List Bs} (I : Inv sh f fc ks) (hm : sh ≤ m) : (dearF xs.reverse fc sh m).1 = (dearF xs fc sh m).1 ∧ ∀ y, y ∈ (dearF xs.reverse fc sh m).2 ↔ y ∈ (dearF xs fc sh m).2 := by
  rw [dear_cands I hm, dear_cands I hm]
  have hmem : ∀ c, c ∈ xs.reverse.flatMap (cands f fc sh m) ↔ c ∈ xs.flatMap (cands f fc sh m) := fun c => by
    simp only [List.mem_flatMap, List.mem_reverse]
  generalize xs.reverse.flatMap (cands f fc sh m) = l1 at hmem
  generalize xs.flatMap (cands f fc sh m) = l2 at hmem
  have h1 := dst_top (l := l1) (st := (0, [[]]))
  have h2 := dst_top (l := l2) (st := (0, [[]]))
  have he : (l1.foldl dst (0, [[]])).1 = (l2.foldl dst (0, [[]])).1 := by
    obtain ⟨a1, b1, c1⟩ := h1
    obtain ⟨a2, b2, c2⟩ := h2
    refine Int.le_antisymm ?_ ?_
    · rcases c1 with c1 | ⟨c, hc, c1⟩
      · rw [c1]; exact a2
      · rw [← c1]; exact b2 c ((hmem c).mp hc)
    · rcases c2 with c2 | ⟨c, hc, c2⟩
      · rw [c2]; exact a1
      · rw [← c2]; exact b1 c ((hmem c).mpr hc)
  refine ⟨he, fun y => ?_⟩
  rw [dst_mem, dst_mem, he, hmem]
/-- x stands in y -/
theorem isIn_cut {k y : Bs} {sh : Nat} (hk : k.length = sh) : isIn k y = true ↔ ∃ i, i < y.length + 1 - sh ∧ cut y i sh = k := by
  unfold isIn cut
  rw [List.any_eq_true, hk]
  simp only [List.mem_range, decide_eq_true_eq]
theorem isIn_infix {k y : Bs} : isIn k y = true ↔ k <:+: y := by
  rw [isIn_cut rfl]
  constructor
  · rintro ⟨i, _, h⟩
    rw [← h]
    unfold cut
    exact (List.take_prefix _ _).isInfix.trans (List.drop_suffix _ _).isInfix
  · rintro ⟨s, t, rfl⟩
    refine ⟨s.length, by simp only [List.length_append]; lia, ?_⟩
    unfold cut
    rw [List.append_assoc, List.drop_left, List.take_left]
theorem takeF_eq {f : Bs → Option Int} {sh : Nat} {x k : Bs} : ∀ n, ((∃ i, i < n ∧ cut x i sh = k) → takeF f sh x n k = some 0) ∧ (¬ (∃ i, i < n ∧ cut x i sh = k) → takeF f sh x n k = f k)
  | 0 => ⟨fun ⟨i, h, _⟩ => absurd h (Nat.not_lt_zero _), fun _ => rfl⟩
  | n + 1 => by
    obtain ⟨h1, h2⟩ := takeF_eq (f := f) (sh := sh) (x := x) (k := k) n
    unfold takeF
    constructor
    · rintro ⟨i, hi, he⟩
      by_cases h : cut x n sh = k
      · rw [if_pos h]
      · rw [if_neg h]
        exact h1 ⟨i, Nat.lt_of_le_of_ne (by lia) (fun q => h (by rw [← q]; exact he)), he⟩
    · intro hn
      rw [if_neg fun h => hn ⟨n, Nat.lt_succ_self _, h⟩]
      exact h2 fun ⟨i, hi, he⟩ => hn ⟨i, Nat.lt_succ_of_lt hi, he⟩
theorem inv_step {sh : Nat} {f fc : Bs → Option Int} {ks : List Bs} (I : Inv sh f fc ks) (p : Bs) : Inv sh (takeF f sh p (p.length + 1 - sh)) (restF fc ks p) (restK ks p) := by
  refine ⟨fun k hk => ?_, fun k v h => ?_, fun k => ?_⟩
  · obtain ⟨h1, h2⟩ := takeF_eq (f := f) (sh := sh) (x := p) (k := k) (p.length + 1 - sh)
    by_cases h : isIn k p = true
    · have h3 := h1 ((isIn_cut hk).mp h)
      have h4 : restF fc ks p k = none := by
        unfold restF restK
        rw [if_neg]
        intro hm
        have := (List.mem_filter.mp hm).2
        rw [h] at this; cases this
      unfold wor
      rw [h3, h4]; rfl
    · have h3 := h2 fun q => h ((isIn_cut hk).mpr q)
      have h4 : restF fc ks p k = fc k := by
        unfold restF restK
        by_cases hm : k ∈ ks
        · rw [if_pos (List.mem_filter.mpr ⟨hm, by simpa using h⟩)]
        · rw [if_neg fun q => hm (List.mem_filter.mp q).1]
          cases q : fc k with
          | none => rfl
          | some v => exact absurd ((I.key k).mpr (by rw [q]; rfl)) hm
      unfold wor
      rw [h3, h4]
      exact I.val k hk
  · unfold restF at h
    split at h
    · exact I.pos k v h
    · cases h
  · unfold restF
    constructor
    · intro h
      rw [if_pos h]
      exact (I.key k).mp (List.mem_filter.mp h).1
    · intro h
      by_cases q : k ∈ restK ks p
      · exact q
      · rw [if_neg q] at h; cases h
theorem take_nil {f : Bs → Option Int} {sh : Nat} (h : 1 ≤ sh) : takeF f sh [] (([] : Bs).length + 1 - sh) = f := by
  rw [show ([] : Bs).length + 1 - sh = 0 by simp; lia]; rfl
theorem playS_cons {sh : Nat} {f : Bs → Option Int} {t : Nat × Int × List Bs} {ts : List (Nat × Int × List Bs)} : playS sh f (t :: ts) = playS sh (takeF f sh (t.2.2.headD []) ((t.2.2.headD []).length + 1 - sh)) ts := rfl
/-- a row of turns, one after the other -/
theorem turns_cases {P : List (Nat × Int × List Bs) × (Bs → Option Int) × List Bs → Prop} {xs : List Bs} {sh seg k room : Nat} {fc : Bs → Option Int} {ks : List Bs}
    (h1 : room < sh → P ([], fc, ks)) (h2 : sh ≤ room → (dearF xs fc sh (min seg room)).1 = 0 → P ([(min seg room, (dearF xs fc sh (min seg room)).1, (dearF xs fc sh (min seg room)).2)], fc, ks))
    (h3 : sh ≤ room → (dearF xs fc sh (min seg room)).1 ≠ 0 → P ((min seg room, (dearF xs fc sh (min seg room)).1, (dearF xs fc sh (min seg room)).2) :: (turnsF xs sh seg k (room - ((dearF xs fc sh (min seg room)).2.headD []).length) (restF fc ks ((dearF xs fc sh (min seg room)).2.headD [])) (restK ks ((dearF xs fc sh (min seg room)).2.headD []))).1,
        (turnsF xs sh seg k (room - ((dearF xs fc sh (min seg room)).2.headD []).length) (restF fc ks ((dearF xs fc sh (min seg room)).2.headD [])) (restK ks ((dearF xs fc sh (min seg room)).2.headD []))).2)) :
    P (turnsF xs sh seg (k + 1) room fc ks) := by
  unfold turnsF
  split
  · exact h1 (by assumption)
  · split
    · exact h2 (by lia) (by assumption)
    · exact h3 (by lia) (by assumption)
theorem turns_inv {xs : List Bs} {sh seg : Nat} (hs1 : 1 ≤ sh) (hs2 : sh ≤ seg) : ∀ (k room : Nat) (f fc : Bs → Option Int) (ks : List Bs), Inv sh f fc ks → Inv sh (playS sh f (turnsF xs sh seg k room fc ks).1) (turnsF xs sh seg k room fc ks).2.1 (turnsF xs sh seg k room fc ks).2.2
  | 0, _, _, _, _, I => I
  | k + 1, room, f, fc, ks, I => by
    refine turns_cases (P := fun tr => Inv sh (playS sh f tr.1) tr.2.1 tr.2.2) (fun _ => I) (fun h1 h2 => ?_) fun h1 h2 => ?_
    · obtain ⟨h3, _⟩ := dear_zero I (by lia) h2
      dsimp only
      rw [playS_cons, h3]
      dsimp only [List.headD_cons]
      rw [take_nil hs1]
      exact I
    · dsimp only
      rw [playS_cons]
      exact turns_inv hs1 hs2 k _ _ _ _ (inv_step I _)
theorem turns_at {xs : List Bs} {sh seg : Nat} (hs2 : sh ≤ seg) : ∀ (k room : Nat) (fc : Bs → Option Int) (ks : List Bs) (i m : Nat) (T : Int) (ys : List Bs), (turnsF xs sh seg k room fc ks).1[i]? = some (m, T, ys) →
    sh ≤ m ∧ m ≤ seg ∧ m ≤ room ∧ ∃ fc' ks', (T, ys) = dearF xs fc' sh m ∧ ∀ f, Inv sh f fc ks → Inv sh (playS sh f ((turnsF xs sh seg k room fc ks).1.take i)) fc' ks'
  | 0, _, _, _, i, _, _, _, h => by cases h
  | k + 1, room, fc, ks, i, m, T, ys, h => by
    revert h
    refine turns_cases (P := fun tr => tr.1[i]? = some (m, T, ys) → sh ≤ m ∧ m ≤ seg ∧ m ≤ room ∧ ∃ fc' ks', (T, ys) = dearF xs fc' sh m ∧ ∀ f, Inv sh f fc ks → Inv sh (playS sh f (tr.1.take i)) fc' ks') (fun _ h => by cases h) (fun h1 h2 h => ?_) fun h1 h2 h => ?_
    · cases i with
      | zero => cases h; exact ⟨by lia, by lia, by lia, fc, ks, rfl, fun f I => I⟩
      | succ i => cases h
    · cases i with
      | zero => cases h; exact ⟨by lia, by lia, by lia, fc, ks, rfl, fun f I => I⟩
      | succ i =>
        rw [List.getElem?_cons_succ] at h
        obtain ⟨a, b, c, fc', ks', d, e⟩ := turns_at hs2 k _ _ _ i m T ys h
        refine ⟨a, b, by lia, fc', ks', d, fun f I => ?_⟩
        rw [List.take_succ_cons, playS_cons]
        exact e _ (inv_step I _)
/-- the pieces of all samples, in order -/
noncomputable def pieces (xs : List Bs) (sh : Nat) : List Bs := xs.flatMap fun x => (List.range (x.length + 1 - sh)).map fun i => cut x i sh
theorem mem_pieces {xs : List Bs} {sh : Nat} {k : Bs} : k ∈ pieces xs sh ↔ ∃ x ∈ xs, ∃ i, i < x.length + 1 - sh ∧ cut x i sh = k := by
  unfold pieces
  simp only [List.mem_flatMap, List.mem_map, List.mem_range]
theorem pieces_len {xs : List Bs} {sh : Nat} {k : Bs} (h : k ∈ pieces xs sh) : k.length = sh := by
  obtain ⟨x, _, i, hi, rfl⟩ := mem_pieces.mp h
  exact len_cut hi
theorem shared_pieces (xs : List Bs) (sh : Nat) : sharedF xs sh = (pieces xs sh).foldl (shP xs) (fun _ => none, []) := by
  have aux : ∀ (l : List Bs) st, l.foldl (shX xs sh) st = (l.flatMap fun x => (List.range (x.length + 1 - sh)).map fun i => cut x i sh).foldl (shP xs) st := by
    intro l
    induction l with
    | nil => intro _; rfl
    | cons x r ih =>
      intro st
      rw [List.foldl_cons, List.flatMap_cons, List.foldl_append, ih, List.foldl_map]
      rfl
  exact aux xs _
structure ShOk (xs : List Bs) (ps : List Bs) (st : (Bs → Option Int) × List Bs) : Prop where
  val : ∀ k v, st.1 k = some v → v = (cntIn xs k : Int) ∧ 1 < cntIn xs k ∧ k ∈ ps
  key : ∀ k, k ∈ st.2 ↔ (st.1 k).isSome = true
  all : ∀ k ∈ ps, 1 < cntIn xs k → (st.1 k).isSome = true
theorem shok_step {xs ps : List Bs} {st : (Bs → Option Int) × List Bs} (h : ShOk xs ps st) (p : Bs) : ShOk xs (ps ++ [p]) (shP xs st p) := by
  obtain ⟨h1, h2, h3⟩ := h
  unfold shP
  by_cases hc : 1 < cntIn xs p
  · rw [if_pos hc]
    refine ⟨fun k v hk => ?_, fun k => ?_, fun k hk hn => ?_⟩
    · dsimp only at hk
      split at hk
      · rename_i e; cases hk; subst e
        exact ⟨rfl, hc, by simp⟩
      · obtain ⟨a, b, c⟩ := h1 k v hk
        exact ⟨a, b, List.mem_append_left _ c⟩
    · dsimp only
      by_cases e : p = k
      · subst e
        rw [if_pos rfl]
        simp only [Option.isSome_some, iff_true]
        split
        · assumption
        · simp
      · rw [if_neg e, ← h2 k]
        split
        · rfl
        · rw [List.mem_append, List.mem_singleton]
          exact ⟨fun q => q.elim id fun q => absurd q.symm e, .inl⟩
    · dsimp only
      by_cases e : p = k
      · rw [if_pos e]; rfl
      · rw [if_neg e]
        rcases List.mem_append.mp hk with hk | hk
        · exact h3 k hk hn
        · exact absurd (List.mem_singleton.mp hk).symm e
  · rw [if_neg hc]
    refine ⟨fun k v hk => ?_, h2, fun k hk hn => ?_⟩
    · obtain ⟨a, b, c⟩ := h1 k v hk
      exact ⟨a, b, List.mem_append_left _ c⟩
    · rcases List.mem_append.mp hk with hk | hk
      · exact h3 k hk hn
      · rw [List.mem_singleton.mp hk] at hn; exact absurd hn hc
theorem shared_ok (xs : List Bs) (sh : Nat) : ShOk xs (pieces xs sh) (sharedF xs sh) := by
  rw [shared_pieces]
  have aux : ∀ (l qs : List Bs) st, ShOk xs qs st → ShOk xs (qs ++ l) (l.foldl (shP xs) st) := by
    intro l
    induction l with
    | nil => intro qs st h; rw [List.append_nil]; exact h
    | cons p r ih =>
      intro qs st h
      have := ih (qs ++ [p]) _ (shok_step h p)
      rw [List.append_assoc] at this
      exact this
  exact aux (pieces xs sh) [] (fun _ => none, []) ⟨(fun _ _ h => nomatch h), (fun _ => by simp), (fun _ h => nomatch h)⟩
theorem mem_ownK {x k : Bs} {sh : Nat} : ∀ {n : Nat}, k ∈ ownK x sh n ↔ ∃ i, i < n ∧ cut x i sh = k
  | 0 => by simp [ownK]
  | n + 1 => by
    have ih := mem_ownK (x := x) (k := k) (sh := sh) (n := n)
    have hs : (∃ i, i < n + 1 ∧ cut x i sh = k) ↔ (∃ i, i < n ∧ cut x i sh = k) ∨ cut x n sh = k := by
      constructor
      · rintro ⟨i, hi, e⟩
        rcases Nat.lt_or_ge i n with h | h
        · exact .inl ⟨i, h, e⟩
        · have : i = n := by lia
          subst this; exact .inr e
      · rintro (⟨i, hi, e⟩ | e)
        · exact ⟨i, by lia, e⟩
        · exact ⟨n, by lia, e⟩
    have he : ownK x sh (n + 1) = if cut x n sh ∈ ownK x sh n then ownK x sh n else ownK x sh n ++ [cut x n sh] := rfl
    rw [hs, ← ih, he]
    split
    · rename_i h
      exact ⟨.inl, fun q => q.elim id fun e => by rw [← e]; exact h⟩
    · rw [List.mem_append, List.mem_singleton]
      exact ⟨fun q => q.elim .inl fun e => .inr e.symm, fun q => q.elim .inl fun e => .inr e.symm⟩
theorem nodup_ownK {x : Bs} {sh : Nat} : ∀ {n : Nat}, (ownK x sh n).Nodup
  | 0 => .nil
  | n + 1 => by
    have ih := nodup_ownK (x := x) (sh := sh) (n := n)
    have he : ownK x sh (n + 1) = if cut x n sh ∈ ownK x sh n then ownK x sh n else ownK x sh n ++ [cut x n sh] := rfl
    rw [he]
    split
    · exact ih
    · rename_i h
      refine List.nodup_append.mpr ⟨ih, by simp, fun a ha b hb e => ?_⟩
      rw [List.mem_singleton] at hb
      exact h (by rw [← hb, ← e]; exact ha)
theorem addK_fold {k : Bs} : ∀ {l : List Bs} {f : Bs → Option Int}, l.Nodup → ((l.foldl addK f) k).getD 0 = (f k).getD 0 + if k ∈ l then 1 else 0
  | [], f, _ => by simp
  | p :: r, f, h => by
    obtain ⟨h1, h2⟩ := List.nodup_cons.mp h
    rw [List.foldl_cons, addK_fold h2]
    by_cases e : p = k
    · subst e
      rw [if_neg h1, if_pos List.mem_cons_self]
      simp [addK]
    · have : (addK f p k) = f k := by unfold addK; rw [if_neg e]
      rw [this]
      simp only [List.mem_cons, show (k = p) = False from eq_false (Ne.symm e), false_or]
theorem cnt_val {xs : List Bs} {sh : Nat} {k : Bs} (hk : k.length = sh) : (cntF xs sh k).getD 0 = (cntIn xs k : Int) := by
  have aux : ∀ (l : List Bs) (f : Bs → Option Int), ((l.foldl (addX sh) f) k).getD 0 = (f k).getD 0 + (cntIn l k : Int) := by
    intro l
    induction l with
    | nil => intro f; simp [cntIn]
    | cons x r ih =>
      intro f
      rw [List.foldl_cons, ih]
      unfold addX
      rw [addK_fold nodup_ownK]
      have hm : k ∈ ownK x sh (x.length + 1 - sh) ↔ isIn k x = true := mem_ownK.trans (isIn_cut hk).symm
      unfold cntIn
      rw [List.filter_cons]
      by_cases h : isIn k x = true
      · rw [if_pos (hm.mpr h), if_pos h, List.length_cons]; lia
      · rw [if_neg fun q => h (hm.mp q), if_neg h]; lia
  have := aux xs fun _ => none
  simpa [cntF] using this
theorem inv_start {xs : List Bs} {sh : Nat} : Inv sh (cntF xs sh) (sharedF xs sh).1 (sharedF xs sh).2 := by
  have S := shared_ok xs sh
  refine ⟨fun k hk => ?_, fun k v h => ?_, S.key⟩
  · unfold wor
    rw [cnt_val hk]
    cases q : (sharedF xs sh).1 k with
    | some v =>
      obtain ⟨a, b, _⟩ := S.val k v q
      rw [if_pos (by lia), a]; rfl
    | none =>
      rw [if_neg]
      · rfl
      · intro h
        have h1 : 1 < cntIn xs k := by lia
        have h2 : k ∈ pieces xs sh := by
          have h3 : 0 < (xs.filter fun y => isIn k y).length := by unfold cntIn at h1; lia
          obtain ⟨y, hy⟩ := List.exists_mem_of_length_pos h3
          obtain ⟨h4, h5⟩ := List.mem_filter.mp hy
          obtain ⟨i, hi, e⟩ := (isIn_cut hk).mp h5
          exact mem_pieces.mpr ⟨y, h4, i, hi, e⟩
        have := S.all k h2 h1
        rw [q] at this; cases this
  · obtain ⟨a, b, _⟩ := S.val k v h
    lia
theorem cnt_rev {xs : List Bs} {k : Bs} : cntIn xs.reverse k = cntIn xs k := by
  unfold cntIn; rw [List.filter_reverse, List.length_reverse]
theorem inv_mirror {xs : List Bs} {sh : Nat} : Inv sh (cntF xs.reverse sh) (sharedF xs sh).1 (sharedF xs sh).2 := by
  have I := inv_start (xs := xs) (sh := sh)
  refine ⟨fun k hk => ?_, I.pos, I.key⟩
  rw [← I.val k hk]
  unfold wor
  rw [cnt_val hk, cnt_val hk, cnt_rev]
/-- the run follows the turns -/
theorem play_follow {xs zs : List Bs} {sh seg : Nat} {U : List Bs → Prop} (hs1 : 1 ≤ sh) (hs2 : sh ≤ seg)
    (hsame : ∀ (f fc : Bs → Option Int) (ks : List Bs) (m : Nat), Inv sh f fc ks → sh ≤ m → U (dearF xs fc sh m).2 → bestF zs f sh m = ((dearF xs fc sh m).1, (dearF xs fc sh m).2.headD [])) :
    ∀ (k room : Nat) (f fc : Bs → Option Int) (ks : List Bs), Inv sh f fc ks → (∀ t ∈ (turnsF xs sh seg k room fc ks).1, U t.2.2) → (play zs sh seg k f room).reverse.flatten = (headsF (turnsF xs sh seg k room fc ks).1).reverse.flatten
  | 0, _, _, _, _, _, _ => rfl
  | k + 1, room, f, fc, ks, I, hU => by
    revert hU
    refine turns_cases (P := fun tr => (∀ t ∈ tr.1, U t.2.2) → (play zs sh seg (k + 1) f room).reverse.flatten = (headsF tr.1).reverse.flatten) (fun h1 _ => ?_) (fun h1 h2 hU => ?_) fun h1 h2 hU => ?_
    · unfold play; rw [if_pos h1]; rfl
    · have hb := hsame f fc ks (min seg room) I (by lia) (hU _ List.mem_cons_self)
      unfold play
      rw [if_neg (by lia), hb, if_pos h2, (dear_zero I (by lia) h2).1]
      rfl
    · have hb := hsame f fc ks (min seg room) I (by lia) (hU _ List.mem_cons_self)
      have ih := play_follow hs1 hs2 hsame k _ _ _ _ (inv_step I ((dearF xs fc sh (min seg room)).2.headD [])) fun t ht => hU t (List.mem_cons_of_mem _ ht)
      unfold play
      rw [if_neg (by lia), hb, if_neg h2]
      dsimp only
      unfold headsF at ih ⊢
      rw [List.map_cons, List.reverse_cons, List.reverse_cons, List.flatten_append, List.flatten_append, ih]
/-- the content that a joined run gives -/
noncomputable def padF (xs : List Bs) (c : Bs) : Option Bs := if 8 ≤ c.length then some c else if 8 - c.length ≤ xs.flatten.length then some (xs.flatten.drop (xs.flatten.length - (8 - c.length)) ++ c) else none
theorem train_pad {xs : List Bs} {size seg sh : Nat} : trainF xs size seg sh = padF xs (play xs sh seg (size + 1) (cntF xs sh) size).reverse.flatten := by
  unfold trainF padF
  generalize (play xs sh seg (size + 1) (cntF xs sh) size).reverse.flatten = c
  dsimp only
  by_cases h : 8 ≤ c.length
  · rw [if_pos h, if_neg (Nat.not_lt_of_le h), if_neg (Nat.not_lt_of_le h)]
  · have hc := Nat.lt_of_not_le h
    rw [if_neg h, if_pos hc]
    have h2 : (lastN 8 (xs.flatten ++ c)).length = xs.flatten.length + c.length - (xs.flatten.length + c.length - 8) := by
      unfold lastN; rw [List.length_drop, List.length_append]
    by_cases h3 : 8 - c.length ≤ xs.flatten.length
    · have h4 : 8 ≤ xs.flatten.length + c.length := Nat.sub_le_iff_le_add.mp h3
      rw [if_pos h3, if_neg (by rw [h2, Nat.sub_sub_self h4]; decide)]
      unfold lastN
      have h5 : xs.flatten.length + c.length - 8 = xs.flatten.length - (8 - c.length) := by clear h h2; lia
      rw [List.drop_append, List.length_append, h5, Nat.sub_eq_zero_of_le (Nat.sub_le _ _)]
      rfl
    · have h4 : xs.flatten.length + c.length < 8 := Nat.lt_of_not_le fun q => h3 (Nat.sub_le_iff_le_add.mpr q)
      rw [if_neg h3, if_pos (by rw [h2]; exact Nat.lt_of_le_of_lt (Nat.sub_le _ _) h4)]
theorem cont_pad {xs : List Bs} {ts : List (Nat × Int × List Bs)} : contF xs ts = padF xs (headsF ts).reverse.flatten := rfl
theorem pad_none {xs : List Bs} {c : Bs} : padF xs c = none ↔ xs.flatten.length + c.length < 8 := by
  unfold padF
  split
  · constructor
    · intro h; cases h
    · intro h; lia
  · split
    · constructor
      · intro h; cases h
      · intro h; lia
    · constructor
      · intro _; lia
      · intro _; rfl
theorem pad_some {xs : List Bs} {c w : Bs} (h : padF xs c = some w) : (∃ r, w = r ++ c) ∧ (8 ≤ c.length → w = c) ∧ w.length ≤ c.length + 8 := by
  unfold padF at h
  split at h
  · cases h
    exact ⟨⟨[], rfl⟩, fun _ => rfl, by lia⟩
  · split at h
    · cases h
      refine ⟨⟨_, rfl⟩, fun q => absurd q (by assumption), ?_⟩
      rw [List.length_append, List.length_drop]; lia
    · cases h
theorem head_len {xs : List Bs} {fc : Bs → Option Int} {sh m : Nat} (hs : 1 ≤ sh) (h : (dearF xs fc sh m).1 ≠ 0) : sh ≤ ((dearF xs fc sh m).2.headD []).length ∧ ((dearF xs fc sh m).2.headD []).length ≤ m := by
  obtain ⟨h1, h2⟩ := dear_ok (xs := xs) (f := fc) (sh := sh) (most := m) hs
  refine h2 h _ ?_
  cases q : (dearF xs fc sh m).2 with
  | nil => exact absurd q h1
  | cons y r => exact List.mem_cons_self
theorem play_len {xs : List Bs} {sh seg : Nat} (hs1 : 1 ≤ sh) (hs2 : sh ≤ seg) : ∀ (k room : Nat) (f : Bs → Option Int), (play xs sh seg k f room).flatten.length ≤ room
  | 0, _, _ => Nat.zero_le _
  | k + 1, room, f => by
    unfold play
    split
    · exact Nat.zero_le _
    · split
      · exact Nat.zero_le _
      · rename_i h1 h2
        have h3 := best_bound hs1 (show sh ≤ min seg room by lia) h2
        have ih := play_len (xs := xs) hs1 hs2 k (room - (bestF xs f sh (min seg room)).2.length) (takeF f sh (bestF xs f sh (min seg room)).2 ((bestF xs f sh (min seg room)).2.length + 1 - sh))
        rw [List.flatten_cons, List.length_append]
        lia
theorem max_one {a b : Nat} (h : a ≤ b) (_ : 1 ≤ b) : max 1 (a + 1 - b) = 1 := by omega
theorem best_big {xs : List Bs} {f : Bs → Option Int} {sh m n : Nat} (hm : ∀ x ∈ xs, x.length ≤ m) (hn : ∀ x ∈ xs, x.length ≤ n) (h1 : sh ≤ m) (h2 : sh ≤ n) : bestF xs f sh m = bestF xs f sh n := by
  have aux : ∀ (l : List Bs) (st : Int × Bs), (∀ x ∈ l, x.length ≤ m) → (∀ x ∈ l, x.length ≤ n) → l.foldl (bestX f sh (m + 1 - sh)) st = l.foldl (bestX f sh (n + 1 - sh)) st := by
    intro l
    induction l with
    | nil => intro _ _ _; rfl
    | cons x r ih =>
      intro st ha hb
      have hx : bestX f sh (m + 1 - sh) st x = bestX f sh (n + 1 - sh) st x := by
        have h3 : (worL f sh x).length ≤ m + 1 - sh := by rw [length_worL]; exact Nat.sub_le_sub_right (Nat.succ_le_succ (ha x List.mem_cons_self)) sh
        have h4 : (worL f sh x).length ≤ n + 1 - sh := by rw [length_worL]; exact Nat.sub_le_sub_right (Nat.succ_le_succ (hb x List.mem_cons_self)) sh
        have h5 : 1 ≤ m + 1 - sh := Nat.sub_pos_of_lt (Nat.lt_succ_of_le h1)
        have h6 : 1 ≤ n + 1 - sh := Nat.sub_pos_of_lt (Nat.lt_succ_of_le h2)
        unfold bestX
        rw [max_one h3 h5, max_one h4 h6]
        show stepB _ _ _ _ _ 0 = stepB _ _ _ _ _ 0
        unfold stepB
        rw [List.drop_zero, List.take_of_length_le h3, List.take_of_length_le h4, Nat.zero_add, Nat.zero_add, Nat.min_eq_right h3, Nat.min_eq_right h4]
      rw [List.foldl_cons, List.foldl_cons, hx]
      exact ih _ (fun y hy => ha y (List.mem_cons_of_mem _ hy)) fun y hy => hb y (List.mem_cons_of_mem _ hy)
  exact aux xs _ hm hn
theorem best_short {xs : List Bs} {f : Bs → Option Int} {sh m : Nat} (h : ∀ x ∈ xs, x.length < sh) : (bestF xs f sh m).1 = 0 := by
  have : bestF xs f sh m = (0, []) := by
    refine foldl_inv (P := fun st : Int × Bs => st = (0, [])) xs (0, []) rfl fun st x hx hst => ?_
    have hl := length_worL f sh x
    have hn : worL f sh x = [] := List.length_eq_zero_iff.mp (by have := h x hx; lia)
    refine foldl_inv (P := fun st : Int × Bs => st = (0, [])) _ st hst fun st p _ hst => ?_
    rw [hst]
    unfold stepB
    rw [hn]
    simp
  rw [this]
theorem mem_flat_len {xs : List Bs} {x : Bs} (h : x ∈ xs) : x.length ≤ xs.flatten.length := (List.sublist_flatten_of_mem h).length_le
/-- with room to spare two runs are the same -/
theorem play_eq {xs : List Bs} {sh seg : Nat} (hs1 : 1 ≤ sh) (hs2 : sh ≤ seg) : ∀ (k room : Nat) (f : Bs → Option Int) (k' room' : Nat), room < k → room' < k' → room ≤ room' →
    (xs.flatten.length + (play xs sh seg k f room).flatten.length < room ∨ xs.flatten.length + (play xs sh seg k' f room').flatten.length < room) → play xs sh seg k f room = play xs sh seg k' f room'
  | 0, _, _, _, _, h, _, _, _ => absurd h (Nat.not_lt_zero _)
  | k + 1, room, f, 0, room', _, h, _, _ => absurd h (Nat.not_lt_zero _)
  | k + 1, room, f, k' + 1, room', h1, h2, h3, h => by
    have hW : xs.flatten.length < room := by lia
    unfold play at h ⊢
    by_cases hr : room < sh
    · rw [if_pos hr]
      have hb := best_short (xs := xs) (f := f) (sh := sh) (m := min seg room') fun x hx => Nat.lt_trans (Nat.lt_of_le_of_lt (mem_flat_len hx) hW) hr
      rw [hb, if_pos rfl]
      split <;> rfl
    · have hr1 := Nat.le_of_not_lt hr
      have hr2 := Nat.le_trans hr1 h3
      have hm1 : sh ≤ min seg room := Nat.le_min.mpr ⟨hs2, hr1⟩
      have hb : bestF xs f sh (min seg room) = bestF xs f sh (min seg room') := by
        rcases Nat.lt_or_ge room seg with hg | hg
        · have hx0 : ∀ x ∈ xs, x.length ≤ room := fun x hx => Nat.le_trans (mem_flat_len hx) (Nat.le_of_lt hW)
          exact best_big (fun x hx => Nat.le_min.mpr ⟨Nat.le_trans (hx0 x hx) (Nat.le_of_lt hg), hx0 x hx⟩) (fun x hx => Nat.le_min.mpr ⟨Nat.le_trans (hx0 x hx) (Nat.le_of_lt hg), Nat.le_trans (hx0 x hx) h3⟩) hm1 (Nat.le_min.mpr ⟨hs2, hr2⟩)
        · rw [Nat.min_eq_left hg, Nat.min_eq_left (Nat.le_trans hg h3)]
      rw [if_neg hr, if_neg (Nat.not_lt_of_le hr2), ← hb] at h ⊢
      by_cases hz : (bestF xs f sh (min seg room)).1 = 0
      · rw [if_pos hz, if_pos hz]
      · rw [if_neg hz, if_neg hz] at h ⊢
        have h4 := best_bound hs1 hm1 hz
        have h5 := Nat.le_trans hs1 h4.1
        have h6 := Nat.le_trans h4.2 (Nat.min_le_right _ _)
        congr 1
        rw [List.flatten_cons, List.length_append, List.flatten_cons, List.length_append] at h
        clear h4 hb hm1 hr hr1 hr2 hz hW
        refine play_eq hs1 hs2 k _ _ k' _ (by clear h h3; lia) (by clear h h1; lia) (Nat.sub_le_sub_right h3 _) ?_
        clear h1 h2 h3 h5
        lia
theorem early_nil {xs : List Bs} {sh seg k room : Nat} {fc : Bs → Option Int} {ks : List Bs} (hs2 : sh ≤ seg) (h : room < seg) : earlyF (turnsF xs sh seg k room fc ks).1 seg = [] := by
  unfold earlyF headsF
  rw [List.map_eq_nil_iff, List.filter_eq_nil_iff]
  rintro ⟨m, T, ys⟩ ht
  obtain ⟨i, hi⟩ := List.getElem?_of_mem ht
  have := (turns_at hs2 k room fc ks i m T ys hi).2.2.1
  simp only [decide_eq_true_eq]
  lia
theorem early_cons_pos {t : Nat × Int × List Bs} {ts : List (Nat × Int × List Bs)} {seg : Nat} (h : t.1 = seg) : earlyF (t :: ts) seg = t.2.2.headD [] :: earlyF ts seg := by
  unfold earlyF; rw [List.filter_cons_of_pos (by simp [h])]; rfl
theorem early_cons_neg {t : Nat × Int × List Bs} {ts : List (Nat × Int × List Bs)} {seg : Nat} (h : t.1 ≠ seg) : earlyF (t :: ts) seg = earlyF ts seg := by
  unfold earlyF; rw [List.filter_cons_of_neg (by simp [h])]
theorem wide_early {xs : List Bs} {sh seg : Nat} (hs1 : 1 ≤ sh) (hs2 : sh ≤ seg) : ∀ (k k' room : Nat) (f fc : Bs → Option Int) (ks : List Bs), Inv sh f fc ks → room + seg < k' →
    ∃ R, (play xs sh seg k' f (room + seg)).reverse.flatten = R ++ (earlyF (turnsF xs sh seg k room fc ks).1 seg).reverse.flatten
  | 0, _, _, _, _, _, _, _ => ⟨_, (List.append_nil _).symm⟩
  | _ + 1, 0, _, _, _, _, _, h => absurd h (Nat.not_lt_zero _)
  | k + 1, k' + 1, room, f, fc, ks, I, hk => by
    refine turns_cases (P := fun tr => ∃ R, (play xs sh seg (k' + 1) f (room + seg)).reverse.flatten = R ++ (earlyF tr.1 seg).reverse.flatten) (fun h1 => ⟨_, (List.append_nil _).symm⟩) (fun h1 h2 => ?_) fun h1 h2 => ?_
    · refine ⟨(play xs sh seg (k' + 1) f (room + seg)).reverse.flatten, ?_⟩
      rw [(dear_zero I (by lia) h2).1]
      by_cases h : min seg room = seg
      · rw [early_cons_pos h]; simp [earlyF, headsF]
      · rw [early_cons_neg h]; simp [earlyF, headsF]
    · by_cases h : min seg room = seg
      · rw [early_cons_pos h]
        dsimp only
        rw [h] at h2 ⊢
        have hl := head_len hs1 h2
        have hb := best_eq I (m := seg) (by lia) xs
        obtain ⟨R, hR⟩ := wide_early (xs := xs) hs1 hs2 k k' (room - ((dearF xs fc sh seg).2.headD []).length) _ _ _ (inv_step I ((dearF xs fc sh seg).2.headD [])) (by lia)
        refine ⟨R, ?_⟩
        unfold play
        rw [if_neg (by lia), show min seg (room + seg) = seg by lia, hb, if_neg h2]
        dsimp only
        rw [show room + seg - ((dearF xs fc sh seg).2.headD []).length = room - ((dearF xs fc sh seg).2.headD []).length + seg by lia, List.reverse_cons, List.reverse_cons, List.flatten_append, List.flatten_append, hR, List.append_assoc]
      · rw [early_cons_neg h, early_nil hs2 (by lia)]
        exact ⟨_, (List.append_nil _).symm⟩
theorem turns_end {xs : List Bs} {sh seg : Nat} (hs1 : 1 ≤ sh) (hs2 : sh ≤ seg) : ∀ (k room : Nat) (f fc : Bs → Option Int) (ks : List Bs), Inv sh f fc ks → room < k →
    room < (headsF (turnsF xs sh seg k room fc ks).1).flatten.length + sh ∨ ∀ key, (fc key).isSome = true → key ∈ pieces xs sh → ∃ p ∈ headsF (turnsF xs sh seg k room fc ks).1, isIn key p = true
  | 0, _, _, _, _, _, h => absurd h (Nat.not_lt_zero _)
  | k + 1, room, f, fc, ks, I, hk => by
    refine turns_cases (P := fun tr => room < (headsF tr.1).flatten.length + sh ∨ ∀ key, (fc key).isSome = true → key ∈ pieces xs sh → ∃ p ∈ headsF tr.1, isIn key p = true) (fun h1 => .inl (by lia)) (fun h1 h2 => .inr fun key h3 h4 => ?_) fun h1 h2 => ?_
    · obtain ⟨x, hx, i, hi, rfl⟩ := mem_pieces.mp h4
      rw [(dear_zero I (by lia) h2).2 x hx i hi] at h3
      cases h3
    · have hl := head_len hs1 h2
      have ih := turns_end (xs := xs) hs1 hs2 k (room - ((dearF xs fc sh (min seg room)).2.headD []).length) _ _ _ (inv_step I ((dearF xs fc sh (min seg room)).2.headD [])) (by lia)
      generalize (turnsF xs sh seg k (room - ((dearF xs fc sh (min seg room)).2.headD []).length) (restF fc ks ((dearF xs fc sh (min seg room)).2.headD [])) (restK ks ((dearF xs fc sh (min seg room)).2.headD []))) = tr at ih
      rcases ih with ih | ih
      · refine .inl ?_
        unfold headsF at ih ⊢
        rw [List.map_cons, List.flatten_cons, List.length_append]
        dsimp only
        lia
      · refine .inr fun key h3 h4 => ?_
        by_cases hq : isIn key ((dearF xs fc sh (min seg room)).2.headD []) = true
        · exact ⟨_, List.mem_cons_self, hq⟩
        · have h5 : restF fc ks ((dearF xs fc sh (min seg room)).2.headD []) key = fc key := by
            unfold restF restK
            rw [if_pos (List.mem_filter.mpr ⟨(I.key key).mpr h3, by simpa using hq⟩)]
          obtain ⟨p, hp, h6⟩ := ih key (by rw [h5]; exact h3) h4
          exact ⟨p, List.mem_cons_of_mem _ hp, h6⟩
theorem turns_len {xs : List Bs} {sh seg : Nat} : ∀ (k room : Nat) (fc : Bs → Option Int) (ks : List Bs), (turnsF xs sh seg k room fc ks).1.length ≤ k
  | 0, _, _, _ => Nat.le_refl _
  | k + 1, room, fc, ks => by
    refine turns_cases (P := fun tr => tr.1.length ≤ k + 1) (fun _ => by simp) (fun _ _ => by simp) fun _ _ => ?_
    dsimp only
    rw [List.length_cons]
    exact Nat.succ_le_succ (turns_len k _ _ _)
theorem uni_mem {ys : List Bs} {y : Bs} (h : uni ys) (hy : y ∈ ys) : y = ys.headD [] := by
  unfold uni at h
  have : y ∈ List.replicate ys.length (ys.headD []) := by rw [← h]; exact hy
  exact List.eq_of_mem_replicate this
theorem headD_mem {ys : List Bs} (h : ys ≠ []) : ys.headD [] ∈ ys := by
  cases ys with
  | nil => exact absurd rfl h
  | cons y r => exact List.mem_cons_self
theorem ends_append {R c : Bs} : endsB (R ++ c) c = true := by
  unfold endsB
  rw [decide_eq_true_eq, List.length_append]
  exact ⟨by lia, by rw [show R.length + c.length - c.length = R.length by lia, List.drop_left]⟩
theorem plain {xs : List Bs} {sh seg size : Nat} (hs1 : 1 ≤ sh) (hs2 : sh ≤ 4) (hs3 : sh ≤ seg) (hs4 : seg ≤ 8) (hs5 : 8 ≤ size) (hs6 : size ≤ 20) (hxs : xs.length ≤ 4) (hxl : ∀ y ∈ xs, y.length ≤ 12) :
    PL xs sh seg size (turnsF xs sh seg (size + 1) size (sharedF xs sh).1 (sharedF xs sh).2).1 (turnsF xs sh seg (size + 1) size (sharedF xs sh).1 (sharedF xs sh).2).2.1 (sharedF xs sh).2 := by
  have I := inv_start (xs := xs) (sh := sh)
  have J := inv_mirror (xs := xs) (sh := sh)
  have hfol : ∀ k room, (play xs sh seg k (cntF xs sh) room).reverse.flatten = (headsF (turnsF xs sh seg k room (sharedF xs sh).1 (sharedF xs sh).2).1).reverse.flatten := fun k room =>
    play_follow (U := fun _ => True) hs1 hs3 (fun f fc ks m I hm _ => best_eq I hm xs) k room _ _ _ I fun _ _ => trivial
  have hflat := flat_len hxl
  refine ⟨?_, ?_, ?_, ?_, ?_, ?_, ?_, ?_, ?_, ?_⟩
  · rintro ⟨m, T, ys⟩ ht
    obtain ⟨i, hi⟩ := List.getElem?_of_mem ht
    obtain ⟨h1, h2, h3, fc', ks', h4, h5⟩ := turns_at hs3 _ _ _ _ i m T ys hi
    have I' := h5 _ I
    have h6 := dear_len I' h1 hs1 hxs hxl
    have h7 := dear_ok (xs := xs) (f := fc') (sh := sh) (most := m) hs1
    have h8 : (dearF xs fc' sh m).1 = 0 → (dearF xs fc' sh m).2 = [[]] := fun q => (dear_zero I' h1 q).1
    rw [← h4] at h6 h7 h8
    refine ⟨h7.1, h1, by dsimp only; lia, h6, fun y hy => ?_⟩
    dsimp only at h6 h7 h8 hy
    by_cases hz : T = 0
    · rw [h8 hz, List.mem_singleton] at hy
      rw [hy]; simp
    · have := (h7.2 hz y hy).2
      lia
  · have := turns_len (xs := xs) (sh := sh) (seg := seg) (size + 1) size (sharedF xs sh).1 (sharedF xs sh).2
    lia
  · rw [train_pad, cont_pad, hfol]
  · rw [train_pad, train_pad]
    have hb : ∀ o o' : Option Bs, (o = none ↔ o' = none) → o.isNone = o'.isNone := fun o o' h => by
      cases o <;> cases o' <;> simp at h ⊢
    refine hb _ _ ?_
    rw [pad_none, pad_none, len_flat_rev, len_flat_rev]
    have he := play_eq (xs := xs) hs1 hs3 (size + 1) size (cntF xs sh) (size + seg + 1) (size + seg) (by lia) (by lia) (by lia)
    constructor
    · intro h
      rw [he (.inr (by lia))]
      exact h
    · intro h
      rw [← he (.inl (by lia))]
      exact h
  · intro w hw
    rw [train_pad] at hw
    obtain ⟨⟨r, h1⟩, _, h2⟩ := pad_some hw
    have h3 := play_len (xs := xs) hs1 hs3 (size + seg + 1) (size + seg) (cntF xs sh)
    rw [len_flat_rev] at h2
    refine ⟨by lia, ?_⟩
    obtain ⟨R, hR⟩ := wide_early (xs := xs) hs1 hs3 (size + 1) (size + seg + 1) size _ _ _ I (by lia)
    rw [h1, hR, ← List.append_assoc]
    exact ends_append
  · intro w hw
    rw [train_pad, hfol] at hw
    obtain ⟨⟨r, h1⟩, h2, _⟩ := pad_some hw
    rcases turns_end (xs := xs) hs1 hs3 (size + seg + 1) (size + seg) _ _ _ I (by lia) with h | h
    · refine .inl ?_
      rw [len_flat_rev] at h2
      rw [h2 (by lia), len_flat_rev]
      lia
    · refine .inr fun k hk => ?_
      have h3 := (I.key k).mp hk
      obtain ⟨v, hv⟩ := Option.isSome_iff_exists.mp h3
      obtain ⟨p, hp, h4⟩ := h k h3 ((shared_ok xs sh).val k v hv).2.2
      rw [isIn_infix] at h4 ⊢
      rw [h1]
      refine h4.trans (List.IsInfix.trans ?_ (List.suffix_append _ _).isInfix)
      exact List.infix_of_mem_flatten (List.mem_reverse.mpr hp)
  · intro i m T ys hi
    obtain ⟨h1, h2, h3, fc', ks', h4, h5⟩ := turns_at hs3 _ _ _ _ i m T ys hi
    rw [best_eq (h5 _ I) h1 xs, ← h4]
  · intro y hy
    exact (turns_inv hs1 hs3 (size + 1) size _ _ _ I).worL y
  · intro i m T ys hi _
    obtain ⟨h1, h2, h3, fc', ks', h4, h5⟩ := turns_at hs3 _ _ _ _ i m T ys hi
    have J' := h5 _ J
    obtain ⟨e1, e2⟩ := dear_mirror (xs := xs) J' h1
    rw [best_eq J' h1 xs.reverse]
    obtain ⟨e3, e4⟩ := Prod.mk.inj h4
    rw [e3, e4]
    exact ⟨e1, (e2 _).mp (headD_mem (dear_ok hs1).1)⟩
  · intro hu
    rw [train_pad, cont_pad]
    rw [play_follow (xs := xs) (zs := xs.reverse) (U := uni) hs1 hs3 (fun f fc ks m K hm hU => ?_) (size + 1) size _ _ _ J hu]
    obtain ⟨e1, e2⟩ := dear_mirror (xs := xs) K hm
    rw [best_eq K hm xs.reverse, e1, uni_mem hU ((e2 _).mp (headD_mem (dear_ok hs1).1))]
theorem PL.heads {xs : List Bs} {sh seg size : Nat} {ts : List (Nat × Int × List Bs)} {fc : Bs → Option Int} {ks : List Bs} (P : PL xs sh seg size ts fc ks) : (headsF ts).flatten.length ≤ 10000 ∧ (earlyF ts seg).flatten.length ≤ 10000 := by
  have h1 : ∀ t ∈ ts, (t.2.2.headD []).length ≤ 100 := fun t ht => by
    obtain ⟨a, _, _, _, b⟩ := P.hne t ht
    cases q : t.2.2 with
    | nil => exact absurd q a
    | cons y r => exact b y (by rw [q]; exact List.mem_cons_self)
  have aux : ∀ us : List (Nat × Int × List Bs), (∀ t ∈ us, t ∈ ts) → us.length ≤ 100 → (headsF us).flatten.length ≤ 10000 := fun us hu hl => by
    have h2 := flat_len (xs := headsF us) (n := 100) fun y hy => by
      obtain ⟨t, ht, rfl⟩ := List.mem_map.mp hy
      exact h1 t (hu t ht)
    have h3 : (headsF us).length * 100 ≤ 100 * 100 := Nat.mul_le_mul_right _ (by simpa [headsF] using hl)
    lia
  exact ⟨aux ts (fun _ h => h) P.htl, aux _ (fun t ht => (List.mem_filter.mp ht).1) (Nat.le_trans (List.length_filter_le _ _) P.htl)⟩
theorem Fm.start {B h₁ : Heap} {name : Str} {scope : Scope} {L a : Addr} {cd : Value} {V : Vars} {m : Str → Option Value} (F : PyProof.Rows.Fr B L h₁ m) (hL : B.get? L = Option.none) (hk : scope.kind = .function) (hV : V.map (fun p => (p.1, p.2.1)) = scope.names)
    (hnd : (scope.names.map (·.1)).Nodup) (hdb : (scope.names.all fun p => !(p.1 == ("__debug__" : Str)) && !(p.1 == ("__classdict__" : Str))) = true) (hnc : (scope.names.all fun p => !(p.2 == .cell)) = true)
    (hm : ∀ x k v, (x, k, some v) ∈ V → k = .local ∧ m x = some v) : Fm B B (envOf name scope L a cd) [] V h₁ := by
  have mem : ∀ p ∈ V, (p.1, p.2.1) ∈ scope.names := fun p hp => hV ▸ List.mem_map_of_mem (f := fun p : Str × NameKind × Option Value => (p.1, p.2.1)) hp
  refine ⟨⟨hk, rfl, rfl, ?_, fun p hp => ?_, fun p hp => ?_⟩, fun _ _ e => e, F.keep, (fun _ q => nomatch q), .nil, (fun _ q => nomatch q), (fun _ q => nomatch q), ?_, ⟨⟨m, F.ns, fun x v h => (hm x _ v h).2⟩, fun x k v h hne => absurd (hm x k v h).1 hne, fun _ x hx => ?_⟩, fun _ => ⟨fun n c h => (by cases h), .nil⟩⟩
  · have h1 := congrArg (List.map Prod.fst) hV
    rw [List.map_map] at h1
    have h3 : V.map (Prod.fst ∘ fun p : Str × NameKind × Option Value => (p.1, p.2.1)) = V.map (·.1) := rfl
    rw [h3] at h1
    rw [h1]; exact hnd
  · exact lookup_of_mem hnd (mem p hp)
  · have := List.all_eq_true.mp hdb _ (mem p hp)
    simpa using this
  · rintro b (e | ⟨_, h⟩)
    · rw [e]; exact hL
    · simp [envOf] at h
  · have h1 : (x, NameKind.cell) ∈ scope.names := mem_lookup hx
    have := List.all_eq_true.mp hnc _ h1
    simp at this
noncomputable abbrev vLaw (sc : Addr) (ja sh se si sa sd tu co : Option Value) : Vars := [(Str.ofString "script", .local, some (.ref sc)), (Str.ofString "jar", .local, ja), (Str.ofString "shingle", .local, sh), (Str.ofString "segment", .local, se), (Str.ofString "sizes", .local, si), (Str.ofString "samples", .local, sa), (Str.ofString "shared", .local, sd), (Str.ofString "turns", .local, tu), (Str.ofString "counts", .local, co), (Str.ofString "_law_jar", .globalImplicit, none), (Str.ofString "_law_pick", .globalImplicit, none), (Str.ofString "_law_samples", .globalImplicit, none), (Str.ofString "len", .globalImplicit, none), (Str.ofString "_law_shared", .globalImplicit, none), (Str.ofString "_law_turns", .globalImplicit, none), (Str.ofString "_law_content_right", .globalImplicit, none), (Str.ofString "_law_played_right", .globalImplicit, none), (Str.ofString "_law_other_right", .globalImplicit, none)]
theorem startK {M : Model} {B : Heap} {A : Around} {name : Str} {scope : Scope} {L a : Addr} {cd : Value} (V : Vars) {m : Str → Option Value} {body : List Stmt} {Q : Flow → Shared → Prop} {E : Value → Shared → Prop} {s : Shared} {outer : List Env} {n : Nat} (F : PyProof.Rows.Fr B L s.heap m) (hL : B.get? L = Option.none) (Rm : Room A (n + 1)) (hfr : A.frames = some outer)
    (hk : scope.kind = .function) (hV : V.map (fun p => (p.1, p.2.1)) = scope.names) (hnd : (scope.names.map (·.1)).Nodup) (hdb : (scope.names.all fun p => !(p.1 == ("__debug__" : Str)) && !(p.1 == ("__classdict__" : Str))) = true) (hnc : (scope.names.all fun p => !(p.2 == .cell)) = true)
    (hm : ∀ x k v, (x, k, some v) ∈ V → k = .local ∧ m x = some v)
    (h : ∀ env A', env.func.isSome = true → env.frame = some env.locals → A'.frames = some (env :: outer) → Fm B B env [] V s.heap → Room A' n → wpAny M A' (execs body env) Q (fun _ _ => False) s) :
    wpAny M (A.deeper (envOf name scope L a cd)) (execs body (envOf name scope L a cd)) Q E s :=
  wpAny_mono (h _ _ rfl rfl (Around.frames_deeper hfr) (Fm.start F hL hk hV hnd hdb hnc hm) (Rm.deeper _)) (fun _ _ q => q) fun _ _ q => q.elim
theorem startL {M : Model} {B : Heap} {A : Around} {name : Str} {scope : Scope} {L a sc : Addr} {cd : Value} {body : List Stmt} {Q : Flow → Shared → Prop} {E : Value → Shared → Prop} {s : Shared} {outer : List Env} {n : Nat} (F : PyProof.Rows.Fr B L s.heap fun x => List.lookup x [(Str.ofString "script", Value.ref sc)].reverse) (hL : B.get? L = Option.none) (Rm : Room A (n + 1)) (hfr : A.frames = some outer)
    (hk : scope.kind = .function) (hV : (vLaw sc none none none none none none none none).map (fun p => (p.1, p.2.1)) = scope.names)
    (hnd : (scope.names.map (·.1)).Nodup) (hdb : (scope.names.all fun p => !(p.1 == ("__debug__" : Str)) && !(p.1 == ("__classdict__" : Str))) = true) (hnc : (scope.names.all fun p => !(p.2 == .cell)) = true)
    (h : ∀ env A', env.func.isSome = true → env.frame = some env.locals → A'.frames = some (env :: outer) → Fm B B env [] (vLaw sc none none none none none none none none) s.heap → Room A' n → wpAny M A' (execs body env) Q (fun _ _ => False) s) :
    wpAny M (A.deeper (envOf name scope L a cd)) (execs body (envOf name scope L a cd)) Q E s := by
  refine startK (vLaw sc none none none none none none none none) F hL Rm hfr hk hV hnd hdb hnc (fun x k v hx => ?_) h
  simp only [vLaw, List.mem_cons, List.not_mem_nil, or_false, Prod.mk.injEq, reduceCtorEq, and_false, false_or, or_false] at hx
  obtain ⟨rfl, rfl, e⟩ := hx
  cases e
  exact ⟨rfl, rfl⟩
theorem Fm.after {B G h h' : Heap} {env : Env} {own : List (Addr × Obj)} {V : Vars} {jar row l : Addr} {oj orow ol : Obj} (F : Fm B G env own V h) (is : List Nat) (hj : (jar, oj) ∈ own) (hr : (row, orow) ∈ own) (hd : ∀ p ∈ is.filterMap (own[·]?), p.1 ≠ jar ∧ p.1 ≠ row)
    (k : ∀ c o, c ≠ jar → c ≠ row → h.get? c = some o → h'.get? c = some o) (h0 : h.get? l = Option.none) (hl : h'.get? l = some ol) (hn : is.Nodup := by decide) : Fm B G env ((l, ol) :: is.filterMap (own[·]?)) V h' := by
  have F1 := (F.sel is hn).growBut (X := fun b => b = jar ∨ b = row) (h' := h') (fun b o hb e => k b o (fun q => hb (.inl q)) (fun q => hb (.inr q)) e)
    (fun b hb => hb.elim (fun e => by rw [e]; exact F.off _ hj) (fun e => by rw [e]; exact F.off _ hr)) (fun p hp q => q.elim (hd p hp).1 (hd p hp).2) (fun a ha q => q.elim (fun e => by rw [e] at ha; exact F.offp _ hj ha) (fun e => by rw [e] at ha; exact F.offp _ hr ha))
  have F0 := F.sel is hn
  refine ⟨F1.sc, F1.base, F1.keep, fun p hp => ?_, ?_, fun p hp => ?_, fun p hp => ?_, F1.prv, F1.loc, F1.cls⟩
  · rcases List.mem_cons.mp hp with rfl | hp
    · exact hl
    · exact F1.has p hp
  · rw [List.map_cons]
    refine List.nodup_cons.mpr ⟨fun hm => ?_, F1.nodup⟩
    obtain ⟨p, hp, e⟩ := List.mem_map.mp hm
    have := F0.has p hp
    rw [e, h0] at this; cases this
  · rcases List.mem_cons.mp hp with rfl | hp
    · exact (F.fresh h0).1
    · exact F1.off p hp
  · rcases List.mem_cons.mp hp with rfl | hp
    · exact (F.fresh h0).2.2
    · exact F1.offp p hp
set_option maxHeartbeats 8000000 in
theorem law_body {prog : Program} {w : World} {B : Heap} {A' : Around} {env : Env} {s₁ : Shared} {sc : Addr} {os : Obj} {vs : List Value} {ns : List Int} {Q : Flow → Shared → Prop} {name qual : Str} {params : Arguments} {body : List Stmt} {scope : Scope} {dV kV doc pm cdv ct oc : Value} {an od : Option Addr} {osl : Array (Option Value)}
    (ho : (KK w).lookup 175 = some ⟨oc, od, .func (fnOf name qual params body scope dV kV doc pm an cdv ct), osl⟩)
    (S : Sta (KK w) B) (R1 : Room A' 8) (hf : env.func.isSome = true) (hfm : env.frame = some env.locals) (hfr1 : A'.frames = some [env]) (F : Fm B B env [] (vLaw sc none none none none none none none none) s₁.heap)
    (hos : B.get? sc = some os) (L : LO os vs) (hI : IntsAre vs ns) (hn : ns.length ≤ 63)
    (h : ∀ s', Same s₁ s' → (∀ b o, B.get? b = some o → s'.heap.get? b = some o) → Q (.ret (.bool true)) s') :
    wpAny (model prog w) A' (execs body env) Q (fun _ _ => False) s₁ := by
  have e : (KK w).lookup 175 = some _ := rfl
  rw [e] at ho
  injection ho with ho
  injection ho with h1 h2 h3 h4
  injection h3 with h5
  have hbody := congrArg FuncData.body h5
  have hb2 := FuncBody.stmts.inj hbody
  clear hbody h5 h1 h2 h4 e
  subst hb2
  repeat' walk_at "w"
  rename Sta _ _ => S
  rename Fm _ _ _ _ _ _ => F1
  refine jar_call S (R1.less (by decide)) F1.inB (F1.keep _ _ hos) L hI hn fun jar oj row orow s₂ hS2 hk2 hj0 hr0 hjr hj hr J => ?_
  have F2 := F1.adopt (new := [(jar, oj), (row, orow)]) hk2 (fun p hp => by
    simp only [List.mem_cons, List.not_mem_nil, or_false] at hp
    rcases hp with rfl | rfl <;> assumption) (fun p hp => by
    simp only [List.mem_cons, List.not_mem_nil, or_false] at hp
    rcases hp with rfl | rfl <;> assumption) (by simp [hjr])
  change Fm _ _ _ [(jar, oj), (row, orow)] _ _ at F2
  clear F1 hk2 hj0 hr0 hj hr
  have hLos := L
  repeat' walk_at "w"
  rename LO _ [_, _, _, _] => L4
  rename Fm _ _ _ _ _ _ => F3
  rename Same _ _ => S3
  refine getItem_ints (L4.at (F3.has _ (by walk_at "mem"))) (.cons _ _ (.cons _ _ (.cons _ _ (.cons _ _ .nil)))) (by assumption) (by assumption) (by decide) fun shI tsh hsh => ?_
  have hsh0 : 1 ≤ shI ∧ shI ≤ 4 := by simp at hsh; lia
  clear hsh
  obtain ⟨sh, rfl⟩ : ∃ n : Nat, shI = n := ⟨shI.toNat, by lia⟩
  repeat' walk_at "w"
  all_goals
    rename TO _ [_, _, _] => Z
    rename JarO _ _ _ (0 + 1 + 1 + 1) => J4
    rename Sta _ _ => S
    rename Fm _ _ _ _ _ _ => F4
    rename Same _ _ => S4
    rename_i d1 _ _ _ _ hd1a hd1b _ _ d0 _ oj4 or4 _ hd0a hd0b zo zl _ _ _
    obtain ⟨seg, hseg⟩ : ∃ n : Nat, (sh : Int) + d1 = n := ⟨((sh : Int) + d1).toNat, by lia⟩
    obtain ⟨size, hsize⟩ : ∃ n : Nat, 8 + d0 = n := ⟨(8 + d0).toNat, by lia⟩
    rw [hseg, hsize] at Z
    have hq1 : sh ≤ seg := by lia
    have hq2 : seg ≤ 8 := by lia
    have hq3 : 8 ≤ size := by lia
    have hq4 : size ≤ 20 := by lia
    have hq5 : 1 ≤ sh := by lia
    have hq6 : sh ≤ 4 := by lia
    have F4b := F4.sel [0, 2, 3]
    change Fm _ _ _ [(zl, zo), (jar, oj4), (row, or4)] _ _ at F4b
    have hzne : ∀ p ∈ [0].filterMap ([(zl, zo), (jar, oj4), (row, or4)][·]?), p.1 ≠ jar ∧ p.1 ≠ row := fun p hp => by
      have e9 : p = (zl, zo) := by simpa using hp
      rw [e9]
      exact ⟨F4b.ne01 (i := 0) (j := 1) rfl rfl (by decide), F4b.ne01 (i := 0) (j := 2) rfl rfl (by decide)⟩
    clear F4
    first
      | refine samples_call (edge := 12) S (R1.less (by decide)) F4b.inB (F4b.has (jar, oj4) mem1) (F4b.has (row, or4) mem2) hjr (F4b.offB (o := oj4) mem1) (F4b.offB (o := or4) mem2) J4 (by decide) hq5 hq6 (by decide) fun sl ol svs xs s₃ hS3 hk3 hl0 hl L3 hv hxs hxl => ?_
      | refine samples_call (edge := 7) S (R1.less (by decide)) F4b.inB (F4b.has (jar, oj4) mem1) (F4b.has (row, or4) mem2) hjr (F4b.offB (o := oj4) mem1) (F4b.offB (o := or4) mem2) J4 (by decide) hq5 hq6 (by decide) fun sl ol svs xs s₃ hS3 hk3 hl0 hl L3 hv hxs hxl => ?_
    have F5 := F4b.after [0] mem1 mem2 hzne hk3 hl0 hl
    change Fm _ _ _ [(sl, ol), (zl, zo)] _ _ at F5
    have S5 := S4.trans hS3
    clear F4b S4 L4 J4 hk3 hl0 hl hzne
    repeat' walk_at "w"
    rename Sta _ _ => S
    rename Fm _ _ _ _ _ _ => F6
    rename Same _ _ => S6
    refine shared_call S (R1.less (by decide)) F6.inB (F6.has (sl, ol) mem0) L3 hv hq5 hq6 hxs hxl fun sd od s₄ hS4 hk4 hsd0 hsd hm D => ?_
    have F7 := F6.adopt1 hk4 hsd0 hsd
    have S7 := S6.trans hS4
    clear F6 S6 hk4 hsd0 hsd
    repeat' walk_at "w"
    rename Sta _ _ => S
    rename Fm _ _ _ _ _ _ => F8
    rename Same _ _ => S8
    refine turns_call S (R1.less (by decide)) F8.inB (F8.has (sl, ol) mem1) L3 hv (F8.has (sd, od) mem0) D (Nat.le_refl _) hm (F8.has (zl, zo) mem2) Z hq5 hq6 hq4 hq1 (by lia) hxs hxl fun objs tl fl cd to fo co tvs n' s₅ hS5 hk5 hobj hml hmf hmc TT Lf hts hn' D' hm' => ?_
    have P := plain (xs := xs) (sh := sh) (seg := seg) (size := size) hq5 hq6 hq1 hq2 hq3 hq4 hxs hxl
    have hDl := D.len
    have hDk := D.dk
    generalize turnsF xs sh seg (size + 1) size (sharedF xs sh).1 (sharedF xs sh).2 = tr at hts D' P
    generalize (sharedF xs sh).2 = kk at P hDk hDl
    have F9 := ((F8.grow hk5).none).freeze
    have hobjG : ∀ p ∈ objs, (frz s₅.heap env []).get? p.1 = some p.2 := fun p hp => frz_get (hobj p hp).2 (F8.fresh (hobj p hp).1).2.2 (by simp)
    have hslG : (frz s₅.heap env []).get? sl = some ol := frz_get (hk5 _ _ (F8.has (sl, ol) mem1)) (F8.offp (sl, ol) mem1) (by simp)
    have hsdG : (frz s₅.heap env []).get? sd = some od := frz_get (hk5 _ _ (F8.has (sd, od) mem0)) (F8.offp (sd, od) mem0) (by simp)
    have hzlG : (frz s₅.heap env []).get? zl = some zo := frz_get (hk5 _ _ (F8.has (zl, zo) mem2)) (F8.offp (zl, zo) mem2) (by simp)
    have S9 := S8.trans hS5
    generalize frz s₅.heap env [] = G9 at F9 hobjG hslG hsdG hzlG
    have htl : G9.get? tl = some to := hobjG _ hml
    have hflG : G9.get? fl = some fo := hobjG _ hmf
    have hcdG : G9.get? cd = some co := by
      rcases hmc with ⟨rfl, rfl⟩ | hmc
      · exact hsdG
      · exact hobjG _ hmc
    have htsG : TurnsAt G9 tvs tr.1 := hts.at hobjG
    have hh := P.heads
    have hne0 : ∀ t ∈ tr.1, t.2.2 ≠ [] := fun t ht => (P.hne t ht).1
    have hne1 : ∀ t ∈ tr.1, t.2.2 ≠ [] ∧ sh ≤ t.1 ∧ t.1 ≤ 100 ∧ (t.2.2.headD []).length ≤ 100 := fun t ht => by
      obtain ⟨a, b, c, _, e⟩ := P.hne t ht
      refine ⟨a, b, c, ?_⟩
      cases q : t.2.2 with
      | nil => exact absurd q a
      | cons y r => exact e y (by rw [q]; exact List.mem_cons_self)
    have hBG := F9.base
    have htl9 := P.htl
    clear F8 S8 hobj hmc hts hk5 D
    repeat' walk_at "w"
    rename Sta _ _ => S
    rename Fm _ _ _ _ _ _ => F10
    rename Same _ _ => S10
    have hfun10 := F10.frames (outer := []) hfm (F10.prv env.locals (.inl rfl)) trivial
    refine cright_call (base := G9) (outer := [env]) (n := 0) S (R1.less (by decide)) hBG F10.keep hfr1 hfun10 hslG L3 hv hsdG hDk hm (by lia) hflG Lf htsG hzlG Z hq5 hq1 (by lia) hq3 (by lia) hxs hxl hne0 hh.1 (by lia) hh.2 P.p1 P.p2 P.p3 P.p4 fun s₆ hS6 hb6 hu6 => ?_
    have F11 := F10.slots hf hBG F10.prv hb6 hu6
    have S11 := S10.trans hS6
    clear F10 S10 hS6 hu6 hfun10
    repeat' walk_at "w"
    rename Sta _ _ => S
    rename Fm _ _ _ _ _ _ => F12
    rename Same _ _ => S12
    refine played_call S (R1.less (by decide)) F12.inB (F12.keep _ _ hslG) L3 hv (F12.keep _ _ hflG) Lf (htsG.mono F12.keep) (F12.keep _ _ hcdG) D'.dm hm' hq5 hq6 hxs hxl hne1 (by lia) P.hp P.hq fun s₇ hS7 hk7 => ?_
    have F13 := F12.grow hk7
    have S13 := S12.trans hS7
    clear F12 S12 hS7 hk7
    repeat' walk_at "w"
    rename Sta _ _ => S
    rename Fm _ _ _ _ _ _ => F14
    rename Same _ _ => S14
    have hfun14 := F14.frames (outer := []) hfm (F14.prv env.locals (.inl rfl)) trivial
    refine other_call (base := G9) (outer := [env]) S (R1.less (by decide)) hBG F14.keep hfr1 hfun14 hslG L3 hv hflG Lf htsG hzlG Z hq5 hq1 (by lia) hq3 (by lia) hxs hxl P.hne hh.1 (by lia) P.ho P.hend fun s₈ hS8 hb8 hu8 => ?_
    exact h s₈ (S14.trans hS8) (fun b o e => hb8 b o (hBG b o e))
end Mine
local macro_rules | `(tactic| k_qdec) => `(tactic| decide +kernel)
set_option maxRecDepth 100000 in
set_option maxHeartbeats 8000000 in
theorem PySem.Challenge.cw_tg0030_01_holds : PySem.Challenge.rw_tg0030_01.Holds := by
  refine Mine.hd ?_
  k_go0
  rename Frag.In _ _ => KX
  rename Top _ _ _ _ _ _ => T0
  rename IntsAre _ _ => hI
  rename Heap.IsList _ _ _ => hIL
  rename Fr _ _ _ _ => F0
  rename ¬ (_ : Int) < _ => hcond
  rename _ = #[] => hgens
  have S := Mine.Sta.of_top KX T0
  obtain ⟨os, hos, hoc, no, hod⟩ := hIL
  have L : Mine.LO os _ := ⟨hoc, no, hod⟩
  refine Mine.startL (outer := []) (n := 8) F0 (Mine.get_size _) ⟨rfl, by decide, by decide⟩ rfl rfl rfl (by decide) (by decide) (by decide) fun env A' hf hfm hfr F R1 => ?_
  refine' Mine.law_body ?ho S R1 hf hfm hfr F hos L hI (by lia) fun s' hS' hk' => ?_
  case ho => rfl
  refine ⟨.inl ⟨.bool true, .bool true, [], rfl, fun _ => rfl, ?zz1, ?zz2, ?zz3⟩, hk', hS'.2.2, hS'.1.trans hgens⟩
  case zz1 => exact .bool _
  case zz2 => wrow_post
  case zz3 => exact unshared_nil
