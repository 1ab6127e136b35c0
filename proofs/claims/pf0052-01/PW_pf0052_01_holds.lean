import PyProof.Rows.All
import Wide.All
import OpenK.AllK
import Wide.FinOn
import PyProof.Rows.TupDisplay
import PySem.Challenge.RW_pf0052_01
set_option Elab.async false
set_option autoImplicit false
set_option linter.unusedVariables false
namespace Mine
open PySem PySem.W PyProof.Rows PySem.Calls PySem.Spec

/-! ### heaps: what stays -/
noncomputable def KpP (P : Addr → Prop) (h h' : Heap) : Prop :=
  ∀ b o, P b → h.get? b = some o → ∃ sl, h'.get? b = some { o with slots := sl } ∧ ((∀ es n, o.data ≠ .dict es n) → sl = o.slots)

section
variable {P P' : Addr → Prop} {h h' h'' : Heap} {a b : Addr} {o : Obj}
theorem KpP.refl (P : Addr → Prop) (h : Heap) : KpP P h h := fun b o _ e => ⟨o.slots, by cases o; exact e, fun _ => rfl⟩
theorem KpP.trans (x : KpP P h h') (y : KpP P h' h'') : KpP P h h'' := fun b o p e => by
  obtain ⟨sl, e1, f1⟩ := x b o p e
  obtain ⟨sl2, e2, f2⟩ := y b _ p e1
  exact ⟨sl2, e2, fun hd => (f2 hd).trans (f1 hd)⟩
theorem KpP.mono (x : KpP P h h') (hP : ∀ b, P' b → P b) : KpP P' h h' := fun b o p e => x b o (hP b p) e
theorem KpP.of_keeps (k : ∀ b o, P b → h.get? b = some o → h'.get? b = some o) : KpP P h h' := fun b o p e => ⟨o.slots, by have := k b o p e; cases o; exact this, fun _ => rfl⟩
theorem KpP.get (x : KpP P h h') (hp : P b) (e : h.get? b = some o) (hd : ∀ es n, o.data ≠ .dict es n) : h'.get? b = some o := by
  obtain ⟨sl, e1, f⟩ := x b o hp e
  rw [e1, f hd]
theorem KpP.ns {m : Str → Option Value} (x : KpP P h h') (hp : P a) (hn : h.Ns a m) : h'.Ns a m := by
  obtain ⟨o, es, ep, e, hd, r⟩ := hn
  obtain ⟨sl, e1, _⟩ := x a o hp e
  exact ⟨_, es, ep, e1, hd, r⟩
theorem KpP.cell {v : Option Value} (x : KpP P h h') (hp : P a) (hn : h.IsCell a v) : h'.IsCell a v := by
  obtain ⟨o, e, hd⟩ := hn
  exact ⟨o, x.get hp e (by rw [hd]; intro _ _ q; cases q), hd⟩
end

noncomputable abbrev Ledg := List (Addr × Obj)
noncomputable def isSeq (o : Obj) : Prop := ∃ xs n, o.data = .seq xs n
theorem isSeq.nd {o : Obj} (h : isSeq o) : ∀ es n, o.data ≠ .dict es n := fun es n q => by obtain ⟨_, _, e⟩ := h; rw [e] at q; cases q
noncomputable def Led (X : List Addr) (h : Heap) (N : Ledg) : Prop := ∀ p ∈ N, h.get? p.1 = some p.2 ∧ isSeq p.2 ∧ p.1 ∉ X

/-- what is fixed through the whole call of the law -/
structure Cx where
  prog : Program
  w : World
  base : Heap
  X : List Addr
  bA : Addr
  lA : Addr
  ns : List Int
  mg : Str → Option Value
  mb : Str → Option Value
  N₀ : Ledg

noncomputable def BoxOk (cx : Cx) (h : Heap) (k : Int) : Prop :=
  (∃ tk n, h.get? cx.bA = some (listOf (#[.ref cx.lA, .int k tk]) n)) ∧ ∃ vs n, h.get? cx.lA = some (listOf vs.toArray n) ∧ IntsAre vs cx.ns

structure CxOk (cx : Cx) : Prop where
  g : cx.base.Ns mainGlobals cx.mg
  b : cx.base.Ns builtinsNs cx.mb
  nolimit : cx.base.NoLimit
  builtins : ∀ x : Str, x ≠ "__name__" → cx.mb x = bootBuiltins x
  xbase : ∀ a ∈ cx.X, cx.base.get? a = none
  bAX : cx.bA ∈ cx.X
  lAX : cx.lA ∉ cx.X
  led : ∀ p ∈ cx.N₀, cx.base.get? p.1 = some p.2 ∧ isSeq p.2

inductive Sl where
  | val (d : Dat)
  | own (l : List Dat)
  | box
noncomputable abbrev Gam := List (Str × Sl)
noncomputable abbrev Nms := List (Str × NameKind)

noncomputable def Room (n : Nat) (A : Around) : Prop := A.handled = none ∧ A.depth + n < 600 ∧ A.units + 20 * n < 9000

structure EnvOk (sc : Nms) (env : Env) : Prop where
  names : env.scope.names = sc
  kind : env.scope.kind = .function
  globals : env.globals = mainGlobals
  builtins : env.builtins = builtinsNs
  apart : ∀ x y c, env.cells.lookup x = some c → env.cells.lookup y = some c → x = y

inductive Holds (cx : Cx) (g : Heap) (env : Env) (h : Heap) (x : Str) (v : Value) : Prop
  | loc {m : Str → Option Value} : env.kindOf x = some .local → h.Ns env.locals m → m x = some v → Holds cx g env h x v
  | cell {c : Addr} : (env.kindOf x = some .cell ∨ env.kindOf x = some .free) → env.cells.lookup x = some c → c ∉ cx.X → (env.kindOf x = some .cell → g.get? c = none) → h.IsCell c (some v) → Holds cx g env h x v

inductive SlIn (cx : Cx) (g : Heap) (h : Heap) (N : Ledg) : Value → Sl → Prop
  | val {v : Value} {d : Dat} : DatIn N v d → SlIn cx g h N v (.val d)
  | own {a : Addr} {vs : List Value} {n : Nat} {l : List Dat} : h.get? a = some (listOf vs.toArray n) → DatAll N vs l → (∀ p ∈ N, p.1 ≠ a) → a ∉ cx.X → g.get? a = none → cx.base.get? a = none → SlIn cx g h N (.ref a) (.own l)
  | box : SlIn cx g h N (.ref cx.bA) .box

structure Wd (cx : Cx) (A : Around) (k : Int) (N : Ledg) (s : Shared) : Prop where
  ok : CxOk cx
  stays : cx.base.StaysIn s.heap
  xs : ∀ a ∈ cx.X, ∃ o, s.heap.get? a = some o
  led : Led cx.X s.heap N
  led₀ : ∀ p ∈ cx.N₀, p ∈ N
  lin : ∃ o, (cx.lA, o) ∈ N
  box : BoxOk cx s.heap k
  frs : ∃ frs, A.frames = some frs ∧ s.heap.FunFrames cx.base frs ∧ ∀ e ∈ frs, ∀ a, e.frame = some a → a ∉ cx.X ∧ ∃ o es m, s.heap.get? a = some o ∧ o.data = .dict es m

structure Pt (cx : Cx) (g : Heap) (A : Around) (env : Env) (Γ : Gam) (k : Int) (N : Ledg) (s : Shared) : Prop extends Wd cx A k N s where
  hasNs : ∃ m, s.heap.Ns env.locals m
  locX : env.locals ∉ cx.X
  locB : cx.base.get? env.locals = none
  locG : g.get? env.locals = none
  old : ∀ b o, b ∉ cx.X → g.get? b = some o → ∃ o', s.heap.get? b = some o'
  cells : ∀ x, env.kindOf x = some .cell → ∃ c v, env.cells.lookup x = some c ∧ c ∉ cx.X ∧ g.get? c = none ∧ cx.base.get? c = none ∧ s.heap.IsCell c v
  see : ∀ x sl, Γ.lookup x = some sl → ∃ v, Holds cx g env s.heap x v ∧ SlIn cx g s.heap N v sl
  one : ∀ x y vx vy lx ly, Γ.lookup x = some (.own lx) → Γ.lookup y = some (.own ly) → Holds cx g env s.heap x vx → Holds cx g env s.heap y vy → x ≠ y → vx ≠ vy

/-- from one point to the next in which nothing that stood has turned -/
structure Step (cx : Cx) (N : Ledg) (s : Shared) (N' : Ledg) (s' : Shared) : Prop where
  kp : KpP (· ∉ cx.X) s.heap s'.heap
  stays : cx.base.StaysIn s'.heap
  xs : ∀ a ∈ cx.X, (∃ o, s.heap.get? a = some o) → ∃ o, s'.heap.get? a = some o
  gens : s'.gens = s.gens
  os : s'.os = s.os
  led : Led cx.X s'.heap N'
  sub : ∀ p ∈ N, p ∈ N'
  new : ∀ p ∈ N', p ∈ N ∨ s.heap.get? p.1 = none

section
variable {cx : Cx} {g : Heap} {A : Around} {env : Env} {Γ : Gam} {k k' : Int} {N N' N'' : Ledg} {s s' s'' : Shared}
theorem Step.trans (x : Step cx N s N' s') (y : Step cx N' s' N'' s'') : Step cx N s N'' s'' where
  kp := x.kp.trans y.kp
  stays := y.stays
  xs := fun a ha h => y.xs a ha (x.xs a ha h)
  gens := y.gens.trans x.gens
  os := y.os.trans x.os
  led := y.led
  sub := fun p hp => y.sub p (x.sub p hp)
  new := fun p hp => (y.new p hp).elim (fun h => x.new p h) fun h => .inr (by
    cases q : s.heap.get? p.1 with
    | none => rfl
    | some o =>
      obtain ⟨sl, e, _⟩ := x.kp p.1 o (y.led p hp).2.2 q
      rw [h] at e; cases e)
theorem Wd.refl (p : Wd cx A k N s) : Step cx N s N s := ⟨.refl _ _, p.stays, fun _ _ h => h, rfl, rfl, p.led, fun _ h => h, fun _ h => .inl h⟩
theorem Pt.refl (p : Pt cx g A env Γ k N s) : Step cx N s N s := p.toWd.refl

theorem FunFrames.kpP {P : Addr → Prop} {base h h' : Heap} (k : KpP P h h') : ∀ {l : List Env}, (∀ e ∈ l, ∀ a, e.frame = some a → P a) → h.FunFrames base l → h'.FunFrames base l
  | [], _, _ => trivial
  | env :: r, hp, ⟨hk, ⟨L, o, hf, hn, ho, hd⟩, hr⟩ => by
    obtain ⟨sl, e1, _⟩ := k L o (hp env (.head _) L hf) ho
    exact ⟨hk, ⟨L, _, hf, hn, e1, hd⟩, FunFrames.kpP k (fun e he => hp e (.tail _ he)) hr⟩

theorem lt_of_ns {h : Heap} {a : Addr} {m : Str → Option Value} (hn : h.Ns a m) : a < h.objs.size := hn.lt
theorem Holds.kp {x : Str} {v : Value} {h h' : Heap} (k : KpP (· ∉ cx.X) h h') (hL : env.locals ∉ cx.X) (H : Holds cx g env h x v) : Holds cx g env h' x v := by
  cases H with
  | loc hk hn hv => exact .loc hk (k.ns hL hn) hv
  | cell hk hc hX hg hv => exact .cell hk hc hX hg (k.cell hX hv)
theorem Holds.back {x : Str} {v v₀ : Value} {h h' : Heap} (k : KpP (· ∉ cx.X) h h') (hL : env.locals ∉ cx.X) (H₀ : Holds cx g env h x v₀) (H : Holds cx g env h' x v) : Holds cx g env h x v := by
  have H1 := H₀.kp k hL
  have : v₀ = v := by
    cases H1 with
    | loc hk hn hv => cases H with
      | loc hk' hn' hv' => have := hn.agree hn' x; rw [hv, hv'] at this; exact Option.some.inj this
      | cell hk' _ _ _ _ => rcases hk' with q | q <;> (rw [hk] at q; cases q)
    | cell hk hc hX hg hv => cases H with
      | loc hk' _ _ => rcases hk with q | q <;> (rw [hk'] at q; cases q)
      | cell hk' hc' _ _ hv' =>
        rw [hc] at hc'; cases hc'
        obtain ⟨o, ho, hd⟩ := hv
        obtain ⟨o', ho', hd'⟩ := hv'
        rw [ho] at ho'; cases ho'; rw [hd] at hd'; cases hd'; rfl
  exact this ▸ H₀

theorem SlIn.step {v : Value} {sl : Sl} (S : Step cx N s N' s') (H : SlIn cx g s.heap N v sl) : SlIn cx g s'.heap N' v sl := by
  cases H with
  | val d => exact .val (d.mono S.sub)
  | own e d f hX l hB =>
    refine .own (S.kp.get hX e (by intro _ _ q; cases q)) (d.mono S.sub) (fun p hp q => ?_) hX l hB
    rcases S.new p hp with h | h
    · exact f p h q
    · rw [q, e] at h; cases h
  | box => exact .box

theorem Wd.step (p : Wd cx A k N s) (S : Step cx N s N' s') (hb : BoxOk cx s'.heap k') : Wd cx A k' N' s' where
  ok := p.ok
  stays := S.stays
  xs := fun a ha => S.xs a ha (p.xs a ha)
  led := S.led
  led₀ := fun q hq => S.sub q (p.led₀ q hq)
  lin := let ⟨o, h⟩ := p.lin; ⟨o, S.sub _ h⟩
  box := hb
  frs := let ⟨frs, h1, h2, h3⟩ := p.frs; ⟨frs, h1, FunFrames.kpP S.kp (fun e he a ha => (h3 e he a ha).1) h2, fun e he a ha => ⟨(h3 e he a ha).1, let ⟨o, es, m, e1, e2⟩ := (h3 e he a ha).2; let ⟨sl, e3, _⟩ := S.kp a o (h3 e he a ha).1 e1; ⟨_, es, m, e3, e2⟩⟩⟩
theorem Pt.step (p : Pt cx g A env Γ k N s) (S : Step cx N s N' s') (hb : BoxOk cx s'.heap k') : Pt cx g A env Γ k' N' s' where
  toWd := p.toWd.step S hb
  hasNs := let ⟨m, hn⟩ := p.hasNs; ⟨m, S.kp.ns p.locX hn⟩
  locX := p.locX
  locB := p.locB
  locG := p.locG
  old := fun b o hb e => let ⟨o', e'⟩ := p.old b o hb e; let ⟨sl, e2, _⟩ := S.kp b o' hb e'; ⟨_, e2⟩
  cells := fun x hx => let ⟨c, v, h1, h2, h3, h4, h5⟩ := p.cells x hx; ⟨c, v, h1, h2, h3, h4, S.kp.cell h2 h5⟩
  see := fun x sl hx => let ⟨v, hv, hs⟩ := p.see x sl hx; ⟨v, hv.kp S.kp p.locX, hs.step S⟩
  one := fun x y vx vy lx ly hx hy Hx Hy hne => by
    obtain ⟨ux, hux, _⟩ := p.see x _ hx
    obtain ⟨uy, huy, _⟩ := p.see y _ hy
    exact p.one x y vx vy lx ly hx hy (Holds.back S.kp p.locX hux Hx) (Holds.back S.kp p.locX huy Hy) hne

theorem BoxOk.of_keeps {h h' : Heap} (b : BoxOk cx h k) (kk : ∀ b o, h.get? b = some o → h'.get? b = some o) : BoxOk cx h' k :=
  let ⟨⟨tk, n, e⟩, vs, m, e2, i⟩ := b; ⟨⟨tk, n, kk _ _ e⟩, vs, m, kk _ _ e2, i⟩

/-- nothing made, nothing turned, tokens alone -/
theorem Wd.toks (p : Wd cx A k N s) (tk : Nat) : Step cx N s N { s with toks := tk } := ⟨.refl _ _, p.stays, fun _ _ h => h, rfl, rfl, p.led, fun _ h => h, fun _ h => .inl h⟩
theorem Pt.toks (p : Pt cx g A env Γ k N s) (tk : Nat) : Step cx N s N { s with toks := tk } ∧ Pt cx g A env Γ k N { s with toks := tk } := ⟨p.toWd.toks tk, p.step (p.toWd.toks tk) p.box⟩

/-- the heap has grown, everything in it as it was -/
theorem Step.grown (p : Wd cx A k N s) {h' : Heap} {tk : Nat} {N' : Ledg} (kk : ∀ b o, s.heap.get? b = some o → h'.get? b = some o) 
    (hN : ∀ q ∈ N', h'.get? q.1 = some q.2 ∧ isSeq q.2 ∧ s.heap.get? q.1 = none) : Step cx N s (N' ++ N) { s with heap := h', toks := tk } where
  kp := .of_keeps fun b o _ e => kk b o e
  stays := fun b o e => kk b o (p.stays b o e)
  xs := fun a _ ⟨o, e⟩ => ⟨o, kk a o e⟩
  gens := rfl
  os := rfl
  led := fun q hq => by
    rcases List.mem_append.mp hq with h | h
    · exact ⟨(hN q h).1, (hN q h).2.1, fun hx => by
        obtain ⟨o, e⟩ := p.xs _ hx
        rw [(hN q h).2.2] at e; cases e⟩
    · exact ⟨kk _ _ (p.led q h).1, (p.led q h).2⟩
  sub := fun q hq => List.mem_append_right _ hq
  new := fun q hq => (List.mem_append.mp hq).elim (fun h => .inr (hN q h).2.2) .inl
theorem Pt.grown (p : Pt cx g A env Γ k N s) {h' : Heap} {tk : Nat} {N' : Ledg} (kk : ∀ b o, s.heap.get? b = some o → h'.get? b = some o) 
    (hN : ∀ q ∈ N', h'.get? q.1 = some q.2 ∧ isSeq q.2 ∧ s.heap.get? q.1 = none) : Step cx N s (N' ++ N) { s with heap := h', toks := tk } ∧ Pt cx g A env Γ k (N' ++ N) { s with heap := h', toks := tk } :=
  ⟨.grown p.toWd kk hN, p.step (.grown p.toWd kk hN) (p.box.of_keeps kk)⟩
end

/-! ### judgements -/
structure EvalTo (cx : Cx) (n : Nat) (sc : Nms) (Γ : Gam) (k : Int) (e : Expr) (d : Dat) (k' : Int) : Prop where
  run : ∀ g A env N s, Room n A → EnvOk sc env → Pt cx g A env Γ k N s → ∀ Q : Value → Shared → Prop,
    (∀ v N' s', Step cx N s N' s' → Pt cx g A env Γ k' N' s' → DatIn N' v d → Q v s') →
    wpAny (model cx.prog cx.w) A (eval e env) Q (fun _ _ => False) s

/-- a fresh list that nobody holds yet -/
structure EvalOwn (cx : Cx) (n : Nat) (sc : Nms) (Γ : Gam) (k : Int) (e : Expr) (l : List Dat) (k' : Int) : Prop where
  run : ∀ g A env N s, Room n A → EnvOk sc env → Pt cx g A env Γ k N s → ∀ Q : Value → Shared → Prop,
    (∀ a vs c N' s', Step cx N s N' s' → Pt cx g A env Γ k' N' s' → s'.heap.get? a = some (listOf vs.toArray c) → DatAll N' vs l → (∀ p ∈ N', p.1 ≠ a) → s.heap.get? a = none → Q (.ref a) s') →
    wpAny (model cx.prog cx.w) A (eval e env) Q (fun _ _ => False) s

structure TestTo (cx : Cx) (n : Nat) (sc : Nms) (Γ : Gam) (k : Int) (e : Expr) (b : Bool) (k' : Int) : Prop where
  run : ∀ g A env N s, Room n A → EnvOk sc env → Pt cx g A env Γ k N s → ∀ Q : Bool → Shared → Prop,
    (∀ N' s', Step cx N s N' s' → Pt cx g A env Γ k' N' s' → Q b s') →
    wpAny (model cx.prog cx.w) A (PySem.isTrue e env (eval e env)) Q (fun _ _ => False) s

section
variable {cx : Cx} {n : Nat} {sc : Nms} {Γ : Gam} {k k' k₁ k₂ : Int}

theorem anyF {M : Model} {A : Around} {α : Type} {t : Sem α} {Q : α → Shared → Prop} {s : Shared} {E : Value → Shared → Prop} (h : wpAny M A t Q (fun _ _ => False) s) : wpAny M A t Q E s :=
  wpAny_mono h (fun _ _ x => x) fun _ _ x => x.elim

theorem ev_int (i : Int) {c : Nat} {pos : Pos} : EvalTo cx n sc Γ k (.Constant (.int i) c pos) (.int i) k := by
  refine ⟨fun g A env N s hA hE p Q hQ => ?_⟩
  exact wpAny_Constant_int (hQ _ _ _ (p.toks _).1 (p.toks _).2 (.int _ _))
theorem ev_str (x : Str) {c : Nat} {pos : Pos} : EvalTo cx n sc Γ k (.Constant (.str x) c pos) (.str x) k := by
  refine ⟨fun g A env N s hA hE p Q hQ => ?_⟩
  exact Calls.Constant_str (hQ _ _ _ (p.toks _).1 (p.toks _).2 (.str _ _))
theorem ev_bool (b : Bool) {c : Nat} {pos : Pos} : EvalTo cx n sc Γ k (.Constant (.bool b) c pos) (.bool b) k := by
  refine ⟨fun g A env N s hA hE p Q hQ => ?_⟩
  exact Constant_bool (hQ _ _ _ p.refl p (.bool _))
theorem ev_none {c : Nat} {pos : Pos} : EvalTo cx n sc Γ k (.Constant .none c pos) .none k := by
  refine ⟨fun g A env N s hA hE p Q hQ => ?_⟩
  exact Constant_none (hQ _ _ _ p.refl p .none)

theorem load_holds {g : Heap} {M : Model} {A : Around} {env : Env} {s : Shared} {x : Str} {v : Value} {pos : Pos} {Q : Value → Shared → Prop} {E : Value → Shared → Prop} (hE : EnvOk sc env) (H : Holds cx g env s.heap x v)
    (hd : (x == ("__debug__" : Str)) = false) (hd2 : (x == ("__classdict__" : Str)) = false) (h : Q v s) : wpAny M A (eval (.Name x pos) env) Q E s := by
  refine wpAny_Name ?_ hd
  cases H with
  | loc hk hn hv => exact wpAny_loadName_local hE.kind hk hn hv h
  | cell hk hc hX hg hv =>
    rcases hk with hk | hk
    · exact wpAny_loadName_cell hE.kind hk hc hv h
    · exact wpAny_loadName_free hE.kind hk hc hv h (hn := hd2)

theorem ev_name {x : Str} {pos : Pos} {d : Dat} (hx : Γ.lookup x = some (.val d)) (hd : (x == ("__debug__" : Str)) = false := by rfl) (hd2 : (x == ("__classdict__" : Str)) = false := by rfl) : EvalTo cx n sc Γ k (.Name x pos) d k := by
  refine ⟨fun g A env N s hA hE p Q hQ => ?_⟩
  obtain ⟨v, H, hs⟩ := p.see x _ hx
  cases hs with
  | val hv => exact load_holds hE H hd hd2 (hQ _ _ _ p.refl p hv)
end
end Mine
set_option maxRecDepth 4000
namespace Mine
open PySem PySem.W PyProof.Rows PySem.Calls PySem.Spec

noncomputable def big : Nat := 2 ^ 200
noncomputable def BinTo (cx : Cx) (n : Nat) (op : Operator) (a b d : Dat) : Prop :=
  ∀ A k N s v w, Room n A → Wd cx A k N s → DatIn N v a → DatIn N w b → ∀ Q : Value → Shared → Prop,
    (∀ v N' s', Step cx N s N' s' → BoxOk cx s'.heap k → DatIn N' v d → Q v s') → wpAny (model cx.prog cx.w) A (binaryOp op v w) Q (fun _ _ => False) s
noncomputable def CmpTo (cx : Cx) (n : Nat) (op : CmpOp) (a b : Dat) (r : Bool) : Prop :=
  ∀ A k N s v w, Room n A → Wd cx A k N s → DatIn N v a → DatIn N w b → ∀ Q : Value → Shared → Prop,
    (∀ N' s', Step cx N s N' s' → BoxOk cx s'.heap k → Q (.bool r) s') → wpAny (model cx.prog cx.w) A (compareOp op v w) Q (fun _ _ => False) s
noncomputable def CallB (cx : Cx) (n : Nat) (f : String) (as : List Dat) (d : Dat) : Prop :=
  ∀ A k N s vs, Room n A → Wd cx A k N s → DatAll N vs as → ∀ Q : Value → Shared → Prop,
    (∀ v N' s', Step cx N s N' s' → BoxOk cx s'.heap k → DatIn N' v d → Q v s') → wpAny (model cx.prog cx.w) A (call (.builtin f) vs) Q (fun _ _ => False) s

section
variable {cx : Cx} {n : Nat} {sc : Nms} {Γ : Gam} {k k' k₁ k₂ : Int}

theorem Wd.mkToks {A : Around} {N : Ledg} {s : Shared} (p : Wd cx A k N s) (tk : Nat) : BoxOk cx ({ s with toks := tk } : Shared).heap k := p.box

/-! ints -/
theorem bin_add (a b : Int) : BinTo cx n .Add (.int a) (.int b) (.int (a + b)) := by
  intro A k N s v w hA p ha hb Q hQ
  cases ha; cases hb
  exact P.add_int (hQ _ _ _ (p.toks _) p.box (.int _ _))
theorem bin_sub (a b : Int) : BinTo cx n .Sub (.int a) (.int b) (.int (a - b)) := by
  intro A k N s v w hA p ha hb Q hQ
  cases ha; cases hb
  exact P.sub_int (hQ _ _ _ (p.toks _) p.box (.int _ _))
theorem bin_mul (a b : Int) (h : a.natAbs < 2 ^ 64) : BinTo cx n .Mult (.int a) (.int b) (.int (a * b)) := by
  intro A k N s v w hA p ha hb Q hQ
  cases ha; cases hb
  exact P.mul_int (hQ _ _ _ (p.toks _) p.box (.int _ _)) (.of_left (intBits_le_64 (by omega) (by omega)))
theorem bin_mulr (a b : Int) (h : b.natAbs < 2 ^ 64) : BinTo cx n .Mult (.int a) (.int b) (.int (a * b)) := by
  intro A k N s v w hA p ha hb Q hQ
  cases ha; cases hb
  exact P.mul_int (hQ _ _ _ (p.toks _) p.box (.int _ _)) (.of_right (intBits_le_64 (by omega) (by omega)))
theorem pylong_of {x y : Int} (h : y.natAbs < big) : Builtin.divisionGoesByPylong x y = false := by
  refine PyProof.noPylong_of_log2 ?_
  by_cases h0 : y.natAbs = 0
  · rw [h0]; decide +kernel
  · have : y.natAbs.log2 < 200 := (Nat.log2_lt h0).mpr h
    omega
theorem bin_floordiv (a b : Int) (h0 : b ≠ 0) (h : b.natAbs < big) : BinTo cx n .FloorDiv (.int a) (.int b) (.int (a.fdiv b)) := by
  intro A k N s v w hA p ha hb Q hQ
  cases ha; cases hb
  exact floordiv_int h0 (hQ _ _ _ (p.toks _) p.box (.int _ _)) (.inl (pylong_of h))
theorem bin_mod (a b : Int) (h0 : b ≠ 0) : BinTo cx n .Mod (.int a) (.int b) (.int (a.fmod b)) := by
  intro A k N s v w hA p ha hb Q hQ
  cases ha; cases hb
  exact mod_int' h0 (hQ _ _ _ (p.toks _) p.box (.int _ _))
theorem bin_pow (a b : Int) (h0 : 0 ≤ b) (h1 : b ≤ 1000) (h : a.natAbs < 2 ^ 64) : BinTo cx n .Pow (.int a) (.int b) (.int (a ^ b.toNat)) := by
  intro A k N s v w hA p ha hb Q hQ
  cases ha; cases hb
  exact pow_int_small h0 (by omega) h (hQ _ _ _ (p.toks _) p.box (.int _ _))
theorem bin_sub_bool (a b : Bool) : BinTo cx n .Sub (.bool a) (.bool b) (.int (b2i a - b2i b)) := by
  intro A k N s v w hA p ha hb Q hQ
  cases ha; cases hb
  exact PyProof.Rows.sub_bool (hQ _ _ _ (p.toks _) p.box (.int _ _))
theorem bin_add_str (x y : Str) (h : x.length + y.length ≤ sizeLine) : BinTo cx n .Add (.str x) (.str y) (.str (x ++ y)) := by
  intro A k N s v w hA p ha hb Q hQ
  cases ha; cases hb
  exact PyProof.Rows.add_str (fun t' tk => hQ _ _ _ (p.toks _) p.box (.str _ _)) h

theorem cmp_eq (a b : Int) : CmpTo cx n .Eq (.int a) (.int b) (a == b) := by
  intro A k N s v w hA p ha hb Q hQ; cases ha; cases hb; exact P.eq_int (hQ _ _ p.refl p.box)
theorem cmp_ne (a b : Int) : CmpTo cx n .NotEq (.int a) (.int b) (a != b) := by
  intro A k N s v w hA p ha hb Q hQ; cases ha; cases hb; exact P.ne_int (hQ _ _ p.refl p.box)
theorem cmp_lt (a b : Int) : CmpTo cx n .Lt (.int a) (.int b) (decide (a < b)) := by
  intro A k N s v w hA p ha hb Q hQ; cases ha; cases hb; exact P.lt_int (hQ _ _ p.refl p.box)
theorem cmp_le (a b : Int) : CmpTo cx n .LtE (.int a) (.int b) (decide (a ≤ b)) := by
  intro A k N s v w hA p ha hb Q hQ; cases ha; cases hb; exact P.le_int (hQ _ _ p.refl p.box)
theorem cmp_gt (a b : Int) : CmpTo cx n .Gt (.int a) (.int b) (decide (b < a)) := by
  intro A k N s v w hA p ha hb Q hQ; cases ha; cases hb; exact P.gt_int (hQ _ _ p.refl p.box)
theorem cmp_ge (a b : Int) : CmpTo cx n .GtE (.int a) (.int b) (decide (b ≤ a)) := by
  intro A k N s v w hA p ha hb Q hQ; cases ha; cases hb; exact P.ge_int (hQ _ _ p.refl p.box)
theorem cmp_is_none (d : Dat) : CmpTo cx n .Is d .none (match d with | .none => true | _ => false) := by
  intro A k N s v w hA p ha hb Q hQ; cases hb
  refine is_none_gen ?_
  cases ha <;> exact hQ _ _ p.refl p.box

/-! equality of data -/
theorem Led.news {X : List Addr} {h : Heap} {N : Ledg} (l : Led X h N) : News {} h.objs.size h N := fun p hp =>
  ⟨(l p hp).1, Nat.ne_of_lt (Heap.lt_size (l p hp).1), by simp [Heap.get?]⟩
theorem Led.reads {X : List Addr} {h : Heap} {N : Ledg} (l : Led X h N) {v : Value} {d : Dat} (hd : DatIn N v d) (hk : kqdOk 8 d = true) : ∃ as, Reads h v (kqdP d) as := kqd_in l.news 8 hd hk
theorem shaped_of {d : Dat} (h : kqdOk 8 d = true) : SeqAt.shaped (kqdP d) = true := by
  have l := kqd_lay 8 d h
  unfold SeqAt.shaped; rw [l.1, Bool.true_and]; exact decide_eq_true (Nat.le_trans l.2 (by decide))
theorem room_units {n : Nat} {A : Around} (h : Room n A) : A.units + 64 < cLine := by
  have := h.2.2
  show A.units + 64 < 9900
  omega
theorem cmp_eq_dat (a b : Dat) (ha : kqdOk 8 a = true) (hb : kqdOk 8 b = true) : CmpTo cx n .Eq a b ((kqdP a).eqv (kqdP b)) := by
  intro A k N s v w hA p hv hw Q hQ
  obtain ⟨as, ra⟩ := p.led.reads hv ha
  obtain ⟨bs, rb⟩ := p.led.reads hw hb
  exact eq_dataH ra rb (shaped_of ha) (shaped_of hb) (room_units hA) (hQ _ _ p.refl p.box)
theorem cmp_ne_dat (a b : Dat) (ha : kqdOk 8 a = true) (hb : kqdOk 8 b = true) : CmpTo cx n .NotEq a b (!(kqdP a).eqv (kqdP b)) := by
  intro A k N s v w hA p hv hw Q hQ
  obtain ⟨as, ra⟩ := p.led.reads hv ha
  obtain ⟨bs, rb⟩ := p.led.reads hw hb
  exact ne_dataH ra rb (shaped_of ha) (shaped_of hb) (room_units hA) (hQ _ _ p.refl p.box)

/-! built-ins -/
theorem cb_abs (a : Int) : CallB cx n "abs" [.int a] (.int (if a < 0 then -a else a)) := by
  intro A k N s vs hA p h Q hQ
  cases h with | cons h r => cases h; cases r; exact call_abs_int fun u tk => hQ _ _ _ (p.toks _) p.box (.int _ _)
theorem Led.isList {X : List Addr} {h : Heap} {N : Ledg} {a : Addr} {vs : List Value} {c : Nat} (l : Led X h N) (m : (a, listOf vs.toArray c) ∈ N) : h.IsList a vs.toArray := ⟨_, (l _ m).1, rfl, c, rfl⟩
theorem Led.isTup {X : List Addr} {h : Heap} {N : Ledg} {a : Addr} {vs : List Value} {c : Nat} (l : Led X h N) (m : (a, ({ cls := .type "tuple", data := .seq vs.toArray c } : Obj)) ∈ N) : IsTup h a vs.toArray := ⟨_, (l _ m).1, rfl, c, rfl⟩
theorem cb_len_list (ds : List Dat) (h : ds.length < 2 ^ 60) : CallB cx n "len" [.list ds] (.int ds.length) := by
  intro A k N s vs hA p hv Q hQ
  cases hv with
  | cons hv r =>
    cases r
    cases hv with
    | list hm hd =>
      have e := hd.length
      refine Calls.call_len_list (p.led.isList hm) (by simp only [List.size_toArray]; omega) ?_
      have := hQ (.int (ds.length : Nat) (s.toks + 1)) N _ (p.toks (s.toks + 1 + 1)) p.box (.int _ _)
      simpa [e] using this
theorem cb_len_tuple (ds : List Dat) (h : ds.length < 2 ^ 60) : CallB cx n "len" [.tuple ds] (.int ds.length) := by
  intro A k N s vs hA p hv Q hQ
  cases hv with
  | cons hv r =>
    cases r
    cases hv with
    | tuple hm hd =>
      have e := hd.length
      refine len_tuple (p.led.isTup hm) (by simp only [List.size_toArray]; omega) ?_
      have := hQ (.int (ds.length : Nat) (s.toks + 1)) N _ (p.toks (s.toks + 1 + 1)) p.box (.int _ _)
      simpa [e] using this

/-! expressions -/
theorem ev_bin {op : Operator} {l r : Expr} {pos : Pos} {a b d : Dat} (hl : EvalTo cx n sc Γ k l a k₁) (hr : EvalTo cx n sc Γ k₁ r b k₂) (ho : BinTo cx n op a b d) : EvalTo cx n sc Γ k (.BinOp l op r pos) d k₂ := by
  refine ⟨fun g A env N s hA hE p Q hQ => ?_⟩
  refine wpAny_BinOp (hl.run g A env N s hA hE p _ fun v N₁ s₁ S₁ p₁ hv => ?_)
  refine hr.run g A env N₁ s₁ hA hE p₁ _ fun w N₂ s₂ S₂ p₂ hw => ?_
  refine ho A k₂ N₂ s₂ v w hA p₂.toWd (hv.mono S₂.sub) hw _ fun u N₃ s₃ S₃ hb hu => ?_
  exact hQ u N₃ s₃ ((S₁.trans S₂).trans S₃) (p₂.step S₃ hb) hu
theorem ev_neg {l : Expr} {pos : Pos} {a : Int} (hl : EvalTo cx n sc Γ k l (.int a) k₁) : EvalTo cx n sc Γ k (.UnaryOp .USub l pos) (.int (-a)) k₁ := by
  refine ⟨fun g A env N s hA hE p Q hQ => ?_⟩
  refine UnaryOp_ (hl.run g A env N s hA hE p _ fun v N₁ s₁ S₁ p₁ hv => ?_)
  cases hv
  exact P.neg_int (hQ _ _ _ (S₁.trans (p₁.toks _).1) (p₁.toks _).2 (.int _ _))
theorem ev_cmp {op : CmpOp} {l r : Expr} {pos : Pos} {a b : Dat} {c : Bool} (hl : EvalTo cx n sc Γ k l a k₁) (hr : EvalTo cx n sc Γ k₁ r b k₂) (ho : CmpTo cx n op a b c) (hm : behindInMarks op r = false := by with_unfolding_all rfl) :
    EvalTo cx n sc Γ k (.Compare l [op] [r] pos) (.bool c) k₂ := by
  refine ⟨fun g A env N s hA hE p Q hQ => ?_⟩
  refine wpAny_Compare1 (hl.run g A env N s hA hE p _ fun v N₁ s₁ S₁ p₁ hv => ?_) hm
  refine hr.run g A env N₁ s₁ hA hE p₁ _ fun w N₂ s₂ S₂ p₂ hw => ?_
  refine ho A k₂ N₂ s₂ v w hA p₂.toWd (hv.mono S₂.sub) hw _ fun N₃ s₃ S₃ hb => ?_
  exact hQ _ N₃ s₃ ((S₁.trans S₂).trans S₃) (p₂.step S₃ hb) (.bool _)
theorem te_cmp {op : CmpOp} {l r : Expr} {pos : Pos} {a b : Dat} {c : Bool} (hl : EvalTo cx n sc Γ k l a k₁) (hr : EvalTo cx n sc Γ k₁ r b k₂) (ho : CmpTo cx n op a b c) (hm : behindInMarks op r = false := by with_unfolding_all rfl) :
    TestTo cx n sc Γ k (.Compare l [op] [r] pos) c k₂ := by
  refine ⟨fun g A env N s hA hE p Q hQ => ?_⟩
  refine wpAny_isTrue_Compare1 (hl.run g A env N s hA hE p _ fun v N₁ s₁ S₁ p₁ hv => ?_) hm
  refine hr.run g A env N₁ s₁ hA hE p₁ _ fun w N₂ s₂ S₂ p₂ hw => ?_
  refine ho A k₂ N₂ s₂ v w hA p₂.toWd (hv.mono S₂.sub) hw _ fun N₃ s₃ S₃ hb => ?_
  exact wpAny_truthy_bool (hQ N₃ s₃ ((S₁.trans S₂).trans S₃) (p₂.step S₃ hb))
theorem te_and_nil {pos : Pos} : TestTo cx n sc Γ k (.BoolOp .And [] pos) true k := by
  refine ⟨fun g A env N s hA hE p Q hQ => ?_⟩
  exact isTrue_and_nil (hQ N s p.refl p)
theorem te_or_nil {pos : Pos} : TestTo cx n sc Γ k (.BoolOp .Or [] pos) false k := by
  refine ⟨fun g A env N s hA hE p Q hQ => ?_⟩
  exact isTrue_or_nil (hQ N s p.refl p)
theorem te_and_f {x : Expr} {rest : List Expr} {pos : Pos} (h : TestTo cx n sc Γ k x false k₁) : TestTo cx n sc Γ k (.BoolOp .And (x :: rest) pos) false k₁ := by
  refine ⟨fun g A env N s hA hE p Q hQ => ?_⟩
  exact PyProof.Rows.isTrue_and (h.run g A env N s hA hE p _ fun N₁ s₁ S₁ p₁ => hQ N₁ s₁ S₁ p₁)
theorem te_and_t {x : Expr} {rest : List Expr} {pos : Pos} {b : Bool} (h : TestTo cx n sc Γ k x true k₁) (h2 : TestTo cx n sc Γ k₁ (.BoolOp .And rest pos) b k₂) : TestTo cx n sc Γ k (.BoolOp .And (x :: rest) pos) b k₂ := by
  refine ⟨fun g A env N s hA hE p Q hQ => ?_⟩
  exact PyProof.Rows.isTrue_and (h.run g A env N s hA hE p _ fun N₁ s₁ S₁ p₁ => h2.run g A env N₁ s₁ hA hE p₁ _ fun N₂ s₂ S₂ p₂ => hQ N₂ s₂ (S₁.trans S₂) p₂)
theorem te_or_t {x : Expr} {rest : List Expr} {pos : Pos} (h : TestTo cx n sc Γ k x true k₁) : TestTo cx n sc Γ k (.BoolOp .Or (x :: rest) pos) true k₁ := by
  refine ⟨fun g A env N s hA hE p Q hQ => ?_⟩
  exact PyProof.Rows.isTrue_or (h.run g A env N s hA hE p _ fun N₁ s₁ S₁ p₁ => hQ N₁ s₁ S₁ p₁)
theorem te_or_f {x : Expr} {rest : List Expr} {pos : Pos} {b : Bool} (h : TestTo cx n sc Γ k x false k₁) (h2 : TestTo cx n sc Γ k₁ (.BoolOp .Or rest pos) b k₂) : TestTo cx n sc Γ k (.BoolOp .Or (x :: rest) pos) b k₂ := by
  refine ⟨fun g A env N s hA hE p Q hQ => ?_⟩
  exact PyProof.Rows.isTrue_or (h.run g A env N s hA hE p _ fun N₁ s₁ S₁ p₁ => h2.run g A env N₁ s₁ hA hE p₁ _ fun N₂ s₂ S₂ p₂ => hQ N₂ s₂ (S₁.trans S₂) p₂)
theorem ev_and_one {x : Expr} {pos : Pos} {op : BoolOp} {d : Dat} (h : EvalTo cx n sc Γ k x d k₁) : EvalTo cx n sc Γ k (.BoolOp op [x] pos) d k₁ := by
  refine ⟨fun g A env N s hA hE p Q hQ => ?_⟩
  exact BoolOp_one (h.run g A env N s hA hE p _ hQ)
theorem ev_and_f {x y : Expr} {rest : List Expr} {pos : Pos} (h : EvalTo cx n sc Γ k x (.bool false) k₁) : EvalTo cx n sc Γ k (.BoolOp .And (x :: y :: rest) pos) (.bool false) k₁ := by
  refine ⟨fun g A env N s hA hE p Q hQ => ?_⟩
  refine BoolOp_and (h.run g A env N s hA hE p _ fun v N₁ s₁ S₁ p₁ hv => ?_)
  cases hv
  exact wpAny_truthy_bool (hQ _ N₁ s₁ S₁ p₁ (.bool _))
theorem ev_and_t {x y : Expr} {rest : List Expr} {pos : Pos} {d : Dat} (h : EvalTo cx n sc Γ k x (.bool true) k₁) (h2 : EvalTo cx n sc Γ k₁ (.BoolOp .And (y :: rest) pos) d k₂) : EvalTo cx n sc Γ k (.BoolOp .And (x :: y :: rest) pos) d k₂ := by
  refine ⟨fun g A env N s hA hE p Q hQ => ?_⟩
  refine BoolOp_and (h.run g A env N s hA hE p _ fun v N₁ s₁ S₁ p₁ hv => ?_)
  cases hv
  exact wpAny_truthy_bool (h2.run g A env N₁ s₁ hA hE p₁ _ fun w N₂ s₂ S₂ p₂ hw => hQ w N₂ s₂ (S₁.trans S₂) p₂ hw)
theorem ev_ife {t b o : Expr} {pos : Pos} {c : Bool} {d : Dat} (ht : TestTo cx n sc Γ k t c k₁) (h1 : c = true → EvalTo cx n sc Γ k₁ b d k₂) (h2 : c = false → EvalTo cx n sc Γ k₁ o d k₂) : EvalTo cx n sc Γ k (.IfExp t b o pos) d k₂ := by
  refine ⟨fun g A env N s hA hE p Q hQ => ?_⟩
  refine IfExp_ (ht.run g A env N s hA hE p _ fun N₁ s₁ S₁ p₁ => ?_)
  cases c with
  | true => exact (h1 rfl).run g A env N₁ s₁ hA hE p₁ _ fun w N₂ s₂ S₂ p₂ hw => hQ w N₂ s₂ (S₁.trans S₂) p₂ hw
  | false => exact (h2 rfl).run g A env N₁ s₁ hA hE p₁ _ fun w N₂ s₂ S₂ p₂ hw => hQ w N₂ s₂ (S₁.trans S₂) p₂ hw

/-- an item of a tuple or a list -/
noncomputable def seqOf : Dat → Option (List Dat)
  | .tuple ds => some ds
  | .list ds => some ds
  | _ => none
theorem DatAll.at {N : Ledg} {vs : List Value} {ds : List Dat} (h : DatAll N vs ds) {i : Nat} {d : Dat} (e : ds[i]? = some d) : ∃ v, vs[i]? = some v ∧ DatIn N v d := by
  obtain ⟨hi, q⟩ := List.getElem?_eq_some_iff.mp e
  obtain ⟨v, hv, hd⟩ := h.get hi
  exact ⟨v, hv, q ▸ hd⟩
theorem seqIndex_nat (i len : Nat) (h : i < len) : seqIndex? (i : Int) len = some i := by
  unfold seqIndex?
  have h0 : ¬ (i : Int) < 0 := by omega
  simp only [h0, if_false]
  rw [if_pos (by simp; omega)]; rfl
theorem ev_item {value slice : Expr} {pos : Pos} {c d : Dat} {ds : List Dat} {i : Int} (hv : EvalTo cx n sc Γ k value c k₁) (hs : seqOf c = some ds) (hi : EvalTo cx n sc Γ k₁ slice (.int i) k₂)
    (h0 : 0 ≤ i) (h1 : i < 2 ^ 60) (hd : ds[i.toNat]? = some d)
    (hp : ∀ o i, subscripted slice false o i = operate [o, i] (getItem o i) := by intro _ _; rfl) : EvalTo cx n sc Γ k (.Subscript value slice pos) d k₂ := by
  refine ⟨fun g A env N s hA hE p Q hQ => ?_⟩
  refine Subscript_ (hv.run g A env N s hA hE p _ fun o N₁ s₁ S₁ p₁ ho => ?_)
  refine hi.run g A env N₁ s₁ hA hE p₁ _ fun u N₂ s₂ S₂ p₂ hu => ?_
  cases hu with
  | int _ t =>
    have ho' := ho.mono S₂.sub
    cases ho' with
    | tuple hm hds =>
      simp only [seqOf, Option.some.injEq] at hs; subst hs
      obtain ⟨x, hx, hxd⟩ := DatAll.at hds hd
      have e := seqIndex_nat i.toNat _ (List.getElem?_eq_some_iff.mp hx).1
      rw [Int.toNat_of_nonneg h0] at e
      exact item_tupleT (p₂.led.isTup hm) (by omega) (by omega) e hx (hQ x N₂ s₂ (S₁.trans S₂) p₂ hxd) (hp _ _)
    | list hm hds =>
      simp only [seqOf, Option.some.injEq] at hs; subst hs
      obtain ⟨x, hx, hxd⟩ := DatAll.at hds hd
      have hL := p₂.led.isList hm
      exact tail_any hL.typeIs slot_list_getitem.lookup (wpAny_getItem_list hL h0 (by omega) (by simpa using hx) (hQ x N₂ s₂ (S₁.trans S₂) p₂ hxd)) (hp _ _)
    | _ => simp [seqOf] at hs
end
end Mine
set_option maxRecDepth 4000
namespace Mine
open PySem PySem.W PyProof.Rows PySem.Calls PySem.Spec

theorem starE_cons {e : Expr} {es : List Expr} {env : Env} (h : ∀ x q, e ≠ .Starred x q) : starEach (e :: es) env = (false, eval e env) :: starEach es env := by
  cases e <;> first | rfl | exact absurd rfl (h _ _)
structure EvalAll (cx : Cx) (n : Nat) (sc : Nms) (Γ : Gam) (k : Int) (es : List Expr) (ds : List Dat) (k' : Int) : Prop where
  run : ∀ g A env N s (pos : Pos), Room n A → EnvOk sc env → Pt cx g A env Γ k N s → ∀ Q : List Value → Shared → Prop,
    (∀ vs N' s', Step cx N s N' s' → Pt cx g A env Γ k' N' s' → DatAll N' vs ds → Q vs s') →
    wpAny (model cx.prog cx.w) A (spliced (backTo pos (starEach es env))) Q (fun _ _ => False) s

inductive AIn (cx : Cx) (N : Ledg) : Value → Sl → Prop
  | val {v : Value} {d : Dat} : DatIn N v d → AIn cx N v (.val d)
  | box : AIn cx N (.ref cx.bA) .box
inductive AAll (cx : Cx) (N : Ledg) : List Value → List Sl → Prop
  | nil : AAll cx N [] []
  | cons {v : Value} {a : Sl} {vs : List Value} {as : List Sl} : AIn cx N v a → AAll cx N vs as → AAll cx N (v :: vs) (a :: as)

structure EvalArgs (cx : Cx) (n : Nat) (sc : Nms) (Γ : Gam) (k : Int) (es : List Expr) (as : List Sl) (k' : Int) : Prop where
  run : ∀ g A env N s (pos : Pos), Room n A → EnvOk sc env → Pt cx g A env Γ k N s → ∀ Q : List Value → Shared → Prop,
    (∀ vs N' s', Step cx N s N' s' → Pt cx g A env Γ k' N' s' → AAll cx N' vs as → Q vs s') →
    wpAny (model cx.prog cx.w) A (spliced (backTo pos (starEach es env))) Q (fun _ _ => False) s

noncomputable def FnAt (cx : Cx) (f : Str) (a : Addr) : Prop := cx.mg f = some (.ref a) ∧ ∃ o fd, cx.base.get? a = some o ∧ o.data = .func fd

noncomputable def CallTo (cx : Cx) (n : Nat) (f : Str) (as : List Sl) (k : Int) (d : Dat) (k' : Int) : Prop :=
  ∃ a, FnAt cx f a ∧ ∀ A N s vs, Room n A → Wd cx A k N s → AAll cx N vs as → ∀ Q : Value → Shared → Prop,
    (∀ v N' s', Step cx N s N' s' → BoxOk cx s'.heap k' → DatIn N' v d → Q v s') →
    wpAny (model cx.prog cx.w) A (call (.ref a) vs) Q (fun _ _ => False) s
/-- the call hands back a fresh list -/
noncomputable def CallOwn (cx : Cx) (n : Nat) (f : Str) (as : List Sl) (k : Int) (l : List Dat) (k' : Int) : Prop :=
  ∃ a, FnAt cx f a ∧ ∀ A N s vs, Room n A → Wd cx A k N s → AAll cx N vs as → ∀ Q : Value → Shared → Prop,
    (∀ b vs c N' s', Step cx N s N' s' → BoxOk cx s'.heap k' → s'.heap.get? b = some (listOf vs.toArray c) → DatAll N' vs l → (∀ p ∈ N', p.1 ≠ b) → s.heap.get? b = none → Q (.ref b) s') →
    wpAny (model cx.prog cx.w) A (call (.ref a) vs) Q (fun _ _ => False) s

section
variable {cx : Cx} {n : Nat} {sc : Nms} {Γ : Gam} {k k' k₁ k₂ : Int}

theorem Room.mono {n m : Nat} {A : Around} (h : Room n A) (hm : m ≤ n) : Room m A := ⟨h.1, by have := h.2.1; omega, by have := h.2.2; omega⟩
theorem CallTo.up {m : Nat} {f : Str} {as : List Sl} {d : Dat} (h : CallTo cx m f as k d k') (hm : m ≤ n) : CallTo cx n f as k d k' :=
  let ⟨a, h1, h2⟩ := h; ⟨a, h1, fun A N s vs hA => h2 A N s vs (hA.mono hm)⟩
theorem CallOwn.up {m : Nat} {f : Str} {as : List Sl} {l : List Dat} (h : CallOwn cx m f as k l k') (hm : m ≤ n) : CallOwn cx n f as k l k' :=
  let ⟨a, h1, h2⟩ := h; ⟨a, h1, fun A N s vs hA => h2 A N s vs (hA.mono hm)⟩

theorem ea_nil : EvalAll cx n sc Γ k [] [] k := by
  refine ⟨fun g A env N s pos hA hE p Q hQ => ?_⟩
  exact spliced_none (hQ _ N s p.refl p .nil)
theorem ea_cons {e : Expr} {es : List Expr} {d : Dat} {ds : List Dat} (h : EvalTo cx n sc Γ k e d k₁) (hr : EvalAll cx n sc Γ k₁ es ds k₂)
    (hs : ∀ env, starEach (e :: es) env = (false, eval e env) :: starEach es env := by intro _; exact starE_cons (by intro _ _ h; cases h)) : EvalAll cx n sc Γ k (e :: es) (d :: ds) k₂ := by
  refine ⟨fun g A env N s pos hA hE p Q hQ => ?_⟩
  refine spliced_more (h.run g A env N s hA hE p _ fun v N₁ s₁ S₁ p₁ hv => ?_) (hs env)
  exact hr.run g A env N₁ s₁ pos hA hE p₁ _ fun vs N₂ s₂ S₂ p₂ hvs => hQ _ N₂ s₂ (S₁.trans S₂) p₂ (.cons (hv.mono S₂.sub) hvs)
theorem AIn.mono {N N' : Ledg} {v : Value} {a : Sl} (h : AIn cx N v a) (hs : ∀ p ∈ N, p ∈ N') : AIn cx N' v a := by
  cases h with
  | val h => exact .val (h.mono hs)
  | box => exact .box
theorem ar_nil : EvalArgs cx n sc Γ k [] [] k := by
  refine ⟨fun g A env N s pos hA hE p Q hQ => ?_⟩
  exact spliced_none (hQ _ N s p.refl p .nil)
theorem ar_cons {e : Expr} {es : List Expr} {d : Dat} {ds : List Sl} (h : EvalTo cx n sc Γ k e d k₁) (hr : EvalArgs cx n sc Γ k₁ es ds k₂)
    (hs : ∀ env, starEach (e :: es) env = (false, eval e env) :: starEach es env := by intro _; exact starE_cons (by intro _ _ h; cases h)) : EvalArgs cx n sc Γ k (e :: es) (.val d :: ds) k₂ := by
  refine ⟨fun g A env N s pos hA hE p Q hQ => ?_⟩
  refine spliced_more (h.run g A env N s hA hE p _ fun v N₁ s₁ S₁ p₁ hv => ?_) (hs env)
  exact hr.run g A env N₁ s₁ pos hA hE p₁ _ fun vs N₂ s₂ S₂ p₂ hvs => hQ _ N₂ s₂ (S₁.trans S₂) p₂ (.cons (.val (hv.mono S₂.sub)) hvs)
theorem ar_box {x : Str} {px : Pos} {es : List Expr} {ds : List Sl} (hx : Γ.lookup x = some .box) (hr : EvalArgs cx n sc Γ k es ds k₂)
    (hd : (x == ("__debug__" : Str)) = false := by rfl) (hd2 : (x == ("__classdict__" : Str)) = false := by rfl) : EvalArgs cx n sc Γ k (.Name x px :: es) (.box :: ds) k₂ := by
  refine ⟨fun g A env N s pos hA hE p Q hQ => ?_⟩
  refine spliced_more ?_ rfl
  obtain ⟨v, H, hs⟩ := p.see x _ hx
  cases hs
  refine load_holds hE H hd hd2 ?_
  exact hr.run g A env N s pos hA hE p _ fun vs N₂ s₂ S₂ p₂ hvs => hQ _ N₂ s₂ S₂ p₂ (.cons .box hvs)

theorem get_size (h : Heap) : h.get? h.objs.size = none := by
  cases e : h.get? h.objs.size with
  | none => rfl
  | some o => exact absurd (Heap.lt_size e) (Nat.lt_irrefl _)
/-- fresh now, so fresh before -/
theorem Step.fresh {N N' : Ledg} {s s' : Shared} {a : Addr} (S : Step cx N s N' s') (hx : ∀ b ∈ cx.X, ∃ o, s.heap.get? b = some o) (h : s'.heap.get? a = none) : s.heap.get? a = none := by
  cases q : s.heap.get? a with
  | none => rfl
  | some o =>
    by_cases hX : a ∈ cx.X
    · obtain ⟨o', e⟩ := S.xs a hX ⟨o, q⟩
      rw [h] at e; cases e
    · obtain ⟨sl, e, _⟩ := S.kp a o hX q
      rw [h] at e; cases e
theorem newTup {A : Around} {N : Ledg} {s : Shared} {vs : List Value} {ds : List Dat} {Q : Value → Shared → Prop} (p : Wd cx A k N s) (h : DatAll N vs ds) (hz : vs.length ≤ sizeLine)
    (hQ : ∀ v N' s', Step cx N s N' s' → BoxOk cx s'.heap k → DatIn N' v (.tuple ds) → Q v s') : wpAny (model cx.prog cx.w) A (newTuple vs) Q (fun _ _ => False) s := by
  refine wpAny_newObj_type ?_ (by show vs.toArray.size ≤ sizeLine; simpa using hz)
  have hk : ∀ b o, s.heap.get? b = some o → (s.heap.push { cls := .type "tuple", data := .seq vs.toArray }).get? b = some o := fun b o e => Heap.get?_push_of_some _ e
  have S := Step.grown (N' := [(s.heap.objs.size, { cls := .type "tuple", data := .seq vs.toArray })]) (tk := s.toks) p hk (fun q hq => by
    cases hq with
    | head => exact ⟨Heap.get?_push_size _ rfl, ⟨_, _, rfl⟩, get_size _⟩
    | tail _ h => cases h)
  exact hQ _ _ _ S (p.box.of_keeps hk) (.tuple (.head _) (h.mono S.sub))
theorem newLst {A : Around} {N : Ledg} {s : Shared} {vs : List Value} {ds : List Dat} {Q : Value → Shared → Prop} (p : Wd cx A k N s) (h : DatAll N vs ds) (hz : vs.length ≤ sizeLine)
    (hQ : ∀ a s', Step cx N s N s' → BoxOk cx s'.heap k → s'.heap.get? a = some (listOf vs.toArray 0) → (∀ p ∈ N, p.1 ≠ a) → s.heap.get? a = none → Q (.ref a) s') : wpAny (model cx.prog cx.w) A (newList vs) Q (fun _ _ => False) s := by
  refine wpAny_newObj_type ?_ (by show vs.toArray.size ≤ sizeLine; simpa using hz)
  have hk : ∀ b o, s.heap.get? b = some o → (s.heap.push { cls := .type "list", data := .seq vs.toArray }).get? b = some o := fun b o e => Heap.get?_push_of_some _ e
  have S := Step.grown (N' := []) (tk := s.toks) p hk (fun q hq => by cases hq)
  exact hQ _ _ S (p.box.of_keeps hk) (Heap.get?_push_size _ rfl) (fun q hq => Nat.ne_of_lt (Heap.lt_size (p.led q hq).1)) (get_size _)

theorem DatAll.len {N : Ledg} {vs : List Value} {ds : List Dat} (h : DatAll N vs ds) : vs.length = ds.length := h.length
theorem ev_tuple {es : List Expr} {c : Nat} {pos : Pos} {ds : List Dat} (h : EvalAll cx n sc Γ k es ds k') (hz : ds.length ≤ 1000 := by decide) : EvalTo cx n sc Γ k (.Tuple es c pos) (.tuple ds) k' := by
  refine ⟨fun g A env N s hA hE p Q hQ => ?_⟩
  refine Tuple_ (h.run g A env N s pos hA hE p _ fun vs N₁ s₁ S₁ p₁ hv => ?_)
  refine newTup p₁.toWd hv (by rw [hv.length]; exact Nat.le_trans hz (by decide)) fun v N₂ s₂ S₂ hb hd => ?_
  exact hQ v N₂ s₂ (S₁.trans S₂) (p₁.step S₂ hb) hd
theorem eo_list {es : List Expr} {pos : Pos} {ds : List Dat} (h : EvalAll cx n sc Γ k es ds k') (hz : ds.length ≤ 1000 := by decide) : EvalOwn cx n sc Γ k (.List es pos) ds k' := by
  refine ⟨fun g A env N s hA hE p Q hQ => ?_⟩
  refine List_ (h.run g A env N s pos hA hE p _ fun vs N₁ s₁ S₁ p₁ hv => ?_)
  refine newLst p₁.toWd hv (by rw [hv.length]; exact Nat.le_trans hz (by decide)) fun a s₂ S₂ hb hg hne hle => ?_
  exact hQ a vs 0 N₁ s₂ (S₁.trans S₂) (p₁.step S₂ hb) hg hv hne (S₁.fresh p.xs hle)

/-- a fresh list may be shared from now on -/
theorem Step.share {N N' : Ledg} {s s' : Shared} {a : Addr} {vs : List Value} {c : Nat} (S : Step cx N s N' s') (hx : ∀ b ∈ cx.X, ∃ o, s.heap.get? b = some o) (hg : s'.heap.get? a = some (listOf vs.toArray c)) (hle : s.heap.get? a = none) :
    Step cx N s ((a, listOf vs.toArray c) :: N') s' where
  kp := S.kp
  stays := S.stays
  xs := S.xs
  gens := S.gens
  os := S.os
  led := fun q hq => by
    cases hq with
    | head => exact ⟨hg, ⟨_, _, rfl⟩, fun h => by obtain ⟨o, e⟩ := hx _ h; rw [hle] at e; cases e⟩
    | tail _ h => exact S.led q h
  sub := fun q hq => .tail _ (S.sub q hq)
  new := fun q hq => by
    cases hq with
    | head => exact .inr hle
    | tail _ h => exact S.new q h
theorem ev_own {e : Expr} {l : List Dat} (h : EvalOwn cx n sc Γ k e l k') : EvalTo cx n sc Γ k e (.list l) k' := by
  refine ⟨fun g A env N s hA hE p Q hQ => ?_⟩
  refine h.run g A env N s hA hE p _ fun a vs c N' s' S p' hg hd hne hle => ?_
  have S' := S.share p.xs hg hle
  exact hQ _ _ _ S' (p.step S' p'.box) (.list (.head _) (hd.mono fun q hq => .tail _ hq))
theorem CallOwn.to {f : Str} {as : List Sl} {l : List Dat} (h : CallOwn cx n f as k l k') : CallTo cx n f as k (.list l) k' := by
  obtain ⟨a, h1, h2⟩ := h
  refine ⟨a, h1, fun A N s vs hA p hv Q hQ => h2 A N s vs hA p hv _ fun b us c N' s' S hb hg hd hne hle => ?_⟩
  have S' := S.share p.xs hg hle
  exact hQ _ _ _ S' hb (.list (.head _) (hd.mono fun q hq => .tail _ hq))

/-! calls -/
theorem kindOf_of {env : Env} {x : Str} {kd : NameKind} (hE : EnvOk sc env) (h : sc.lookup x = some kd) : env.kindOf x = some kd := by
  unfold Env.kindOf; rw [hE.names]; exact h
theorem Wd.mg {A : Around} {N : Ledg} {s : Shared} (p : Wd cx A k N s) : s.heap.Ns mainGlobals cx.mg := p.ok.g.keeps p.stays
theorem Wd.mb {A : Around} {N : Ledg} {s : Shared} (p : Wd cx A k N s) : s.heap.Ns builtinsNs cx.mb := p.ok.b.keeps p.stays
theorem load_global {A : Around} {env : Env} {N : Ledg} {s : Shared} {x : Str} {v : Value} {pos : Pos} {Q : Value → Shared → Prop} {E : Value → Shared → Prop} (p : Wd cx A k N s) (hE : EnvOk sc env) (hx : sc.lookup x = some .globalImplicit)
    (hv : cx.mg x = some v) (hd : (x == ("__debug__" : Str)) = false) (h : Q v s) : wpAny (model cx.prog cx.w) A (eval (.Name x pos) env) Q E s :=
  Calls.Name_function_global hE.kind (kindOf_of hE hx) (Calls.loadGlobal_global (by rw [hE.globals]; exact p.mg) hv h) hd
theorem load_boot {A : Around} {env : Env} {N : Ledg} {s : Shared} {x : Str} {v : Value} {pos : Pos} {Q : Value → Shared → Prop} {E : Value → Shared → Prop} (p : Wd cx A k N s) (hE : EnvOk sc env) (hx : sc.lookup x = some .globalImplicit)
    (hm : cx.mg x = none) (hv : bootBuiltins x = some v) (hn : x ≠ "__name__") (hd : (x == ("__debug__" : Str)) = false) (h : Q v s) : wpAny (model cx.prog cx.w) A (eval (.Name x pos) env) Q E s :=
  Calls.Name_function_global hE.kind (kindOf_of hE hx) (Calls.loadGlobal_builtin (by rw [hE.globals]; exact p.mg) hm (by rw [hE.builtins]; exact p.mb) ((p.ok.builtins x hn).trans hv) h) hd
theorem ev_global {x : Str} {pos : Pos} {d : Dat} (hx : sc.lookup x = some .globalImplicit) (hv : ∃ v, cx.mg x = some v ∧ DatIn cx.N₀ v d) (hd : (x == ("__debug__" : Str)) = false := by rfl) : EvalTo cx n sc Γ k (.Name x pos) d k := by
  refine ⟨fun g A env N s hA hE p Q hQ => ?_⟩
  obtain ⟨v, h1, h2⟩ := hv
  exact load_global p.toWd hE hx h1 hd (hQ v N s p.refl p (h2.mono p.led₀))

theorem call_expand {M : Model} {A : Around} {env : Env} {s : Shared} {f : Expr} {args : List Expr} {pos : Pos} {Q : Value → Shared → Prop} {E : Value → Shared → Prop}
    (hf : eval (.Call f args [] pos) env = (do callWith pos (← eval f env) [] (backTo pos (starEach args env)) []))
    (h : wpAny M A (eval f env) (fun v s₁ => wpAny M A (callWith pos v [] (backTo pos (starEach args env)) []) Q E s₁) E s) : wpAny M A (eval (.Call f args [] pos) env) Q E s := by
  rw [hf]; exact wpAny_bind h
theorem call_name (env : Env) (f : Str) (fp : Pos) (args : List Expr) (pos : Pos) :
    eval (.Call (.Name f fp) args [] pos) env = (do callWith pos (← eval (.Name f fp) env) [] (backTo pos (starEach args env)) []) := rfl

theorem plain_any : ∀ (es : List Expr) (env : Env) (pos : Pos), (∀ env, starEach es env = es.map fun e => (false, eval e env)) → (backTo pos (starEach es env)).any (·.1) = false := by
  intro es env pos h
  rw [h]
  induction es with
  | nil => rfl
  | cons e es ih =>
    simp [backTo]

theorem ev_call {f : Str} {fp pos : Pos} {e : Expr} {es : List Expr} {as : List Sl} {d : Dat} (hf : sc.lookup f = some .globalImplicit) (ha : EvalArgs cx n sc Γ k (e :: es) as k₁) (hc : CallTo cx n f as k₁ d k₂)
    (hs : ∀ env, starEach (e :: es) env = (false, eval e env) :: starEach es env := by intro _; exact starE_cons (by intro _ _ h; cases h)) (hd : (f == ("__debug__" : Str)) = false := by rfl) :
    EvalTo cx n sc Γ k (.Call (.Name f fp) (e :: es) [] pos) d k₂ := by
  refine ⟨fun g A env N s hA hE p Q hQ => ?_⟩
  obtain ⟨a, ⟨hm, o, fd, ho, hfd⟩, hcall⟩ := hc
  refine call_expand (call_name ..) (load_global p.toWd hE hf hm hd ?_)
  have hsp := ha.run g A env N s pos hA hE p
  rw [hs] at hsp ⊢
  refine Calls.callWith_function (o := o) (fd := fd) (Calls.evalArgs_plain (hsp _ fun vs N₁ s₁ S₁ p₁ hv => ⟨⟨p₁.stays _ _ ho, hfd⟩, ?_⟩))
  exact hcall A N₁ s₁ vs hA p₁.toWd hv _ fun v N₂ s₂ S₂ hb hd => hQ v N₂ s₂ (S₁.trans S₂) (p₁.step S₂ hb) hd
theorem eo_call {f : Str} {fp pos : Pos} {e : Expr} {es : List Expr} {as : List Sl} {l : List Dat} (hf : sc.lookup f = some .globalImplicit) (ha : EvalArgs cx n sc Γ k (e :: es) as k₁) (hc : CallOwn cx n f as k₁ l k₂)
    (hs : ∀ env, starEach (e :: es) env = (false, eval e env) :: starEach es env := by intro _; exact starE_cons (by intro _ _ h; cases h)) (hd : (f == ("__debug__" : Str)) = false := by rfl) :
    EvalOwn cx n sc Γ k (.Call (.Name f fp) (e :: es) [] pos) l k₂ := by
  refine ⟨fun g A env N s hA hE p Q hQ => ?_⟩
  obtain ⟨a, ⟨hm, o, fd, ho, hfd⟩, hcall⟩ := hc
  refine call_expand (call_name ..) (load_global p.toWd hE hf hm hd ?_)
  have hsp := ha.run g A env N s pos hA hE p
  rw [hs] at hsp ⊢
  refine Calls.callWith_function (o := o) (fd := fd) (Calls.evalArgs_plain (hsp _ fun vs N₁ s₁ S₁ p₁ hv => ⟨⟨p₁.stays _ _ ho, hfd⟩, ?_⟩))
  exact hcall A N₁ s₁ vs hA p₁.toWd hv _ fun b us c N₂ s₂ S₂ hb hg hd hne hle => hQ b us c N₂ s₂ (S₁.trans S₂) (p₁.step S₂ hb) hg hd hne (S₁.fresh p.xs hle)

theorem ev_callb {f : Str} {fs : String} {fp pos : Pos} {e : Expr} {es : List Expr} {as : List Dat} {d : Dat} (hf : sc.lookup f = some .globalImplicit) (hm : cx.mg f = none) (hb : bootBuiltins f = some (.builtin fs))
    (ha : EvalAll cx n sc Γ k (e :: es) as k₁) (hc : CallB cx n fs as d)
    (hs : ∀ env, starEach (e :: es) env = (false, eval e env) :: starEach es env := by intro _; exact starE_cons (by intro _ _ h; cases h)) (hpl : ∀ env, (backTo pos (starEach es env)).any (·.1) = false := by intro _; rfl)
    (hn : f ≠ "__name__" := by decide) (hd : (f == ("__debug__" : Str)) = false := by rfl) :
    EvalTo cx n sc Γ k (.Call (.Name f fp) (e :: es) [] pos) d k₁ := by
  refine ⟨fun g A env N s hA hE p Q hQ => ?_⟩
  refine call_expand (call_name ..) (load_boot p.toWd hE hf hm hb hn hd ?_)
  have hsp := ha.run g A env N s pos hA hE p
  rw [hs] at hsp ⊢
  refine Calls.callWith_builtin (by show (false || (backTo pos (starEach es env)).any (·.1)) = false; rw [hpl]; rfl) (Calls.evalArgs_plain (hsp _ fun vs N₁ s₁ S₁ p₁ hv => ?_))
  exact hc A k₁ N₁ s₁ vs hA p₁.toWd hv _ fun v N₂ s₂ S₂ hb hd => hQ v N₂ s₂ (S₁.trans S₂) (p₁.step S₂ hb) hd

theorem cb_min (a b : Int) : CallB cx n "min" [.int a, .int b] (.int (if b < a then b else a)) := by
  intro A k N s vs hA p h Q hQ
  cases h with | cons h r => cases r with | cons h2 r2 => 
    cases h; cases h2; cases r2
    refine min_two_ints hA.1 fun h' tk hk => ?_
    have S := Step.grown (N' := []) (tk := tk) p hk (fun q hq => by cases hq)
    by_cases hba : b < a
    · simp only [if_pos hba] at hQ ⊢; exact hQ _ _ _ S (p.box.of_keeps hk) (.int _ _)
    · simp only [if_neg hba] at hQ ⊢; exact hQ _ _ _ S (p.box.of_keeps hk) (.int _ _)
theorem cb_max (a b : Int) : CallB cx n "max" [.int a, .int b] (.int (if b > a then b else a)) := by
  intro A k N s vs hA p h Q hQ
  cases h with | cons h r => cases r with | cons h2 r2 => 
    cases h; cases h2; cases r2
    refine max_two_ints hA.1 fun h' tk hk => ?_
    have S := Step.grown (N' := []) (tk := tk) p hk (fun q hq => by cases hq)
    by_cases hba : b > a
    · simp only [if_pos hba] at hQ ⊢; exact hQ _ _ _ S (p.box.of_keeps hk) (.int _ _)
    · simp only [if_neg hba] at hQ ⊢; exact hQ _ _ _ S (p.box.of_keeps hk) (.int _ _)
end
end Mine
set_option maxRecDepth 4000
namespace Mine
open PySem PySem.W PyProof.Rows PySem.Calls PySem.Spec

/-! ### what a fresh part may do -/
section
variable {cx : Cx} {g : Heap} {A : Around} {env : Env} {Γ : Gam} {n : Nat} {sc : Nms} {k k' k₁ k₂ : Int} {N N' : Ledg} {s s' : Shared}
theorem Step.touch (hs : cx.base.StaysIn s.heap) (S : Step cx N s N' s') {T : List Addr} {h' : Heap} {tk : Nat} (hk : ∀ b o, b ∉ T → s'.heap.get? b = some o → h'.get? b = some o) (hT : ∀ b ∈ T, s.heap.get? b = none) (hN : ∀ p ∈ N', p.1 ∉ T) :
    Step cx N s N' { s' with heap := h', toks := tk } where
  kp := fun b o hb e => by
    obtain ⟨sl, e1, f⟩ := S.kp b o hb e
    exact ⟨sl, hk b _ (fun h => by rw [hT b h] at e; cases e) e1, f⟩
  stays := fun b o e => hk b o (fun h => by have := hs b o e; rw [hT b h] at this; cases this) (S.stays b o e)
  xs := fun a ha ⟨o, e⟩ => by
    obtain ⟨o', e'⟩ := S.xs a ha ⟨o, e⟩
    exact ⟨o', hk a o' (fun h => by rw [hT a h] at e; cases e) e'⟩
  gens := S.gens
  os := S.os
  led := fun p hp => ⟨hk _ _ (hN p hp) (S.led p hp).1, (S.led p hp).2⟩
  sub := S.sub
  new := S.new
theorem BoxOk.touch {T : List Addr} {h h' : Heap} (hk : ∀ b o, b ∉ T → h.get? b = some o → h'.get? b = some o) (h1 : cx.bA ∉ T) (h2 : cx.lA ∉ T) (b : BoxOk cx h k) : BoxOk cx h' k :=
  let ⟨⟨tk, n, e⟩, vs, m, e2, i⟩ := b; ⟨⟨tk, n, hk _ _ h1 e⟩, vs, m, hk _ _ h2 e2, i⟩
theorem Wd.boxT {T : List Addr} (p : Wd cx A k N s) (hT : ∀ b ∈ T, s.heap.get? b = none) : cx.bA ∉ T ∧ cx.lA ∉ T := by
  obtain ⟨⟨tk, n, e⟩, vs, m, e2, i⟩ := p.box
  refine ⟨fun h => ?_, fun h => ?_⟩
  · rw [hT _ h] at e; cases e
  · rw [hT _ h] at e2; cases e2
theorem fields_nd {o : Obj} {vs : Array Value} (h : o.data = .fields vs) : ∀ es n, o.data ≠ .dict es n := fun es n q => by rw [h] at q; cases q
theorem seq_nf {o : Obj} {vs : Array Value} (h : isSeq o) : o.data ≠ .fields vs := fun q => by obtain ⟨_, _, e⟩ := h; rw [e] at q; cases q
end

/-! ### iteration -/
structure IterTo (cx : Cx) (n : Nat) (sc : Nms) (Γ : Gam) (k : Int) (e : Expr) (items : List Dat) (k' : Int) : Prop where
  run : ∀ g A env N s, Room n A → EnvOk sc env → Pt cx g A env Γ k N s → ∀ Q : Value → Shared → Prop,
    (∀ I fp P St N' s', Step cx N s N' s' → Pt cx g A env Γ k' N' s' → Walks cx.prog cx.w A I fp [I] items.length P St → St 0 s'.heap → s.heap.get? I = none → I ∉ cx.X →
      (∀ i h, St i h → ∃ o vs, h.get? I = some o ∧ o.data = .fields vs) → (∀ b ∈ fp, b = I ∨ ∃ o vs, s'.heap.get? b = some o ∧ b ∉ cx.X ∧ (o.data = .fields vs ∨ (b, o) ∈ N')) →
      (∀ i v, P i v → ∃ d, items[i]? = some d ∧ DatIn N' v d) → Q (.ref I) s') →
    wpAny (model cx.prog cx.w) A (eval e env) (fun xv s₁ => wpAny (model cx.prog cx.w) A (pyIter xv) Q (fun _ _ => False) s₁) (fun _ _ => False) s

section
variable {cx : Cx} {n : Nat} {sc : Nms} {Γ : Gam} {k k' k₁ k₂ : Int}
theorem Wd.fresh_notX {A : Around} {N : Ledg} {s : Shared} (p : Wd cx A k N s) {a : Addr} (h : s.heap.get? a = none) : a ∉ cx.X := fun hx => by
  obtain ⟨o, e⟩ := p.xs a hx
  rw [h] at e; cases e
theorem it_seq {e : Expr} {c : Dat} {ds : List Dat} (h : EvalTo cx n sc Γ k e c k₁) (hs : seqOf c = some ds) (hz : ds.length ≤ 10000) : IterTo cx n sc Γ k e ds k₁ := by
  refine ⟨fun g A env N s hA hE p Q hQ => ?_⟩
  refine h.run g A env N s hA hE p _ fun v N₁ s₁ S₁ p₁ hv => ?_
  cases hv with
  | @tuple t vs c' ds' hm hds =>
    simp only [seqOf, Option.some.injEq] at hs; subst hs
    have ht : s₁.heap.IsTuple t vs.toArray := ⟨_, (p₁.led _ hm).1, rfl, c', rfl⟩
    have hk : ∀ b o, s₁.heap.get? b = some o → (s₁.heap.push { cls := .type "tuple_iterator", data := .fields #[.ref t, .int 0 0] }).get? b = some o := fun b o e => Heap.get?_push_of_some _ e
    have S := Step.grown (N' := []) (tk := s₁.toks) p₁.toWd hk (fun q hq => by cases hq)
    have hlt := Heap.lt_size (p₁.led _ hm).1
    refine wpAny_pyIter_tuple ht ?_
    refine hQ s₁.heap.objs.size [s₁.heap.objs.size, t] (fun i v => vs[i]? = some v) (fun i h => h.IsTupleIter s₁.heap.objs.size t i ∧ h.IsTuple t vs.toArray) N₁ _ (S₁.trans S) (p₁.step S (p₁.box.of_keeps hk)) ?_ ⟨⟨_, Heap.get?_push_size _ rfl, rfl, rfl⟩, ht.push _⟩ (S₁.fresh p.xs (get_size _)) (p₁.fresh_notX (get_size _)) ?_ ?_ ?_
    · have W := Walks.tuple (prog := cx.prog) (w := cx.w) (A := A) hA.1 s₁.heap.objs.size t (Nat.ne_of_lt hlt) vs.toArray
      have e : vs.toArray.size = ds'.length := by simp [hds.length]
      rw [e] at W
      simpa using W
    · rintro i h ⟨⟨o, h1, _, h2⟩, _⟩; exact ⟨o, _, h1, h2⟩
    · intro b hb
      rcases List.mem_cons.mp hb with rfl | hb
      · exact .inl rfl
      · rcases List.mem_cons.mp hb with rfl | hb
        · exact .inr ⟨_, #[], hk _ _ (p₁.led _ hm).1, (p₁.led _ hm).2.2, .inr hm⟩
        · cases hb
    · intro i v hv
      obtain ⟨hi, q⟩ := List.getElem?_eq_some_iff.mp hv
      obtain ⟨u, hu, hd⟩ := hds.get (k := i) (by rw [← hds.length]; exact hi)
      rw [hv] at hu; cases hu
      exact ⟨_, List.getElem?_eq_getElem _, hd⟩
  | @list t vs c' ds' hm hds =>
    simp only [seqOf, Option.some.injEq] at hs; subst hs
    have ht : s₁.heap.IsList t vs.toArray := ⟨_, (p₁.led _ hm).1, rfl, c', rfl⟩
    have hk : ∀ b o, s₁.heap.get? b = some o → (s₁.heap.push { cls := .type "list_iterator", data := .fields #[.ref t, .int 0 0] }).get? b = some o := fun b o e => Heap.get?_push_of_some _ e
    have S := Step.grown (N' := []) (tk := s₁.toks) p₁.toWd hk (fun q hq => by cases hq)
    have hlt := Heap.lt_size (p₁.led _ hm).1
    refine wpAny_pyIter_list ht ?_
    refine hQ s₁.heap.objs.size [s₁.heap.objs.size, t] (fun i v => vs[i]? = some v) (fun i h => h.IsListIter s₁.heap.objs.size t i ∧ h.IsList t vs.toArray) N₁ _ (S₁.trans S) (p₁.step S (p₁.box.of_keeps hk)) ?_ ⟨⟨_, Heap.get?_push_size _ rfl, rfl, rfl⟩, ht.push _⟩ (S₁.fresh p.xs (get_size _)) (p₁.fresh_notX (get_size _)) ?_ ?_ ?_
    · have W := Walks.list (prog := cx.prog) (w := cx.w) (A := A) hA.1 s₁.heap.objs.size t (Nat.ne_of_lt hlt) vs.toArray
      have e : vs.toArray.size = ds'.length := by simp [hds.length]
      rw [e] at W
      simpa using W
    · rintro i h ⟨⟨o, h1, _, h2⟩, _⟩; exact ⟨o, _, h1, h2⟩
    · intro b hb
      rcases List.mem_cons.mp hb with rfl | hb
      · exact .inl rfl
      · rcases List.mem_cons.mp hb with rfl | hb
        · exact .inr ⟨_, #[], hk _ _ (p₁.led _ hm).1, (p₁.led _ hm).2.2, .inr hm⟩
        · cases hb
    · intro i v hv
      obtain ⟨hi, q⟩ := List.getElem?_eq_some_iff.mp hv
      obtain ⟨u, hu, hd⟩ := hds.get (k := i) (by rw [← hds.length]; exact hi)
      rw [hv] at hu; cases hu
      exact ⟨_, List.getElem?_eq_getElem _, hd⟩
  | _ => simp [seqOf] at hs

noncomputable def rangeD (a : Int) (m : Nat) : List Dat := (List.range m).map fun (i : Nat) => Dat.int (a + (i : Int))
theorem rangeD_len (a : Int) (m : Nat) : (rangeD a m).length = m := by simp [rangeD]
theorem rangeD_at (a : Int) (m i : Nat) (h : i < m) : (rangeD a m)[i]? = some (.int (a + i)) := by simp [rangeD, h]

theorem it_range_core {g : Heap} {A : Around} {env : Env} {N N₁ : Ledg} {s s₁ : Shared} {Q : Value → Shared → Prop} {r : Addr} {a b : Int} {t u v : Tok} {m : Nat}
    (hA : Room n A) (p : Pt cx g A env Γ k N s) (S₁ : Step cx N s N₁ s₁) (p₁ : Pt cx g A env Γ k' N₁ s₁) (hr : IsRange s₁.heap r a b 1 t u v) (h1 : -(2 ^ 60) ≤ a) (h2 : a ≤ 2 ^ 60) (h3 : -(2 ^ 60) ≤ b) (h4 : b ≤ 2 ^ 60) (hm : m = (b - a).toNat)
    (hQ : ∀ I fp P St N' s', Step cx N s N' s' → Pt cx g A env Γ k' N' s' → Walks cx.prog cx.w A I fp [I] (rangeD a m).length P St → St 0 s'.heap → s.heap.get? I = none → I ∉ cx.X →
      (∀ i h, St i h → ∃ o vs, h.get? I = some o ∧ o.data = .fields vs) → (∀ b ∈ fp, b = I ∨ ∃ o vs, s'.heap.get? b = some o ∧ b ∉ cx.X ∧ (o.data = .fields vs ∨ (b, o) ∈ N')) →
      (∀ i v, P i v → ∃ d, (rangeD a m)[i]? = some d ∧ DatIn N' v d) → Q (.ref I) s') :
    wpAny (model cx.prog cx.w) A (pyIter (.ref r)) Q (fun _ _ => False) s₁ := by
  have hsz : Builtin.Range.rangeSize a b 1 = (m : Int) := by rw [rangeSize_one]; split <;> omega
  have hk : ∀ b' o, s₁.heap.get? b' = some o → (s₁.heap.push { cls := .type "range_iterator", data := .fields #[rawInt a, rawInt (Builtin.Range.rangeSize a b 1), rawInt 1] }).get? b' = some o := fun b o e => Heap.get?_push_of_some _ e
  have S := Step.grown (N' := []) (tk := s₁.toks) p₁.toWd hk (fun q hq => by cases hq)
  refine wpAny_pyIter_range hr (small_one (by omega) (by omega) (by omega) (by omega)) ?_
  refine hQ s₁.heap.objs.size [s₁.heap.objs.size] (fun i v => i < m ∧ ∃ t, v = .int (a + i) t) (fun i h => IsRangeIter h s₁.heap.objs.size (a + (i : Nat) * 1) ((m : Int) - (i : Nat)) 1) N₁ _ (S₁.trans S) (p₁.step S (p₁.box.of_keeps hk)) ?_ ?_
    (S₁.fresh p.xs (get_size _)) (p₁.fresh_notX (get_size _)) ?_ ?_ ?_
  · have W := Walks.range (prog := cx.prog) (w := cx.w) (A := A) hA.1 s₁.heap.objs.size a 1 m
    rw [rangeD_len]
    exact { W with
      item := fun i s Q E hi st hQ => W.item i s Q E hi st fun v h' tk hp => hQ v h' tk ⟨hi, by obtain ⟨t, e⟩ := hp; exact ⟨t, by rw [e]; simp⟩⟩ }
  · show IsRangeIter _ _ _ _ _
    rw [hsz]
    have e := Heap.get?_push_size s₁.heap (o := { cls := .type "range_iterator", data := .fields #[rawInt a, rawInt (m : Int), rawInt 1] }) rfl
    simpa using e
  · intro i h hst; exact ⟨_, _, hst, rfl⟩
  · intro b' hb
    rcases List.mem_cons.mp hb with rfl | hb
    · exact .inl rfl
    · cases hb
  · rintro i v ⟨hi, t, rfl⟩
    exact ⟨_, rangeD_at a m i hi, .int _ _⟩

theorem it_range1 {e : Expr} {f : Str} {fp pos : Pos} {b : Int} {m : Nat} (hf : sc.lookup f = some .globalImplicit) (hmg : cx.mg f = none) (hb : bootBuiltins f = some (.type "range"))
    (ha : EvalTo cx n sc Γ k e (.int b) k₁) (h3 : -(2 ^ 60) ≤ b) (h4 : b ≤ 2 ^ 60) (hm : m = b.toNat)
    (hs : ∀ env, starEach [e] env = (false, eval e env) :: starEach [] env := by intro _; exact starE_cons (by intro _ _ h; cases h)) (hn : f ≠ "__name__" := by decide) (hd : (f == ("__debug__" : Str)) = false := by rfl) :
    IterTo cx n sc Γ k (.Call (.Name f fp) [e] [] pos) (rangeD 0 m) k₁ := by
  refine ⟨fun g A env N s hA hE p Q hQ => ?_⟩
  refine call_expand (call_name ..) (load_boot p.toWd hE hf hmg hb hn hd ?_)
  rw [hs]
  refine PySem.callWith_type rfl (Calls.evalArgs_plain (spliced_cons (ha.run g A env N s hA hE p _ fun v N₁ s₁ S₁ p₁ hv => spliced_nil ?_)))
  cases hv with
  | int _ t =>
    refine call_range_1 ?_
    have hk : ∀ b' o, s₁.heap.get? b' = some o → (s₁.heap.push { cls := .type "range", data := .fields #[.int 0 s₁.toks, .int b t, .int 1 (s₁.toks + 1)] }).get? b' = some o := fun b o e => Heap.get?_push_of_some _ e
    have S := Step.grown (N' := []) (tk := s₁.toks + 1 + 1) p₁.toWd hk (fun q hq => by cases hq)
    exact it_range_core hA p (S₁.trans S) (p₁.step S (p₁.box.of_keeps hk)) (IsRange.new _ _ _ _ _ _ _) (by decide) (by decide) h3 h4 (by omega) hQ
theorem it_range2 {e₁ e₂ : Expr} {f : Str} {fp pos : Pos} {a b : Int} {m : Nat} (hf : sc.lookup f = some .globalImplicit) (hmg : cx.mg f = none) (hb : bootBuiltins f = some (.type "range"))
    (ha : EvalTo cx n sc Γ k e₁ (.int a) k₁) (ha2 : EvalTo cx n sc Γ k₁ e₂ (.int b) k₂) (h1 : -(2 ^ 60) ≤ a) (h2 : a ≤ 2 ^ 60) (h3 : -(2 ^ 60) ≤ b) (h4 : b ≤ 2 ^ 60) (hm : m = (b - a).toNat)
    (hs : ∀ env, starEach [e₁, e₂] env = (false, eval e₁ env) :: (false, eval e₂ env) :: starEach [] env := by intro _; exact (starE_cons (by intro _ _ h; cases h)).trans (congrArg _ (starE_cons (by intro _ _ h; cases h)))) (hn : f ≠ "__name__" := by decide) (hd : (f == ("__debug__" : Str)) = false := by rfl) :
    IterTo cx n sc Γ k (.Call (.Name f fp) [e₁, e₂] [] pos) (rangeD a m) k₂ := by
  refine ⟨fun g A env N s hA hE p Q hQ => ?_⟩
  refine call_expand (call_name ..) (load_boot p.toWd hE hf hmg hb hn hd ?_)
  rw [hs]
  refine PySem.callWith_type rfl (Calls.evalArgs_plain (spliced_cons (ha.run g A env N s hA hE p _ fun v N₁ s₁ S₁ p₁ hv => spliced_cons (ha2.run g A env N₁ s₁ hA hE p₁ _ fun w N₂ s₂ S₂ p₂ hw => spliced_nil ?_))))
  cases hv with
  | int _ t =>
    cases hw with
    | int _ u =>
      refine call_range_2 ?_
      have hk : ∀ b' o, s₂.heap.get? b' = some o → (s₂.heap.push { cls := .type "range", data := .fields #[.int a t, .int b u, .int 1 s₂.toks] }).get? b' = some o := fun b o e => Heap.get?_push_of_some _ e
      have S := Step.grown (N' := []) (tk := s₂.toks + 1) p₂.toWd hk (fun q hq => by cases hq)
      exact it_range_core hA p ((S₁.trans S₂).trans S) (p₂.step S (p₂.box.of_keeps hk)) (IsRange.new _ _ _ _ _ _ _) h1 h2 h3 h4 (by omega) hQ
end
end Mine
set_option maxRecDepth 4000
namespace Mine
open PySem PySem.W PyProof.Rows PySem.Calls PySem.Spec

/-! ### closures -/
theorem closure_go (env : Env) : ∀ (names : Nms) (acc : List (Str × Addr)), (∀ y ∈ names, y.2 = .free → ∃ c, env.cells.lookup y.1 = some c) → (∀ y c, acc.lookup y = some c → env.cells.lookup y = some c) →
    ∃ cl, (forIn names acc fun x __s => match x with
      | (name, kind) => if (kind == NameKind.free) = true then do
          let __do_lift ← cellOf env name
          pure (ForInStep.yield ((name, __do_lift) :: __s))
        else pure (ForInStep.yield __s) : Sem (List (Str × Addr))) = pure cl ∧ (∀ y c, cl.lookup y = some c → env.cells.lookup y = some c) ∧ (∀ y ∈ names, y.2 = .free → ∃ c, cl.lookup y.1 = some c) ∧ (∀ y c, acc.lookup y = some c → ∃ c', cl.lookup y = some c')
  | [], acc, _, hacc => ⟨acc, by rw [List.forIn_nil], hacc, (fun y hy _ => by cases hy), fun y c h => ⟨c, h⟩⟩
  | (x, kd) :: r, acc, h, hacc => by
    by_cases hk : kd = .free
    · subst hk
      obtain ⟨c, hc⟩ := h (x, .free) (.head _) rfl
      have e : cellOf env x = pure c := by unfold cellOf; rw [hc]
      obtain ⟨cl, h1, h2, h3, h4⟩ := closure_go env r ((x, c) :: acc) (fun y hy => h y (.tail _ hy)) (fun y c' hy => by
        rw [List.lookup_cons] at hy
        cases hb : y == x with
        | true => rw [hb] at hy; cases hy; rw [eq_of_beq hb]; exact hc
        | false => rw [hb] at hy; exact hacc y c' hy)
      refine ⟨cl, ?_, h2, fun y hy hf => ?_, fun y c' hy => ?_⟩
      · rw [List.forIn_cons]
        simp only [beq_self_eq_true, if_true, e, pure_bind]
        exact h1
      · rcases List.mem_cons.mp hy with rfl | hy
        · exact h4 x c (by simp)
        · exact h3 y hy hf
      · by_cases hb : (y == x) = true
        · exact h4 y c (by rw [List.lookup_cons, hb])
        · exact h4 y c' (by rw [List.lookup_cons, Bool.eq_false_iff.mpr hb]; exact hy)
    · obtain ⟨cl, h1, h2, h3, h4⟩ := closure_go env r acc (fun y hy => h y (.tail _ hy)) hacc
      refine ⟨cl, ?_, h2, fun y hy hf => ?_, h4⟩
      · rw [List.forIn_cons]
        have : (kd == NameKind.free) = false := by simpa using hk
        simp only [this, Bool.false_eq_true, if_false, pure_bind]
        exact h1
      · rcases List.mem_cons.mp hy with rfl | hy
        · exact absurd hf hk
        · exact h3 y hy hf
theorem closure_ok (scope : Scope) (env : Env) (h : ∀ y ∈ scope.names, y.2 = .free → ∃ c, env.cells.lookup y.1 = some c) :
    ∃ cl, closureFor scope env = pure cl ∧ (∀ y c, cl.lookup y = some c → env.cells.lookup y = some c) ∧ (∀ y ∈ scope.names, y.2 = .free → ∃ c, cl.lookup y.1 = some c) := by
  obtain ⟨cl, h1, h2, h3, _⟩ := closure_go env scope.names [] h (fun y c hy => by cases hy)
  refine ⟨cl, ?_, h2, h3⟩
  unfold closureFor
  have e := h1
  dsimp only at e ⊢
  rw [e]; rfl

noncomputable def compNames (scn : Nms) (sc : Nms) : Nms := scn.map fun x => if (x.2 == .free && sc.lookup x.1 == some .cell) then (x.1, .cell) else x
theorem relabel_names {scope : Scope} {env : Env} {sc : Nms} (hE : EnvOk sc env) : (relabel scope env).names = compNames scope.names sc := by
  unfold relabel compNames
  refine List.map_congr_left fun x _ => ?_
  have e : env.kindOf x.1 = sc.lookup x.1 := by unfold Env.kindOf; rw [hE.names]
  simp only [hE.kind, e, beq_self_eq_true, Bool.and_true]

theorem mem_of_lookup' {α : Type} {l : List (Str × α)} {x : Str} {v : α} (h : l.lookup x = some v) : (x, v) ∈ l := by
  induction l with
  | nil => cases h
  | cons p r ih =>
    rw [List.lookup_cons] at h
    cases hb : x == p.1 with
    | true => rw [hb] at h; cases h; rw [eq_of_beq hb]; exact .head _
    | false => rw [hb] at h; exact .tail _ (ih h)
theorem compNames_cell {scn sc : Nms} (hn : ∀ y ∈ scn, y.2 ≠ .cell) {y : Str} (h : (compNames scn sc).lookup y = some .cell) : (y, NameKind.free) ∈ scn := by
  have := mem_of_lookup' h
  obtain ⟨q, hq, e⟩ := List.mem_map.mp this
  by_cases hc : (q.2 == NameKind.free && sc.lookup q.1 == some .cell) = true
  · rw [if_pos hc] at e
    have h1 : q.1 = y := congrArg Prod.fst e
    have h2 : q.2 = .free := by
      have := (Bool.and_eq_true_iff.mp hc).1
      exact eq_of_beq this
    have : q = (y, .free) := Prod.ext h1 h2
    exact this ▸ hq
  · rw [if_neg hc] at e
    subst e
    exact absurd rfl (hn _ hq)
structure CompSc (sc scn : Nms) (x : Str) (Γ Γc : Gam) : Prop where
  free : ∀ y ∈ scn, y.2 = .free → ∃ d, Γ.lookup y.1 = some (.val d) ∧ sc.lookup y.1 = some .cell
  loc : scn.lookup x = some .local
  locs : ∀ y ∈ scn, y.2 = .local → scn.lookup y.1 = some .local
  nocell : ∀ y ∈ scn, y.2 ≠ .cell
  see : ∀ y sl, Γc.lookup y = some sl → Γ.lookup y = some sl ∧ (∃ d, sl = .val d) ∧ (y, NameKind.free) ∈ scn ∧ ((compNames scn sc).lookup y = some .cell ∨ (compNames scn sc).lookup y = some .free)

section
variable {cx : Cx} {n : Nat} {sc : Nms} {Γ : Gam} {k k' k₁ k₂ : Int}
theorem Holds.inCell {g : Heap} {env : Env} {h : Heap} {y : Str} {v : Value} (hE : EnvOk sc env) (hs : sc.lookup y = some .cell ∨ sc.lookup y = some .free) (H : Holds cx g env h y v) :
    ∃ c, env.cells.lookup y = some c ∧ c ∉ cx.X ∧ h.IsCell c (some v) := by
  cases H with
  | loc hk _ _ =>
    unfold Env.kindOf at hk; rw [hE.names] at hk
    rcases hs with q | q <;> (rw [hk] at q; cases q)
  | cell hk hc hX _ hv => exact ⟨_, hc, hX, hv⟩

theorem comp_core {elt iter : Expr} {x : Str} {px pos : Pos} {scope : Scope} {items outs : List Dat} {Γc : Gam} {use : Option (Value → Sem Unit)} {Qc : Value → Shared → Prop} {g : Heap} {A : Around} {env : Env} {N : Ledg} {s : Shared} (hk : scope.kind = .function) (hC : CompSc sc scope.names x Γ Γc)
    (hi : IterTo cx n sc Γ k iter items k₁) (hlen : outs.length = items.length) (hz : items.length ≤ 10000)
    (he : ∀ (i : Nat) (d o : Dat), items[i]? = some d → outs[i]? = some o → EvalTo cx n (compNames scope.names sc) ((x, .val d) :: Γc) k₁ elt o k₁)
    (hfs : ∀ env x, foldedSetIterable iter env x = pure x) (hA : Room n A) (hE : EnvOk sc env) (p : Pt cx g A env Γ k N s)
    (hend : ∀ D C N' vs c m s₃, Step cx N s N' s₃ → Pt cx g A env Γ k₁ N' s₃ → s₃.heap.get? D = some (listOf vs.toArray c) → DatAll N' vs outs → (∀ q ∈ N', q.1 ≠ D) → s.heap.get? D = none → s.heap.get? C = none → D ≠ C → s₃.heap.Ns C m →
      ∀ r, compPost (model cx.prog cx.w) A (fun _ _ => False) use Qc (.ref D) C (.ok r) s₃) :
    wpAny (model cx.prog cx.w) A (comprehension (.ListComp elt [⟨.Name x px, iter, [], 0⟩] scope pos) scope env (firstIterPos [⟨.Name x px, iter, [], 0⟩] pos) (newList []) (firstAsync [⟨.Name x px, iter, [], 0⟩]) (firstIter [⟨.Name x px, iter, [], 0⟩] env) use) Qc (fun _ _ => False) s := by
  obtain ⟨cl, hcl, hcl1, hcl2⟩ := closure_ok scope env (fun y hy hf => by
    obtain ⟨d, hd, hkd⟩ := hC.free y hy hf
    obtain ⟨v, H, _⟩ := p.see _ _ hd
    obtain ⟨c, hc, _⟩ := H.inCell hE (.inl hkd)
    exact ⟨c, hc⟩)
  refine wpAny_comprehension_free (use := use) rfl (hfs env) hcl hk (fun y hy hl => hC.locs y hy hl) ?_
  refine hi.run g A env N s hA hE p _ fun I fp P St N₁ s₁ S₁ p₁ W hst hI hIX hflds hfp hP => ?_
  refine wpAny_newObj_type (wpAny_newFunctionEnv hC.nocell (by intro y hy; cases hy) (fun h₂ hns hsb => ?_) hk)
  dsimp only at hns hsb ⊢
  generalize hH : s₁.heap.push { cls := .type "list", dict := none, data := .seq ([] : List Value).toArray } = H at hns hsb ⊢
  -- the accumulator D, the comprehension's names C
  have hHs : H.objs.size = s₁.heap.objs.size + 1 := by rw [← hH, Heap.size_push]
  have hDC : s₁.heap.objs.size ≠ H.objs.size := by rw [hHs]; exact Nat.ne_of_lt (Nat.lt_succ_self _)
  have keep₂ : ∀ b o, s₁.heap.get? b = some o → h₂.get? b = some o := fun b o e =>
    hsb.extBut b o (by rw [hHs]; exact Nat.ne_of_lt (Nat.lt_succ_of_lt (Heap.lt_size e))) (Heap.get?_push_of_some _ (hH ▸ Heap.get?_push_of_some _ e))
  have hD₂ : h₂.get? s₁.heap.objs.size = some (listOf ([] : List Value).toArray 0) := hsb.extBut _ _ hDC (Heap.get?_push_of_some _ (hH ▸ Heap.get?_push_size _ rfl))
  have hD0 : s₁.heap.get? s₁.heap.objs.size = none := get_size _
  have hC0 : s₁.heap.get? H.objs.size = none := by
    cases e : s₁.heap.get? H.objs.size with
    | none => rfl
    | some o => have := Heap.lt_size e; rw [hHs] at this; exact absurd this (Nat.not_lt.mpr (Nat.le_succ _))
  have hI1 : ∃ o vs, s₁.heap.get? I = some o ∧ o.data = .fields vs := hflds 0 _ hst
  have hID : I ≠ s₁.heap.objs.size := fun q => by obtain ⟨o, _, e, _⟩ := hI1; rw [q, hD0] at e; cases e
  have hIC : I ≠ H.objs.size := fun q => by obtain ⟨o, _, e, _⟩ := hI1; rw [q, hC0] at e; cases e
  have nI : ∀ {N' : Ledg} {s' : Shared}, Led cx.X s'.heap N' → (∃ o vs, s'.heap.get? I = some o ∧ o.data = .fields vs) → ∀ q ∈ N', q.1 ≠ I := fun hl ⟨o, vs, e, hd⟩ q hq h => by
    obtain ⟨e1, e2, _⟩ := hl q hq
    rw [h, e] at e1; cases e1; exact seq_nf e2 hd
  have nC : ∀ {N' : Ledg} {s' : Shared} {m : Str → Option Value}, Led cx.X s'.heap N' → s'.heap.Ns H.objs.size m → ∀ q ∈ N', q.1 ≠ H.objs.size := fun hl ⟨o, es, ep, e, hd, _⟩ q hq h => by
    obtain ⟨e1, e2, _⟩ := hl q hq
    rw [h, e] at e1; cases e1; exact e2.nd _ _ hd
  have fpC : H.objs.size ∉ fp := fun h => by
    rcases hfp _ h with q | ⟨o, _, e, _⟩
    · exact hIC q.symm
    · rw [hC0] at e; cases e
  have fpD : s₁.heap.objs.size ∉ fp := fun h => by
    rcases hfp _ h with q | ⟨o, _, e, _⟩
    · exact hID q.symm
    · rw [hD0] at e; cases e
  have keepT : ∀ b ∈ [I, H.objs.size, s₁.heap.objs.size], s.heap.get? b = none := fun b hb => by
    rcases List.mem_cons.mp hb with rfl | hb
    · exact hI
    · rcases List.mem_cons.mp hb with rfl | hb
      · exact S₁.fresh p.xs hC0
      · rcases List.mem_cons.mp hb with rfl | hb
        · exact S₁.fresh p.xs hD0
        · cases hb
  -- one point of the loop
  have hbx := p.toWd.boxT keepT
  have main : codeAny (model cx.prog cx.w) A (.compLoop (.ListComp elt [⟨.Name x px, iter, [], 0⟩] scope pos) 0 (.ref I) (.ref s₁.heap.objs.size) (compEnvC scope cl H.objs.size env))
      (compPost (model cx.prog cx.w) A (fun _ _ => False) use Qc (.ref s₁.heap.objs.size) H.objs.size) { s₁ with heap := h₂, toks := s₁.toks + ([] : List (Str × Value)).length } := by
    refine codeAny_compLoop_tests
      (fun j s' => ∃ i N' vs c m, i ≤ items.length ∧ j = items.length - i ∧ Step cx N s N' s' ∧ (∀ q ∈ N₁, q ∈ N') ∧ (∀ b o vs, b ∉ cx.X → b ≠ I → s₁.heap.get? b = some o → o.data = .fields vs → s'.heap.get? b = some o) ∧ BoxOk cx s'.heap k₁ ∧ St i s'.heap ∧
        s'.heap.get? s₁.heap.objs.size = some (listOf vs.toArray c) ∧ DatAll N' vs (outs.take i) ∧ (∀ q ∈ N', q.1 ≠ s₁.heap.objs.size) ∧ s'.heap.Ns H.objs.size m ∧
        (∀ y v c, cl.lookup y = some c → c ∉ cx.X → s₁.heap.IsCell c (some v) → s'.heap.IsCell c (some v)))
      ?_ items.length ⟨0, N₁, [], 0, _, Nat.zero_le _, rfl, ?_, fun _ h => h, fun b o vs _ _ e _ => keep₂ b o e, p₁.box.of_keeps keep₂, W.frame _ _ _ hst fun b _ o e => keep₂ b o e, hD₂, by simpa using DatAll.nil, ?_, hns, fun y v c _ _ hv => hv.keeps keep₂⟩
    · rintro j s' ⟨i, N', vs, c, m, hi', rfl, S', hN1, hf', hb', hst', hD', hd', hDn, hns', hcell⟩
      have hIf := hflds _ _ hst'
      have hfpk : ∀ (h'' : Heap), (∀ b o vs, b ∉ cx.X → s'.heap.get? b = some o → o.data = .fields vs → h''.get? b = some o) → (∀ q ∈ N', h''.get? q.1 = some q.2) → ∀ b ∈ fp, ∀ o, s'.heap.get? b = some o → h''.get? b = some o := fun h'' h1 h2 b hb o e => by
        rcases hfp b hb with rfl | ⟨o₁, vs₁, e₁, hX, hor⟩
        · obtain ⟨o₂, vs₂, e₂, d₂⟩ := hIf
          rw [e₂] at e; cases e
          exact h1 _ _ vs₂ hIX e₂ d₂
        · rcases hor with hd | hm
          · by_cases hbI : b = I
            · subst hbI
              obtain ⟨o₂, vs₂, e₂, d₂⟩ := hIf
              rw [e₂] at e; cases e
              exact h1 _ _ vs₂ hIX e₂ d₂
            · have := hf' b o₁ vs₁ hX hbI e₁ hd
              rw [this] at e; cases e
              exact h1 _ _ vs₁ hX this hd
          · have := (S'.led _ (hN1 _ hm)).1
            rw [this] at e; cases e
            exact h2 _ (hN1 _ hm)
      by_cases hlt : i < items.length
      · refine W.item i _ _ _ hlt hst' fun v h₁ tk₁ hPv hst₁ hk₁ => ?_
        obtain ⟨d, hid, hvd⟩ := hP i v hPv
        have hvd' := hvd.mono hN1
        have T1 : ∀ b o, b ∉ [I, H.objs.size, s₁.heap.objs.size] → s'.heap.get? b = some o → h₁.get? b = some o := fun b o hb e => hk₁ b o (fun h => hb (by rcases List.mem_cons.mp h with rfl | h; exact .head _; cases h)) e
        have hDh₁ : h₁.get? s₁.heap.objs.size = some (listOf vs.toArray c) := hk₁ _ _ (fun h => by rcases List.mem_cons.mp h with h | h; exact hID h.symm; cases h) hD'
        have hnsh₁ : h₁.Ns H.objs.size m := hns'.at' fun o e => hk₁ _ o (fun h => by rcases List.mem_cons.mp h with h | h; exact hIC h.symm; cases h) e
        have hx' : (compEnvC scope cl H.objs.size env).kindOf x = some .local := lookup_relabel_local hC.loc
        refine wpAny_assign_Name (wpAny_storeName_local hx' hnsh₁ (fun h₃ hn₃ hs₃ => ?_) (by simp [compEnvC, relabel, hk]))
        have hs₃ : Heap.SameBut H.objs.size h₁ h₃ := hs₃
        have hn₃ : h₃.Ns H.objs.size (fun z => if z = x then some v else m z) := hn₃
        have T3 : ∀ b o, b ∉ [I, H.objs.size, s₁.heap.objs.size] → s'.heap.get? b = some o → h₃.get? b = some o := fun b o hb e => hs₃.extBut b o (fun h => hb (by rw [h]; exact .tail _ (.head _))) (T1 b o hb e)
        have nT : ∀ q ∈ N', q.1 ∉ [I, H.objs.size, s₁.heap.objs.size] := fun q hq h => by
          rcases List.mem_cons.mp h with h | h
          · exact nI S'.led hIf q hq h
          · rcases List.mem_cons.mp h with h | h
            · exact nC S'.led hns' q hq h
            · rcases List.mem_cons.mp h with h | h
              · exact hDn q hq h
              · cases h
        have S3 : Step cx N s N' { s' with heap := h₃, toks := tk₁ + 1 } := S'.touch p.stays T3 keepT nT
        have hst₃ : St (i + 1) h₃ := W.frame _ _ _ hst₁ fun b hb o e => hs₃.extBut b o (fun h => fpC (h ▸ hb)) e
        have hD₃ : h₃.get? s₁.heap.objs.size = some (listOf vs.toArray c) := hs₃.extBut _ _ hDC hDh₁
        have hcell₃ : ∀ y v c, cl.lookup y = some c → c ∉ cx.X → s₁.heap.IsCell c (some v) → h₃.IsCell c (some v) := fun y v' c' hy hcX hv' => by
          have h0 := hcell y v' c' hy hcX hv'
          obtain ⟨o, ho, hd⟩ := h0
          obtain ⟨o₁, ho₁, hd₁⟩ := hv'
          refine ⟨o, T3 c' o (fun h => ?_) ho, hd⟩
          rcases List.mem_cons.mp h with rfl | h
          · obtain ⟨o₂, vs₂, e₂, d₂⟩ := hI1; rw [e₂] at ho₁; cases ho₁; rw [d₂] at hd₁; cases hd₁
          · rcases List.mem_cons.mp h with rfl | h
            · rw [hC0] at ho₁; cases ho₁
            · rcases List.mem_cons.mp h with rfl | h
              · rw [hD0] at ho₁; cases ho₁
              · cases h
        have hE' : EnvOk (compNames scope.names sc) (compEnvC scope cl H.objs.size env) := ⟨relabel_names hE, hk, hE.globals, hE.builtins, fun a b c h1 h2 => hE.apart a b c (hcl1 a c h1) (hcl1 b c h2)⟩
        have w₃ := p.toWd.step S3 (hb'.touch (h' := h₃) T3 hbx.1 hbx.2)
        have P3 : Pt cx {} A (compEnvC scope cl H.objs.size env) ((x, .val d) :: Γc) k₁ N' { s' with heap := h₃, toks := tk₁ + 1 } :=
          { toWd := w₃
            hasNs := ⟨_, hn₃⟩
            locX := p₁.fresh_notX hC0
            locB := by
              show cx.base.get? H.objs.size = none
              cases e : cx.base.get? H.objs.size with
              | none => rfl
              | some o => have := p₁.stays _ _ e; rw [hC0] at this; cases this
            locG := by simp [Heap.get?]
            old := fun b o _ e => by simp [Heap.get?] at e
            cells := fun y hy => by
              have hy' : (compNames scope.names sc).lookup y = some .cell := by
                have := hy; unfold Env.kindOf at this; rw [hE'.names] at this; exact this
              have hm := compNames_cell hC.nocell hy'
              obtain ⟨d', hd', hkd⟩ := hC.free (y, .free) hm rfl
              obtain ⟨u, Hu, _⟩ := p₁.see _ _ hd'
              obtain ⟨c', hc', hX', hv'⟩ := Hu.inCell hE (.inl hkd)
              obtain ⟨c'', hc''⟩ := hcl2 (y, .free) hm rfl
              have : c'' = c' := by have := hcl1 _ _ hc''; rw [hc'] at this; exact (Option.some.inj this).symm
              subst this
              obtain ⟨c₀, _, q1, _, _, q4, _⟩ := p₁.cells y (kindOf_of hE hkd)
              rw [hc'] at q1; cases q1
              exact ⟨c'', _, hc'', hX', by simp [Heap.get?], q4, hcell₃ y u _ hc'' hX' hv'⟩
            see := fun y sl hy => by
              rw [List.lookup_cons] at hy
              cases hb : y == x with
              | true =>
                rw [hb] at hy; cases hy
                rw [eq_of_beq hb]
                exact ⟨v, .loc hx' hn₃ (by simp), .val hvd'⟩
              | false =>
                rw [hb] at hy
                obtain ⟨h1, ⟨dd, rfl⟩, h3, h4⟩ := hC.see y sl hy
                obtain ⟨u, Hu, Su⟩ := p₁.see y _ h1
                obtain ⟨c', hc', hX', hv'⟩ := Hu.inCell hE (by obtain ⟨_, _, q⟩ := hC.free (y, .free) h3 rfl; exact .inl q)
                obtain ⟨c'', hc''⟩ := hcl2 (y, .free) h3 rfl
                have : c'' = c' := by have := hcl1 _ _ hc''; rw [hc'] at this; exact (Option.some.inj this).symm
                subst this
                cases Su with
                | val hud => exact ⟨u, .cell (h4.imp (kindOf_of hE') (kindOf_of hE')) hc'' hX' (fun _ => by simp [Heap.get?]) (hcell₃ y u _ hc'' hX' hv'), .val (hud.mono hN1)⟩
            one := fun a b va vb la lb ha hb => by
              rw [List.lookup_cons] at ha
              cases q : a == x with
              | true => rw [q] at ha; cases ha
              | false =>
                rw [q] at ha
                obtain ⟨_, ⟨_, e⟩, _⟩ := hC.see a _ ha
                cases e }
        refine wpAny_pure ?_
        simp only [if_true]
        have ho : ∃ o, outs[i]? = some o := ⟨_, List.getElem?_eq_getElem (by rw [hlen]; exact hlt)⟩
        obtain ⟨o, ho⟩ := ho
        refine anyF ((he i d o hid ho).run {} A _ N' _ hA hE' P3 _ fun u N₄ s₄ S₄ p₄ hu => ?_)
        have hD₄ := S₄.kp.get (b := s₁.heap.objs.size) (p₁.fresh_notX hD0) hD₃ (by intro _ _ q; cases q)
        have hDn₄ : ∀ q ∈ N₄, q.1 ≠ s₁.heap.objs.size := fun q hq h => by
          rcases S₄.new q hq with h1 | h1
          · exact hDn q h1 h
          · rw [h] at h1
            have h2 : h₃.get? s₁.heap.objs.size = none := h1
            rw [hD₃] at h2; cases h2
        have hvl : vs.length ≤ sizeLine := by
          have := hd'.length
          rw [this, List.length_take]
          exact Nat.le_trans (Nat.min_le_left _ _) (Nat.le_trans hi' (Nat.le_trans hz (by decide)))
        refine wpAny_list_append_plain (items := vs.toArray) (hsz := by simpa using hvl) ⟨c, hD₄⟩ fun h₅ hl₅ hs₅ => ?_
        obtain ⟨c₅, hl₅⟩ := hl₅
        have S34 := S3.trans S₄
        have nT₄ : ∀ q ∈ N₄, q.1 ∉ [s₁.heap.objs.size] := fun q hq h => by
          rcases List.mem_cons.mp h with h | h
          · exact hDn₄ q hq h
          · cases h
        have T5 : ∀ b o, b ∉ [s₁.heap.objs.size] → s₄.heap.get? b = some o → h₅.get? b = some o := fun b o hb e => hs₅.extBut b o (fun h => hb (by rw [h]; exact .head _)) e
        have hn4 : s₄.heap.Ns H.objs.size _ := S₄.kp.ns (p₁.fresh_notX hC0) hn₃
        refine ⟨items.length - (i + 1), by omega, i + 1, N₄, vs ++ [u], c₅, _, hlt, rfl, ?_, fun q hq => S₄.sub q (hN1 q hq), fun b o vs' hX hbI e hd => ?_, ?_, ?_, by simpa using hl₅, ?_, hDn₄, (hn4).sameBut hs₅ (Ne.symm hDC), fun y v' c' hy hcX hv' => ?_⟩
        · exact S34.touch p.stays T5 (fun b hb => keepT b (.tail _ (.tail _ hb))) nT₄
        · have e4 := S₄.kp.get (b := b) hX (T3 b o (fun h => by
            rcases List.mem_cons.mp h with h | h
            · exact hbI h
            · rcases List.mem_cons.mp h with rfl | h
              · rw [hC0] at e; cases e
              · rcases List.mem_cons.mp h with rfl | h
                · rw [hD0] at e; cases e
                · cases h) (hf' b o vs' hX hbI e hd)) (fields_nd hd)
          exact T5 b o (fun h => by rcases List.mem_cons.mp h with rfl | h; rw [hD0] at e; cases e; cases h) e4
        · exact (p₄.box).touch T5 (fun h => hbx.1 (.tail _ (.tail _ h))) (fun h => hbx.2 (.tail _ (.tail _ h)))
        · have h4 : St (i + 1) s₄.heap := W.frame _ _ _ hst₃ fun b hb o e => by
            rcases hfp b hb with rfl | ⟨o₁, vs₁, e₁, hX, hor⟩
            · obtain ⟨o₂, vs₂, e₂, d₂⟩ := hflds _ _ hst₃
              rw [e₂] at e; cases e
              exact S₄.kp.get hIX e₂ (fields_nd d₂)
            · have e₃ : ∀ o, h₃.get? b = some o → (∀ es n, o.data ≠ .dict es n) → s₄.heap.get? b = some o := fun o e hd => S₄.kp.get hX e hd
              rcases hor with hd | hm
              · by_cases hbI : b = I
                · subst hbI
                  obtain ⟨o₂, vs₂, e₂, d₂⟩ := hflds _ _ hst₃
                  rw [e₂] at e; cases e
                  exact e₃ _ e₂ (fields_nd d₂)
                · have := T3 b o₁ (fun h => by
                    rcases List.mem_cons.mp h with h | h
                    · exact hbI h
                    · rcases List.mem_cons.mp h with rfl | h
                      · rw [hC0] at e₁; cases e₁
                      · rcases List.mem_cons.mp h with rfl | h
                        · rw [hD0] at e₁; cases e₁
                        · cases h) (hf' b o₁ vs₁ hX hbI e₁ hd)
                  rw [this] at e; cases e
                  exact e₃ _ this (fields_nd hd)
              · have := (S3.led _ (hN1 _ hm)).1
                have h' : h₃.get? b = some o₁ := this
                rw [h'] at e; cases e
                exact e₃ _ h' (S3.led _ (hN1 _ hm)).2.1.nd
          exact W.frame _ _ _ h4 fun b hb o e => T5 b o (fun h => by rcases List.mem_cons.mp h with rfl | h; exact fpD hb; cases h) e
        · have e : outs.take (i + 1) = outs.take i ++ [o] := by rw [List.take_add_one, ho]; rfl
          rw [e]
          exact (hd'.mono S₄.sub).append (.one hu)
        · obtain ⟨o', ho', hd'⟩ := hcell₃ y v' c' hy hcX hv'
          obtain ⟨o₁, ho₁, hd₁⟩ := hv'
          exact ⟨o', T5 c' o' (fun h => by rcases List.mem_cons.mp h with rfl | h; rw [hD0] at ho₁; cases ho₁; cases h) (S₄.kp.get hcX ho' (by intro _ _ q; rw [hd'] at q; cases q)), hd'⟩
      · have hil : i = items.length := by omega
        subst hil
        refine W.done _ _ _ hst' fun h₁ tk₁ hk₁ => ?_
        have T1 : ∀ b o, b ∉ [I] → s'.heap.get? b = some o → h₁.get? b = some o := hk₁
        have hDh₁ : h₁.get? s₁.heap.objs.size = some (listOf vs.toArray c) := hk₁ _ _ (fun h => by rcases List.mem_cons.mp h with h | h; exact hID h.symm; cases h) hD'
        have hnsh₁ : h₁.Ns H.objs.size m := hns'.at' fun o e => hk₁ _ o (fun h => by rcases List.mem_cons.mp h with h | h; exact hIC h.symm; cases h) e
        have nT : ∀ q ∈ N', q.1 ∉ [I] := fun q hq h => by
          rcases List.mem_cons.mp h with h | h
          · exact nI S'.led hIf q hq h
          · cases h
        have keepT1 : ∀ b ∈ [I], s.heap.get? b = none := fun b hb => by
          rcases List.mem_cons.mp hb with rfl | hb
          · exact keepT _ (.head _)
          · cases hb
        have hbx1 := p.toWd.boxT keepT1
        have S1 : Step cx N s N' { s' with heap := h₁, toks := tk₁ } := S'.touch p.stays T1 keepT1 nT
        have hb1 := hb'.touch (h' := h₁) T1 hbx1.1 hbx1.2
        have e : outs.take items.length = outs := by rw [← hlen, List.take_length]
        rw [e] at hd'
        exact hend _ _ N' vs c m _ S1 (p.step S1 hb1) hDh₁ hd' hDn (S₁.fresh p.xs hD0) (S₁.fresh p.xs hC0) hDC hnsh₁ _
    · have hsz : Step cx N₁ s₁ N₁ { s₁ with heap := h₂, toks := s₁.toks + ([] : List (Str × Value)).length } := by
        have := Step.grown (N' := []) (tk := s₁.toks + ([] : List (Str × Value)).length) p₁.toWd keep₂ (fun q hq => by cases hq)
        simpa using this
      exact S₁.trans hsz
    · exact fun q hq h => by
        have := (p₁.led q hq).1
        rw [h, hD0] at this; cases this
  exact codeAny_compStart_list main (W.self 0 _ _ _ (W.frame _ _ _ hst fun b _ o e => keep₂ b o e) main)
theorem eo_comp {elt iter : Expr} {x : Str} {px pos : Pos} {scope : Scope} {items outs : List Dat} {Γc : Gam} (hk : scope.kind = .function) (hC : CompSc sc scope.names x Γ Γc)
    (hi : IterTo cx n sc Γ k iter items k₁) (hlen : outs.length = items.length) (hz : items.length ≤ 10000)
    (he : ∀ (i : Nat) (d o : Dat), items[i]? = some d → outs[i]? = some o → EvalTo cx n (compNames scope.names sc) ((x, .val d) :: Γc) k₁ elt o k₁)
    (hfs : ∀ env x, foldedSetIterable iter env x = pure x := by intro _ _; rfl) : EvalOwn cx n sc Γ k (.ListComp elt [⟨.Name x px, iter, [], 0⟩] scope pos) outs k₁ := by
  refine ⟨fun g A env N s hA hE p Q hQ => ?_⟩
  rw [eval_ListComp]
  refine comp_core (use := none) hk hC hi hlen hz he hfs hA hE p fun D C N' vs c m s₃ S P hD hd hDn fD fC hDC hns r => ?_
  refine ⟨m, hns, fun h₃ hs₃ => ?_⟩
  have T : ∀ b o, b ∉ [C] → s₃.heap.get? b = some o → h₃.get? b = some o := fun b o hb e => hs₃.extBut b o (fun h => hb (h ▸ .head _)) e
  have kT : ∀ b ∈ [C], s.heap.get? b = none := fun b hb => by
    rcases List.mem_cons.mp hb with rfl | hb
    · exact fC
    · cases hb
  have nT : ∀ q ∈ N', q.1 ∉ [C] := fun q hq h => by
    rcases List.mem_cons.mp h with h | h
    · obtain ⟨o, es, ep, e, hd, _⟩ := hns
      obtain ⟨e1, e2, _⟩ := P.led q hq
      rw [h, e] at e1; cases e1; exact e2.nd _ _ hd
    · cases h
  have hbx := p.toWd.boxT kT
  have S3 : Step cx N s N' { s₃ with heap := h₃ } := S.touch (tk := s₃.toks) p.stays T kT nT
  exact hQ D vs c N' _ S3 (p.step S3 (P.box.touch T hbx.1 hbx.2)) (hs₃.extBut _ _ hDC hD) hd hDn fD
end
end Mine
set_option maxRecDepth 4000
namespace Mine
open PySem PySem.W PyProof.Rows PySem.Calls PySem.Spec

section
variable {cx : Cx} {n : Nat} {sc : Nms} {Γ : Gam} {k k' k₁ k₂ : Int}

theorem DatAll.take {N : Ledg} : ∀ {vs : List Value} {ds : List Dat} (m : Nat), DatAll N vs ds → DatAll N (vs.take m) (ds.take m)
  | _, _, 0, _ => by simpa using DatAll.nil
  | _, _, m + 1, .nil => by simpa using DatAll.nil
  | _, _, m + 1, .cons h r => by simpa using DatAll.cons h (DatAll.take m r)
theorem DatAll.drop {N : Ledg} : ∀ {vs : List Value} {ds : List Dat} (m : Nat), DatAll N vs ds → DatAll N (vs.drop m) (ds.drop m)
  | _, _, 0, h => h
  | _, _, m + 1, .nil => by simpa using DatAll.nil
  | _, _, m + 1, .cons h r => by simpa using DatAll.drop m r
theorem DatAll.rep {N : Ledg} {v : Value} {d : Dat} (h : DatIn N v d) : ∀ m : Nat, DatAll N (List.replicate m v) (List.replicate m d)
  | 0 => .nil
  | m + 1 => .cons h (DatAll.rep h m)

/-! slices -/
theorem eo_slice_to {value u : Expr} {p pos : Pos} {ds : List Dat} {m : Int} (hv : EvalTo cx n sc Γ k value (.list ds) k₁) (hu : EvalTo cx n sc Γ k₁ u (.int m) k₂) (h0 : 0 ≤ m) (hz : ds.length ≤ 10000) :
    EvalOwn cx n sc Γ k (.Subscript value (.Slice none (some u) none p) pos) (ds.take m.toNat) k₂ := by
  refine ⟨fun g A env N s hA hE p Q hQ => ?_⟩
  refine Subscript_ (hv.run g A env N s hA hE p _ fun o N₁ s₁ S₁ p₁ ho => ?_)
  refine wpAny_Slice ?_
  rw [evalPart_none]
  refine wpAny_pure ?_
  rw [evalPart_some]
  refine hu.run g A env N₁ s₁ hA hE p₁ _ fun w N₂ s₂ S₂ p₂ hw => ?_
  refine wpAny_pure ?_
  cases hw with
  | int _ t =>
    have ho' := ho.mono S₂.sub
    cases ho' with
    | @list l vs c _ hm hds =>
      have hl : s₂.heap.IsList l vs.toArray := ⟨_, (p₂.led _ hm).1, rfl, c, rfl⟩
      have hk : ∀ b o, s₂.heap.get? b = some o → ((s₂.heap.push { cls := .type "slice", data := .fields #[.none, .int m t, .none] }).push { cls := .type "list", data := .seq (slicePick vs.toArray none (some m) none) }).get? b = some o := fun b o e => Heap.get?_push_of_some _ (Heap.get?_push_of_some _ e)
      have S := Step.grown (N' := []) (tk := s₂.toks) p₂.toWd hk (fun q hq => by cases hq)
      refine tail_any (ops := [.ref s₂.heap.objs.size, .ref l]) (Heap.IsList.typeIs (s := { s₂ with heap := s₂.heap.push { cls := .type "slice", data := .fields #[.none, .int m t, .none] } }) (hl.push _)) list_getitem_lookup
        (wpAny_getItem_list_slice (hl.push _) (Heap.IsSliceOf.new ..) .none (.int _ _) .none (by simp) ?_ (by simp only [List.size_toArray]; have := hds.length; exact Nat.le_trans (Nat.le_of_eq this) (Nat.le_trans hz (by decide)))) (by rfl)
      have e : slicePick vs.toArray none (some m) none = (vs.take m.toNat).toArray := by
        have := slicePick_upto' vs.toArray m.toNat
        rw [Int.toNat_of_nonneg h0] at this
        simpa using this
      have hn : s₂.heap.get? (s₂.heap.push { cls := .type "slice", data := .fields #[.none, .int m t, .none] }).objs.size = none := by
        cases q : s₂.heap.get? (s₂.heap.push { cls := .type "slice", data := .fields #[.none, .int m t, .none] }).objs.size with
        | none => rfl
        | some o => have := Heap.lt_size q; rw [Heap.size_push] at this; exact absurd this (Nat.not_lt.mpr (Nat.le_succ _))
      refine hQ _ (vs.take m.toNat) 0 N₂ _ ((S₁.trans S₂).trans S) (p₂.step S (p₂.box.of_keeps hk)) ?_ (Mine.DatAll.take _ hds) (fun q hq h => ?_) ((S₁.trans S₂).fresh p.xs hn)
      · rw [← e]; exact Heap.get?_push_size _ rfl
      · have := (p₂.led q hq).1; rw [h, hn] at this; cases this
theorem eo_slice_from {value u : Expr} {p pos : Pos} {ds : List Dat} {m : Int} (hv : EvalTo cx n sc Γ k value (.list ds) k₁) (hu : EvalTo cx n sc Γ k₁ u (.int m) k₂) (h0 : 0 ≤ m) (hz : ds.length ≤ 10000) :
    EvalOwn cx n sc Γ k (.Subscript value (.Slice (some u) none none p) pos) (ds.drop m.toNat) k₂ := by
  refine ⟨fun g A env N s hA hE p Q hQ => ?_⟩
  refine Subscript_ (hv.run g A env N s hA hE p _ fun o N₁ s₁ S₁ p₁ ho => ?_)
  refine wpAny_Slice ?_
  rw [evalPart_some]
  refine hu.run g A env N₁ s₁ hA hE p₁ _ fun w N₂ s₂ S₂ p₂ hw => ?_
  rw [evalPart_none]
  refine wpAny_pure (wpAny_pure ?_)
  cases hw with
  | int _ t =>
    have ho' := ho.mono S₂.sub
    cases ho' with
    | @list l vs c _ hm hds =>
      have hl : s₂.heap.IsList l vs.toArray := ⟨_, (p₂.led _ hm).1, rfl, c, rfl⟩
      have hk : ∀ b o, s₂.heap.get? b = some o → ((s₂.heap.push { cls := .type "slice", data := .fields #[.int m t, .none, .none] }).push { cls := .type "list", data := .seq (slicePick vs.toArray (some m) none none) }).get? b = some o := fun b o e => Heap.get?_push_of_some _ (Heap.get?_push_of_some _ e)
      have S := Step.grown (N' := []) (tk := s₂.toks) p₂.toWd hk (fun q hq => by cases hq)
      refine tail_any (ops := [.ref s₂.heap.objs.size, .ref l]) (Heap.IsList.typeIs (s := { s₂ with heap := s₂.heap.push { cls := .type "slice", data := .fields #[.int m t, .none, .none] } }) (hl.push _)) list_getitem_lookup
        (wpAny_getItem_list_slice (hl.push _) (Heap.IsSliceOf.new ..) (.int _ _) .none .none (by simp) ?_ (by simp only [List.size_toArray]; have := hds.length; exact Nat.le_trans (Nat.le_of_eq this) (Nat.le_trans hz (by decide)))) (by rfl)
      have e : slicePick vs.toArray (some m) none none = (vs.drop m.toNat).toArray := by
        have := slicePick_from' vs.toArray m.toNat
        rw [Int.toNat_of_nonneg h0] at this
        simpa using this
      have hn : s₂.heap.get? (s₂.heap.push { cls := .type "slice", data := .fields #[.int m t, .none, .none] }).objs.size = none := by
        cases q : s₂.heap.get? (s₂.heap.push { cls := .type "slice", data := .fields #[.int m t, .none, .none] }).objs.size with
        | none => rfl
        | some o => have := Heap.lt_size q; rw [Heap.size_push] at this; exact absurd this (Nat.not_lt.mpr (Nat.le_succ _))
      refine hQ _ (vs.drop m.toNat) 0 N₂ _ ((S₁.trans S₂).trans S) (p₂.step S (p₂.box.of_keeps hk)) ?_ (Mine.DatAll.drop _ hds) (fun q hq h => ?_) ((S₁.trans S₂).fresh p.xs hn)
      · rw [← e]; exact Heap.get?_push_size _ rfl
      · have := (p₂.led q hq).1; rw [h, hn] at this; cases this

/-! list + list, list * int -/
theorem ev_bin_own {op : Operator} {l r : Expr} {pos : Pos} {a b : Dat} {ds : List Dat} (hl : EvalTo cx n sc Γ k l a k₁) (hr : EvalTo cx n sc Γ k₁ r b k₂)
    (ho : ∀ A k N s v w, Room n A → Wd cx A k N s → DatIn N v a → DatIn N w b → ∀ Q : Value → Shared → Prop,
      (∀ a vs s', Step cx N s N s' → BoxOk cx s'.heap k → s'.heap.get? a = some (listOf vs.toArray 0) → DatAll N vs ds → s.heap.get? a = none → Q (.ref a) s') → wpAny (model cx.prog cx.w) A (binaryOp op v w) Q (fun _ _ => False) s) :
    EvalOwn cx n sc Γ k (.BinOp l op r pos) ds k₂ := by
  refine ⟨fun g A env N s hA hE p Q hQ => ?_⟩
  refine wpAny_BinOp (hl.run g A env N s hA hE p _ fun v N₁ s₁ S₁ p₁ hv => ?_)
  refine hr.run g A env N₁ s₁ hA hE p₁ _ fun w N₂ s₂ S₂ p₂ hw => ?_
  refine ho A k₂ N₂ s₂ v w hA p₂.toWd (hv.mono S₂.sub) hw _ fun a vs s₃ S₃ hb hg hd hn => ?_
  exact hQ a vs 0 N₂ s₃ ((S₁.trans S₂).trans S₃) (p₂.step S₃ hb) hg hd (fun q hq h => by have := (p₂.led q hq).1; rw [h, hn] at this; cases this) ((S₁.trans S₂).fresh p.xs hn)
theorem eo_add {l r : Expr} {pos : Pos} {ds es : List Dat} (hl : EvalTo cx n sc Γ k l (.list ds) k₁) (hr : EvalTo cx n sc Γ k₁ r (.list es) k₂) (hz : ds.length + es.length ≤ 10000) :
    EvalOwn cx n sc Γ k (.BinOp l .Add r pos) (ds ++ es) k₂ := by
  refine ev_bin_own hl hr fun A k N s v w hA p hv hw Q hQ => ?_
  cases hv with
  | @list a vs c _ ma da =>
    cases hw with
    | @list b ws c' _ mb db =>
      have hk : ∀ x o, s.heap.get? x = some o → (s.heap.push { cls := .type "list", data := .seq (vs.toArray ++ ws.toArray) }).get? x = some o := fun b o e => Heap.get?_push_of_some _ e
      refine P.add_list (p.led _ ma).1 (p.led _ mb).1 ?_ (by simp only [List.size_toArray]; rw [da.length, db.length]; exact Nat.le_trans hz (by decide))
      refine hQ _ (vs ++ ws) _ (Step.grown (N' := []) (tk := s.toks) p hk (fun q hq => by cases hq)) (p.box.of_keeps hk) ?_ (da.append db) (get_size _)
      have e : (vs ++ ws).toArray = vs.toArray ++ ws.toArray := by simp
      rw [e]; exact Heap.get?_push_size _ rfl
theorem foldl_rep (v : Value) : ∀ (m : Nat) (acc : Array Value), (List.foldl (fun x1 x2 => x1 ++ x2) acc (List.replicate m #[v])) = acc ++ (List.replicate m v).toArray
  | 0, acc => by simp
  | m + 1, acc => by
    rw [List.replicate_succ, List.foldl_cons, foldl_rep v m]
    apply Array.ext'
    simp [List.replicate_succ]
theorem eo_rep {l r : Expr} {pos : Pos} {d : Dat} {m : Int} (hl : EvalTo cx n sc Γ k l (.list [d]) k₁) (hr : EvalTo cx n sc Γ k₁ r (.int m) k₂) (hz : m ≤ 10000) (hz' : -10000 ≤ m) :
    EvalOwn cx n sc Γ k (.BinOp l .Mult r pos) (List.replicate m.toNat d) k₂ := by
  refine ev_bin_own hl hr fun A k N s v w hA p hv hw Q hQ => ?_
  cases hv with
  | @list a vs c _ ma da =>
    cases hw with
    | int _ u =>
      cases da with
      | @cons x vs' _ _ hx r =>
        cases r
        have hl := (p.led _ ma).1
        have h1 : (1 : Nat) * m.toNat ≤ 10000 := by omega
        have hk : ∀ x' o, s.heap.get? x' = some o → (s.heap.push { cls := .type "list", data := .seq (List.foldl (fun x1 x2 => x1 ++ x2) #[] (List.replicate (if (#[x] : Array Value).isEmpty = true then 0 else m.toNat) #[x])) }).get? x' = some o := fun b o e => Heap.get?_push_of_some _ e
        refine wpAny_binaryOp_repeat_ref (T := "list") (U := "int") (by decide) ⟨_, hl, rfl⟩ (fun s' => typeIs_int s' m u) noFill_list_mul F.fills_int_mul F.slot_int_rmul repeat_list F.slot_int_index.lookup
          (call_meets F.slot_int_rmul (typeIs_int s m u) F.entry_int_rmul (F.args_int_rmul_2 _ _) (int___rmul___int_list m u a #[x] c)
            ⟨hl, rfl, ⟨_, hl, rfl⟩, call_meets F.slot_list_mul ⟨_, hl, rfl⟩ F.entry_list_mul (F.args_list_mul_2 _ _)
              (AutoListH.list___mul___list_int_3 a #[x] c m u (by simp [Builtin.List.listFitsIndex]; omega) (by simp; omega) (by simp [Builtin.List.listTooLong, sizeLine]; omega))
              ⟨hl, ?_⟩⟩)
        refine hQ _ (List.replicate m.toNat x) _ (Step.grown (N' := []) (tk := s.toks) p hk (fun q hq => by cases hq)) (p.box.of_keeps hk) ?_ (DatAll.rep hx _) (get_size _)
        have e : (List.foldl (fun x1 x2 => x1 ++ x2) #[] (List.replicate (if (#[x] : Array Value).isEmpty = true then 0 else m.toNat) #[x])) = (List.replicate m.toNat x).toArray := by
          have : (#[x] : Array Value).isEmpty = false := rfl
          rw [this]
          simp only [Bool.false_eq_true, if_false]
          rw [foldl_rep]; simp
        rw [← e]; exact Heap.get?_push_size _ rfl

/-! built-in classes called -/
theorem ev_str_int {e : Expr} {f : Str} {fp pos : Pos} {a : Int} (hf : sc.lookup f = some .globalImplicit) (hmg : cx.mg f = none) (hb : bootBuiltins f = some (.type "str"))
    (ha : EvalTo cx n sc Γ k e (.int a) k₁) (hz : a.natAbs < 2 ^ 64)
    (hs : ∀ env, starEach [e] env = (false, eval e env) :: starEach [] env := by intro _; exact starE_cons (by intro _ _ h; cases h)) (hn : f ≠ "__name__" := by decide) (hd : (f == ("__debug__" : Str)) = false := by rfl) :
    EvalTo cx n sc Γ k (.Call (.Name f fp) [e] [] pos) (.str (Str.ofString (toString a))) k₁ := by
  refine ⟨fun g A env N s hA hE p Q hQ => ?_⟩
  refine call_expand (call_name ..) (load_boot p.toWd hE hf hmg hb hn hd ?_)
  rw [hs]
  refine PySem.callWith_type rfl (Calls.evalArgs_plain (spliced_cons (ha.run g A env N s hA hE p _ fun v N₁ s₁ S₁ p₁ hv => spliced_nil ?_)))
  cases hv with
  | int _ t =>
    refine P.str_of_int ?_ (hQ _ _ _ (S₁.trans (p₁.toks _).1) (p₁.toks _).2 (.str _ _))
    by_cases h0 : a.natAbs = 0
    · rw [h0]; decide +kernel
    · have : a.natAbs.log2 < 64 := (Nat.log2_lt h0).mpr hz
      omega
theorem eo_list_of {e : Expr} {f : Str} {fp pos : Pos} {ds : List Dat} (hf : sc.lookup f = some .globalImplicit) (hmg : cx.mg f = none) (hb : bootBuiltins f = some (.type "list"))
    (ha : EvalTo cx n sc Γ k e (.list ds) k₁) (hz : ds.length ≤ 10000)
    (hs : ∀ env, starEach [e] env = (false, eval e env) :: starEach [] env := by intro _; exact starE_cons (by intro _ _ h; cases h)) (hn : f ≠ "__name__" := by decide) (hd : (f == ("__debug__" : Str)) = false := by rfl) :
    EvalOwn cx n sc Γ k (.Call (.Name f fp) [e] [] pos) ds k₁ := by
  refine ⟨fun g A env N s hA hE p Q hQ => ?_⟩
  refine call_expand (call_name ..) (load_boot p.toWd hE hf hmg hb hn hd ?_)
  rw [hs]
  refine PySem.callWith_type rfl (Calls.evalArgs_plain (spliced_cons (ha.run g A env N s hA hE p _ fun v N₁ s₁ S₁ p₁ hv => spliced_nil ?_)))
  cases hv with
  | @list l vs c _ hm hds =>
    refine call_list_seq l (.inl rfl) (p₁.led _ hm).1 rfl rfl (fun h' c' hk hD => ?_) (by simp only [List.size_toArray]; rw [hds.length]; exact Nat.le_trans hz (by decide))
    have S := Step.grown (N' := []) (tk := s₁.toks) p₁.toWd hk (fun q hq => by cases hq)
    exact hQ _ vs c' N₁ _ (S₁.trans S) (p₁.step S (p₁.box.of_keeps hk)) hD hds (fun q hq => Nat.ne_of_lt (Heap.lt_size (p₁.led q hq).1)) (S₁.fresh p.xs (get_size _))

theorem cmp_notin_tuple (d : Dat) (ds : List Dat) (h1 : kqdOk 8 d = true) (h2 : ∀ e ∈ ds, kqdOk 6 e = true) : CmpTo cx n .NotIn d (.tuple ds) (!(kqdPs ds).any fun y => PyData.eqv y (kqdP d)) := by
  intro A k N s v w hA p hv hw Q hQ
  obtain ⟨as, ra⟩ := p.led.reads hv h1
  have h8 : kqdOk 7 (.tuple ds) = true := by simpa [kqdOk] using h2
  obtain ⟨bs, rb⟩ := kqd_in p.led.news 7 hw h8
  rw [kqdP] at rb
  have l := kqd_lay 7 (.tuple ds) h8
  have ld := kqd_lay 8 d h1
  rw [kqdP] at l
  simp only [PyData.canLay0, PyData.depth] at l
  refine SeqAt.notIn_tuple_reads rb ra l.1 ld.1 ?_ (hQ _ _ p.refl p.box)
  have := hA.2.2
  have l2 := ld.2
  have := Nat.min_le_right (PyData.depthAll (kqdPs ds)) (kqdP d).depth
  first
    | omega
    | (show _ < 9900; omega)
end
end Mine
set_option maxRecDepth 4000
namespace Mine
open PySem PySem.W PyProof.Rows PySem.Calls PySem.Spec

/-- from one point to the next, where the frame's own things may turn (g: the heap that it was entered with) -/
structure StepL (cx : Cx) (g : Heap) (N : Ledg) (s : Shared) (N' : Ledg) (s' : Shared) : Prop where
  kp : KpP (fun b => b ∉ cx.X ∧ ∃ o, g.get? b = some o) s.heap s'.heap
  flds : ∀ b o vs, b ∉ cx.X → s.heap.get? b = some o → o.data = .fields vs → s'.heap.get? b = some o
  stays : cx.base.StaysIn s'.heap
  xs : ∀ a ∈ cx.X, (∃ o, s.heap.get? a = some o) → ∃ o, s'.heap.get? a = some o
  gens : s'.gens = s.gens
  os : s'.os = s.os
  sub : ∀ p ∈ N, p ∈ N'
  new : ∀ p ∈ N', p ∈ N ∨ g.get? p.1 = none

section
variable {cx : Cx} {g : Heap} {A : Around} {env : Env} {Γ Γ' : Gam} {n : Nat} {sc : Nms} {k k' k₁ k₂ : Int} {N N' N'' : Ledg} {s s' s'' : Shared}
theorem StepL.trans (x : StepL cx g N s N' s') (y : StepL cx g N' s' N'' s'') : StepL cx g N s N'' s'' where
  kp := x.kp.trans y.kp
  flds := fun b o vs hb e hd => y.flds b o vs hb (x.flds b o vs hb e hd) hd
  stays := y.stays
  xs := fun a ha h => y.xs a ha (x.xs a ha h)
  gens := y.gens.trans x.gens
  os := y.os.trans x.os
  sub := fun p hp => y.sub p (x.sub p hp)
  new := fun p hp => (y.new p hp).elim (fun h => x.new p h) .inr
theorem Pt.reflL (p : Pt cx g A env Γ k N s) : StepL cx g N s N s := ⟨.refl _ _, fun _ _ _ _ e _ => e, p.stays, fun _ _ h => h, rfl, rfl, fun _ h => h, fun _ h => .inl h⟩
theorem Step.toL (p : Pt cx g A env Γ k N s) (S : Step cx N s N' s') : StepL cx g N s N' s' where
  kp := S.kp.mono fun _ h => h.1
  flds := fun b o vs hb e hd => S.kp.get hb e (fields_nd hd)
  stays := S.stays
  xs := S.xs
  gens := S.gens
  os := S.os
  sub := S.sub
  new := fun q hq => (S.new q hq).elim .inl fun h => .inr (by
    cases e : g.get? q.1 with
    | none => rfl
    | some o =>
      obtain ⟨o', e'⟩ := p.old q.1 o (S.led q hq).2.2 e
      rw [h] at e'; cases e')

/-! ### a store into the frame -/
theorem holds_unique {h : Heap} {x : Str} {u v : Value} (H1 : Holds cx g env h x u) (H2 : Holds cx g env h x v) : u = v := by
  cases H1 with
  | loc hk hn hv => cases H2 with
    | loc hk' hn' hv' => have := hn.agree hn' x; rw [hv, hv'] at this; exact Option.some.inj this
    | cell hk' _ _ _ _ => rcases hk' with q | q <;> (rw [hk] at q; cases q)
  | cell hk hc hX hg hv => cases H2 with
    | loc hk' _ _ => rcases hk with q | q <;> (rw [hk'] at q; cases q)
    | cell hk' hc' _ _ hv' =>
      rw [hc] at hc'; cases hc'
      obtain ⟨o, ho, hd⟩ := hv
      obtain ⟨o', ho', hd'⟩ := hv'
      rw [ho] at ho'; cases ho'; rw [hd] at hd'; cases hd'; rfl

/-- what a change at one place that the frame owns leaves -/
theorem store_core {a : Addr} {h' : Heap} {tk : Nat} (p : Pt cx g A env Γ k N s) (hs : Heap.SameBut a s.heap h') (haX : a ∉ cx.X) (haG : g.get? a = none) (haB : cx.base.get? a = none)
    (hob : ∀ o, s.heap.get? a = some o → ∀ xs n, o.data ≠ .seq xs n) (hfl : ∀ o vs, s.heap.get? a = some o → o.data ≠ .fields vs) (hfr : ∀ o, s.heap.get? a = some o → ∃ o', h'.get? a = some o' ∧ (∀ vs, o'.data ≠ .fields vs) ∧ ∀ es m, o.data = .dict es m → ∃ es' m', o'.data = .dict es' m') :
    StepL cx g N s N { s with heap := h', toks := tk } ∧ Wd cx A k N { s with heap := h', toks := tk } := by
  have hN : ∀ q ∈ N, q.1 ≠ a := fun q hq e => by
    obtain ⟨e1, ⟨xs, m, e2⟩, _⟩ := p.led q hq
    rw [e] at e1; exact hob _ e1 xs m e2
  have st : cx.base.StaysIn h' := fun b o e => hs.extBut b o (fun q => by rw [q, haB] at e; cases e) (p.stays b o e)
  refine ⟨⟨.of_keeps fun b o hb e => hs.extBut b o (fun q => ?_) e, fun b o vs hb e hd => hs.extBut b o (fun q => ?_) e, st, fun b hb ⟨o, e⟩ => ⟨o, hs.extBut b o (fun q => haX (q ▸ hb)) e⟩, rfl, rfl, fun _ h => h, fun _ h => .inl h⟩,
    ⟨p.ok, st, fun b hb => ?_, fun q hq => ⟨hs.extBut _ _ (hN q hq) (p.led q hq).1, (p.led q hq).2⟩, p.led₀, p.lin, ?_, ?_⟩⟩
  · obtain ⟨_, o', e'⟩ := hb
    rw [q, haG] at e'; cases e'
  · rw [q] at e; exact hfl _ _ e hd
  · obtain ⟨o, e⟩ := p.xs b hb
    exact ⟨o, hs.extBut b o (fun q => haX (q ▸ hb)) e⟩
  · refine p.box.touch (T := [a]) (fun b o hb e => hs.extBut b o (fun q => hb (by rw [q]; exact .head _)) e) (fun h => ?_) (fun h => ?_)
    · rcases List.mem_cons.mp h with h | h
      · exact haX (h ▸ p.ok.bAX)
      · cases h
    · rcases List.mem_cons.mp h with h | h
      · obtain ⟨_, vs, m, e2, _⟩ := p.box
        rw [h] at e2; exact hob _ e2 _ _ rfl
      · cases h
  · obtain ⟨frs, h1, h2, h3⟩ := p.frs
    refine ⟨frs, h1, ?_, fun e he b hb => ⟨(h3 e he b hb).1, ?_⟩⟩
    rotate_left
    · obtain ⟨o, es, m, e1, e2⟩ := (h3 e he b hb).2
      by_cases q : b = a
      · subst q
        obtain ⟨o', e3, _, e4⟩ := hfr o e1
        obtain ⟨es', m', e5⟩ := e4 es m e2
        exact ⟨o', es', m', e3, e5⟩
      · exact ⟨o, es, m, hs.extBut b o q e1, e2⟩
    clear h1
    induction frs with
    | nil => trivial
    | cons e r ih =>
      obtain ⟨hk, ⟨L, o, hf, hn, ho, hd⟩, hr⟩ := h2
      refine ⟨hk, ?_, ih hr fun e he => h3 e (.tail _ he)⟩
      by_cases hLa : L = a
      · subst hLa
        obtain ⟨o', ho', hd', _⟩ := hfr o ho
        exact ⟨L, o', hf, hn, ho', hd'⟩
      · exact ⟨L, o, hf, hn, hs.extBut L o hLa ho, hd⟩

theorem store_fin {x : Str} {v : Value} {sl : Sl} {h' : Heap} {tk : Nat} (p : Pt cx g A env Γ k N s) (w : Wd cx A k N { s with heap := h', toks := tk }) (hv : SlIn cx g s.heap N v sl)
    (hone : ∀ l, sl = .own l → ∀ y vy ly, y ≠ x → Γ.lookup y = some (.own ly) → Holds cx g env s.heap y vy → vy ≠ v)
    (seqk : ∀ b o, (∃ xs n, o.data = .seq xs n) → s.heap.get? b = some o → h'.get? b = some o) (hns : ∃ m, h'.Ns env.locals m) (hold : ∀ b o, b ∉ cx.X → g.get? b = some o → ∃ o', h'.get? b = some o')
    (hcells : ∀ x, env.kindOf x = some .cell → ∃ c v, env.cells.lookup x = some c ∧ c ∉ cx.X ∧ g.get? c = none ∧ cx.base.get? c = none ∧ h'.IsCell c v)
    (fwd : ∀ {y : Str} {u : Value}, y ≠ x → Holds cx g env s.heap y u → Holds cx g env h' y u) (Hx : Holds cx g env h' x v) : Pt cx g A env ((x, sl) :: Γ) k N { s with heap := h', toks := tk } := by
  have slk : ∀ {u : Value} {sl' : Sl}, SlIn cx g s.heap N u sl' → SlIn cx g h' N u sl' := fun h => by
    cases h with
    | val h => exact .val h
    | own e d f hX l hB => exact .own (seqk _ _ ⟨_, _, rfl⟩ e) d f hX l hB
    | box => exact .box
  refine { toWd := w, hasNs := hns, locX := p.locX, locB := p.locB, locG := p.locG, old := hold, cells := hcells, see := ?_, one := ?_ }
  · intro y sl' hy
    rw [List.lookup_cons] at hy
    cases hb : y == x with
    | true => rw [hb] at hy; cases hy; rw [eq_of_beq hb]; exact ⟨v, Hx, slk hv⟩
    | false =>
      rw [hb] at hy
      obtain ⟨u, Hu, Su⟩ := p.see y sl' hy
      exact ⟨u, fwd (beq_eq_false_iff_ne.mp hb) Hu, slk Su⟩
  · intro y z vy vz ly lz hy hz Hy Hz hne
    rw [List.lookup_cons] at hy hz
    cases hby : y == x with
    | true =>
      rw [hby] at hy; cases hy
      have : y = x := eq_of_beq hby
      subst this
      have e1 := holds_unique Hy Hx
      subst e1
      cases hbz : z == y with
      | true => exact absurd (eq_of_beq hbz).symm hne
      | false =>
        rw [hbz] at hz
        obtain ⟨u, Hu, _⟩ := p.see z _ hz
        have e2 := holds_unique Hz (fwd (beq_eq_false_iff_ne.mp hbz) Hu)
        subst e2
        exact (hone _ rfl z _ lz (beq_eq_false_iff_ne.mp hbz) hz Hu).symm
    | false =>
      rw [hby] at hy
      obtain ⟨u, Hu, _⟩ := p.see y _ hy
      have e1 := holds_unique Hy (fwd (beq_eq_false_iff_ne.mp hby) Hu)
      subst e1
      cases hbz : z == x with
      | true =>
        rw [hbz] at hz; cases hz
        have : z = x := eq_of_beq hbz
        subst this
        have e2 := holds_unique Hz Hx
        subst e2
        exact hone _ rfl y _ ly (beq_eq_false_iff_ne.mp hby) hy Hu
      | false =>
        rw [hbz] at hz
        obtain ⟨w', Hw, _⟩ := p.see z _ hz
        have e2 := holds_unique Hz (fwd (beq_eq_false_iff_ne.mp hbz) Hw)
        subst e2
        exact p.one y z _ _ ly lz hy hz Hu Hw hne

theorem store_pt' {x : Str} {v : Value} {sl : Sl} (hE : EnvOk sc env) (p : Pt cx g A env Γ k N s) (hx : sc.lookup x = some .local ∨ sc.lookup x = some .cell) (hv : SlIn cx g s.heap N v sl)
    (hone : ∀ l, sl = .own l → ∀ y vy ly, y ≠ x → Γ.lookup y = some (.own ly) → Holds cx g env s.heap y vy → vy ≠ v) {Q : Unit → Shared → Prop}
    (hQ : ∀ s', StepL cx g N s N s' → Pt cx g A env ((x, sl) :: Γ) k N s' → (∀ b o, (∃ xs n, o.data = .seq xs n) → s.heap.get? b = some o → s'.heap.get? b = some o) → (∀ y u, y ≠ x → Holds cx g env s.heap y u → Holds cx g env s'.heap y u) ∧ Holds cx g env s'.heap x v → (∃ a', (a' = env.locals ∨ (env.kindOf x = some .cell ∧ env.cells.lookup x = some a')) ∧ Heap.SameBut a' s.heap s'.heap) → Q () s') {E : Value → Shared → Prop} : wpAny (model cx.prog cx.w) A (storeName env x v) Q E s := by
  obtain ⟨m, hns⟩ := p.hasNs
  obtain ⟨oL, es, ep, hL, hLd, hLr⟩ := id hns
  rcases hx with hx | hx
  · have hk := kindOf_of hE hx
    refine wpAny_storeName_local hk hns (fun h' hn hs => ?_) (by rw [hE.kind]; rfl)
    obtain ⟨S, w⟩ := store_core (tk := s.toks + 1) p hs p.locX p.locG p.locB (fun o e xs n q => by rw [hL] at e; cases e; rw [hLd] at q; cases q) (fun o vs e q => by rw [hL] at e; cases e; rw [hLd] at q; cases q)
      (fun o e => by obtain ⟨o', es', ep', e', hd', _⟩ := hn; exact ⟨o', e', (fun vs q => by rw [hd'] at q; cases q), fun _ _ _ => ⟨_, _, hd'⟩⟩)
    have seqk : ∀ b o, (∃ xs n, o.data = .seq xs n) → s.heap.get? b = some o → h'.get? b = some o := fun b o ⟨xs, n, q⟩ e => hs.extBut b o (fun z => by rw [z, hL] at e; cases e; rw [hLd] at q; cases q) e
    have cellk : ∀ {c : Addr} {u : Option Value}, s.heap.IsCell c u → h'.IsCell c u := fun ⟨o, e, hd⟩ => ⟨o, hs.extBut _ o (fun z => by rw [z, hL] at e; cases e; rw [hLd] at hd; cases hd) e, hd⟩
    have fwd : ∀ {y : Str} {u : Value}, y ≠ x → Holds cx g env s.heap y u → Holds cx g env h' y u := fun hne H => by
      cases H with
      | loc hk' hn' hv' => exact .loc hk' hn (by simp only [if_neg hne]; rw [← hn'.agree hns]; exact hv')
      | cell hk' hc hX hg hv' => exact .cell hk' hc hX hg (cellk hv')
    refine hQ _ S (store_fin p w hv hone seqk ⟨_, hn⟩ (fun b o hb e => ?_) (fun y hy => ?_) fwd (.loc hk hn (by simp))) seqk ⟨fun y u hne H => fwd hne H, .loc hk hn (by simp)⟩ ⟨_, .inl rfl, hs⟩
    · obtain ⟨o', e'⟩ := p.old b o hb e
      exact ⟨o', hs.extBut b o' (fun z => by rw [z, p.locG] at e; cases e) e'⟩
    · obtain ⟨c, u, h1, h2, h3, h4, h5⟩ := p.cells y hy
      exact ⟨c, u, h1, h2, h3, h4, cellk h5⟩
  · have hk := kindOf_of hE hx
    obtain ⟨c, v₀, hc, hcX, hcG, hcB, hcell⟩ := p.cells x hk
    obtain ⟨oc, hoc, hocd⟩ := id hcell
    refine wpAny_storeName_cell hE.kind hk hc hcell fun h' hv' hs => ?_
    obtain ⟨S, w⟩ := store_core (tk := s.toks) p hs hcX hcG hcB (fun o e xs n q => by rw [hoc] at e; cases e; rw [hocd] at q; cases q) (fun o vs e q => by rw [hoc] at e; cases e; rw [hocd] at q; cases q)
      (fun o e => by obtain ⟨o', e', hd'⟩ := hv'; exact ⟨o', e', (fun vs q => by rw [hd'] at q; cases q), fun es m q => by rw [hoc] at e; cases e; rw [hocd] at q; cases q⟩)
    have seqk : ∀ b o, (∃ xs n, o.data = .seq xs n) → s.heap.get? b = some o → h'.get? b = some o := fun b o ⟨xs, n, q⟩ e => hs.extBut b o (fun z => by rw [z, hoc] at e; cases e; rw [hocd] at q; cases q) e
    have hn' : h'.Ns env.locals m := hns.sameBut hs (fun z => by rw [z, hoc] at hL; cases hL; rw [hocd] at hLd; cases hLd)
    have fwd : ∀ {y : Str} {u : Value}, y ≠ x → Holds cx g env s.heap y u → Holds cx g env h' y u := fun hne H => by
      cases H with
      | loc hk' hn'' hv'' => exact .loc hk' hn' (by rw [← hn''.agree hns]; exact hv'')
      | cell hk' hc' hX hg hv'' =>
        obtain ⟨o, e, hd⟩ := hv''
        exact .cell hk' hc' hX hg ⟨o, hs.extBut _ o (fun z => hne (hE.apart _ _ _ (z ▸ hc') hc)) e, hd⟩
    refine hQ _ S (store_fin p w hv hone seqk ⟨_, hn'⟩ (fun b o hb e => ?_) (fun y hy => ?_) fwd (.cell (.inl hk) hc hcX (fun _ => hcG) hv')) seqk ⟨fun y u hne H => fwd hne H, .cell (.inl hk) hc hcX (fun _ => hcG) hv'⟩ ⟨c, .inr ⟨hk, hc⟩, hs⟩
    · obtain ⟨o', e'⟩ := p.old b o hb e
      exact ⟨o', hs.extBut b o' (fun z => by rw [z, hcG] at e; cases e) e'⟩
    · obtain ⟨c', u, h1, h2, h3, h4, h5⟩ := p.cells y hy
      by_cases hcc : c' = c
      · exact ⟨c', _, h1, h2, h3, h4, hcc ▸ hv'⟩
      · obtain ⟨o, e, hd⟩ := h5
        exact ⟨c', u, h1, h2, h3, h4, ⟨o, hs.extBut _ o hcc e, hd⟩⟩
theorem store_pt {x : Str} {v : Value} {sl : Sl} (hE : EnvOk sc env) (p : Pt cx g A env Γ k N s) (hx : sc.lookup x = some .local ∨ sc.lookup x = some .cell) (hv : SlIn cx g s.heap N v sl)
    (hone : ∀ l, sl = .own l → ∀ y vy ly, y ≠ x → Γ.lookup y = some (.own ly) → Holds cx g env s.heap y vy → vy ≠ v) {Q : Unit → Shared → Prop}
    (hQ : ∀ s', StepL cx g N s N s' → Pt cx g A env ((x, sl) :: Γ) k N s' → (∀ b o, (∃ xs n, o.data = .seq xs n) → s.heap.get? b = some o → s'.heap.get? b = some o) → (∀ y u, y ≠ x → Holds cx g env s.heap y u → Holds cx g env s'.heap y u) ∧ Holds cx g env s'.heap x v → Q () s') {E : Value → Shared → Prop} : wpAny (model cx.prog cx.w) A (storeName env x v) Q E s :=
  store_pt' hE p hx hv hone fun s' a b c d _ => hQ s' a b c d
end

/-! ### judgements -/
structure ExecN (cx : Cx) (n : Nat) (sc : Nms) (Γ : Gam) (k : Int) (st : Stmt) (Γ' : Gam) (k' : Int) : Prop where
  run : ∀ g A env N s, Room n A → EnvOk sc env → Pt cx g A env Γ k N s → ∀ Q : Flow → Shared → Prop,
    (∀ N' s', StepL cx g N s N' s' → Pt cx g A env Γ' k' N' s' → Q .next s') → wpAny (model cx.prog cx.w) A (exec st env) Q (fun _ _ => False) s
structure ExecsN (cx : Cx) (n : Nat) (sc : Nms) (Γ : Gam) (k : Int) (st : List Stmt) (Γ' : Gam) (k' : Int) : Prop where
  run : ∀ g A env N s, Room n A → EnvOk sc env → Pt cx g A env Γ k N s → ∀ Q : Flow → Shared → Prop,
    (∀ N' s', StepL cx g N s N' s' → Pt cx g A env Γ' k' N' s' → Q .next s') → wpAny (model cx.prog cx.w) A (execs st env) Q (fun _ _ => False) s
structure ExecR (cx : Cx) (n : Nat) (sc : Nms) (Γ : Gam) (k : Int) (st : Stmt) (d : Dat) (k' : Int) : Prop where
  run : ∀ g A env N s, Room n A → EnvOk sc env → Pt cx g A env Γ k N s → ∀ Q : Flow → Shared → Prop,
    (∀ v N' s', StepL cx g N s N' s' → Wd cx A k' N' s' → DatIn N' v d → Q (.ret v) s') → wpAny (model cx.prog cx.w) A (exec st env) Q (fun _ _ => False) s
structure ExecsR (cx : Cx) (n : Nat) (sc : Nms) (Γ : Gam) (k : Int) (st : List Stmt) (d : Dat) (k' : Int) : Prop where
  run : ∀ g A env N s, Room n A → EnvOk sc env → Pt cx g A env Γ k N s → ∀ Q : Flow → Shared → Prop,
    (∀ v N' s', StepL cx g N s N' s' → Wd cx A k' N' s' → DatIn N' v d → Q (.ret v) s') → wpAny (model cx.prog cx.w) A (execs st env) Q (fun _ _ => False) s

section
variable {cx : Cx} {n : Nat} {sc : Nms} {Γ Γ' Γ₁ Γ₂ : Gam} {k k' k₁ k₂ : Int} {st : Stmt} {rest : List Stmt} {d : Dat}

theorem xs_nil : ExecsN cx n sc Γ k [] Γ k := by
  refine ⟨fun g A env N s hA hE p Q hQ => ?_⟩
  exact wpAny_execs_nil (hQ N s p.reflL p)
theorem xs_next (h : ExecN cx n sc Γ k st Γ₁ k₁) (h2 : ExecsN cx n sc Γ₁ k₁ rest Γ₂ k₂) : ExecsN cx n sc Γ k (st :: rest) Γ₂ k₂ := by
  refine ⟨fun g A env N s hA hE p Q hQ => ?_⟩
  refine wpAny_execs_cons (h.run g A env N s hA hE p _ fun N₁ s₁ S₁ p₁ => ?_)
  exact h2.run g A env N₁ s₁ hA hE p₁ _ fun N₂ s₂ S₂ p₂ => hQ N₂ s₂ (S₁.trans S₂) p₂
theorem xr_next (h : ExecN cx n sc Γ k st Γ₁ k₁) (h2 : ExecsR cx n sc Γ₁ k₁ rest d k₂) : ExecsR cx n sc Γ k (st :: rest) d k₂ := by
  refine ⟨fun g A env N s hA hE p Q hQ => ?_⟩
  refine wpAny_execs_cons (h.run g A env N s hA hE p _ fun N₁ s₁ S₁ p₁ => ?_)
  exact h2.run g A env N₁ s₁ hA hE p₁ _ fun v N₂ s₂ S₂ p₂ hv => hQ v N₂ s₂ (S₁.trans S₂) p₂ hv
theorem xr_ret (h : ExecR cx n sc Γ k st d k₁) : ExecsR cx n sc Γ k (st :: rest) d k₁ := by
  refine ⟨fun g A env N s hA hE p Q hQ => ?_⟩
  exact wpAny_execs_cons (h.run g A env N s hA hE p _ fun v N₁ s₁ S₁ p₁ hv => hQ v N₁ s₁ S₁ p₁ hv)
theorem sr_return {e : Expr} {pos : Pos} (h : EvalTo cx n sc Γ k e d k₁) : ExecR cx n sc Γ k (.Return (some e) pos) d k₁ := by
  refine ⟨fun g A env N s hA hE p Q hQ => ?_⟩
  exact wpAny_Return_some (h.run g A env N s hA hE p _ fun v N₁ s₁ S₁ p₁ hv => hQ v N₁ s₁ (S₁.toL p) p₁.toWd hv)
theorem sn_if_t {t : Expr} {b o : List Stmt} {pos : Pos} (ht : TestTo cx n sc Γ k t true k₁) (h : ExecsN cx n sc Γ k₁ b Γ₂ k₂) : ExecN cx n sc Γ k (.If t b o pos) Γ₂ k₂ := by
  refine ⟨fun g A env N s hA hE p Q hQ => ?_⟩
  refine wpAny_If (ht.run g A env N s hA hE p _ fun N₁ s₁ S₁ p₁ => ?_)
  exact h.run g A env N₁ s₁ hA hE p₁ _ fun N₂ s₂ S₂ p₂ => hQ N₂ s₂ ((S₁.toL p).trans S₂) p₂
theorem sn_if_f {t : Expr} {b o : List Stmt} {pos : Pos} (ht : TestTo cx n sc Γ k t false k₁) (h : ExecsN cx n sc Γ k₁ o Γ₂ k₂) : ExecN cx n sc Γ k (.If t b o pos) Γ₂ k₂ := by
  refine ⟨fun g A env N s hA hE p Q hQ => ?_⟩
  refine wpAny_If (ht.run g A env N s hA hE p _ fun N₁ s₁ S₁ p₁ => ?_)
  exact h.run g A env N₁ s₁ hA hE p₁ _ fun N₂ s₂ S₂ p₂ => hQ N₂ s₂ ((S₁.toL p).trans S₂) p₂
theorem sr_if_t {t : Expr} {b o : List Stmt} {pos : Pos} (ht : TestTo cx n sc Γ k t true k₁) (h : ExecsR cx n sc Γ k₁ b d k₂) : ExecR cx n sc Γ k (.If t b o pos) d k₂ := by
  refine ⟨fun g A env N s hA hE p Q hQ => ?_⟩
  refine wpAny_If (ht.run g A env N s hA hE p _ fun N₁ s₁ S₁ p₁ => ?_)
  exact h.run g A env N₁ s₁ hA hE p₁ _ fun v N₂ s₂ S₂ p₂ hv => hQ v N₂ s₂ ((S₁.toL p).trans S₂) p₂ hv
theorem sr_if_f {t : Expr} {b o : List Stmt} {pos : Pos} (ht : TestTo cx n sc Γ k t false k₁) (h : ExecsR cx n sc Γ k₁ o d k₂) : ExecR cx n sc Γ k (.If t b o pos) d k₂ := by
  refine ⟨fun g A env N s hA hE p Q hQ => ?_⟩
  refine wpAny_If (ht.run g A env N s hA hE p _ fun N₁ s₁ S₁ p₁ => ?_)
  exact h.run g A env N₁ s₁ hA hE p₁ _ fun v N₂ s₂ S₂ p₂ hv => hQ v N₂ s₂ ((S₁.toL p).trans S₂) p₂ hv

/-- fewer names told -/
noncomputable def Sub (Γ Γ' : Gam) : Prop := ∀ x sl, Γ'.lookup x = some sl → Γ.lookup x = some sl
theorem Pt.weak {g : Heap} {A : Around} {env : Env} {N : Ledg} {s : Shared} (p : Pt cx g A env Γ k N s) (h : Sub Γ Γ') : Pt cx g A env Γ' k N s :=
  { p with see := fun x sl hx => p.see x sl (h x sl hx), one := fun x y vx vy lx ly hx hy => p.one x y vx vy lx ly (h x _ hx) (h y _ hy) }
theorem xs_weak (h : ExecsN cx n sc Γ k rest Γ₁ k₁) (hs : Sub Γ₁ Γ₂) : ExecsN cx n sc Γ k rest Γ₂ k₁ := by
  refine ⟨fun g A env N s hA hE p Q hQ => ?_⟩
  exact h.run g A env N s hA hE p _ fun N₁ s₁ S₁ p₁ => hQ N₁ s₁ S₁ (p₁.weak hs)

theorem sn_assign {x : Str} {px pos : Pos} {e : Expr} (hx : sc.lookup x = some .local ∨ sc.lookup x = some .cell) (h : EvalTo cx n sc Γ k e d k₁)
    (hs : ∀ env, swapsWith e (some (.Name x px)) pos.line env = pure false := by intro _; rfl) : ExecN cx n sc Γ k (.Assign [.Name x px] e pos) ((x, .val d) :: Γ) k₁ := by
  refine ⟨fun g A env N s hA hE p Q hQ => ?_⟩
  refine wpAny_Assign_Name (h.run g A env N s hA hE p _ fun v N₁ s₁ S₁ p₁ hv => ?_) (hs env)
  exact store_pt hE p₁ hx (.val hv) (fun l q => by cases q) fun s₂ S₂ p₂ _ _ => hQ N₁ s₂ ((S₁.toL p).trans S₂) p₂
theorem sn_assign_own {x : Str} {px pos : Pos} {e : Expr} {l : List Dat} (hx : sc.lookup x = some .local ∨ sc.lookup x = some .cell) (h : EvalOwn cx n sc Γ k e l k₁)
    (hs : ∀ env, swapsWith e (some (.Name x px)) pos.line env = pure false := by intro _; rfl) : ExecN cx n sc Γ k (.Assign [.Name x px] e pos) ((x, .own l) :: Γ) k₁ := by
  refine ⟨fun g A env N s hA hE p Q hQ => ?_⟩
  refine wpAny_Assign_Name (h.run g A env N s hA hE p _ fun a vs c N₁ s₁ S₁ p₁ hg hd hne hf => ?_) (hs env)
  have haX : a ∉ cx.X := p.toWd.fresh_notX hf
  have haG : g.get? a = none := by
    cases e : g.get? a with
    | none => rfl
    | some o => obtain ⟨o', e'⟩ := p.old a o haX e; rw [hf] at e'; cases e'
  have haB : cx.base.get? a = none := by
    cases e : cx.base.get? a with
    | none => rfl
    | some o => have := p.stays _ _ e; rw [hf] at this; cases this
  refine store_pt hE p₁ hx (.own hg hd hne haX haG haB) (fun l _ y vy ly hyx hy Hy q => ?_) fun s₂ S₂ p₂ _ _ => hQ N₁ s₂ ((S₁.toL p).trans S₂) p₂
  obtain ⟨u, Hu, Su⟩ := p.see y _ hy
  have := holds_unique Hy (Hu.kp S₁.kp p.locX)
  subst this
  subst q
  cases Su with
  | own e' _ _ _ _ _ => rw [hf] at e'; cases e'
end
end Mine
set_option maxRecDepth 4000
namespace Mine
open PySem PySem.W PyProof.Rows PySem.Calls PySem.Spec

section
variable {cx : Cx} {n : Nat} {sc : Nms} {Γ Γ' Γ₁ Γ₂ : Gam} {k k' k₁ k₂ : Int} {st : Stmt} {rest : List Stmt} {d : Dat}

/-! ### pairs -/
theorem step_unpack {A : Around} {N : Ledg} {s : Shared} (p : Wd cx A k N s) {h' : Heap} (he : Heap.ExtBut s.heap.objs.size s.heap h') : Step cx N s N { s with heap := h' } ∧ BoxOk cx h' k := by
  have hk : ∀ b o, s.heap.get? b = some o → h'.get? b = some o := fun b o e => he b o (Nat.ne_of_lt (Heap.lt_size e)) e
  have S := Step.grown (N' := []) (tk := s.toks) p hk (fun q hq => by cases hq)
  exact ⟨S, p.box.of_keeps hk⟩
theorem unpack_of {A : Around} {s : Shared} {t : Addr} {items : Array Value} {m : Nat} {Q : List Value → Shared → Prop} {E : Value → Shared → Prop} (hh : A.handled = none) (ht : s.heap.IsTuple t items) (hm : m = items.size)
    (h : ∀ h', Heap.ExtBut s.heap.objs.size s.heap h' → Q items.toList { s with heap := h' }) : wpAny (model cx.prog cx.w) A (unpackItems (.ref t) m none) Q E s := by
  subst hm; exact wpAny_unpackItems_tuple hh ht h
theorem two_items {N : Ledg} {t : Addr} {d₁ d₂ : Dat} {vs : List Value} (h : DatAll N vs [d₁, d₂]) : ∃ v₁ v₂, vs = [v₁, v₂] ∧ DatIn N v₁ d₁ ∧ DatIn N v₂ d₂ := by
  cases h with | cons h1 r => cases r with | cons h2 r => cases r; exact ⟨_, _, rfl, h1, h2⟩

theorem sn_unpack2 {a b : Str} {pa pb tp pos : Pos} {c : Nat} {e : Expr} {d₁ d₂ : Dat} (ha : sc.lookup a = some .local ∨ sc.lookup a = some .cell) (hb : sc.lookup b = some .local ∨ sc.lookup b = some .cell)
    (h : EvalTo cx n sc Γ k e (.tuple [d₁, d₂]) k₁) (hs : ∀ env, swapsWithSole [.Tuple [.Name a pa, .Name b pb] c tp] e pos.line env = pure false := by intro _; rfl)
    (hw : ∀ env, EnvOk sc env → swappedStores [.Tuple [.Name a pa, .Name b pb] c tp] e env = pure none := by intro _ _; rfl) :
    ExecN cx n sc Γ k (.Assign [.Tuple [.Name a pa, .Name b pb] c tp] e pos) ((b, .val d₂) :: (a, .val d₁) :: Γ) k₁ := by
  refine ⟨fun g A env N s hA hE p Q hQ => ?_⟩
  refine Assign_Tuple (h.run g A env N s hA hE p _ fun v N₁ s₁ S₁ p₁ hv => ?_) (hs env) (hw env hE)
  cases hv with
  | @tuple t vs c' _ hm hds =>
    obtain ⟨v₁, v₂, rfl, h1, h2⟩ := two_items (t := t) hds
    show wpAny _ A (do standAt tp; unpack (.ref t) (assignEach [.Name a pa, .Name b pb] env)) _ _ _
    refine wpAny_bind (wpAny_standAt ?_)
    show wpAny _ A (do assignInOrder _ (← holding [.ref t] (unpackItems (.ref t) 2 none))) _ _ _
    have ht : s₁.heap.IsTuple t [v₁, v₂].toArray := ⟨_, (p₁.led _ hm).1, rfl, c', rfl⟩
    refine wpAny_bind (wpAny_holding (unpack_of hA.1 ht rfl fun h' he => ?_))
    obtain ⟨S₂, hb₂⟩ := step_unpack p₁.toWd he
    have p₂ := p₁.step S₂ hb₂
    show wpAny _ A (do holding [v₂] (assign (.Name a pa) env v₁); (do holding [] (assign (.Name b pb) env v₂); pure ())) _ _ _
    refine wpAny_bind (wpAny_holding (assign_Name (store_pt hE p₂ ha (.val h1) (fun l q => by cases q) fun s₃ S₃ p₃ _ _ => ?_)))
    refine wpAny_bind (wpAny_holding (assign_Name (store_pt hE p₃ hb (.val h2) (fun l q => by cases q) fun s₄ S₄ p₄ _ _ => ?_)))
    exact wpAny_pure (hQ N₁ s₄ ((((S₁.toL p).trans (S₂.toL p₁)).trans S₃).trans S₄) p₄)

theorem swapped_pair {env : Env} {a b : Str} {pa pb tp vp : Pos} {c c' : Nat} {e₁ e₂ : Expr} (hE : EnvOk sc env) (ha : sc.lookup a = some .local) (hb : sc.lookup b = some .local) (hl : (pa.line == pb.line) = true) (hne : (a == b) = false)
    (hst : ∀ e ∈ [e₁, e₂], ∀ x q, e ≠ .Starred x q) (hf : [e₁, e₂].all (foldedForSure 8) = false) (hc : [e₁, e₂].all (constantsAlone 8) = false) :
    swappedStores [.Tuple [.Name a pa, .Name b pb] c tp] (.Tuple [e₁, e₂] c' vp) env = pure (some [a, b]) := by
  have e1 := kindOf_of hE ha
  have e2 := kindOf_of hE hb
  have e3 : env.blockKind = .function := by unfold Env.blockKind; rw [hE.kind]; rfl
  have hl' : pb.line = pa.line := (beq_iff_eq.mp hl).symm
  have hne' : (b == a) = false := by rw [beq_eq_false_iff_ne] at hne ⊢; exact hne.symm
  have h1 : ¬ b = a := by simpa using hne'
  have s1 := hst e₁ (.head _)
  have s2 := hst e₂ (.tail _ (.head _))
  unfold swappedStores
  simp only [e3, List.length_cons, List.length_nil, List.any_cons, List.any_nil, Bool.or_false, List.filterMap_cons, List.filterMap_nil, e1, e2, hl', List.head?_cons, Option.map_some, Option.getD_some, Expr.pos, beq_self_eq_true, Bool.and_self, if_true, hf, hc, bne_self_eq_false, Bool.not_true, Bool.false_or, Bool.or_self, Bool.true_or]
  simp only [Bool.false_eq_true, if_false]
  rw [if_neg (by simp [List.eraseDups_cons, h1])]

theorem sn_swap2 {a b : Str} {pa pb tp vp pos : Pos} {c c' : Nat} {e₁ e₂ : Expr} {d₁ d₂ : Dat} (ha : sc.lookup a = some .local) (hb : sc.lookup b = some .local)
    (h1 : EvalTo cx n sc Γ k e₁ d₁ k₁) (h2 : EvalTo cx n sc Γ k₁ e₂ d₂ k₂) (hl : (pa.line == pb.line) = true := by rfl) (hne : (a == b) = false := by rfl)
    (hst : ∀ e ∈ [e₁, e₂], ∀ x q, e ≠ .Starred x q := by intro e he x q; (repeat' (cases he with | head => (intro h; cases h) | tail _ he => _)); cases he) (hf : [e₁, e₂].all (foldedForSure 8) = false := by rfl) (hc : [e₁, e₂].all (constantsAlone 8) = false := by rfl)
    (hs1 : ∀ env, starEach [e₁, e₂] env = (false, eval e₁ env) :: starEach [e₂] env := by intro _; exact starE_cons (by intro _ _ h; cases h)) (hs2 : ∀ env, starEach [e₂] env = (false, eval e₂ env) :: starEach [] env := by intro _; exact starE_cons (by intro _ _ h; cases h)) :
    ExecN cx n sc Γ k (.Assign [.Tuple [.Name a pa, .Name b pb] c tp] (.Tuple [e₁, e₂] c' vp) pos) ((a, .val d₁) :: (b, .val d₂) :: Γ) k₂ := by
  refine ⟨fun g A env N s hA hE p Q hQ => ?_⟩
  refine Assign_Tuple_swapped (names := [a, b]) ((ev_tuple (ea_cons h1 (ea_cons h2 ea_nil hs2) hs1) (by simp)).run g A env N s hA hE p _ fun v N₁ s₁ S₁ p₁ hv => ?_) rfl (swapped_pair hE ha hb hl hne hst hf hc)
  cases hv with
  | @tuple t vs c' _ hm hds =>
    obtain ⟨v₁, v₂, rfl, h1, h2⟩ := two_items (t := t) hds
    have ht : s₁.heap.IsTuple t [v₁, v₂].toArray := ⟨_, (p₁.led _ hm).1, rfl, c', rfl⟩
    refine unpack_of hA.1 ht rfl fun h' he => ?_
    obtain ⟨S₂, hb₂⟩ := step_unpack p₁.toWd he
    have p₂ := p₁.step S₂ hb₂
    show wpAny _ A (do holding [v₁] (bindName env b v₂); (do holding [] (bindName env a v₁); pure ())) _ _ _
    refine wpAny_bind (wpAny_holding (wpAny_bindName (store_pt hE p₂ (.inl hb) (.val h2) (fun l q => by cases q) fun s₃ S₃ p₃ _ _ => ?_)))
    refine wpAny_bind (wpAny_holding (wpAny_bindName (store_pt hE p₃ (.inl ha) (.val h1) (fun l q => by cases q) fun s₄ S₄ p₄ _ _ => ?_)))
    exact wpAny_pure (hQ N₁ s₄ ((((S₁.toL p).trans (S₂.toL p₁)).trans S₃).trans S₄) p₄)

theorem Step.pushed {A : Around} {N : Ledg} {s : Shared} (p : Wd cx A k N s) (o : Obj) : Step cx N s N { s with heap := s.heap.push o } ∧ BoxOk cx (s.heap.push o) k :=
  ⟨Step.grown (N' := []) (tk := s.toks) p (fun b o e => Heap.get?_push_of_some _ e) (fun q hq => by cases hq), p.box.of_keeps fun b o e => Heap.get?_push_of_some _ e⟩

theorem own_sl {g : Heap} {A : Around} {env : Env} {N N₁ : Ledg} {s s₁ : Shared} {a : Addr} {vs : List Value} {c : Nat} {l : List Dat} (p : Pt cx g A env Γ k N s) (hf : s.heap.get? a = none) (hg : s₁.heap.get? a = some (listOf vs.toArray c)) (hd : DatAll N₁ vs l) (hne : ∀ q ∈ N₁, q.1 ≠ a) :
    SlIn cx g s₁.heap N₁ (.ref a) (.own l) := by
  have haX : a ∉ cx.X := p.toWd.fresh_notX hf
  refine .own hg hd hne haX ?_ ?_
  · cases e : g.get? a with
    | none => rfl
    | some o => obtain ⟨o', e'⟩ := p.old a o haX e; rw [hf] at e'; cases e'
  · cases e : cx.base.get? a with
    | none => rfl
    | some o => have := p.stays _ _ e; rw [hf] at this; cases this
/-- two fresh lists, each to its name -/
theorem sn_swap2_own {a b : Str} {pa pb tp vp pos : Pos} {c c' : Nat} {e₁ e₂ : Expr} {l₁ l₂ : List Dat} (ha : sc.lookup a = some .local) (hb : sc.lookup b = some .local)
    (hΓ : ∀ x l, Γ.lookup x ≠ some (.own l))
    (h1 : EvalOwn cx n sc Γ k e₁ l₁ k₁) (h2 : EvalOwn cx n sc Γ k₁ e₂ l₂ k₂) (hl : (pa.line == pb.line) = true := by rfl) (hne : (a == b) = false := by rfl)
    (hst : ∀ e ∈ [e₁, e₂], ∀ x q, e ≠ .Starred x q := by intro e he x q; (repeat' (cases he with | head => (intro h; cases h) | tail _ he => _)); cases he) (hf : [e₁, e₂].all (foldedForSure 8) = false := by rfl) (hc : [e₁, e₂].all (constantsAlone 8) = false := by rfl)
    (hs1 : ∀ env, starEach [e₁, e₂] env = (false, eval e₁ env) :: starEach [e₂] env := by intro _; exact starE_cons (by intro _ _ h; cases h)) (hs2 : ∀ env, starEach [e₂] env = (false, eval e₂ env) :: starEach [] env := by intro _; exact starE_cons (by intro _ _ h; cases h)) :
    ExecN cx n sc Γ k (.Assign [.Tuple [.Name a pa, .Name b pb] c tp] (.Tuple [e₁, e₂] c' vp) pos) ((a, .own l₁) :: (b, .own l₂) :: Γ) k₂ := by
  refine ⟨fun g A env N s hA hE p Q hQ => ?_⟩
  refine Assign_Tuple_swapped (names := [a, b]) (Tuple_ (spliced_more (h1.run g A env N s hA hE p _ fun a₁ vs₁ c₁ N₁ s₁ S₁ p₁ hg₁ hd₁ hn₁ hf₁ => spliced_more (h2.run g A env N₁ s₁ hA hE p₁ _ fun a₂ vs₂ c₂ N₂ s₂ S₂ p₂ hg₂ hd₂ hn₂ hf₂ => spliced_none ?_) (hs2 env)) (hs1 env))) rfl (swapped_pair hE ha hb hl hne hst hf hc)
  obtain ⟨S₃, hb₃⟩ := Step.pushed p₂.toWd { cls := .type "tuple", data := .seq [Value.ref a₁, Value.ref a₂].toArray }
  have p₃ := p₂.step S₃ hb₃
  refine wpAny_newObj_type ?_ (by show [Value.ref a₁, Value.ref a₂].toArray.size ≤ sizeLine; exact (by decide : 2 ≤ sizeLine))
  have ht : (s₂.heap.push { cls := .type "tuple", data := .seq [Value.ref a₁, Value.ref a₂].toArray }).IsTuple s₂.heap.objs.size [Value.ref a₁, Value.ref a₂].toArray := ⟨_, Heap.get?_push_size _ rfl, rfl, 0, rfl⟩
  refine unpack_of hA.1 ht rfl fun h' he => ?_
  obtain ⟨S₄, hb₄⟩ := step_unpack p₃.toWd he
  have p₄ := p₃.step S₄ hb₄
  have ga₁ : s₂.heap.get? a₁ = some (listOf vs₁.toArray c₁) := S₂.kp.get (p.toWd.fresh_notX hf₁) hg₁ (by intro _ _ q; cases q)
  have ne12 : a₁ ≠ a₂ := fun q => by rw [q, hf₂] at hg₁; cases hg₁
  have sl₁ : SlIn cx g h' N₂ (.ref a₁) (.own l₁) := (((own_sl p hf₁ hg₁ hd₁ hn₁).step S₂).step S₃).step S₄
  have sl₂ : SlIn cx g h' N₂ (.ref a₂) (.own l₂) := ((own_sl p₁ hf₂ hg₂ hd₂ hn₂).step S₃).step S₄
  show wpAny _ A (do holding [Value.ref a₁] (bindName env b (.ref a₂)); (do holding [] (bindName env a (.ref a₁)); pure ())) _ _ _
  refine wpAny_bind (wpAny_holding (wpAny_bindName (store_pt hE p₄ (.inl hb) sl₂ (fun l q y vy ly hy hy' => absurd hy' (hΓ y ly)) fun s₅ S₅ p₅ sk₅ hk₅ => ?_)))
  have sl₁' : SlIn cx g s₅.heap N₂ (.ref a₁) (.own l₁) := by
    cases sl₁ with
    | own e d f hX l hB => exact .own (sk₅ _ _ ⟨_, _, rfl⟩ e) d f hX l hB
  refine wpAny_bind (wpAny_holding (wpAny_bindName (store_pt hE p₅ (.inl ha) sl₁' (fun l q y vy ly hy hy' Hy e => ?_) fun s₆ S₆ p₆ _ _ => ?_)))
  · rw [List.lookup_cons] at hy'
    cases hyb : y == b with
    | true =>
      have : y = b := eq_of_beq hyb
      subst this
      obtain ⟨u, Hu, Su⟩ := p₅.see y _ (by rw [List.lookup_cons, hyb])
      have e1 := holds_unique Hy Hu
      subst e1
      -- y holds a₂
      subst e
      have e2 := holds_unique Hu hk₅.2
      exact ne12 (Value.ref.inj e2)
    | false => rw [hyb] at hy'; exact absurd hy' (hΓ y ly)
  · exact wpAny_pure (hQ N₂ s₆ ((((((S₁.toL p).trans (S₂.toL p₁)).trans (S₃.toL p₂)).trans (S₄.toL p₃)).trans S₅).trans S₆) p₆)
end
end Mine
set_option maxRecDepth 4000
namespace Mine
open PySem PySem.W PyProof.Rows PySem.Calls PySem.Spec

section
variable {cx : Cx} {n : Nat} {sc : Nms} {Γ Γ' Γ₁ Γ₂ : Gam} {k k' k₁ k₂ : Int} {st : Stmt} {rest : List Stmt} {d : Dat}

/-! ### owned lists -/
/-- the list that the name x alone holds has turned -/
theorem own_fin {g : Heap} {A : Around} {env : Env} {N : Ledg} {s : Shared} {x : Str} {a : Addr} {l l' : List Dat} {vs' : List Value} {c' : Nat} {h' : Heap} {tk : Nat}
    (p : Pt cx g A env Γ k N s) (hx : Γ.lookup x = some (.own l)) (Hx : Holds cx g env s.heap x (.ref a)) (hs : Heap.SameBut a s.heap h') (hg' : h'.get? a = some (listOf vs'.toArray c')) (hd' : DatAll N vs' l') :
    StepL cx g N s N { s with heap := h', toks := tk } ∧ Pt cx g A env ((x, .own l') :: Γ) k N { s with heap := h', toks := tk } := by
  obtain ⟨v, Hv, Sv⟩ := p.see x _ hx
  have := holds_unique Hx Hv
  subst this
  cases Sv with
  | @own _ vs c _ hg hd hN haX haG haB =>
    have st : cx.base.StaysIn h' := fun b o e => hs.extBut b o (fun q => by rw [q, haB] at e; cases e) (p.stays b o e)
    have S : StepL cx g N s N { s with heap := h', toks := tk } := ⟨.of_keeps fun b o hb e => hs.extBut b o (fun q => by obtain ⟨_, o', e'⟩ := hb; rw [q, haG] at e'; cases e') e,
      fun b o vs hb e hd => hs.extBut b o (fun q => by rw [q, hg] at e; cases e; cases hd) e, st, fun b hb ⟨o, e⟩ => ⟨o, hs.extBut b o (fun q => haX (q ▸ hb)) e⟩, rfl, rfl, fun _ h => h, fun _ h => .inl h⟩
    obtain ⟨m, hns⟩ := p.hasNs
    obtain ⟨oL, es, ep, hL, hLd, hLr⟩ := id hns
    have neL : env.locals ≠ a := fun q => by rw [q, hg] at hL; cases hL; cases hLd
    have hns' : h'.Ns env.locals m := hns.sameBut hs neL
    have cellk : ∀ {c : Addr} {u : Option Value}, s.heap.IsCell c u → h'.IsCell c u := fun ⟨o, e, hd⟩ => ⟨o, hs.extBut _ o (fun z => by rw [z, hg] at e; cases e; cases hd) e, hd⟩
    have fwd : ∀ {y : Str} {u : Value}, Holds cx g env s.heap y u → Holds cx g env h' y u := fun H => by
      cases H with
      | loc hk' hn' hv' => exact .loc hk' hns' (by rw [← hn'.agree hns]; exact hv')
      | cell hk' hc hX hg hv' => exact .cell hk' hc hX hg (cellk hv')
    have bwd : ∀ {y : Str} {u : Value} {sl : Sl}, Γ.lookup y = some sl → Holds cx g env h' y u → Holds cx g env s.heap y u := fun hy H => by
      obtain ⟨w, Hw, _⟩ := p.see _ _ hy
      have := holds_unique H (fwd Hw)
      exact this ▸ Hw
    have w : Wd cx A k N { s with heap := h', toks := tk } := by
      refine ⟨p.ok, st, fun b hb => ?_, fun q hq => ⟨hs.extBut _ _ (hN q hq) (p.led q hq).1, (p.led q hq).2⟩, p.led₀, p.lin, ?_, ?_⟩
      · obtain ⟨o, e⟩ := p.xs b hb
        exact ⟨o, hs.extBut b o (fun q => haX (q ▸ hb)) e⟩
      · obtain ⟨⟨tk', n', e⟩, vs₁, m₁, e2, i⟩ := p.box
        refine p.box.touch (T := [a]) (fun b o hb e => hs.extBut b o (fun q => hb (by rw [q]; exact .head _)) e) (fun h => ?_) (fun h => ?_)
        · rcases List.mem_cons.mp h with h | h
          · exact haX (h ▸ p.ok.bAX)
          · cases h
        · rcases List.mem_cons.mp h with h | h
          · obtain ⟨o, ho⟩ := p.lin
            exact hN _ ho h
          · cases h
      · obtain ⟨frs, h1, h2, h3⟩ := p.frs
        refine ⟨frs, h1, ?_, fun e he b hb => ⟨(h3 e he b hb).1, ?_⟩⟩
        rotate_left
        · obtain ⟨o, es, m, e1, e2⟩ := (h3 e he b hb).2
          exact ⟨o, es, m, hs.extBut b o (fun q => by rw [q, hg] at e1; cases e1; cases e2) e1, e2⟩
        clear h1
        induction frs with
        | nil => trivial
        | cons e r ih =>
          obtain ⟨hk, ⟨L, o, hf, hn, ho, hd⟩, hr⟩ := h2
          refine ⟨hk, ?_, ih hr fun e he => h3 e (.tail _ he)⟩
          by_cases hLa : L = a
          · subst hLa
            exact ⟨L, _, hf, hn, hg', fun vs q => by cases q⟩
          · exact ⟨L, o, hf, hn, hs.extBut L o hLa ho, hd⟩
    refine ⟨S, { toWd := w, hasNs := ⟨_, hns'⟩, locX := p.locX, locB := p.locB, locG := p.locG, old := ?_, cells := ?_, see := ?_, one := ?_ }⟩
    · intro b o hb e
      obtain ⟨o', e'⟩ := p.old b o hb e
      exact ⟨o', hs.extBut b o' (fun z => by rw [z, haG] at e; cases e) e'⟩
    · intro y hy
      obtain ⟨c, u, h1, h2, h3, h4, h5⟩ := p.cells y hy
      exact ⟨c, u, h1, h2, h3, h4, cellk h5⟩
    · intro y sl' hy
      rw [List.lookup_cons] at hy
      cases hb : y == x with
      | true =>
        rw [hb] at hy; cases hy; rw [eq_of_beq hb]
        exact ⟨_, fwd Hx, .own hg' hd' hN haX haG haB⟩
      | false =>
        rw [hb] at hy
        obtain ⟨u, Hu, Su⟩ := p.see y sl' hy
        refine ⟨u, fwd Hu, ?_⟩
        cases Su with
        | val h => exact .val h
        | own e d f hX l hB => exact .own (hs.extBut _ _ (fun q => p.one y x _ _ _ _ hy hx Hu Hx (beq_eq_false_iff_ne.mp hb) (by rw [q])) e) d f hX l hB
        | box => exact .box
    · intro y z vy vz ly lz hy hz Hy Hz hne
      have key : ∀ {y : Str} {ly : List Dat}, List.lookup y ((x, Sl.own l') :: Γ) = some (.own ly) → ∃ l₁, Γ.lookup y = some (.own l₁) := fun {y ly} hy => by
        rw [List.lookup_cons] at hy
        cases hb : y == x with
        | true => rw [eq_of_beq hb]; exact ⟨_, hx⟩
        | false => rw [hb] at hy; exact ⟨_, hy⟩
      obtain ⟨l₁, e₁⟩ := key hy
      obtain ⟨l₂, e₂⟩ := key hz
      exact p.one y z _ _ _ _ e₁ e₂ (bwd e₁ Hy) (bwd e₂ Hz) hne

theorem append_exact {A : Around} {E : Value → Shared → Prop} {s : Shared} {l : Addr} {items : Array Value} {c : Nat} {x : Value} {Q : Value → Shared → Prop} (hl : s.heap.get? l = some { cls := .type "list", data := .seq items c }) (hz : items.size ≤ sizeLine)
    (h : ∀ h', Heap.SameBut l s.heap h' → h'.get? l = some { cls := .type "list", data := .seq (items.push x) (c + 1) } → Q .none { s with heap := h' }) : wpAny (model cx.prog cx.w) A (call (.builtin "list.append") [.ref l, x]) Q E s :=
  append_at hl h (hsz := hz)

theorem sn_append {x : Str} {px cp pos : Pos} {app : Pos} {e : Expr} {l : List Dat} (hx : Γ.lookup x = some (.own l)) (he : EvalTo cx n sc Γ k e d k₁) (hz : l.length ≤ 10000)
    (hm : ∀ env, eval (.Call (.Attribute (.Name x px) "append" app) [e] [] cp) env = (do
      let ov ← eval (.Name x px) env
      standAt app.atName
      let (f, first) ← holding [ov] (getMethod ov "append" (do return (← importBound (.Name x px) env).getD true))
      callWith cp f first (backTo cp (starEach [e] env)) []) := by intro _; rfl)
    (hs : ∀ env, starEach [e] env = (false, eval e env) :: starEach [] env := by intro _; exact starE_cons (by intro _ _ h; cases h))
    (hi : ∀ env, EnvOk sc env → swapsWith (.Call (.Attribute (.Name x px) "append" app) [e] [] cp) none pos.line env = pure false := by intro _ _; rfl)
    (hd : (x == ("__debug__" : Str)) = false := by rfl) (hd2 : (x == ("__classdict__" : Str)) = false := by rfl) :
    ExecN cx n sc Γ k (.Expr (.Call (.Attribute (.Name x px) "append" app) [e] [] cp) pos) ((x, .own (l ++ [d])) :: Γ) k₁ := by
  refine ⟨fun g A env N s hA hE p Q hQ => ?_⟩
  have hin : interactive env = false := by unfold interactive; rw [hE.kind]; rfl
  refine wpAny_Expr ?_ hin (hi env hE)
  obtain ⟨v, Hv, Sv⟩ := p.see x _ hx
  cases Sv with
  | @own a vs c _ hg hdd hN haX haG haB =>
    refine MethodCall_ (load_holds hE Hv hd hd2 (Calls.getMethod_list_append hg rfl rfl ?_)) (hm env)
    rw [hs]
    refine Calls.callWith_builtin rfl (Calls.evalArgs_plain (spliced_cons (he.run g A env N s hA hE p _ fun w N₁ s₁ S₁ p₁ hw => spliced_nil ?_)))
    have hg₁ : s₁.heap.get? a = some (listOf vs.toArray c) := S₁.kp.get haX hg (by intro _ _ q; cases q)
    refine append_exact hg₁ (by simp only [List.size_toArray]; rw [hdd.length]; exact Nat.le_trans hz (by decide)) fun h' hs' hg' => ?_
    have e' : vs.toArray.push w = (vs ++ [w]).toArray := by simp
    rw [e'] at hg'
    obtain ⟨S₂, p₂⟩ := own_fin (tk := s₁.toks) p₁ hx (Hv.kp S₁.kp p.locX) hs' hg' ((hdd.mono S₁.sub).append (.one hw))
    exact hQ N₁ _ ((S₁.toL p).trans S₂) p₂

theorem ev_item_own {x : Str} {px pos : Pos} {slice : Expr} {l : List Dat} {i : Int} (hx : Γ.lookup x = some (.own l)) (hi : EvalTo cx n sc Γ k slice (.int i) k₂)
    (h0 : 0 ≤ i) (h1 : i < 2 ^ 60) (hd : l[i.toNat]? = some d) (hp : ∀ o i, subscripted slice false o i = operate [o, i] (getItem o i) := by intro _ _; rfl)
    (hdb : (x == ("__debug__" : Str)) = false := by rfl) (hd2 : (x == ("__classdict__" : Str)) = false := by rfl) : EvalTo cx n sc Γ k (.Subscript (.Name x px) slice pos) d k₂ := by
  refine ⟨fun g A env N s hA hE p Q hQ => ?_⟩
  obtain ⟨v, Hv, Sv⟩ := p.see x _ hx
  cases Sv with
  | @own a vs c _ hg hdd hN haX haG haB =>
    refine Subscript_ (load_holds hE Hv hdb hd2 ?_)
    refine hi.run g A env N s hA hE p _ fun u N₂ s₂ S₂ p₂ hu => ?_
    cases hu with
    | int _ t =>
      obtain ⟨y, hy, hyd⟩ := DatAll.at (hdd.mono S₂.sub) hd
      have hL : s₂.heap.IsList a vs.toArray := ⟨_, S₂.kp.get haX hg (by intro _ _ q; cases q), rfl, c, rfl⟩
      exact tail_any hL.typeIs slot_list_getitem.lookup (wpAny_getItem_list hL h0 (by omega) (by simpa using hy) (hQ y N₂ s₂ S₂ p₂ hyd)) (hp _ _)

/-- an owned list is shared from now on -/
theorem Pt.freeze {g : Heap} {A : Around} {env : Env} {N : Ledg} {s : Shared} {x : Str} {l : List Dat} (p : Pt cx g A env Γ k N s) (hx : Γ.lookup x = some (.own l)) :
    ∃ q, StepL cx g N s (q :: N) s ∧ Pt cx g A env ((x, .val (.list l)) :: Γ) k (q :: N) s := by
  obtain ⟨v, Hv, Sv⟩ := p.see x _ hx
  cases Sv with
  | @own a vs c _ hg hdd hN haX haG haB =>
    refine ⟨(a, listOf vs.toArray c), ⟨.refl _ _, fun _ _ _ _ e _ => e, p.stays, fun _ _ h => h, rfl, rfl, fun _ h => .tail _ h, fun q hq => ?_⟩, { p with led := ?_, led₀ := fun q hq => .tail _ (p.led₀ q hq), lin := let ⟨o, h⟩ := p.lin; ⟨o, .tail _ h⟩, see := ?_, one := ?_ }⟩
    · cases hq with
      | head => exact .inr haG
      | tail _ h => exact .inl h
    · intro q hq
      cases hq with
      | head => exact ⟨hg, ⟨_, _, rfl⟩, haX⟩
      | tail _ h => exact p.led q h
    · intro y sl hy
      rw [List.lookup_cons] at hy
      cases hb : y == x with
      | true =>
        rw [hb] at hy; cases hy; rw [eq_of_beq hb]
        exact ⟨_, Hv, .val (.list (.head _) (hdd.mono fun q h => .tail _ h))⟩
      | false =>
        rw [hb] at hy
        obtain ⟨u, Hu, Su⟩ := p.see y sl hy
        refine ⟨u, Hu, ?_⟩
        cases Su with
        | val h => exact .val (h.mono fun q h => .tail _ h)
        | own e d f hX l hB =>
          refine .own e (d.mono fun q h => .tail _ h) (fun q hq => ?_) hX l hB
          cases hq with
          | head => exact fun z => p.one y x _ _ _ _ hy hx Hu Hv (beq_eq_false_iff_ne.mp hb) (by rw [← z])
          | tail _ h => exact f q h
        | box => exact .box
    · intro y z vy vz ly lz hy hz Hy Hz hne
      rw [List.lookup_cons] at hy hz
      cases hb : y == x with
      | true => rw [hb] at hy; cases hy
      | false =>
        cases hc : z == x with
        | true => rw [hc] at hz; cases hz
        | false =>
          rw [hb] at hy; rw [hc] at hz
          exact p.one y z _ _ _ _ hy hz Hy Hz hne
theorem xr_freeze {x : Str} {l : List Dat} {sts : List Stmt} (hx : Γ.lookup x = some (.own l)) (h : ExecsR cx n sc ((x, .val (.list l)) :: Γ) k sts d k₁) : ExecsR cx n sc Γ k sts d k₁ := by
  refine ⟨fun g A env N s hA hE p Q hQ => ?_⟩
  obtain ⟨q, S, p'⟩ := p.freeze hx
  exact h.run g A env _ s hA hE p' _ fun v N₁ s₁ S₁ w₁ hv => hQ v N₁ s₁ (S.trans S₁) w₁ hv
theorem xr_weak {sts : List Stmt} (hs : Sub Γ Γ') (h : ExecsR cx n sc Γ' k sts d k₁) : ExecsR cx n sc Γ k sts d k₁ := by
  refine ⟨fun g A env N s hA hE p Q hQ => ?_⟩
  exact h.run g A env _ s hA hE (p.weak hs) _ hQ

/-! x[i] = e, x owned -/
theorem setItem_exact {A : Around} {E : Value → Shared → Prop} {s : Shared} {l : Addr} {items : Array Value} {c : Nat} {i : Int} {t : Tok} {v : Value} {Q : Unit → Shared → Prop} (hl : s.heap.get? l = some { cls := .type "list", data := .seq items c })
    (h0 : 0 ≤ i) (hfit : i < 2 ^ 63) (hn : i < items.size)
    (hQ : ∀ h', Heap.SameBut l s.heap h' → h'.get? l = some { cls := .type "list", data := .seq (items.setIfInBounds i.toNat v) c } → Q () { s with heap := h' }) :
    wpAny (model cx.prog cx.w) A (setItem (.ref l) (.int i t) v) Q E s := by
  have hL : s.heap.IsList l items := ⟨_, hl, rfl, c, rfl⟩
  unfold setItem
  try with_reducible refine wpAny_holding ?_
  first | refine wpAny_bind (wpAny_pure ?_) | skip
  refine wpAny_bind (wpAny_sequenceKey hL.typeIs (by decide) ?_)
  refine wpAny_bind (wpAny_callSpecial?_slot (name := Str.ofString "__setitem__") hL.typeIs slot_list_setitem
    (wpAny_call_entry slot_list_setitem hL.typeIs entry_list_setitem ?_ (args_list_setitem _ _ _)))
  show wpAny _ _ (Builtin.List.listSubscript? (.int i t) >>= _) _ _ s
  refine wpAny_bind (wpAny_listSubscript_int (fitsIndex_of h0 hfit) ?_)
  clear hfit
  obtain ⟨j, rfl⟩ := Int.eq_ofNat_of_zero_le h0
  have hj : j < items.size := by omega
  have hx' : items[j]? = some items[j] := Array.getElem?_eq_getElem hj
  show wpAny _ _ ((seqItemAt l j >>= fun r => pure (r.map (j, ·))) >>= _) _ _ s
  refine wpAny_bind (wpAny_bind (wpAny_seqItemAt hl rfl (wpAny_pure ?_)))
  rw [hx']
  show wpAny _ _ (setSeqItemAt l j v >>= _) _ _ s
  have hfin : (s.heap.update l (Obj.mapSeq (·.setIfInBounds j v))).get? l = some { cls := .type "list", data := .seq (items.setIfInBounds j v) c } := by
    rw [Heap.get?_update_self _ hl (by simp [Obj.mapSeq]; rfl)]
    simp [Obj.mapSeq]
  refine wpAny_bind (wpAny_setSeqItemAt hl rfl ?_)
  first
    | exact wpAny_bind (wpAny_pure (wpAny_pure ⟨.none, rfl, wpAny_pure (hQ _ (Heap.SameBut.update ..) hfin)⟩))
    | exact wpAny_pure ⟨.none, rfl, wpAny_pure (hQ _ (Heap.SameBut.update ..) hfin)⟩

theorem DatAll.set {N : Ledg} {v : Value} {d : Dat} (h : DatIn N v d) : ∀ {vs : List Value} {ds : List Dat} (i : Nat), DatAll N vs ds → DatAll N (vs.set i v) (ds.set i d)
  | _, _, _, .nil => .nil
  | _, _, 0, .cons _ r => .cons h r
  | _, _, i + 1, .cons h' r => .cons h' (DatAll.set h i r)
theorem sn_setitem_own {x : Str} {px sp pos : Pos} {slice e : Expr} {l : List Dat} {i : Int} (hx : Γ.lookup x = some (.own l)) (he : EvalTo cx n sc Γ k e d k₁) (hi : EvalTo cx n sc Γ k₁ slice (.int i) k₂) (h0 : 0 ≤ i) (h1 : i < 2 ^ 60) (hlt : i < l.length)
    (hs : ∀ env, swapsWith e (some (.Subscript (.Name x px) slice sp)) pos.line env = pure false := by intro _; rfl)
    (hdb : (x == ("__debug__" : Str)) = false := by rfl) (hd2 : (x == ("__classdict__" : Str)) = false := by rfl) :
    ExecN cx n sc Γ k (.Assign [.Subscript (.Name x px) slice sp] e pos) ((x, .own (l.set i.toNat d)) :: Γ) k₂ := by
  refine ⟨fun g A env N s hA hE p Q hQ => ?_⟩
  refine wpAny_Assign_Subscript (he.run g A env N s hA hE p _ fun v N₁ s₁ S₁ p₁ hv => ?_) (hs env)
  obtain ⟨w, Hw, Sw⟩ := p₁.see x _ hx
  cases Sw with
  | @own a vs c _ hg hdd hN haX haG haB =>
    refine load_holds hE Hw hdb hd2 ?_
    refine hi.run g A env N₁ s₁ hA hE p₁ _ fun u N₂ s₂ S₂ p₂ hu => ?_
    cases hu with
    | int _ t =>
      have hg₂ : s₂.heap.get? a = some (listOf vs.toArray c) := S₂.kp.get haX hg (by intro _ _ q; cases q)
      refine setItem_exact hg₂ h0 (by omega) (by simp only [List.size_toArray]; rw [hdd.length]; exact hlt) fun h' hs' hg' => ?_
      have e' : vs.toArray.setIfInBounds i.toNat v = (vs.set i.toNat v).toArray := by simp
      rw [e'] at hg'
      obtain ⟨S₃, p₃⟩ := own_fin (tk := s₂.toks) p₂ hx (Hw.kp S₂.kp p.locX) hs' hg' (DatAll.set (hv.mono S₂.sub) _ (hdd.mono S₂.sub))
      exact hQ N₂ _ ((((S₁.trans S₂)).toL p).trans S₃) p₃
end
end Mine
set_option maxRecDepth 4000
namespace Mine
open PySem PySem.W PyProof.Rows PySem.Calls PySem.Spec

/-! ### a call of a function of the file -/
theorem bindL_other (kd : Str → Option NameKind) : ∀ (bs : List (Str × Value)) (m : Str → Option Value) (x : Str), x ∉ bs.map (·.1) → bindL kd bs m x = m x
  | [], _, _, _ => rfl
  | (y, v) :: r, m, x, h => by
    unfold bindL
    rw [bindL_other kd r _ x (fun hx => h (.tail _ hx))]
    split
    · exact if_neg fun (e : x = y) => h (e ▸ .head _)
    · rfl
theorem bindL_at (kd : Str → Option NameKind) : ∀ (bs : List (Str × Value)) (m : Str → Option Value) (x : Str) (v : Value), (bs.map (·.1)).Nodup → kd x = some .local → bs.lookup x = some v → bindL kd bs m x = some v
  | [], _, _, _, _, _, h => by cases h
  | (y, u) :: r, m, x, v, hn, hk, h => by
    unfold bindL
    rw [List.lookup_cons] at h
    obtain ⟨h1, h2⟩ := List.nodup_cons.mp hn
    cases hb : x == y with
    | true =>
      rw [hb] at h; cases h
      have e : x = y := eq_of_beq hb
      subst e
      rw [bindL_other kd r _ x h1, if_pos hk]
      exact if_pos rfl
    | false => rw [hb] at h; exact bindL_at kd r _ x v h2 hk h
theorem bindC_other (kd : Str → Option NameKind) : ∀ (bs : List (Str × Value)) (m : Str → Option Value) (x : Str), x ∉ bs.map (·.1) → bindC kd bs m x = m x
  | [], _, _, _ => rfl
  | (y, v) :: r, m, x, h => by
    unfold bindC
    rw [bindC_other kd r _ x (fun hx => h (.tail _ hx))]
    split
    · rfl
    · exact if_neg fun (e : x = y) => h (e ▸ .head _)
theorem bindC_at (kd : Str → Option NameKind) : ∀ (bs : List (Str × Value)) (m : Str → Option Value) (x : Str) (v : Value), (bs.map (·.1)).Nodup → kd x ≠ some .local → bs.lookup x = some v → bindC kd bs m x = some v
  | [], _, _, _, _, _, h => by cases h
  | (y, u) :: r, m, x, v, hn, hk, h => by
    unfold bindC
    rw [List.lookup_cons] at h
    obtain ⟨h1, h2⟩ := List.nodup_cons.mp hn
    cases hb : x == y with
    | true =>
      rw [hb] at h; cases h
      have e : x = y := eq_of_beq hb
      subst e
      rw [bindC_other kd r _ x h1, if_neg hk]
      exact if_pos rfl
    | false => rw [hb] at h; exact bindC_at kd r _ x v h2 hk h

noncomputable def FnHas (cx : Cx) (f : Str) (params : Arguments) (body : List Stmt) (scope : Scope) : Prop :=
  ∃ a o name qual doc pm an cdv ct, cx.mg f = some (.ref a) ∧ cx.base.get? a = some o ∧ o.data = .func (fnOf name qual params body scope .none .none doc pm an cdv ct) ∧ cx.base.CodeRec cdv qual

section
variable {cx : Cx} {n : Nat} {sc : Nms} {Γ Γ' : Gam} {k k' k₁ k₂ : Int}

theorem AAll.len {N : Ledg} : ∀ {vs : List Value} {as : List Sl}, AAll cx N vs as → vs.length = as.length
  | _, _, .nil => rfl
  | _, _, .cons _ r => by simp [AAll.len r]
theorem AAll.look {N : Ledg} {x : Str} {sl : Sl} : ∀ {vs : List Value} {as : List Sl} {xs : List Str}, AAll cx N vs as → (xs.zip as).lookup x = some sl → ∃ v, (xs.zip vs).lookup x = some v ∧ AIn cx N v sl
  | _, _, xs, .nil, h => by cases xs <;> cases h
  | _, _, [], .cons _ _, h => by cases h
  | v :: vs, a :: as, y :: xs, .cons hv r, h => by
    rw [List.zip_cons_cons, List.lookup_cons] at h ⊢
    cases hb : x == y with
    | true => rw [hb] at h; cases h; exact ⟨v, rfl, hv⟩
    | false => rw [hb] at h; exact AAll.look r h
theorem AIn.noOwn {N : Ledg} {v : Value} {l : List Dat} (h : AIn cx N v (.own l)) : False := by cases h

theorem cells_in {x : Str} {c : Addr} : ∀ {cs : List (Str × Addr)}, cs.lookup x = some c → (x, c) ∈ cs := fun h => PySem.mem_of_lookup h

theorem call_core' {A : Around} {N : Ledg} {s : Shared} {vs : List Value} {as : List Sl} {xs : List Str} {params : Arguments} {body : List Stmt} {scope : Scope} {name qual : Str} {doc pm cdv ct : Value} {an : Option Addr} {a : Addr} {o : Obj}
    {Q E : Value → Shared → Prop} (hA : Room (n + 1) A) (p : Wd cx A k N s) (hv : AAll cx N vs as) (hg : cx.base.get? a = some o) (hd : o.data = .func (fnOf name qual params body scope .none .none doc pm an cdv ct)) (hcd : cx.base.CodeRec cdv qual)
    (hb : bindArgs (fnOf name qual params body scope .none .none doc pm an cdv ct) ⟨vs, []⟩ = pure (xs.zip vs)) (hlen : xs.length = as.length) (hnd : xs.Nodup) (hks : ∀ x ∈ xs, scope.names.lookup x = some .local ∨ scope.names.lookup x = some .cell)
    (hk : scope.kind = .function) (hco : scope.isCoroutine = false) (hgen : scope.isGenerator = false)
    (h : ∀ env s₁, Room n (A.deeper env) → EnvOk scope.names env → Pt cx s.heap (A.deeper env) env (xs.zip as) k N s₁ → (∀ b o, s.heap.get? b = some o → s₁.heap.get? b = some o) → s₁.gens = s.gens → s₁.os = s.os → env.code = cdv →
      wpAny (model cx.prog cx.w) (A.deeper env) (execs body env) (fun f s' => Q (match f with | .ret v => v | _ => .none) s')
        (fun e s' => wpAny (model cx.prog cx.w) (A.deeper env) (leaving env e) (fun _ s'' => E e s'') (fun e' s'' => E e' s'') s') s₁) :
    wpAny (model cx.prog cx.w) A (call (.ref a) vs) Q E s := by
  have hz : (xs.zip vs).map (·.1) = xs := by
    rw [← List.unzip_fst, List.unzip_zip (by rw [hv.len, hlen])]
  refine PySem.wpAny_call (codeAny_call_cells (fd := fnOf name qual params body scope .none .none doc pm an cdv ct) (body := body) (Nat.lt_of_lt_of_le (by have := hA.2.1; omega : A.depth < 600) (by decide)) (p.stays _ _ hg) hd (p.ok.nolimit.keeps p.stays) (hcd.keeps p.stays) rfl hb rfl (fun y hy => ?_) (fun s₁ X => ?_) hco hgen hk)
  · have hy' : y.1 ∈ xs := hz ▸ List.mem_map_of_mem hy
    exact (hks _ hy').imp id fun e => ⟨e, cellsFrom_some _ _ _ (.inl e)⟩
  · obtain ⟨h₁, tk, rfl, hkeep⟩ := X.done
    have hkind : ∀ x, (callEnvC (fnOf name qual params body scope .none .none doc pm an cdv ct) s.heap.objs.size a).kindOf x = scope.names.lookup x := fun x => rfl
    have hnx : ∀ b, s.heap.get? b = none → b ∉ cx.X := fun b hb hx => by
      obtain ⟨o, e⟩ := p.xs b hx
      rw [hb] at e; cases e
    have hnb : ∀ b, s.heap.get? b = none → cx.base.get? b = none := fun b hb => by
      cases e : cx.base.get? b with
      | none => rfl
      | some o => have := p.stays b o e; rw [hb] at this; cases this
    have habove : ∀ x c, (callEnvC (fnOf name qual params body scope .none .none doc pm an cdv ct) s.heap.objs.size a).cells.lookup x = some c → s.heap.get? c = none := fun x c hc => by
      have hlt := X.above x c (cells_in hc)
      cases e : s.heap.get? c with
      | none => rfl
      | some o => exact absurd (Heap.lt_size e) (Nat.not_lt.mpr (Nat.le_of_lt hlt))
    obtain ⟨oL, es, ep, hL, hLd, hLr⟩ := id X.toInCall.ns
    refine h _ _ ⟨hA.1, ?_, ?_⟩ ⟨rfl, hk, rfl, rfl, fun x y c hx hy => name_of_addr X.apart (cells_in hx) (cells_in hy)⟩ ?_ hkeep rfl rfl rfl
    · have := hA.2.1; show A.depth + 1 + n < 600; omega
    · have := hA.2.2; show A.units + 3 + 20 * n < 9000; omega
    refine { ok := p.ok, stays := fun b o e => hkeep b o (p.stays b o e), xs := fun b hb => let ⟨o, e⟩ := p.xs b hb; ⟨o, hkeep b o e⟩, led := fun q hq => ⟨hkeep _ _ (p.led q hq).1, (p.led q hq).2⟩, led₀ := p.led₀, lin := p.lin, box := p.box.of_keeps hkeep, frs := ?_,
             hasNs := ⟨_, X.toInCall.ns⟩, locX := hnx _ (get_size _), locB := hnb _ (get_size _), locG := get_size _, old := fun b o _ e => ⟨o, hkeep b o e⟩, cells := fun x hx => ?_, see := fun x sl hx => ?_, one := fun x y vx vy lx ly hx hy _ _ _ => ?_ }
    · obtain ⟨frs, h1, h2, h3⟩ := p.frs
      refine ⟨callEnvC (fnOf name qual params body scope .none .none doc pm an cdv ct) s.heap.objs.size a :: frs, by show A.frames.map _ = _; rw [h1]; rfl, ⟨(fun q => by rw [show (callEnvC (fnOf name qual params body scope .none .none doc pm an cdv ct) s.heap.objs.size a).scope.kind = .function from hk] at q; cases q), ⟨_, oL, rfl, hnb _ (get_size _), hL, fun vs q => by rw [hLd] at q; cases q⟩, h2.of_keeps fun b o e _ => ⟨o, hkeep b o e, rfl⟩⟩, fun e he => ?_⟩
      rcases List.mem_cons.mp he with rfl | he
      · intro b hb; cases hb; exact ⟨hnx _ (get_size _), oL, es, ep, hL, hLd⟩
      · intro b hb
        obtain ⟨o, es, m, e1, e2⟩ := (h3 e he b hb).2
        exact ⟨(h3 e he b hb).1, o, es, m, hkeep b o e1, e2⟩
    · have hx' : scope.names.lookup x = some .cell := hx
      have hs := cellsFrom_some scope.names (s.heap.objs.size + 1) [] (.inl hx')
      obtain ⟨c, hc⟩ := Option.isSome_iff_exists.mp hs
      have hcn := habove x c hc
      exact ⟨c, _, hc, hnx _ hcn, hcn, hnb _ hcn, X.cell x c hc⟩
    · obtain ⟨v, hv', hin⟩ := hv.look hx
      have hxs : x ∈ xs := by
        have := mem_of_lookup' hx
        exact (List.of_mem_zip this).1
      refine ⟨v, ?_, ?_⟩
      · rcases hks x hxs with e | e
        · exact .loc e X.toInCall.ns (bindL_at _ _ _ _ _ (by rw [hz]; exact hnd) e hv')
        · obtain ⟨c, hc⟩ := Option.isSome_iff_exists.mp (cellsFrom_some scope.names (s.heap.objs.size + 1) [] (.inl e))
          have hcn := habove x c hc
          have hcell := X.cell x c hc
          rw [bindC_at _ _ _ x v (by rw [hz]; exact hnd) (by rw [hkind, e]; intro q; cases q) hv'] at hcell
          exact .cell (.inl e) hc (hnx _ hcn) (fun _ => hcn) hcell
      · cases hin with
        | val h => exact .val h
        | box => exact .box
    · obtain ⟨v, _, hin⟩ := hv.look hx
      exact hin.noOwn.elim

theorem call_core {A : Around} {N : Ledg} {s : Shared} {vs : List Value} {as : List Sl} {xs : List Str} {params : Arguments} {body : List Stmt} {scope : Scope} {name qual : Str} {doc pm cdv ct : Value} {an : Option Addr} {a : Addr} {o : Obj}
    {Q E : Value → Shared → Prop} (hA : Room (n + 1) A) (p : Wd cx A k N s) (hv : AAll cx N vs as) (hg : cx.base.get? a = some o) (hd : o.data = .func (fnOf name qual params body scope .none .none doc pm an cdv ct)) (hcd : cx.base.CodeRec cdv qual)
    (hb : bindArgs (fnOf name qual params body scope .none .none doc pm an cdv ct) ⟨vs, []⟩ = pure (xs.zip vs)) (hlen : xs.length = as.length) (hnd : xs.Nodup) (hks : ∀ x ∈ xs, scope.names.lookup x = some .local ∨ scope.names.lookup x = some .cell)
    (hk : scope.kind = .function) (hco : scope.isCoroutine = false) (hgen : scope.isGenerator = false)
    (h : ∀ env s₁, Room n (A.deeper env) → EnvOk scope.names env → Pt cx s.heap (A.deeper env) env (xs.zip as) k N s₁ → (∀ b o, s.heap.get? b = some o → s₁.heap.get? b = some o) → s₁.gens = s.gens → s₁.os = s.os →
      wpAny (model cx.prog cx.w) (A.deeper env) (execs body env) (fun f s' => Q (match f with | .ret v => v | _ => .none) s')
        (fun e s' => wpAny (model cx.prog cx.w) (A.deeper env) (leaving env e) (fun _ s'' => E e s'') (fun e' s'' => E e' s'') s') s₁) :
    wpAny (model cx.prog cx.w) A (call (.ref a) vs) Q E s :=
  call_core' hA p hv hg hd hcd hb hlen hnd hks hk hco hgen fun env s₁ a b c d e f _ => h env s₁ a b c d e f

theorem StepL.toStep {N N' : Ledg} {s s₁ s' : Shared} {A : Around} (hkeep : ∀ b o, s.heap.get? b = some o → s₁.heap.get? b = some o) (hg : s₁.gens = s.gens) (ho : s₁.os = s.os) (S : StepL cx s.heap N s₁ N' s') (w : Wd cx A k' N' s') : Step cx N s N' s' where
  kp := fun b o hb e => S.kp b o ⟨hb, o, e⟩ (hkeep b o e)
  stays := S.stays
  xs := fun a ha ⟨o, e⟩ => S.xs a ha ⟨o, hkeep a o e⟩
  gens := S.gens.trans hg
  os := S.os.trans ho
  led := w.led
  sub := S.sub
  new := S.new

/-- a return of a fresh list -/
structure ExecsO (cx : Cx) (n : Nat) (sc : Nms) (Γ : Gam) (k : Int) (st : List Stmt) (l : List Dat) (k' : Int) : Prop where
  run : ∀ g A env N s, Room n A → EnvOk sc env → Pt cx g A env Γ k N s → ∀ Q : Flow → Shared → Prop,
    (∀ a vs c N' s', StepL cx g N s N' s' → Wd cx A k' N' s' → s'.heap.get? a = some (listOf vs.toArray c) → DatAll N' vs l → (∀ p ∈ N', p.1 ≠ a) → s.heap.get? a = none → Q (.ret (.ref a)) s') → wpAny (model cx.prog cx.w) A (execs st env) Q (fun _ _ => False) s
theorem xo_return {e : Expr} {pos : Pos} {rest : List Stmt} {l : List Dat} (h : EvalOwn cx n sc Γ k e l k₁) : ExecsO cx n sc Γ k (.Return (some e) pos :: rest) l k₁ := by
  refine ⟨fun g A env N s hA hE p Q hQ => ?_⟩
  exact wpAny_execs_cons (wpAny_Return_some (h.run g A env N s hA hE p _ fun a vs c N₁ s₁ S₁ p₁ h1 h2 h3 h4 => hQ a vs c N₁ s₁ (S₁.toL p) p₁.toWd h1 h2 h3 h4))

variable {f : Str} {params : Arguments} {body : List Stmt} {scope : Scope} {as : List Sl} {xs : List Str} {d : Dat} {l : List Dat}
theorem call_to (hf : FnHas cx f params body scope)
    (hb : ∀ (name qual : Str) (doc pm cdv ct : Value) (an : Option Addr) (vs : List Value), vs.length = as.length → bindArgs (fnOf name qual params body scope .none .none doc pm an cdv ct) ⟨vs, []⟩ = pure (xs.zip vs)) (hlen : xs.length = as.length) (hnd : xs.Nodup) (hks : ∀ x ∈ xs, scope.names.lookup x = some .local ∨ scope.names.lookup x = some .cell)
    (hk : scope.kind = .function) (hco : scope.isCoroutine = false) (hgen : scope.isGenerator = false)
    (h : ExecsR cx n scope.names (xs.zip as) k body d k') : CallTo cx (n + 1) f as k d k' := by
  obtain ⟨a, o, name, qual, doc, pm, an, cdv, ct, h1, h2, h3, h4⟩ := hf
  refine ⟨a, ⟨h1, o, _, h2, h3⟩, fun A N s vs hA p hv Q hQ => ?_⟩
  refine call_core hA p hv h2 h3 h4 (hb _ _ _ _ _ _ _ vs hv.len) hlen hnd hks hk hco hgen fun env s₁ hA' hE p₁ hkeep hg ho => ?_
  refine wpAny_mono (h.run s.heap _ env N s₁ hA' hE p₁ (fun f s' => Q (match f with | .ret v => v | _ => .none) s') fun v N' s' S w hv' => ?_) (fun _ _ q => q) fun _ _ q => q.elim
  exact hQ v N' s' (S.toStep hkeep hg ho w) w.box hv'
theorem call_own (hf : FnHas cx f params body scope)
    (hb : ∀ (name qual : Str) (doc pm cdv ct : Value) (an : Option Addr) (vs : List Value), vs.length = as.length → bindArgs (fnOf name qual params body scope .none .none doc pm an cdv ct) ⟨vs, []⟩ = pure (xs.zip vs)) (hlen : xs.length = as.length) (hnd : xs.Nodup) (hks : ∀ x ∈ xs, scope.names.lookup x = some .local ∨ scope.names.lookup x = some .cell)
    (hk : scope.kind = .function) (hco : scope.isCoroutine = false) (hgen : scope.isGenerator = false)
    (h : ExecsO cx n scope.names (xs.zip as) k body l k') : CallOwn cx (n + 1) f as k l k' := by
  obtain ⟨a, o, name, qual, doc, pm, an, cdv, ct, h1, h2, h3, h4⟩ := hf
  refine ⟨a, ⟨h1, o, _, h2, h3⟩, fun A N s vs hA p hv Q hQ => ?_⟩
  refine call_core hA p hv h2 h3 h4 (hb _ _ _ _ _ _ _ vs hv.len) hlen hnd hks hk hco hgen fun env s₁ hA' hE p₁ hkeep hg ho => ?_
  refine wpAny_mono (h.run s.heap _ env N s₁ hA' hE p₁ (fun f s' => Q (match f with | .ret v => v | _ => .none) s') fun b vs' c N' s' S w e1 e2 e3 e4 => ?_) (fun _ _ q => q) fun _ _ q => q.elim
  refine hQ b vs' c N' s' (S.toStep hkeep hg ho w) w.box e1 e2 e3 ?_
  cases e : s.heap.get? b with
  | none => rfl
  | some o => have := hkeep b o e; rw [e4] at this; cases this
end
end Mine
set_option maxRecDepth 4000
namespace Mine
open PySem PySem.W PyProof.Rows PySem.Calls PySem.Spec

section
variable {cx : Cx} {n : Nat} {sc : Nms} {Γ Γ' Γ₁ Γ₂ : Gam} {k k' k₁ k₂ : Int} {st : Stmt} {rest : List Stmt} {d : Dat}

/-- an iterator of the loop's own has moved on -/
theorem touch_iter {g : Heap} {A : Around} {env : Env} {N N' : Ledg} {s s' : Shared} {I : Addr} {h' : Heap} {tk : Nat} (p : Pt cx g A env Γ k N' s') (S : StepL cx g N s N' s')
    (hI : ∃ o vs, s'.heap.get? I = some o ∧ o.data = .fields vs) (hX : I ∉ cx.X) (h0 : s.heap.get? I = none) (hg : g.get? I = none) (hB : cx.base.get? I = none)
    (hk : ∀ b o, b ∉ [I] → s'.heap.get? b = some o → h'.get? b = some o) : StepL cx g N s N' { s' with heap := h', toks := tk } ∧ Pt cx g A env Γ k N' { s' with heap := h', toks := tk } := by
  have hk : ∀ b o, b ≠ I → s'.heap.get? b = some o → h'.get? b = some o := fun b o hb => hk b o (fun q => by rcases List.mem_cons.mp q with q | q; exact hb q; cases q)
  obtain ⟨oI, vI, eI, dI⟩ := hI
  have hN : ∀ q ∈ N', q.1 ≠ I := fun q hq e => by
    obtain ⟨e1, ⟨xs, m, e2⟩, _⟩ := p.led q hq
    rw [e, eI] at e1; cases e1; rw [dI] at e2; cases e2
  have st : cx.base.StaysIn h' := fun b o e => hk b o (fun q => by rw [q, hB] at e; cases e) (p.stays b o e)
  obtain ⟨m, hns⟩ := p.hasNs
  obtain ⟨oL, es, ep, hL, hLd, hLr⟩ := id hns
  have neL : env.locals ≠ I := fun q => by rw [q, eI] at hL; cases hL; rw [dI] at hLd; cases hLd
  have hns' : h'.Ns env.locals m := hns.at' fun o e => hk _ _ neL e
  have cellk : ∀ {c : Addr} {u : Option Value}, s'.heap.IsCell c u → h'.IsCell c u := fun ⟨o, e, hd⟩ => ⟨o, hk _ o (fun z => by rw [z, eI] at e; cases e; rw [dI] at hd; cases hd) e, hd⟩
  have fwd : ∀ {y : Str} {u : Value}, Holds cx g env s'.heap y u → Holds cx g env h' y u := fun H => by
    cases H with
    | loc hk' hn' hv' => exact .loc hk' hns' (by rw [← hn'.agree hns]; exact hv')
    | cell hk' hc hX hg hv' => exact .cell hk' hc hX hg (cellk hv')
  have bwd : ∀ {y : Str} {u : Value} {sl : Sl}, Γ.lookup y = some sl → Holds cx g env h' y u → Holds cx g env s'.heap y u := fun hy H => by
    obtain ⟨w, Hw, _⟩ := p.see _ _ hy
    have := holds_unique H (fwd Hw)
    exact this ▸ Hw
  refine ⟨{ kp := fun b o hb e => ?_, flds := fun b o vs hb e hd => hk b o (fun q => by rw [q, h0] at e; cases e) (S.flds b o vs hb e hd), stays := st, xs := fun a ha he => ?_, gens := S.gens, os := S.os, sub := S.sub, new := S.new }, 
    { ok := p.ok, stays := st, xs := fun b hb => ?_, led := fun q hq => ⟨hk _ _ (hN q hq) (p.led q hq).1, (p.led q hq).2⟩, led₀ := p.led₀, lin := p.lin, box := ?_, frs := ?_,
      hasNs := ⟨m, hns'⟩, locX := p.locX, locB := p.locB, locG := p.locG, old := fun b o hb e => ?_, cells := fun y hy => ?_, see := fun y sl hy => ?_, one := fun y z vy vz ly lz hy hz Hy Hz hne => p.one y z _ _ _ _ hy hz (bwd hy Hy) (bwd hz Hz) hne }⟩
  · obtain ⟨sl, e1, f⟩ := S.kp b o hb e
    exact ⟨sl, hk b _ (fun q => by obtain ⟨_, o', e'⟩ := hb; rw [q, hg] at e'; cases e') e1, f⟩
  · obtain ⟨o, e⟩ := S.xs a ha he
    exact ⟨o, hk a o (fun q => hX (q ▸ ha)) e⟩
  · obtain ⟨o, e⟩ := p.xs b hb
    exact ⟨o, hk b o (fun q => hX (q ▸ hb)) e⟩
  · refine p.box.touch (T := [I]) (fun b o hb e => hk b o (fun q => hb (q ▸ .head _)) e) (fun h => ?_) (fun h => ?_)
    · rcases List.mem_cons.mp h with h | h
      · exact hX (h ▸ p.ok.bAX)
      · cases h
    · rcases List.mem_cons.mp h with h | h
      · obtain ⟨o, ho⟩ := p.lin
        exact hN _ ho h
      · cases h
  · obtain ⟨frs, h1, h2, h3⟩ := p.frs
    refine ⟨frs, h1, h2.of_keeps fun b o e hd => ⟨o, hk b o (fun q => by rw [q, eI] at e; cases e; exact hd _ dI) e, rfl⟩, fun e he b hb => ⟨(h3 e he b hb).1, ?_⟩⟩
    obtain ⟨o, es, m, e1, e2⟩ := (h3 e he b hb).2
    exact ⟨o, es, m, hk b o (fun q => by rw [q, eI] at e1; cases e1; rw [dI] at e2; cases e2) e1, e2⟩
  · obtain ⟨o', e'⟩ := p.old b o hb e
    exact ⟨o', hk b o' (fun z => by rw [z, hg] at e; cases e) e'⟩
  · obtain ⟨c, u, h1, h2, h3, h4, h5⟩ := p.cells y hy
    exact ⟨c, u, h1, h2, h3, h4, cellk h5⟩
  · obtain ⟨v, H, Hs⟩ := p.see y sl hy
    refine ⟨v, fwd H, ?_⟩
    cases Hs with
    | val h => exact .val h
    | @own a vs c l e d f hX' l' hB' => exact .own (hk _ _ (fun q => by rw [q, eI] at e; cases e; cases dI) e) d f hX' l' hB'
    | box => exact .box

theorem sn_for {x : Str} {px pos : Pos} {iter : Expr} {body : List Stmt} {items : List Dat} (I : Nat → Gam) (hx : sc.lookup x = some .local ∨ sc.lookup x = some .cell) (hi : IterTo cx n sc Γ k iter items k₁) (h0 : Sub Γ (I 0))
    (hb : ∀ i d, items[i]? = some d → ExecsN cx n sc ((x, .val d) :: I i) k₁ body (I (i + 1)) k₁) (hfs : ∀ env x, foldedSetIterable iter env x = pure x := by intro _ _; rfl) :
    ExecN cx n sc Γ k (.For (.Name x px) iter body [] pos) (I items.length) k₁ := by
  refine ⟨fun g A env N s hA hE p Q hQ => ?_⟩
  refine wpAny_For ?_ (hfs env)
  refine hi.run g A env N s hA hE p _ fun Ia fp P St N₁ s₁ S₁ p₁ W st0 hI0 hIX hfl hfp hP => ?_
  have hgI : g.get? Ia = none := by
    cases e : g.get? Ia with
    | none => rfl
    | some o => obtain ⟨o', e'⟩ := p.old Ia o hIX e; rw [hI0] at e'; cases e'
  have hBI : cx.base.get? Ia = none := by
    cases e : cx.base.get? Ia with
    | none => rfl
    | some o => have := p.stays _ _ e; rw [hI0] at this; cases this
  refine codeAny_forLoop (fun m s' => ∃ i N', m + i = items.length ∧ StepL cx g N s N' s' ∧ Pt cx g A env (I i) k₁ N' s' ∧ St i s'.heap ∧ (∀ q ∈ N₁, q ∈ N') ∧
      ∀ b o vs, b ≠ Ia → b ∉ cx.X → s₁.heap.get? b = some o → o.data = .fields vs → s'.heap.get? b = some o) (fun m s' hJ => ?_) items.length ⟨0, N₁, by simp, S₁.toL p, p₁.weak h0, st0, fun _ h => h, fun _ _ _ _ _ e _ => e⟩ (by intro _; rfl)
  obtain ⟨i, N', hm, S', p', st, hN', hF⟩ := hJ
  by_cases hlt : i < items.length
  · refine W.item i s' _ _ hlt st fun v h' tk hPv st' hkeep => ?_
    obtain ⟨S₂, p₂⟩ := touch_iter (tk := tk) p' S' (hfl i _ st) hIX hI0 hgI hBI hkeep
    obtain ⟨d, hd, hvd⟩ := hP i v hPv
    refine wpAny_assign_Name (store_pt hE p₂ hx (.val (hvd.mono hN')) (fun l q => by cases q) fun s₃ S₃ p₃ _ _ => ?_)
    refine wpAny_mono ((hb i d hd).run g A env N' s₃ hA hE p₃ _ fun N₄ s₄ S₄ p₄ => ?_) (fun _ _ q => q) fun _ _ q => q.elim
    have S34 := S₃.trans S₄
    refine ⟨m - 1, by omega, i + 1, N₄, by omega, S₂.trans S34, p₄, W.frame _ _ _ st' fun b hb' o e => ?_, fun q hq => S₄.sub q (hN' q hq), fun b o vs hbI hbX e hd => ?_⟩
    · rcases hfp b hb' with rfl | ⟨o', vs, e', hbX, hh⟩
      · obtain ⟨oI, vI, eI, dI⟩ := hfl _ _ st'
        rw [eI] at e; cases e
        exact S34.flds b o vI hIX eI dI
      · rcases hh with hd' | hm'
        · by_cases hbI : b = Ia
          · subst hbI
            obtain ⟨oI, vI, eI, dI⟩ := hfl _ _ st'
            rw [eI] at e; cases e
            exact S34.flds b o vI hIX eI dI
          · have e2 : h'.get? b = some o' := hkeep b o' (fun q => by rcases List.mem_cons.mp q with q | q; exact hbI q; cases q) (hF b o' vs hbI hbX e' hd')
            rw [e2] at e; cases e
            exact S34.flds b o vs hbX e2 hd'
        · have e2 := (p₂.led _ (hN' _ hm')).1
          have e3 := (p₄.led _ (S₄.sub _ (hN' _ hm'))).1
          dsimp only at e2 e3
          rw [e2] at e; cases e; exact e3
    · exact S34.flds b o vs hbX (hkeep b o (fun q => by rcases List.mem_cons.mp q with q | q; exact hbI q; cases q) (hF b o vs hbI hbX e hd)) hd
  · have hie : i = items.length := by omega
    subst hie
    refine W.done s' _ _ st fun h' tk hkeep => ?_
    obtain ⟨S₂, p₂⟩ := touch_iter (tk := tk) p' S' (hfl _ _ st) hIX hI0 hgI hBI hkeep
    exact wpAny_execs_nil (hQ N' _ S₂ p₂)

inductive WhileTo (cx : Cx) (n : Nat) (sc : Nms) (k : Int) (t : Expr) (body : List Stmt) : Nat → Gam → Gam → Prop
  | done {Γ : Gam} : TestTo cx n sc Γ k t false k → WhileTo cx n sc k t body 0 Γ Γ
  | step {m : Nat} {Γ Γ₁ Γ₂ : Gam} : TestTo cx n sc Γ k t true k → ExecsN cx n sc Γ k body Γ₁ k → WhileTo cx n sc k t body m Γ₁ Γ₂ → WhileTo cx n sc k t body (m + 1) Γ Γ₂

theorem sn_while {t : Expr} {body : List Stmt} {pos : Pos} {m : Nat} (h : WhileTo cx n sc k t body m Γ Γ') : ExecN cx n sc Γ k (.While t body [] pos) Γ' k := by
  refine ⟨fun g A env N s hA hE p Q hQ => ?_⟩
  refine wpAny_While ?_
  refine codeAny_whileLoop (fun m s' => ∃ Γ₁ N', StepL cx g N s N' s' ∧ Pt cx g A env Γ₁ k N' s' ∧ WhileTo cx n sc k t body m Γ₁ Γ') (fun m s' hJ => ?_) m ⟨Γ, N, p.reflL, p, h⟩
  obtain ⟨Γ₁, N', S, p', hw⟩ := hJ
  cases hw with
  | done ht =>
    refine wpAny_mono (ht.run g A env N' s' hA hE p' _ fun N₂ s₂ S₂ p₂ => ?_) (fun _ _ q => q) fun _ _ q => q.elim
    exact wpAny_execs_nil (hQ N₂ s₂ (S.trans (S₂.toL p')) p₂)
  | step ht hb hr =>
    rename_i m' Γ₂
    refine wpAny_mono (ht.run g A env N' s' hA hE p' (fun b s₂ => if b = true then _ else _) fun N₂ s₂ S₂ p₂ => ?_) (fun _ _ q => q) fun _ _ q => q.elim
    rw [if_pos rfl]
    refine wpAny_mono (hb.run g A env N₂ s₂ hA hE p₂ _ fun N₃ s₃ S₃ p₃ => ?_) (fun _ _ q => q) fun _ _ q => q.elim
    exact ⟨m', Nat.lt_succ_self _, Γ₂, N₃, (S.trans (S₂.toL p')).trans S₃, p₃, hr⟩

theorem sub_nil {Γ : Gam} : Sub Γ [] := fun x sl h => by cases h
theorem sub_cons {Γ Γ' : Gam} {x : Str} {sl : Sl} (h : Γ.lookup x = some sl) (h2 : Sub Γ Γ') : Sub Γ ((x, sl) :: Γ') := fun y sl' hy => by
  rw [List.lookup_cons] at hy
  cases hb : y == x with
  | true => rw [hb] at hy; cases hy; rw [eq_of_beq hb]; exact h
  | false => rw [hb] at hy; exact h2 y sl' hy
end
end Mine
namespace Mine

noncomputable abbrev Q := Int × Int
noncomputable abbrev L := Int × List Q
noncomputable def r0 : Q := (0, 1)
noncomputable def r1 : Q := (1, 1)
noncomputable def okI (a : Int) : Bool := Nat.blt a.natAbs 18446744073709551616
noncomputable def okQ (p : Q) : Bool := okI p.1 && okI p.2
noncomputable def okL {α : Type} (l : List α) : Bool := Nat.blt l.length 100
noncomputable def okN (m : Nat) : Bool := Nat.blt m 100
noncomputable def okZ (i : Int) : Bool := Nat.blt i.natAbs 100
noncomputable def nz (p : Q) : Bool := !(p.1 == 0 && p.2 == 1)
noncomputable def iter {σ : Type} (f : Nat → σ → Option σ) : Nat → σ → Option σ
  | 0, s => some s
  | m + 1, s => (iter f m s).bind (f m)
noncomputable def mapO {α β : Type} (f : α → Option β) : List α → Option (List β)
  | [] => some []
  | x :: r => (f x).bind fun y => (mapO f r).bind fun ys => some (y :: ys)
noncomputable def rat? (t b : Int) : Option Q := if b == 0 || !(Nat.blt b.natAbs (2 ^ 199)) then none else
  let g : Int := if decide (0 < b) then (Nat.gcd t.natAbs b.natAbs : Int) else 0 - (Nat.gcd t.natAbs b.natAbs : Int)
  some (t.fdiv g, b.fdiv g)
noncomputable def radd? (a b : Q) : Option Q := if okQ a && okQ b then rat? (a.1 * b.2 + b.1 * a.2) (a.2 * b.2) else none
noncomputable def rsub? (a b : Q) : Option Q := if okQ a && okQ b then rat? (a.1 * b.2 - b.1 * a.2) (a.2 * b.2) else none
noncomputable def rmul? (a b : Q) : Option Q := if okQ a then rat? (a.1 * b.1) (a.2 * b.2) else none
noncomputable def rdiv? (a b : Q) : Option Q := if okQ a then rat? (a.1 * b.2) (a.2 * b.1) else none
noncomputable def req? (a b : Q) : Option Bool := if okQ a && okQ b then some (a.1 * b.2 - b.1 * a.2 == 0) else none
noncomputable def cut? (a : List Q) (m : Nat) : Option (List Q) := if okL a && okN m then some (a.take m ++ List.replicate (m - a.length) r0) else none
noncomputable def sadd? (a b : List Q) : Option (List Q) := if !(okL a && okL b) then none else mapO (fun i => (a[i]?).bind fun x => (b[i]?).bind fun y => radd? x y) (List.range (min a.length b.length))
noncomputable def sscale? (c : Q) (a : List Q) : Option (List Q) := if okL a then mapO (rmul? c) a else none
noncomputable def mixed? (a b : List Q) (i : Nat) : Option Q := iter (fun j f => (a[j]?).bind fun x => (b[i - j]?).bind fun y => if nz x && nz y then (rmul? x y).bind fun z => radd? f z else some f) (i + 1) r0
noncomputable def smul? (a b : List Q) : Option (List Q) := if !(okL a && okL b) then none else mapO (mixed? a b) (List.range (min a.length b.length))
noncomputable def sinverse? (a : List Q) : Option (List Q) := (a[0]?).bind fun a0 => if nz a0 && okL a then
  iter (fun i f => (iter (fun j t => (a[j + 1]?).bind fun x => (f[i - (j + 1)]?).bind fun y => (rmul? x y).bind fun z => rsub? t z) i (if i == 0 then r1 else r0)).bind fun t =>
    (rdiv? t a0).bind fun q => some (f ++ [q])) a.length [] else none
noncomputable def sderive? (a : List Q) : Option (List Q) := if !(okL a) then none else mapO (fun (i : Nat) => (a[i + 1]?).bind fun x => rmul? (1 + (i : Int), 1) x) (List.range (a.length - 1))
noncomputable def sintegrate? (a : List Q) : Option (List Q) := if !(okL a) then none else (mapO (fun (i : Nat) => (a[i]?).bind fun x => rdiv? x ((i : Int) + 1, 1)) (List.range a.length)).bind fun r => some (r0 :: r)
noncomputable def need? (a : List Q) (q : Q) : Option Bool := if !(okL a) then none else match a with
  | [] => some true
  | x :: _ => req? x q
noncomputable def ssincos? (a : List Q) : Option (List Q × List Q) := (need? a r0).bind fun b => if b && okL a then
  iter (fun i f => (iter (fun j t => (a[j + 1]?).bind fun x => (rmul? (1 + (j : Int), 1) x).bind fun mv => (f.2[i - (j + 1)]?).bind fun y => (rmul? mv y).bind fun z => (radd? t.1 z).bind fun u =>
        (f.1[i - (j + 1)]?).bind fun y => (rmul? mv y).bind fun z => (rsub? t.2 z).bind fun v => some (u, v)) i (r0, r0)).bind fun t =>
    if i == 0 then some (f.1 ++ [r0], f.2 ++ [r1]) else (rdiv? t.1 ((i : Int), 1)).bind fun p => (rdiv? t.2 ((i : Int), 1)).bind fun q => some (f.1 ++ [p], f.2 ++ [q])) a.length ([], []) else none
noncomputable def satan? (a : List Q) : Option (List Q) := (need? a r0).bind fun b => if b && okL a then (smul? a a).bind fun sq => (sq[0]?).bind fun s0 => (radd? s0 r1).bind fun t0 => (sderive? a).bind fun d => (sinverse? (sq.set 0 t0)).bind fun v => (smul? d v).bind sintegrate? else none
noncomputable def spower? (a : List Q) (q : Q) : Option (List Q) := (need? a r1).bind fun b => if b && okL a then
  iter (fun i f => (iter (fun j t => (rmul? q (1 + (j : Int), 1)).bind fun u => (rsub? u ((i : Int) - (1 + (j : Int)), 1)).bind fun tm => (a[j + 1]?).bind fun x => (rmul? tm x).bind fun z => (f[i - (j + 1)]?).bind fun y => (rmul? z y).bind fun z => radd? t z) i r0).bind fun t =>
    if i == 0 then some (f ++ [r1]) else (rdiv? t ((i : Int), 1)).bind fun q => some (f ++ [q])) a.length [] else none
noncomputable def swhole? (a : List Q) (m : Nat) : Option (List Q) := if !(okL a) then none else (cut? [r1] a.length).bind fun f => swl m 5 f a
where swl : Nat → Nat → List Q → List Q → Option (List Q)
  | 0, _, f, _ => some f
  | _ + 1, 0, _, _ => none
  | m + 1, k + 1, f, b => (if (m + 1) % 2 == 1 then smul? f b else some f).bind fun f => (smul? b b).bind fun b => swl ((m + 1) / 2) k f b
noncomputable def lplain? (q : Q) (m : Nat) : Option L := if okN m then some (0, q :: List.replicate (m - 1) r0) else none
noncomputable def lmoved? (a : L) (low : Int) : Option L := if okL a.2 && okZ (a.1 - low) then some (low, List.replicate (a.1 - low).toNat r0 ++ a.2) else none
noncomputable def ladd? (a b : L) : Option L := let low := if b.1 < a.1 then b.1 else a.1
  (lmoved? a low).bind fun x => (lmoved? b low).bind fun y => (sadd? x.2 y.2).bind fun s => some (low, s)
noncomputable def lmul? (a b : L) : Option L := (smul? a.2 b.2).bind fun s => some (a.1 + b.1, s)
noncomputable def ltrim (low : Int) : List Q → L
  | [] => (low, [])
  | q :: r => if nz q then (low, q :: r) else ltrim (low + 1) r
noncomputable def ltrim? (a : L) : Option L := if okL a.2 then some (ltrim a.1 a.2) else none
noncomputable def linverse? (a : L) : Option L := (ltrim? a).bind fun t => match t.2 with
  | [] => none
  | x :: r => (sinverse? (x :: r)).bind fun s => some (0 - t.1, s)
noncomputable def lpowpos? (a : L) (m : Int) : Option L := if m ≤ 0 then none else (ltrim? a).bind fun t => if okI t.1 then (swhole? t.2 m.toNat).bind fun s => some (t.1 * m, s) else none
noncomputable def lpower? (a : L) (m : Int) : Option L := if m == 0 then none else if m < 0 then (linverse? a).bind fun b => lpowpos? b (0 - m) else lpowpos? a m
noncomputable def lcut? (a : L) (e : Nat) : Option (List Q) := (ltrim? a).bind fun t => if !(okL t.2 && okZ t.1 && okN e) then none else
  if t.2.length > 0 && t.1 < 0 then none else if t.1 + t.2.length < e then none else if t.1 ≥ 0 then some ((List.replicate t.1.toNat r0 ++ t.2).take e) else some (List.replicate e r0)
noncomputable def rootUp (n : Int) (k : Nat) : Nat → Int → Int → Option (Int × Int)
  | 0, _, _ => none
  | m + 1, lo, hi => if okI hi then if hi ^ k ≤ n then rootUp n k m hi (2 * hi) else some (lo, hi) else none
noncomputable def rootIn (n : Int) (k : Nat) : Nat → Int → Int → Option Int
  | 0, _, _ => none
  | m + 1, lo, hi => if 1 < hi - lo then let md := (lo + hi).fdiv 2
      if okI md then if md ^ k ≤ n then rootIn n k m md hi else rootIn n k m lo md else none else some lo
noncomputable def rootOf? (n : Int) (k : Nat) : Option Int := (rootUp n k 20 0 1).bind fun p => rootIn n k 20 p.1 p.2
noncomputable def exactRoot? (q : Q) (k : Nat) : Option (Option Q) := (rootOf? q.1 k).bind fun t => (rootOf? q.2 k).bind fun b => if okI t && okI b then some (if t ^ k == q.1 && b ^ k == q.2 then some (t, b) else none) else none
noncomputable def fromZero? (a : L) : Option (List Q) := (ltrim? a).bind fun t => if !(okL t.2 && okZ t.1) then none else if t.1 < 0 && t.2.length > 0 then none else some (List.replicate (if 0 > t.1 then 0 else t.1).toNat r0 ++ t.2)
noncomputable def ofRoot? (a : L) (q : Q) : Option L := (ltrim? a).bind fun t => match t.2 with
  | [] => none
  | x :: r => if (t.1 * q.1).fmod q.2 == 0 && 0 < x.1 && 0 < q.2 && okI t.1 && q.2 < 100 && q.1 < 100 && -100 < q.1 then (exactRoot? x q.2.toNat).bind fun o => o.bind fun f =>
      (if q.1 < 0 then rdiv? r1 f else some f).bind fun f => if okQ f then let m := q.1.natAbs
        (rdiv? r1 x).bind fun ix => (sscale? ix (x :: r)).bind fun s => (spower? s q).bind fun s => (sscale? (f.1 ^ m, f.2 ^ m) s).bind fun s => some ((t.1 * q.1).fdiv q.2, s) else none
    else none
inductive Fn | exp | log | sin | cos | tan | atan | sqrt | gamma
inductive Tm
  | num (a b : Int) | x | y | pow (b e : Tm) | sum2 (a b : Tm) | sum3 (a b c : Tm) | prod2 (a b : Tm) | prod3 (a b c : Tm) | call (f : Fn) (a : Tm) | call2 (f : Fn) (a b : Tm)
noncomputable def ofCall? (f : Fn) (a : L) : Option L := (fromZero? a).bind fun inn => match f with
  | .tan => (ssincos? inn).bind fun p => (lpower? (0, p.2) (-1)).bind fun c => lmul? (0, p.1) c
  | .atan => (satan? inn).bind fun s => some (0, s)
  | .sqrt => ofRoot? (0, inn) (1, 2)
  | _ => none
noncomputable def term? (m : Nat) : Tm → Option L
  | .num a b => lplain? (a, b) m
  | .x => if okN m then some (0, [r0, r1] ++ List.replicate (m - 2) r0) else none
  | .pow b (.num p q) => (term? m b).bind fun t => if q == 1 then lpower? t p else ofRoot? t (p, q)
  | .sum2 a b => (lplain? r0 m).bind fun f => (term? m a).bind fun t => (ladd? f t).bind fun f => (term? m b).bind fun t => ladd? f t
  | .sum3 a b c => (lplain? r0 m).bind fun f => (term? m a).bind fun t => (ladd? f t).bind fun f => (term? m b).bind fun t => (ladd? f t).bind fun f => (term? m c).bind fun t => ladd? f t
  | .prod2 a b => (lplain? r1 m).bind fun f => (term? m a).bind fun t => (lmul? f t).bind fun f => (term? m b).bind fun t => lmul? f t
  | .prod3 a b c => (lplain? r1 m).bind fun f => (term? m a).bind fun t => (lmul? f t).bind fun f => (term? m b).bind fun t => (lmul? f t).bind fun f => (term? m c).bind fun t => lmul? f t
  | .call f a => (term? m a).bind fun t => ofCall? f t
  | _ => none
noncomputable def laurentGo (t : Tm) (e : Int) : Nat → Nat → Option L
  | 0, _ => none
  | f + 1, more => if more ≤ 24 && okZ e then (term? ((if 1 > e then 1 else e).toNat + more) t).bind fun r => if !(okL r.2) then none else if r.1 + r.2.length ≥ e then some r else laurentGo t e f (more * 2) else none
noncomputable def laurent? (t : Tm) (e : Int) : Option L := laurentGo t e 4 2
noncomputable def series? (t : Tm) (e : Nat) : Option (List Q) := (laurent? t e).bind fun r => lcut? r e
noncomputable def lawLow? (t b : Int) : Option Q := if b == 0 || !(Nat.blt b.natAbs (2 ^ 199)) || !(Nat.blt t.natAbs (2 ^ 199)) then none else let g : Int := (Nat.gcd t.natAbs b.natAbs : Int)
  let s : Int := if decide (0 < b) then 1 else -1
  some ((s * t).fdiv g, (s * b).fdiv g)
noncomputable def lawTimes? (a b : List Q) (m : Nat) : Option (List Q) := if !(okL a && okL b && okN m) then none else iter (fun i f => (iter (fun j p => if j < a.length && i - j < b.length then (a[j]?).bind fun x => (b[i - j]?).bind fun y =>
    if okQ p && okQ x && okQ y && okI (p.1 * x.2) && okI (p.2 * x.2) && okI (x.1 * y.1) then lawLow? (p.1 * x.2 * y.2 + x.1 * y.1 * p.2) (p.2 * x.2 * y.2) else none else some p) (i + 1) (0, 1)).bind fun p => some (f ++ [p])) m []
noncomputable def poly (a b : Int) : Tm := .sum3 (.num 1 1) (.prod2 (.num a 1) .x) (.prod2 (.num b 1) (.pow .x (.num 2 1)))
noncomputable def qOf (i : Nat) : Q := [(1, 2), (-1, 2), (3, 2), (1, 3), (-2, 3)].getD i r0
noncomputable def pOf (i : Nat) : Int := [0, 1, 2, 3, 4, -1, -2, -3, -4].getD i 0
noncomputable def fOf (i : Nat) : Q := [(1, 1), (2, 1), (1, 2)].getD i r0
/-- the base of the root raises at of_root -/
noncomputable def rootX (a : L) (q : Q) : Bool := if !(okL a.2) then false else let t := ltrim a.1 a.2
  match t.2 with
  | [] => true
  | x :: _ => okI t.1 && okI q.1 && 0 < q.2 && q.2 < 100 && okL t.2 && ((t.1 * q.1).fmod q.2 != 0 || !(0 < x.1) || (match exactRoot? x q.2.toNat with | some none => true | _ => false))
noncomputable def term5 (q : Q) (pl : Int) (fs : Q) (a b : Int) : Tm := .pow (if pl == 0 then .prod2 (.num (fs.1 ^ q.2.toNat) (fs.2 ^ q.2.toNat)) (poly a b) else .prod3 (.num (fs.1 ^ q.2.toNat) (fs.2 ^ q.2.toNat)) (.pow .x (.num pl 1)) (poly a b)) (.num q.1 q.2)
noncomputable def rootPos? (q : Q) (pl : Int) (fs : Q) (a b : Int) : Option Bool :=
  (laurent? (term5 q pl fs a b) ((pl * q.1).fdiv q.2 + 3)).bind fun r => if r.1 != (pl * q.1).fdiv q.2 || r.2.length < 3 || !(okL r.2) then none else
  (r.2[0]?).bind fun h => let n := q.1.natAbs
  let bg : Q := if 0 < q.1 then (fs.1 ^ n, fs.2 ^ n) else (fs.2 ^ n, fs.1 ^ n)
  if !(h.1 == bg.1 && h.2 == bg.2) || !(okI (fs.1 ^ q.2.toNat)) then none else
  (mapO (fun (i : Int) => lawLow? (fs.1 ^ q.2.toNat * i) (fs.2 ^ q.2.toNat)) [1, a, b]).bind fun plain =>
  (iter (fun _ s => lawTimes? s r.2 3) q.2.toNat [(1, 1)]).bind fun pw =>
  if 0 < q.1 then (iter (fun _ s => lawTimes? s plain 3) n [(1, 1), (0, 1), (0, 1)]).bind fun du => if pw == du then some true else none
  else (iter (fun _ s => lawTimes? s plain 3) n pw).bind fun pw => if pw == [(1, 1), (0, 1), (0, 1)] then some true else none
noncomputable def rootNeg (q : Q) (pl : Int) (fs : Q) (a b : Int) : Bool := match term5 q pl fs a b with
  | .pow t _ => match term? 6 t with | some r => rootX r q | none => false
  | _ => false
noncomputable def rootRight (q : Q) (pl : Int) (fs : Q) (a b : Int) : Bool := if (pl * q.1).fmod q.2 == 0 then rootPos? q pl fs a b == some true else rootNeg q pl fs a b
noncomputable def chk (i j l : Nat) : Bool := (List.range 4).all fun a => (List.range 3).all fun b => rootRight (qOf i) (pOf j) (fOf l) ((a : Int) - 1) b
noncomputable def drawV (ns : List Int) (k m : Nat) : Nat := if k < ns.length then (ns.getD k 0).natAbs % m else (7 * (k + 1) + (k + 1) / 4) % m
noncomputable def inner (n1 n2 : Int) : Tm := .sum2 (.prod2 (.num n1 1) .x) (.prod2 (.num n2 1) (.pow .x (.num 2 1)))
noncomputable def callsRight? (a b : Int) : Option Bool :=
  let n1 := 1 + a
  let n2 := b - 1
  let nums : List Q := [(0, 1), (n1, 1), (n2, 1), (0, 1)]
  (series? (.call .tan (inner n1 n2)) 4).bind fun tg => (ssincos? nums).bind fun sc => (lawTimes? tg sc.2 4).bind fun tc => if !(tc == sc.1) then none else
  (series? (.call .atan (inner n1 n2)) 4).bind fun arc => (lawTimes? nums nums 3).bind fun sq =>
  (arc[0]?).bind fun c0 => (arc[1]?).bind fun c1 => (arc[2]?).bind fun c2 => (arc[3]?).bind fun c3 =>
  (mapO (fun (i : Int) => (arc[i.toNat]?).bind fun c => lawLow? (i * c.1) c.2) [1, 2, 3]).bind fun sl => if !(c0.1 == 0 && c0.2 == 1) || !(okL sq) then none else
  (lawTimes? sl ((1, 1) :: sq.drop 1) 3).bind fun lt => if !(lt == [(n1, 1), (2 * n2, 1), (0, 1)]) then none else
  (series? (.call .sqrt (poly n1 n2)) 3).bind fun rt => (lawTimes? rt rt 3).bind fun rr => if !(rr == [(1, 1), (n1, 1), (n2, 1)]) then none else
  (rt[0]?).bind fun x => if x.1 == 1 && x.2 == 1 then some true else none
end Mine
set_option maxRecDepth 10000
namespace Mine
open PySem PySem.W PyProof.Rows PySem.Calls PySem.Spec

noncomputable def fdOf : List Stmt → Str → Arguments × List Stmt × Scope
  | [], _ => (default, [], default)
  | .FunctionDef name args body _ _ _ scope _ _ _ :: r, f => if name == f then (args, body, scope) else fdOf r f
  | _ :: r, f => fdOf r f
noncomputable def fn (f : Str) : Arguments × List Stmt × Scope := fdOf PySem.Challenge.pw_pf0052_01.main.body f
noncomputable def fnNames : List String := ["gcd", "root_of", "rat", "radd", "rsub", "rmul", "rdiv", "rcompare", "cut", "sadd", "sscale", "mixed", "smul", "sinverse", "sderive", "sintegrate", "need_begin", "slog", "ssin_cos", "ssin", "scos", "satan", "spower", "swhole_power", "lplain", "lmoved", "ladd", "lmul", "ltrim", "linverse", "lpower", "lcut", "exact_root", "from_zero", "of_call", "of_root", "of_power", "of_term", "laurent_of", "series_of", "_law_take", "_law_low", "_law_times", "_law_kind", "_law_poly", "_law_root_right", "_law_calls_right", "_law_refused_right", "law"]
noncomputable def bNames : List String := ["abs", "len", "min", "max", "range", "list", "str"]
noncomputable abbrev dQ (p : Q) : Dat := .tuple [.int p.1, .int p.2]
noncomputable abbrev dS (l : List Q) : Dat := .list (l.map dQ)
noncomputable abbrev dL (a : L) : Dat := .tuple [.int a.1, dS a.2]
structure Mods (cx : Cx) : Prop where
  fn : ∀ f ∈ fnNames, FnHas cx (Str.ofString f) (fn (Str.ofString f)).1 (fn (Str.ofString f)).2.1 (fn (Str.ofString f)).2.2
  no : ∀ f ∈ bNames, cx.mg (Str.ofString f) = none
  R0 : ∃ v, cx.mg "R0" = some v ∧ DatIn cx.N₀ v (dQ r0)
  R1 : ∃ v, cx.mg "R1" = some v ∧ DatIn cx.N₀ v (dQ r1)
  MM : ∃ v, cx.mg "MOST_MORE" = some v ∧ DatIn cx.N₀ v (.int 24)
  short : cx.ns.length ≤ 16
  X : ∃ v, cx.mg "_law_x" = some v ∧ DatIn cx.N₀ v (.tuple [.str "sym", .str "x"])


section
variable {cx : Cx} {n : Nat} {sc : Nms} {Γ Γ' Γ₁ Γ₂ : Gam} {k k' k₁ k₂ : Int} {st : Stmt} {rest : List Stmt} {d : Dat}

theorem mod1 (H : Mods cx) {f : String} (hf : f ∈ fnNames) {x1 : Str} {a1 : Sl} {body : List Stmt} (hB : (fn (Str.ofString f)).2.1 = body) (hs : (fn (Str.ofString f)).2.2.names = sc)
    (hb : ∀ (name qual : Str) (body : List Stmt) (doc pm cdv ct : Value) (an : Option Addr) (v1 : Value), bindArgs (fnOf name qual (fn (Str.ofString f)).1 body (fn (Str.ofString f)).2.2 .none .none doc pm an cdv ct) ⟨[v1], []⟩ = pure [(x1, v1)])
    (hk : (fn (Str.ofString f)).2.2.kind = .function ∧ (fn (Str.ofString f)).2.2.isCoroutine = false ∧ (fn (Str.ofString f)).2.2.isGenerator = false)
    (h1 : sc.lookup x1 = some .local ∨ sc.lookup x1 = some .cell)
    (h : ExecsR cx n sc [(x1, a1)] k body d k') : CallTo cx (n + 1) (Str.ofString f) [a1] k d k' := by
  subst hs hB
  refine call_to (xs := [x1]) (H.fn f hf) (fun name qual doc pm cdv ct an vs hl => ?_) rfl (by simp) ?_ hk.1 hk.2.1 hk.2.2 h
  · match vs, hl with
    | [v1], _ => exact hb ..
  · intro x hx
    rcases List.mem_cons.mp hx with rfl | hx
    · exact h1
    · cases hx
theorem mod2 (H : Mods cx) {f : String} (hf : f ∈ fnNames) {x1 x2 : Str} {a1 a2 : Sl} {body : List Stmt} (hB : (fn (Str.ofString f)).2.1 = body) (hs : (fn (Str.ofString f)).2.2.names = sc)
    (hb : ∀ (name qual : Str) (body : List Stmt) (doc pm cdv ct : Value) (an : Option Addr) (v1 v2 : Value), bindArgs (fnOf name qual (fn (Str.ofString f)).1 body (fn (Str.ofString f)).2.2 .none .none doc pm an cdv ct) ⟨[v1, v2], []⟩ = pure [(x1, v1), (x2, v2)])
    (hk : (fn (Str.ofString f)).2.2.kind = .function ∧ (fn (Str.ofString f)).2.2.isCoroutine = false ∧ (fn (Str.ofString f)).2.2.isGenerator = false)
    (h1 : sc.lookup x1 = some .local ∨ sc.lookup x1 = some .cell) (h2 : sc.lookup x2 = some .local ∨ sc.lookup x2 = some .cell) (hne : (x1 == x2) = false)
    (h : ExecsR cx n sc [(x1, a1), (x2, a2)] k body d k') : CallTo cx (n + 1) (Str.ofString f) [a1, a2] k d k' := by
  subst hs hB
  refine call_to (xs := [x1, x2]) (H.fn f hf) (fun name qual doc pm cdv ct an vs hl => ?_) rfl ?_ ?_ hk.1 hk.2.1 hk.2.2 h
  · match vs, hl with
    | [v1, v2], _ => exact hb ..
  · simpa using hne
  · intro x hx
    rcases List.mem_cons.mp hx with rfl | hx
    · exact h1
    · rcases List.mem_cons.mp hx with rfl | hx
      · exact h2
      · cases hx
theorem mod2o (H : Mods cx) {f : String} (hf : f ∈ fnNames) {x1 x2 : Str} {a1 a2 : Sl} {body : List Stmt} {l : List Dat} (hB : (fn (Str.ofString f)).2.1 = body) (hs : (fn (Str.ofString f)).2.2.names = sc)
    (hb : ∀ (name qual : Str) (body : List Stmt) (doc pm cdv ct : Value) (an : Option Addr) (v1 v2 : Value), bindArgs (fnOf name qual (fn (Str.ofString f)).1 body (fn (Str.ofString f)).2.2 .none .none doc pm an cdv ct) ⟨[v1, v2], []⟩ = pure [(x1, v1), (x2, v2)])
    (hk : (fn (Str.ofString f)).2.2.kind = .function ∧ (fn (Str.ofString f)).2.2.isCoroutine = false ∧ (fn (Str.ofString f)).2.2.isGenerator = false)
    (h1 : sc.lookup x1 = some .local ∨ sc.lookup x1 = some .cell) (h2 : sc.lookup x2 = some .local ∨ sc.lookup x2 = some .cell) (hne : (x1 == x2) = false)
    (h : ExecsO cx n sc [(x1, a1), (x2, a2)] k body l k') : CallOwn cx (n + 1) (Str.ofString f) [a1, a2] k l k' := by
  subst hs hB
  refine call_own (xs := [x1, x2]) (H.fn f hf) (fun name qual doc pm cdv ct an vs hl => ?_) rfl ?_ ?_ hk.1 hk.2.1 hk.2.2 h
  · match vs, hl with
    | [v1, v2], _ => exact hb ..
  · simpa using hne
  · intro x hx
    rcases List.mem_cons.mp hx with rfl | hx
    · exact h1
    · rcases List.mem_cons.mp hx with rfl | hx
      · exact h2
      · cases hx
theorem mod3 (H : Mods cx) {f : String} (hf : f ∈ fnNames) {x1 x2 x3 : Str} {a1 a2 a3 : Sl} {body : List Stmt} (hB : (fn (Str.ofString f)).2.1 = body) (hs : (fn (Str.ofString f)).2.2.names = sc)
    (hb : ∀ (name qual : Str) (body : List Stmt) (doc pm cdv ct : Value) (an : Option Addr) (v1 v2 v3 : Value), bindArgs (fnOf name qual (fn (Str.ofString f)).1 body (fn (Str.ofString f)).2.2 .none .none doc pm an cdv ct) ⟨[v1, v2, v3], []⟩ = pure [(x1, v1), (x2, v2), (x3, v3)])
    (hk : (fn (Str.ofString f)).2.2.kind = .function ∧ (fn (Str.ofString f)).2.2.isCoroutine = false ∧ (fn (Str.ofString f)).2.2.isGenerator = false)
    (h1 : sc.lookup x1 = some .local ∨ sc.lookup x1 = some .cell) (h2 : sc.lookup x2 = some .local ∨ sc.lookup x2 = some .cell) (h3 : sc.lookup x3 = some .local ∨ sc.lookup x3 = some .cell) (hne : [x1, x2, x3].Nodup)
    (h : ExecsR cx n sc [(x1, a1), (x2, a2), (x3, a3)] k body d k') : CallTo cx (n + 1) (Str.ofString f) [a1, a2, a3] k d k' := by
  subst hs hB
  refine call_to (xs := [x1, x2, x3]) (H.fn f hf) (fun name qual doc pm cdv ct an vs hl => ?_) rfl hne ?_ hk.1 hk.2.1 hk.2.2 h
  · match vs, hl with
    | [v1, v2, v3], _ => exact hb ..
  · intro x hx
    rcases List.mem_cons.mp hx with rfl | hx
    · exact h1
    · rcases List.mem_cons.mp hx with rfl | hx
      · exact h2
      · rcases List.mem_cons.mp hx with rfl | hx
        · exact h3
        · cases hx
theorem mod4 (H : Mods cx) {f : String} (hf : f ∈ fnNames) {x1 x2 x3 x4 : Str} {a1 a2 a3 a4 : Sl} {body : List Stmt} (hB : (fn (Str.ofString f)).2.1 = body) (hs : (fn (Str.ofString f)).2.2.names = sc)
    (hb : ∀ (name qual : Str) (body : List Stmt) (doc pm cdv ct : Value) (an : Option Addr) (v1 v2 v3 v4 : Value), bindArgs (fnOf name qual (fn (Str.ofString f)).1 body (fn (Str.ofString f)).2.2 .none .none doc pm an cdv ct) ⟨[v1, v2, v3, v4], []⟩ = pure [(x1, v1), (x2, v2), (x3, v3), (x4, v4)])
    (hk : (fn (Str.ofString f)).2.2.kind = .function ∧ (fn (Str.ofString f)).2.2.isCoroutine = false ∧ (fn (Str.ofString f)).2.2.isGenerator = false)
    (h1 : sc.lookup x1 = some .local ∨ sc.lookup x1 = some .cell) (h2 : sc.lookup x2 = some .local ∨ sc.lookup x2 = some .cell) (h3 : sc.lookup x3 = some .local ∨ sc.lookup x3 = some .cell) (h4 : sc.lookup x4 = some .local ∨ sc.lookup x4 = some .cell) (hne : [x1, x2, x3, x4].Nodup)
    (h : ExecsR cx n sc [(x1, a1), (x2, a2), (x3, a3), (x4, a4)] k body d k') : CallTo cx (n + 1) (Str.ofString f) [a1, a2, a3, a4] k d k' := by
  subst hs hB
  refine call_to (xs := [x1, x2, x3, x4]) (H.fn f hf) (fun name qual doc pm cdv ct an vs hl => ?_) rfl hne ?_ hk.1 hk.2.1 hk.2.2 h
  · match vs, hl with
    | [v1, v2, v3, v4], _ => exact hb ..
  · intro x hx
    rcases List.mem_cons.mp hx with rfl | hx
    · exact h1
    · rcases List.mem_cons.mp hx with rfl | hx
      · exact h2
      · rcases List.mem_cons.mp hx with rfl | hx
        · exact h3
        · rcases List.mem_cons.mp hx with rfl | hx
          · exact h4
          · cases hx

/-! small rules -/
theorem te_eq {e : Expr} {b c : Bool} (h : TestTo cx n sc Γ k e c k₁) (q : c = b) : TestTo cx n sc Γ k e b k₁ := q ▸ h
theorem ev_ife_t {t b o : Expr} {pos : Pos} {d : Dat} (ht : TestTo cx n sc Γ k t true k₁) (h1 : EvalTo cx n sc Γ k₁ b d k₂) : EvalTo cx n sc Γ k (.IfExp t b o pos) d k₂ := ev_ife ht (fun _ => h1) (fun h => by cases h)
theorem ev_ife_f {t b o : Expr} {pos : Pos} {d : Dat} (ht : TestTo cx n sc Γ k t false k₁) (h1 : EvalTo cx n sc Γ k₁ o d k₂) : EvalTo cx n sc Γ k (.IfExp t b o pos) d k₂ := ev_ife ht (fun h => by cases h) (fun _ => h1)
theorem cmp_ne_q (a b : Q) : CmpTo cx n .NotEq (dQ a) (dQ b) (!(a.1 == b.1 && a.2 == b.2)) := by
  have h := cmp_ne_dat (cx := cx) (n := n) (dQ a) (dQ b) rfl rfl
  simpa [kqdP, kqdPs, PyData.eqv, PyData.eqvAll] using h
theorem cmp_eq_q (a b : Q) : CmpTo cx n .Eq (dQ a) (dQ b) (a.1 == b.1 && a.2 == b.2) := by
  have h := cmp_eq_dat (cx := cx) (n := n) (dQ a) (dQ b) rfl rfl
  simpa [kqdP, kqdPs, PyData.eqv, PyData.eqvAll] using h
theorem sn_expr {e : Expr} {pos : Pos} (h : EvalTo cx n sc Γ k e .none k₁) (hi : ∀ env, EnvOk sc env → swapsWith e none pos.line env = pure false := by intro _ _; rfl) : ExecN cx n sc Γ k (.Expr e pos) Γ k₁ := by
  refine ⟨fun g A env N s hA hE p Q hQ => ?_⟩
  have hin : interactive env = false := by unfold interactive; rw [hE.kind]; rfl
  exact wpAny_Expr (h.run g A env N s hA hE p _ fun v N₁ s₁ S₁ p₁ hv => by cases hv; exact hQ N₁ s₁ (S₁.toL p) p₁) hin (hi env hE)

theorem iter_le {σ : Type} {f : Nat → σ → Option σ} {s : σ} : ∀ {m : Nat} {r : σ}, iter f m s = some r → ∀ i, i ≤ m → ∃ x, iter f i s = some x
  | 0, r, h, i, hi => ⟨r, by rw [Nat.le_zero.mp hi]; exact h⟩
  | m + 1, r, h, i, hi => by
    rcases Nat.lt_or_ge m i with q | q
    · exact ⟨r, by rw [show i = m + 1 from by omega]; exact h⟩
    · unfold iter at h
      obtain ⟨x, hx, _⟩ := Option.bind_eq_some_iff.mp h
      exact iter_le hx i q
theorem iter_inv {σ : Type} {f : Nat → σ → Option σ} {s0 : σ} (P : Nat → σ → Prop) (h0 : P 0 s0) (hstep : ∀ i s s', P i s → f i s = some s' → P (i + 1) s') : ∀ {m : Nat} {s : σ}, iter f m s0 = some s → P m s
  | 0, s, h => by cases h; exact h0
  | m + 1, s, h => by
    unfold iter at h
    obtain ⟨x, hx, h⟩ := Option.bind_eq_some_iff.mp h
    exact hstep m x s (iter_inv P h0 hstep hx) h
/-- a for loop whose turns are the turns of an iteration -/
theorem sn_for_iter {σ : Type} (f : Nat → σ → Option σ) (G : σ → Gam) {s0 sN : σ} {x : Str} {px pos : Pos} {it : Expr} {body : List Stmt} {items : List Dat} (h : iter f items.length s0 = some sN) (hx : sc.lookup x = some .local ∨ sc.lookup x = some .cell)
    (hi : IterTo cx n sc Γ k it items k₁) (h0 : Sub Γ (G s0)) (hb : ∀ i d s s', items[i]? = some d → iter f i s0 = some s → f i s = some s' → ∃ Γ', ExecsN cx n sc ((x, .val d) :: G s) k₁ body Γ' k₁ ∧ Sub Γ' (G s'))
    (hfs : ∀ env x, foldedSetIterable it env x = pure x := by intro _ _; rfl) : ExecN cx n sc Γ k (.For (.Name x px) it body [] pos) (G sN) k₁ := by
  have key := sn_for (cx := cx) (n := n) (k₁ := k₁) (px := px) (pos := pos) (body := body) (fun i => match iter f i s0 with | some s => G s | none => []) hx hi h0 (fun i d hd => ?_) hfs
  · rw [h] at key
    exact key
  · have hlt : i < items.length := (List.getElem?_eq_some_iff.mp hd).1
    obtain ⟨s, e⟩ := iter_le h i (Nat.le_of_lt hlt)
    obtain ⟨s', e'⟩ := iter_le h (i + 1) hlt
    have e'' := e'
    unfold iter at e''
    rw [e] at e''
    rw [e, e']
    obtain ⟨Γ', h1, h2⟩ := hb i d s s' hd e e''
    exact xs_weak h1 h2
theorem mapO_at {α β : Type} {f : α → Option β} : ∀ {l : List α} {r : List β}, mapO f l = some r → r.length = l.length ∧ ∀ (i : Nat) (x : α), l[i]? = some x → ∃ y, r[i]? = some y ∧ f x = some y
  | [], r, h => by cases h; exact ⟨rfl, fun i x h => by simp at h⟩
  | x :: l, r, h => by
    unfold mapO at h
    obtain ⟨y, hy, h⟩ := Option.bind_eq_some_iff.mp h
    obtain ⟨ys, hys, h⟩ := Option.bind_eq_some_iff.mp h
    cases h
    obtain ⟨h1, h2⟩ := mapO_at hys
    refine ⟨by simp [h1], fun i z hz => ?_⟩
    cases i with
    | zero => simp at hz; subst hz; exact ⟨y, by simp, hy⟩
    | succ i => simpa using h2 i z (by simpa using hz)
/-- a list comprehension whose elements are those of mapO -/
theorem eo_mapO {α β : Type} {f : α → Option β} {l : List α} {r : List β} (h : mapO f l = some r) (da : α → Dat) (db : β → Dat) {elt iter : Expr} {x : Str} {px pos : Pos} {scope : Scope} {Γc : Gam} (hk : scope.kind = .function) (hC : CompSc sc scope.names x Γ Γc)
    (hi : IterTo cx n sc Γ k iter (l.map da) k₁) (hz : l.length ≤ 10000)
    (he : ∀ (i : Nat) (a : α) (b : β), l[i]? = some a → f a = some b → EvalTo cx n (compNames scope.names sc) ((x, .val (da a)) :: Γc) k₁ elt (db b) k₁)
    (hfs : ∀ env x, foldedSetIterable iter env x = pure x := by intro _ _; rfl) : EvalOwn cx n sc Γ k (.ListComp elt [⟨.Name x px, iter, [], 0⟩] scope pos) (r.map db) k₁ := by
  obtain ⟨h1, h2⟩ := mapO_at h
  refine eo_comp hk hC hi (by simp [h1]) (by simpa using hz) (fun i d o hd ho => ?_) hfs
  rw [List.getElem?_map] at hd ho
  obtain ⟨a, ha, rfl⟩ := Option.map_eq_some_iff.mp hd
  obtain ⟨b, hb, rfl⟩ := Option.map_eq_some_iff.mp ho
  obtain ⟨y, hy, hf⟩ := h2 i a ha
  rw [hb] at hy; cases hy
  exact he i a b ha hf
theorem swapped_folded {env : Env} {a b : Str} {pa pb tp vp : Pos} {c c' : Nat} {e₁ e₂ : Expr} (hf : [e₁, e₂].all (foldedForSure 8) = true) :
    swappedStores [.Tuple [.Name a pa, .Name b pb] c tp] (.Tuple [e₁, e₂] c' vp) env = pure none := by
  unfold swappedStores
  dsimp only
  rw [hf]
  split
  · rfl
  · split
    · rfl
    · split
      · rfl
      · rfl
inductive Runs {σ : Type} (tst : σ → Option Bool) (nxt : σ → Option σ) : Nat → σ → σ → Prop
  | done {s : σ} : tst s = some false → Runs tst nxt 0 s s
  | step {m : Nat} {s s' s'' : σ} : tst s = some true → nxt s = some s' → Runs tst nxt m s' s'' → Runs tst nxt (m + 1) s s''
theorem sn_while_run {σ : Type} {tst : σ → Option Bool} {nxt : σ → Option σ} (G : σ → Gam) {s0 sN : σ} {t : Expr} {body : List Stmt} {pos : Pos} (h : ∃ m, Runs tst nxt m s0 sN) (h0 : Sub Γ (G s0))
    (ht : ∀ s b, tst s = some b → TestTo cx n sc (G s) k t b k) (hb : ∀ s s', tst s = some true → nxt s = some s' → ∃ Γ', ExecsN cx n sc (G s) k body Γ' k ∧ Sub Γ' (G s')) : ExecN cx n sc Γ k (.While t body [] pos) (G sN) k := by
  obtain ⟨m, h⟩ := h
  have w : WhileTo cx n sc k t body m (G s0) (G sN) := by
    clear h0
    induction h with
    | done q => exact .done (ht _ _ q)
    | step q q' _ ih =>
      obtain ⟨Γ', h1, h2⟩ := hb _ _ q q'
      exact .step (ht _ _ q) (xs_weak h1 h2) ih
  refine ⟨fun g A env N s hA hE p Q hQ => ?_⟩
  exact (sn_while w).run g A env N s hA hE (p.weak h0) Q hQ
theorem at_q {a : List Q} {m : Nat} {x : Q} {i : Int} (h : a[m]? = some x) (e : i = (m : Int)) : (a.map dQ)[i.toNat]? = some (dQ x) := by
  subst e; simp [h]
theorem okI_lt {a : Int} (h : okI a = true) : a.natAbs < 2 ^ 64 := by unfold okI at h; simpa [Nat.blt_eq] using h
theorem okQ_1 {p : Q} (h : okQ p = true) : p.1.natAbs < 2 ^ 64 := okI_lt (Bool.and_eq_true_iff.mp h).1
theorem okQ_2 {p : Q} (h : okQ p = true) : p.2.natAbs < 2 ^ 64 := okI_lt (Bool.and_eq_true_iff.mp h).2
/-! comprehensions, by a check -/
noncomputable def compG (scn : Nms) (Γ : Gam) : Gam := scn.filterMap fun y => if y.2 == .free then (Γ.lookup y.1).map fun s => (y.1, s) else none
noncomputable def compChk (sc scn : Nms) (x : Str) (Γ : Gam) : Bool := (scn.lookup x == some .local) && scn.all fun y => match y.2 with
  | .free => (match Γ.lookup y.1 with | some (.val _) => true | _ => false) && (sc.lookup y.1 == some .cell) && (scn.lookup y.1 == some .free)
  | .local => scn.lookup y.1 == some .local
  | .cell => false
  | _ => true
theorem compNames_look {scn sc : Nms} {y : Str} : ∀ {kd : NameKind}, scn.lookup y = some kd → (compNames scn sc).lookup y = some (if (kd == .free && sc.lookup y == some .cell) = true then .cell else kd) := by
  induction scn with
  | nil => intro kd h; cases h
  | cons p r ih =>
    intro kd h
    obtain ⟨z, kz⟩ := p
    have e : compNames ((z, kz) :: r) sc = (if (kz == .free && sc.lookup z == some .cell) = true then (z, .cell) else (z, kz)) :: compNames r sc := rfl
    rw [e]
    rw [List.lookup_cons] at h
    cases hb : y == z with
    | true =>
      rw [hb] at h
      dsimp only at h
      have e1 : kz = kd := Option.some.inj h
      have e2 : y = z := eq_of_beq hb
      subst e1 e2
      by_cases hc : (kz == .free && sc.lookup y == some .cell) = true
      · rw [if_pos hc, if_pos hc]; simp
      · rw [if_neg hc, if_neg hc]; simp
    | false =>
      rw [hb] at h
      dsimp only at h
      by_cases hc : (kz == .free && sc.lookup z == some .cell) = true
      · rw [if_pos hc, List.lookup_cons, hb]; exact ih h
      · rw [if_neg hc, List.lookup_cons, hb]; exact ih h
theorem compSc_of {sc scn : Nms} {x : Str} {Γ : Gam} (h : compChk sc scn x Γ = true) : CompSc sc scn x Γ (compG scn Γ) := by
  unfold compChk at h
  obtain ⟨h1, h2⟩ := Bool.and_eq_true_iff.mp h
  rw [List.all_eq_true] at h2
  have fr : ∀ y ∈ scn, y.2 = .free → (∃ d, Γ.lookup y.1 = some (.val d)) ∧ sc.lookup y.1 = some .cell ∧ scn.lookup y.1 = some .free := fun y hy hf => by
    have := h2 y hy
    rw [hf] at this
    dsimp only at this
    obtain ⟨q, q3⟩ := Bool.and_eq_true_iff.mp this
    obtain ⟨q1, q2⟩ := Bool.and_eq_true_iff.mp q
    refine ⟨?_, by simpa using q2, by simpa using q3⟩
    split at q1
    · rename_i d e; exact ⟨d, e⟩
    · cases q1
  refine ⟨fun y hy hf => let ⟨⟨d, e⟩, e2, _⟩ := fr y hy hf; ⟨d, e, e2⟩, by simpa using h1, fun y hy hf => ?_, fun y hy hf => ?_, fun y sl hy => ?_⟩
  · have := h2 y hy; rw [hf] at this; simpa using this
  · have := h2 y hy; rw [hf] at this; cases this
  · obtain ⟨z, hz, e⟩ := List.mem_filterMap.mp (mem_of_lookup' hy)
    split at e
    · rename_i hf
      have hf : z.2 = .free := by simpa using hf
      obtain ⟨s, hs, e⟩ := Option.map_eq_some_iff.mp e
      have e1 : z.1 = y := congrArg Prod.fst e
      have e2 : s = sl := congrArg Prod.snd e
      subst e1 e2
      obtain ⟨⟨d, ed⟩, ec, ef⟩ := fr z hz hf
      rw [hs] at ed
      refine ⟨hs, ⟨d, Option.some.inj ed⟩, ?_, ?_⟩
      · rw [← hf]; exact hz
      · rw [compNames_look ef, ec]; exact .inl rfl
    · cases e
theorem rangeD0 (m : Nat) : rangeD 0 m = (List.range m).map fun (i : Nat) => Dat.int (i : Int) := by simp [rangeD]
theorem it_range0 {e : Expr} {f : Str} {fp pos : Pos} {b : Int} {m : Nat} (hf : sc.lookup f = some .globalImplicit) (hmg : cx.mg f = none) (hb : bootBuiltins f = some (.type "range"))
    (ha : EvalTo cx n sc Γ k e (.int b) k₁) (h3 : -(2 ^ 60) ≤ b) (h4 : b ≤ 2 ^ 60) (hm : m = b.toNat)
    (hs : ∀ env, starEach [e] env = (false, eval e env) :: starEach [] env := by intro _; exact starE_cons (by intro _ _ h; cases h)) (hn : f ≠ "__name__" := by decide) (hd : (f == ("__debug__" : Str)) = false := by rfl) :
    IterTo cx n sc Γ k (.Call (.Name f fp) [e] [] pos) ((List.range m).map fun (i : Nat) => Dat.int (i : Int)) k₁ := rangeD0 m ▸ it_range1 hf hmg hb ha h3 h4 hm hs hn hd
theorem xr_eq {sts : List Stmt} {d' : Dat} (h : ExecsR cx n sc Γ k sts d k₁) (e : d = d') : ExecsR cx n sc Γ k sts d' k₁ := e ▸ h
theorem xo_eq {sts : List Stmt} {l l' : List Dat} (h : ExecsO cx n sc Γ k sts l k₁) (e : l = l') : ExecsO cx n sc Γ k sts l' k₁ := e ▸ h
theorem eo_eq {x : Expr} {l l' : List Dat} (h : EvalOwn cx n sc Γ k x l k₁) (e : l = l') : EvalOwn cx n sc Γ k x l' k₁ := e ▸ h
theorem ev_eq {x : Expr} {d' : Dat} (h : EvalTo cx n sc Γ k x d k₁) (e : d = d') : EvalTo cx n sc Γ k x d' k₁ := e ▸ h
theorem okL_lt {α : Type} {l : List α} (h : okL l = true) : l.length < 100 := by unfold okL at h; simpa [Nat.blt_eq] using h
theorem okN_lt {m : Nat} (h : okN m = true) : m < 100 := by unfold okN at h; simpa [Nat.blt_eq] using h
theorem okZ_lt {m : Int} (h : okZ m = true) : m.natAbs < 100 := by unfold okZ at h; simpa [Nat.blt_eq] using h
theorem call_none {f : Str} {params : Arguments} {body : List Stmt} {scope : Scope} {as : List Sl} {xs : List Str} (hf : FnHas cx f params body scope)
    (hb : ∀ (name qual : Str) (doc pm cdv ct : Value) (an : Option Addr) (vs : List Value), vs.length = as.length → bindArgs (fnOf name qual params body scope .none .none doc pm an cdv ct) ⟨vs, []⟩ = pure (xs.zip vs)) (hlen : xs.length = as.length) (hnd : xs.Nodup) (hks : ∀ x ∈ xs, scope.names.lookup x = some .local ∨ scope.names.lookup x = some .cell)
    (hk : scope.kind = .function) (hco : scope.isCoroutine = false) (hgen : scope.isGenerator = false)
    (h : ExecsN cx n scope.names (xs.zip as) k body Γ' k') : CallTo cx (n + 1) f as k .none k' := by
  obtain ⟨a, o, name, qual, doc, pm, an, cdv, ct, h1, h2, h3, h4⟩ := hf
  refine ⟨a, ⟨h1, o, _, h2, h3⟩, fun A N s vs hA p hv Q hQ => ?_⟩
  refine call_core hA p hv h2 h3 h4 (hb _ _ _ _ _ _ _ vs hv.len) hlen hnd hks hk hco hgen fun env s₁ hA' hE p₁ hkeep hg ho => ?_
  refine wpAny_mono (h.run s.heap _ env N s₁ hA' hE p₁ (fun f s' => Q (match f with | .ret v => v | _ => .none) s') fun N' s' S w => ?_) (fun _ _ q => q) fun _ _ q => q.elim
  exact hQ .none N' s' (S.toStep hkeep hg ho w.toWd) w.box .none
theorem mod2n (H : Mods cx) {f : String} (hf : f ∈ fnNames) {x1 x2 : Str} {a1 a2 : Sl} {body : List Stmt} (hB : (fn (Str.ofString f)).2.1 = body) (hs : (fn (Str.ofString f)).2.2.names = sc)
    (hb : ∀ (name qual : Str) (body : List Stmt) (doc pm cdv ct : Value) (an : Option Addr) (v1 v2 : Value), bindArgs (fnOf name qual (fn (Str.ofString f)).1 body (fn (Str.ofString f)).2.2 .none .none doc pm an cdv ct) ⟨[v1, v2], []⟩ = pure [(x1, v1), (x2, v2)])
    (hk : (fn (Str.ofString f)).2.2.kind = .function ∧ (fn (Str.ofString f)).2.2.isCoroutine = false ∧ (fn (Str.ofString f)).2.2.isGenerator = false)
    (h1 : sc.lookup x1 = some .local ∨ sc.lookup x1 = some .cell) (h2 : sc.lookup x2 = some .local ∨ sc.lookup x2 = some .cell) (hne : (x1 == x2) = false)
    (h : ∃ Γ', ExecsN cx n sc [(x1, a1), (x2, a2)] k body Γ' k') : CallTo cx (n + 1) (Str.ofString f) [a1, a2] k .none k' := by
  subst hs hB
  obtain ⟨Γ', h⟩ := h
  refine call_none (xs := [x1, x2]) (H.fn f hf) (fun name qual doc pm cdv ct an vs hl => ?_) rfl ?_ ?_ hk.1 hk.2.1 hk.2.2 h
  · match vs, hl with
    | [v1, v2], _ => exact hb ..
  · simpa using hne
  · intro x hx
    rcases List.mem_cons.mp hx with rfl | hx
    · exact h1
    · rcases List.mem_cons.mp hx with rfl | hx
      · exact h2
      · cases hx
end
/-! terms -/
noncomputable def fnName : Fn → Str
  | .exp => "exp" | .log => "log" | .sin => "sin" | .cos => "cos" | .tan => "tan" | .atan => "atan" | .sqrt => "sqrt" | .gamma => "gamma"
noncomputable def dT : Tm → Dat
  | .num a b => .tuple [.str "num", .int a, .int b]
  | .x => .tuple [.str "sym", .str "x"]
  | .y => .tuple [.str "sym", .str "y"]
  | .pow b e => .tuple [.str "pow", dT b, dT e]
  | .sum2 a b => .tuple [.str "sum", .tuple [dT a, dT b]]
  | .sum3 a b c => .tuple [.str "sum", .tuple [dT a, dT b, dT c]]
  | .prod2 a b => .tuple [.str "prod", .tuple [dT a, dT b]]
  | .prod3 a b c => .tuple [.str "prod", .tuple [dT a, dT b, dT c]]
  | .call f a => .tuple [.str "call", .str (fnName f), .tuple [dT a]]
  | .call2 f a b => .tuple [.str "call", .str (fnName f), .tuple [dT a, dT b]]
noncomputable def dO : Option Q → Dat
  | some q => dQ q
  | none => .none
noncomputable def dLt : Dat := .tuple [.str "x", .tuple [.int 0, .list [dQ r0, dQ r1]]]
end Mine
set_option maxRecDepth 10000
namespace Mine
open PySem PySem.W PyProof.Rows PySem.Calls PySem.Spec

theorem gcd_runs : ∀ b a : Nat, ∃ m, Runs (fun s : Nat × Nat => some (s.2 != 0)) (fun s => some (s.2, s.1 % s.2)) m (a, b) (Nat.gcd a b, 0) := by
  intro b
  induction b using Nat.strongRecOn with
  | ind b ih =>
    intro a
    rcases Nat.eq_zero_or_pos b with rfl | hb
    · exact ⟨0, by rw [Nat.gcd_zero_right]; exact .done rfl⟩
    · obtain ⟨m, h⟩ := ih (a % b) (Nat.mod_lt _ hb) b
      refine ⟨m + 1, .step ?_ rfl ?_⟩
      · simp; omega
      · have e : Nat.gcd b (a % b) = Nat.gcd a b := by rw [Nat.gcd_comm b, ← Nat.gcd_rec, Nat.gcd_comm]
        rw [← e]; exact h
theorem gcd_ok {cx : Cx} (H : Mods cx) {k : Int} (a b : Int) : CallTo cx 1 (Str.ofString "gcd") [.val (.int a), .val (.int b)] k (.int (Nat.gcd a.natAbs b.natAbs : Int)) k := by
  refine mod2 (x1 := "a") (x2 := "b") (sc := [("a", .local), ("b", .local), ("abs", .globalImplicit)]) H (by decide) rfl rfl (fun _ _ _ _ _ _ _ _ _ _ => rfl) ⟨rfl, rfl, rfl⟩ (.inl rfl) (.inl rfl) rfl ?_
  have ea : ∀ x : Int, (if x < 0 then -x else x) = (x.natAbs : Int) := fun x => by split <;> omega
  refine (xr_next (sn_swap2 rfl rfl (ev_callb rfl (H.no "abs" (by decide)) rfl (ea_cons (ev_name rfl) ea_nil) (cb_abs _)) (ev_callb rfl (H.no "abs" (by decide)) rfl (ea_cons (ev_name rfl) ea_nil) (cb_abs _))) (xr_next (sn_while_run (fun s : Nat × Nat => [("a", .val (.int s.1)), ("b", .val (.int s.2))]) (gcd_runs b.natAbs a.natAbs) ?_ ?_ ?_) (xr_ret (sr_return (ev_name rfl)))))
  · rw [ea, ea]; exact (by repeat (first | exact sub_nil | refine sub_cons rfl ?_))
  · rintro s b' h
    have : b' = (s.2 != 0) := by simpa using h.symm
    subst this
    exact te_eq (te_cmp (ev_name rfl) (ev_int _) (cmp_ne _ _)) (by cases h : s.2 <;> rfl)
  · rintro s s' h1 h2
    cases h2
    have hb : ((s.2 : Nat) : Int) ≠ 0 := by intro q; simp at h1; omega
    refine ⟨_, (xs_next (sn_swap2 rfl rfl (ev_name rfl) (ev_bin (ev_name rfl) (ev_name rfl) (bin_mod _ _ (by first | assumption | omega | decide | (simp; done) | (simp; omega))))) xs_nil), ?_⟩
    rw [show ((s.1 : Nat) : Int).fmod (s.2 : Nat) = ((s.1 % s.2 : Nat) : Int) from by rw [Int.fmod_eq_emod_of_nonneg _ (by omega)]; rfl]
    exact (by repeat (first | exact sub_nil | refine sub_cons rfl ?_))
theorem rat_ok {cx : Cx} (H : Mods cx) {k : Int} {t b : Int} {q : Q} (h : rat? t b = some q) : CallTo cx 2 (Str.ofString "rat") [.val (.int t), .val (.int b)] k (dQ q) k := by
  unfold rat? at h
  split at h
  · cases h
  rename_i hc
  simp only [Bool.or_eq_true, beq_iff_eq, Bool.not_eq_true', not_or, Bool.not_eq_false] at hc
  obtain ⟨h0, hlt⟩ := hc
  have hlt : b.natAbs < 2 ^ 199 := by simpa [Nat.blt_eq] using hlt
  have hgp : 0 < Nat.gcd t.natAbs b.natAbs := Nat.gcd_pos_of_pos_right _ (by omega)
  have hgl : Nat.gcd t.natAbs b.natAbs ≤ b.natAbs := Nat.le_of_dvd (by omega) (Nat.gcd_dvd_right _ _)
  have hbig : (2 ^ 199 : Nat) < big := by decide
  have h0' : (b == 0) = false := by simpa using h0
  refine mod2 (x1 := "top") (x2 := "bottom") (sc := [("top", .local), ("bottom", .local), ("g", .local), ("CasFail", .globalImplicit), ("str", .globalImplicit), ("gcd", .globalImplicit)]) H (by decide) rfl rfl (fun _ _ _ _ _ _ _ _ _ _ => rfl) ⟨rfl, rfl, rfl⟩ (.inl rfl) (.inl rfl) rfl ?_
  dsimp only at h
  by_cases hp : 0 < b
  · simp only [hp, decide_true, if_true, Option.some.injEq] at h
    subst h
    have g1 : ((Nat.gcd t.natAbs b.natAbs : Nat) : Int) ≠ 0 := by omega
    have g2 : ((Nat.gcd t.natAbs b.natAbs : Nat) : Int).natAbs < big := by omega
    exact (xr_next (sn_if_f (te_eq (b := false) (te_cmp (ev_name rfl) (ev_int _) (cmp_eq _ _)) (by first | rfl | assumption | decide | (simp [*]; done) | (simp; omega))) xs_nil) (xr_next (sn_assign (.inl rfl) (ev_ife_t (te_eq (b := true) (te_cmp (ev_name rfl) (ev_int _) (cmp_gt _ _)) (by first | rfl | assumption | decide | (simp [*]; done) | (simp; omega))) (ev_call rfl (ar_cons (ev_name rfl) (ar_cons (ev_name rfl) ar_nil)) ((gcd_ok H t b).up (by first | decide | omega | (simp [lev, inner, poly]; done)))))) (xr_ret (sr_return (ev_tuple (ea_cons (ev_bin (ev_name rfl) (ev_name rfl) (bin_floordiv _ _ (by first | assumption | omega | decide | (simp; done) | (simp; omega)) (by first | assumption | omega | decide | (simp; done) | (simp; omega)))) (ea_cons (ev_bin (ev_name rfl) (ev_name rfl) (bin_floordiv _ _ (by first | assumption | omega | decide | (simp; done) | (simp; omega)) (by first | assumption | omega | decide | (simp; done) | (simp; omega)))) ea_nil)) (by first | decide | (simp; done)))))))
  · simp only [hp, decide_false, Bool.false_eq_true, if_false, Option.some.injEq] at h
    subst h
    have g1 : (0 - (Nat.gcd t.natAbs b.natAbs : Nat) : Int) ≠ 0 := by omega
    have g2 : (0 - (Nat.gcd t.natAbs b.natAbs : Nat) : Int).natAbs < big := by omega
    exact (xr_next (sn_if_f (te_eq (b := false) (te_cmp (ev_name rfl) (ev_int _) (cmp_eq _ _)) (by first | rfl | assumption | decide | (simp [*]; done) | (simp; omega))) xs_nil) (xr_next (sn_assign (.inl rfl) (ev_ife_f (te_eq (b := false) (te_cmp (ev_name rfl) (ev_int _) (cmp_gt _ _)) (by first | rfl | assumption | decide | (simp [*]; done) | (simp; omega))) (ev_bin (ev_int _) (ev_call rfl (ar_cons (ev_name rfl) (ar_cons (ev_name rfl) ar_nil)) ((gcd_ok H t b).up (by first | decide | omega | (simp [lev, inner, poly]; done)))) (bin_sub _ _)))) (xr_ret (sr_return (ev_tuple (ea_cons (ev_bin (ev_name rfl) (ev_name rfl) (bin_floordiv _ _ (by first | assumption | omega | decide | (simp; done) | (simp; omega)) (by first | assumption | omega | decide | (simp; done) | (simp; omega)))) (ea_cons (ev_bin (ev_name rfl) (ev_name rfl) (bin_floordiv _ _ (by first | assumption | omega | decide | (simp; done) | (simp; omega)) (by first | assumption | omega | decide | (simp; done) | (simp; omega)))) ea_nil)) (by first | decide | (simp; done)))))))

theorem radd_ok {cx : Cx} (H : Mods cx) {k : Int} {a b q : Q} (h : radd? a b = some q) : CallTo cx 3 (Str.ofString "radd") [.val (dQ a), .val (dQ b)] k (dQ q) k := by
  unfold radd? at h
  split at h
  case isFalse => cases h
  rename_i hc
  obtain ⟨ha, hb⟩ := Bool.and_eq_true_iff.mp hc
  have ha1 := okQ_1 ha; have ha2 := okQ_2 ha; have hb1 := okQ_1 hb; have hb2 := okQ_2 hb
  refine mod2 (x1 := "a") (x2 := "b") (sc := [("a", .local), ("b", .local), ("rat", .globalImplicit)]) H (by decide) rfl rfl (fun _ _ _ _ _ _ _ _ _ _ => rfl) ⟨rfl, rfl, rfl⟩ (.inl rfl) (.inl rfl) rfl ?_
  exact (xr_ret (sr_return (ev_call rfl (ar_cons (ev_bin (ev_bin (ev_item (ev_name rfl) rfl (ev_int _) (by decide) (by decide) rfl) (ev_item (ev_name rfl) rfl (ev_int _) (by decide) (by decide) rfl) (bin_mul _ _ (by first | assumption | omega | decide | (simp; done) | (simp; omega)))) (ev_bin (ev_item (ev_name rfl) rfl (ev_int _) (by decide) (by decide) rfl) (ev_item (ev_name rfl) rfl (ev_int _) (by decide) (by decide) rfl) (bin_mul _ _ (by first | assumption | omega | decide | (simp; done) | (simp; omega)))) (bin_add _ _)) (ar_cons (ev_bin (ev_item (ev_name rfl) rfl (ev_int _) (by decide) (by decide) rfl) (ev_item (ev_name rfl) rfl (ev_int _) (by decide) (by decide) rfl) (bin_mul _ _ (by first | assumption | omega | decide | (simp; done) | (simp; omega)))) ar_nil)) ((rat_ok H h).up (by first | decide | omega | (simp [lev, inner, poly]; done))))))
theorem rsub_ok {cx : Cx} (H : Mods cx) {k : Int} {a b q : Q} (h : rsub? a b = some q) : CallTo cx 3 (Str.ofString "rsub") [.val (dQ a), .val (dQ b)] k (dQ q) k := by
  unfold rsub? at h
  split at h
  case isFalse => cases h
  rename_i hc
  obtain ⟨ha, hb⟩ := Bool.and_eq_true_iff.mp hc
  have ha1 := okQ_1 ha; have ha2 := okQ_2 ha; have hb1 := okQ_1 hb; have hb2 := okQ_2 hb
  refine mod2 (x1 := "a") (x2 := "b") (sc := [("a", .local), ("b", .local), ("rat", .globalImplicit)]) H (by decide) rfl rfl (fun _ _ _ _ _ _ _ _ _ _ => rfl) ⟨rfl, rfl, rfl⟩ (.inl rfl) (.inl rfl) rfl ?_
  exact (xr_ret (sr_return (ev_call rfl (ar_cons (ev_bin (ev_bin (ev_item (ev_name rfl) rfl (ev_int _) (by decide) (by decide) rfl) (ev_item (ev_name rfl) rfl (ev_int _) (by decide) (by decide) rfl) (bin_mul _ _ (by first | assumption | omega | decide | (simp; done) | (simp; omega)))) (ev_bin (ev_item (ev_name rfl) rfl (ev_int _) (by decide) (by decide) rfl) (ev_item (ev_name rfl) rfl (ev_int _) (by decide) (by decide) rfl) (bin_mul _ _ (by first | assumption | omega | decide | (simp; done) | (simp; omega)))) (bin_sub _ _)) (ar_cons (ev_bin (ev_item (ev_name rfl) rfl (ev_int _) (by decide) (by decide) rfl) (ev_item (ev_name rfl) rfl (ev_int _) (by decide) (by decide) rfl) (bin_mul _ _ (by first | assumption | omega | decide | (simp; done) | (simp; omega)))) ar_nil)) ((rat_ok H h).up (by first | decide | omega | (simp [lev, inner, poly]; done))))))
theorem rmul_ok {cx : Cx} (H : Mods cx) {k : Int} {a b q : Q} (h : rmul? a b = some q) : CallTo cx 3 (Str.ofString "rmul") [.val (dQ a), .val (dQ b)] k (dQ q) k := by
  unfold rmul? at h
  split at h
  case isFalse => cases h
  rename_i ha
  have ha1 := okQ_1 ha; have ha2 := okQ_2 ha
  refine mod2 (x1 := "a") (x2 := "b") (sc := [("a", .local), ("b", .local), ("rat", .globalImplicit)]) H (by decide) rfl rfl (fun _ _ _ _ _ _ _ _ _ _ => rfl) ⟨rfl, rfl, rfl⟩ (.inl rfl) (.inl rfl) rfl ?_
  exact (xr_ret (sr_return (ev_call rfl (ar_cons (ev_bin (ev_item (ev_name rfl) rfl (ev_int _) (by decide) (by decide) rfl) (ev_item (ev_name rfl) rfl (ev_int _) (by decide) (by decide) rfl) (bin_mul _ _ (by first | assumption | omega | decide | (simp; done) | (simp; omega)))) (ar_cons (ev_bin (ev_item (ev_name rfl) rfl (ev_int _) (by decide) (by decide) rfl) (ev_item (ev_name rfl) rfl (ev_int _) (by decide) (by decide) rfl) (bin_mul _ _ (by first | assumption | omega | decide | (simp; done) | (simp; omega)))) ar_nil)) ((rat_ok H h).up (by first | decide | omega | (simp [lev, inner, poly]; done))))))
theorem rdiv_ok {cx : Cx} (H : Mods cx) {k : Int} {a b q : Q} (h : rdiv? a b = some q) : CallTo cx 3 (Str.ofString "rdiv") [.val (dQ a), .val (dQ b)] k (dQ q) k := by
  unfold rdiv? at h
  split at h
  case isFalse => cases h
  rename_i ha
  have ha1 := okQ_1 ha; have ha2 := okQ_2 ha
  refine mod2 (x1 := "a") (x2 := "b") (sc := [("a", .local), ("b", .local), ("rat", .globalImplicit)]) H (by decide) rfl rfl (fun _ _ _ _ _ _ _ _ _ _ => rfl) ⟨rfl, rfl, rfl⟩ (.inl rfl) (.inl rfl) rfl ?_
  exact (xr_ret (sr_return (ev_call rfl (ar_cons (ev_bin (ev_item (ev_name rfl) rfl (ev_int _) (by decide) (by decide) rfl) (ev_item (ev_name rfl) rfl (ev_int _) (by decide) (by decide) rfl) (bin_mul _ _ (by first | assumption | omega | decide | (simp; done) | (simp; omega)))) (ar_cons (ev_bin (ev_item (ev_name rfl) rfl (ev_int _) (by decide) (by decide) rfl) (ev_item (ev_name rfl) rfl (ev_int _) (by decide) (by decide) rfl) (bin_mul _ _ (by first | assumption | omega | decide | (simp; done) | (simp; omega)))) ar_nil)) ((rat_ok H h).up (by first | decide | omega | (simp [lev, inner, poly]; done))))))
theorem mixed_ok {cx : Cx} (H : Mods cx) {k : Int} {a b : List Q} {i : Nat} {q : Q} (h : mixed? a b i = some q) (hi : i ≤ 9999) : CallTo cx 4 (Str.ofString "mixed") [.val (dS a), .val (dS b), .val (.int i)] k (dQ q) k := by
  unfold mixed? at h
  refine mod3 (x1 := "a") (x2 := "b") (x3 := "at") (sc := [("a", .local), ("b", .local), ("at", .local), ("found", .local), ("spot", .local), ("R0", .globalImplicit), ("range", .globalImplicit), ("radd", .globalImplicit), ("rmul", .globalImplicit)]) H (by decide) rfl rfl (fun _ _ _ _ _ _ _ _ _ _ _ => rfl) ⟨rfl, rfl, rfl⟩ (.inl rfl) (.inl rfl) (.inl rfl) (by decide) ?_
  refine (xr_next (sn_assign (.inl rfl) (ev_global rfl H.R0)) ?_)
  refine xr_next (sn_for_iter _ (fun s : Q => [("found", .val (dQ s)), ("a", .val (dS a)), ("b", .val (dS b)), ("at", .val (.int i))]) (items := rangeD 0 (i + 1)) (by rw [rangeD_len]; exact h) (.inl rfl) (it_range1 rfl (H.no "range" (by decide)) rfl (ev_bin (ev_name rfl) (ev_int _) (bin_add _ _)) (by first | assumption | omega | decide | (simp; done) | (simp; omega)) (by first | assumption | omega | decide | (simp; done) | (simp; omega)) (by first | (simp; done) | (simp; omega) | omega)) (by repeat (first | exact sub_nil | refine sub_cons rfl ?_)) ?_) (xr_ret (sr_return (ev_name rfl)))
  intro j d s s' hj _ hs
  have hlt : j < i + 1 := by have := (List.getElem?_eq_some_iff.mp hj).1; rwa [rangeD_len] at this
  rw [rangeD_at _ _ _ hlt] at hj
  cases hj
  obtain ⟨x, hx, hs⟩ := Option.bind_eq_some_iff.mp hs
  obtain ⟨y, hy, hs⟩ := Option.bind_eq_some_iff.mp hs
  have hy1 := hy
  split at hs
  · rename_i hc
    obtain ⟨h1, h2⟩ := Bool.and_eq_true_iff.mp hc
    obtain ⟨z, hz, hs⟩ := Option.bind_eq_some_iff.mp hs
    exact ⟨_, (xs_next (sn_if_t (te_and_t (te_eq (b := true) (te_cmp (ev_item (ev_name rfl) rfl (ev_name rfl) (by first | assumption | omega | decide | (simp; done) | (simp; omega)) (by first | assumption | omega | decide | (simp; done) | (simp; omega)) (by first | exact at_q hx (by omega) | exact at_q hy (by omega) | exact at_q hx (by simp) | exact at_q hy (by simp; omega))) (ev_global rfl H.R0) (cmp_ne_q _ _)) (by first | rfl | assumption | decide | (simp [*]; done) | (simp; omega))) (te_and_t (te_eq (b := true) (te_cmp (ev_item (ev_name rfl) rfl (ev_bin (ev_name rfl) (ev_name rfl) (bin_sub _ _)) (by first | assumption | omega | decide | (simp; done) | (simp; omega)) (by first | assumption | omega | decide | (simp; done) | (simp; omega)) (by first | exact at_q hx (by omega) | exact at_q hy (by omega) | exact at_q hx (by simp) | exact at_q hy (by simp; omega))) (ev_global rfl H.R0) (cmp_ne_q _ _)) (by first | rfl | assumption | decide | (simp [*]; done) | (simp; omega))) te_and_nil)) (xs_next (sn_assign (.inl rfl) (ev_call rfl (ar_cons (ev_name rfl) (ar_cons (ev_call rfl (ar_cons (ev_item (ev_name rfl) rfl (ev_name rfl) (by first | assumption | omega | decide | (simp; done) | (simp; omega)) (by first | assumption | omega | decide | (simp; done) | (simp; omega)) (by first | exact at_q hx (by omega) | exact at_q hy (by omega) | exact at_q hx (by simp) | exact at_q hy (by simp; omega))) (ar_cons (ev_item (ev_name rfl) rfl (ev_bin (ev_name rfl) (ev_name rfl) (bin_sub _ _)) (by first | assumption | omega | decide | (simp; done) | (simp; omega)) (by first | assumption | omega | decide | (simp; done) | (simp; omega)) (by first | exact at_q hx (by omega) | exact at_q hy (by omega) | exact at_q hx (by simp) | exact at_q hy (by simp; omega))) ar_nil)) ((rmul_ok H hz).up (by first | decide | omega | (simp [lev, inner, poly]; done)))) ar_nil)) ((radd_ok H hs).up (by first | decide | omega | (simp [lev, inner, poly]; done))))) xs_nil)) xs_nil), by repeat (first | exact sub_nil | refine sub_cons rfl ?_)⟩
  · rename_i hc
    cases hs
    cases h1 : nz x with
    | false => exact ⟨_, (xs_next (sn_if_f (te_and_f (te_eq (b := false) (te_cmp (ev_item (ev_name rfl) rfl (ev_name rfl) (by first | assumption | omega | decide | (simp; done) | (simp; omega)) (by first | assumption | omega | decide | (simp; done) | (simp; omega)) (by first | exact at_q hx (by omega) | exact at_q hy (by omega) | exact at_q hx (by simp) | exact at_q hy (by simp; omega))) (ev_global rfl H.R0) (cmp_ne_q _ _)) (by first | rfl | assumption | decide | (simp [*]; done) | (simp; omega)))) xs_nil) xs_nil), by repeat (first | exact sub_nil | refine sub_cons rfl ?_)⟩
    | true =>
      have h2 : nz y = false := by simpa [h1] using hc
      exact ⟨_, (xs_next (sn_if_f (te_and_t (te_eq (b := true) (te_cmp (ev_item (ev_name rfl) rfl (ev_name rfl) (by first | assumption | omega | decide | (simp; done) | (simp; omega)) (by first | assumption | omega | decide | (simp; done) | (simp; omega)) (by first | exact at_q hx (by omega) | exact at_q hy (by omega) | exact at_q hx (by simp) | exact at_q hy (by simp; omega))) (ev_global rfl H.R0) (cmp_ne_q _ _)) (by first | rfl | assumption | decide | (simp [*]; done) | (simp; omega))) (te_and_f (te_eq (b := false) (te_cmp (ev_item (ev_name rfl) rfl (ev_bin (ev_name rfl) (ev_name rfl) (bin_sub _ _)) (by first | assumption | omega | decide | (simp; done) | (simp; omega)) (by first | assumption | omega | decide | (simp; done) | (simp; omega)) (by first | exact at_q hx (by omega) | exact at_q hy (by omega) | exact at_q hx (by simp) | exact at_q hy (by simp; omega))) (ev_global rfl H.R0) (cmp_ne_q _ _)) (by first | rfl | assumption | decide | (simp [*]; done) | (simp; omega))))) xs_nil) xs_nil), by repeat (first | exact sub_nil | refine sub_cons rfl ?_)⟩
end Mine
set_option maxRecDepth 10000
namespace Mine
open PySem PySem.W PyProof.Rows PySem.Calls PySem.Spec

theorem rcompare_ok {cx : Cx} (H : Mods cx) {k : Int} {a b : Q} (ha : okQ a = true) (hb : okQ b = true) : CallTo cx 1 (Str.ofString "rcompare") [.val (dQ a), .val (dQ b)] k (.int (b2i (decide (0 < a.1 * b.2 - b.1 * a.2)) - b2i (decide (a.1 * b.2 - b.1 * a.2 < 0)))) k := by
  have ha1 := okQ_1 ha; have ha2 := okQ_2 ha; have hb1 := okQ_1 hb; have hb2 := okQ_2 hb
  refine mod2 (x1 := "a") (x2 := "b") (sc := [("a", .local), ("b", .local), ("off", .local)]) H (by decide) rfl rfl (fun _ _ _ _ _ _ _ _ _ _ => rfl) ⟨rfl, rfl, rfl⟩ (.inl rfl) (.inl rfl) rfl ?_
  exact (xr_next (sn_assign (.inl rfl) (ev_bin (ev_bin (ev_item (ev_name rfl) rfl (ev_int _) (by decide) (by decide) rfl) (ev_item (ev_name rfl) rfl (ev_int _) (by decide) (by decide) rfl) (bin_mul _ _ (by first | assumption | omega | decide | (simp; done) | (simp; omega)))) (ev_bin (ev_item (ev_name rfl) rfl (ev_int _) (by decide) (by decide) rfl) (ev_item (ev_name rfl) rfl (ev_int _) (by decide) (by decide) rfl) (bin_mul _ _ (by first | assumption | omega | decide | (simp; done) | (simp; omega)))) (bin_sub _ _))) (xr_ret (sr_return (ev_bin (ev_cmp (ev_name rfl) (ev_int _) (cmp_gt _ _)) (ev_cmp (ev_name rfl) (ev_int _) (cmp_lt _ _)) (bin_sub_bool _ _)))))
theorem need_begin_ok {cx : Cx} (H : Mods cx) {k : Int} {a : List Q} {q : Q} (h : need? a q = some true) : CallTo cx 2 (Str.ofString "need_begin") [.val (dS a), .val (dQ q)] k .none k := by
  unfold need? at h
  split at h
  · cases h
  rename_i hl
  have hl := okL_lt (by simpa using hl)
  refine mod2n (x1 := "a") (x2 := "number") (sc := [("a", .local), ("number", .local), ("len", .globalImplicit), ("rcompare", .globalImplicit), ("CasFail", .globalImplicit), ("str", .globalImplicit)]) H (by decide) rfl rfl (fun _ _ _ _ _ _ _ _ _ _ => rfl) ⟨rfl, rfl, rfl⟩ (.inl rfl) (.inl rfl) rfl ?_
  cases a with
  | nil => exact ⟨_, (xs_next (sn_if_f (te_and_f (te_eq (b := false) (te_cmp (ev_callb rfl (H.no "len" (by decide)) rfl (ea_cons (ev_name rfl) ea_nil) (cb_len_list _ (by first | assumption | omega | decide | (simp; done) | (simp; omega)))) (ev_int _) (cmp_gt _ _)) (by first | rfl | assumption | decide | (simp [*]; done) | (simp; omega)))) xs_nil) xs_nil)⟩
  | cons x r =>
    dsimp only at h
    unfold req? at h
    split at h
    case isFalse => cases h
    rename_i hc
    obtain ⟨ha, hb⟩ := Bool.and_eq_true_iff.mp hc
    have h0 : x.1 * q.2 - q.1 * x.2 = 0 := by simpa using h
    have hx : (x :: r)[0]? = some x := rfl
    have hl' : r.length < 99 := by simp at hl; omega
    have hv : (b2i (decide (0 < x.1 * q.2 - q.1 * x.2)) - b2i (decide (x.1 * q.2 - q.1 * x.2 < 0)) != 0) = false := by rw [h0]; rfl
    exact ⟨_, (xs_next (sn_if_f (te_and_t (te_eq (b := true) (te_cmp (ev_callb rfl (H.no "len" (by decide)) rfl (ea_cons (ev_name rfl) ea_nil) (cb_len_list _ (by first | assumption | omega | decide | (simp; done) | (simp; omega)))) (ev_int _) (cmp_gt _ _)) (by first | rfl | assumption | decide | (simp [*]; done) | (simp; omega))) (te_and_f (te_eq (b := false) (te_cmp (ev_call rfl (ar_cons (ev_item (ev_name rfl) rfl (ev_int _) (by first | assumption | omega | decide | (simp; done) | (simp; omega)) (by first | assumption | omega | decide | (simp; done) | (simp; omega)) (by first | exact at_q hx (by omega) | exact at_q hy (by omega) | exact at_q hx (by simp) | exact at_q hy (by simp; omega))) (ar_cons (ev_name rfl) ar_nil)) ((rcompare_ok H ha hb).up (by first | decide | omega | (simp [lev, inner, poly]; done)))) (ev_int _) (cmp_ne _ _)) (by first | rfl | assumption | decide | (simp [*]; done) | (simp; omega))))) xs_nil) xs_nil)⟩
theorem smul_ok {cx : Cx} (H : Mods cx) {k : Int} {a b r : List Q} (h : smul? a b = some r) : CallOwn cx 5 (Str.ofString "smul") [.val (dS a), .val (dS b)] k (r.map dQ) k := by
  unfold smul? at h
  split at h
  · cases h
  rename_i hl
  obtain ⟨hla, hlb⟩ : okL a = true ∧ okL b = true := by simpa using hl
  have hla := okL_lt hla; have hlb := okL_lt hlb
  refine mod2o (x1 := "a") (x2 := "b") (sc := [("a", .cell), ("b", .cell), ("range", .globalImplicit), ("min", .globalImplicit), ("len", .globalImplicit)]) H (by decide) rfl rfl (fun _ _ _ _ _ _ _ _ _ _ => rfl) ⟨rfl, rfl, rfl⟩ (.inr rfl) (.inr rfl) rfl ?_
  have e : (if ((b.map dQ).length : Int) < (a.map dQ).length then ((b.map dQ).length : Int) else (a.map dQ).length) = (min a.length b.length : Nat) := by simp; split <;> omega
  refine xo_return (eo_mapO h (fun i => Dat.int (i : Int)) dQ rfl (compSc_of rfl) (it_range0 rfl (H.no "range" (by decide)) rfl (ev_callb rfl (H.no "min" (by decide)) rfl (ea_cons (ev_callb rfl (H.no "len" (by decide)) rfl (ea_cons (ev_name rfl) ea_nil) (cb_len_list _ (by first | assumption | omega | decide | (simp; done) | (simp; omega)))) (ea_cons (ev_callb rfl (H.no "len" (by decide)) rfl (ea_cons (ev_name rfl) ea_nil) (cb_len_list _ (by first | assumption | omega | decide | (simp; done) | (simp; omega)))) ea_nil)) (cb_min _ _)) (by first | assumption | omega | decide | (simp; done) | (simp; omega)) (by first | assumption | omega | decide | (simp; done) | (simp; omega)) (by first | (simp; done) | (simp; omega) | omega)) (by simp; omega) ?_)
  intro i j q hj hq
  obtain ⟨hi, rfl⟩ := List.getElem?_eq_some_iff.mp hj
  simp at hi
  have hq' : mixed? a b i = some q := by simpa using hq
  simp only [List.getElem_range]
  exact (ev_call rfl (ar_cons (ev_name rfl) (ar_cons (ev_name rfl) (ar_cons (ev_name rfl) ar_nil))) ((mixed_ok H hq' (by omega)).up (by first | decide | omega | (simp [lev, inner, poly]; done))))
theorem cut_ok {cx : Cx} (H : Mods cx) {k : Int} {a r : List Q} {m : Nat} (h : cut? a m = some r) {j : Int} (hj : j = (m : Int)) : CallTo cx 1 (Str.ofString "cut") [.val (dS a), .val (.int j)] k (dS r) k := by
  subst hj
  unfold cut? at h
  split at h
  case isFalse => cases h
  rename_i hc
  obtain ⟨h1, h2⟩ := Bool.and_eq_true_iff.mp hc
  have h1 := okL_lt h1; have h2 := okN_lt h2
  cases h
  refine mod2 (x1 := "a") (x2 := "order") (sc := [("a", .local), ("order", .local), ("list", .globalImplicit), ("R0", .globalImplicit), ("len", .globalImplicit)]) H (by decide) rfl rfl (fun _ _ _ _ _ _ _ _ _ _ => rfl) ⟨rfl, rfl, rfl⟩ (.inl rfl) (.inl rfl) rfl ?_
  exact xr_eq (xr_ret (sr_return (ev_own (eo_add (ev_own (eo_list_of rfl (H.no "list" (by decide)) rfl (ev_own (eo_slice_to (ev_name rfl) (ev_name rfl) (by first | assumption | omega | decide | (simp; done) | (simp; omega)) (by first | assumption | omega | decide | (simp; done) | (simp; omega)))) (by first | assumption | omega | decide | (simp; done) | (simp; omega)))) (ev_own (eo_rep (ev_own (eo_list (ea_cons (ev_global rfl H.R0) ea_nil) (by first | decide | (simp; done)))) (ev_bin (ev_name rfl) (ev_callb rfl (H.no "len" (by decide)) rfl (ea_cons (ev_name rfl) ea_nil) (cb_len_list _ (by first | assumption | omega | decide | (simp; done) | (simp; omega)))) (bin_sub _ _)) (by first | assumption | omega | decide | (simp; done) | (simp; omega)) (by first | assumption | omega | decide | (simp; done) | (simp; omega)))) (by first | assumption | omega | decide | (simp; done) | (simp; omega)))))) (by simp [← List.map_take])
theorem sadd_ok {cx : Cx} (H : Mods cx) {k : Int} {a b r : List Q} (h : sadd? a b = some r) : CallTo cx 4 (Str.ofString "sadd") [.val (dS a), .val (dS b)] k (dS r) k := by
  unfold sadd? at h
  split at h
  · cases h
  rename_i hl
  obtain ⟨hla, hlb⟩ : okL a = true ∧ okL b = true := by simpa using hl
  have hla := okL_lt hla; have hlb := okL_lt hlb
  refine mod2 (x1 := "a") (x2 := "b") (sc := [("a", .cell), ("b", .cell), ("range", .globalImplicit), ("min", .globalImplicit), ("len", .globalImplicit)]) H (by decide) rfl rfl (fun _ _ _ _ _ _ _ _ _ _ => rfl) ⟨rfl, rfl, rfl⟩ (.inr rfl) (.inr rfl) rfl ?_
  have e : (if ((b.map dQ).length : Int) < (a.map dQ).length then ((b.map dQ).length : Int) else (a.map dQ).length) = (min a.length b.length : Nat) := by simp; split <;> omega
  refine xr_ret (sr_return (ev_own (eo_mapO h (fun i => Dat.int (i : Int)) dQ rfl (compSc_of rfl) (it_range0 rfl (H.no "range" (by decide)) rfl (ev_callb rfl (H.no "min" (by decide)) rfl (ea_cons (ev_callb rfl (H.no "len" (by decide)) rfl (ea_cons (ev_name rfl) ea_nil) (cb_len_list _ (by first | assumption | omega | decide | (simp; done) | (simp; omega)))) (ea_cons (ev_callb rfl (H.no "len" (by decide)) rfl (ea_cons (ev_name rfl) ea_nil) (cb_len_list _ (by first | assumption | omega | decide | (simp; done) | (simp; omega)))) ea_nil)) (cb_min _ _)) (by first | assumption | omega | decide | (simp; done) | (simp; omega)) (by first | assumption | omega | decide | (simp; done) | (simp; omega)) (by first | (simp; done) | (simp; omega) | omega)) (by simp; omega) ?_)))
  intro i j q hj hq
  obtain ⟨hi, rfl⟩ := List.getElem?_eq_some_iff.mp hj
  simp at hi
  simp only [List.getElem_range] at hq ⊢
  obtain ⟨x, hx, hq⟩ := Option.bind_eq_some_iff.mp hq
  obtain ⟨y, hy, hq⟩ := Option.bind_eq_some_iff.mp hq
  exact (ev_call rfl (ar_cons (ev_item (ev_name rfl) rfl (ev_name rfl) (by first | assumption | omega | decide | (simp; done) | (simp; omega)) (by first | assumption | omega | decide | (simp; done) | (simp; omega)) (by first | exact at_q hx (by omega) | exact at_q hy (by omega) | exact at_q hx (by simp) | exact at_q hy (by simp; omega))) (ar_cons (ev_item (ev_name rfl) rfl (ev_name rfl) (by first | assumption | omega | decide | (simp; done) | (simp; omega)) (by first | assumption | omega | decide | (simp; done) | (simp; omega)) (by first | exact at_q hx (by omega) | exact at_q hy (by omega) | exact at_q hx (by simp) | exact at_q hy (by simp; omega))) ar_nil)) ((radd_ok H hq).up (by first | decide | omega | (simp [lev, inner, poly]; done))))
theorem sscale_ok {cx : Cx} (H : Mods cx) {k : Int} {c : Q} {a r : List Q} (h : sscale? c a = some r) : CallTo cx 4 (Str.ofString "sscale") [.val (dQ c), .val (dS a)] k (dS r) k := by
  unfold sscale? at h
  split at h
  case isFalse => cases h
  rename_i hl
  have hl := okL_lt hl
  refine mod2 (x1 := "number") (x2 := "a") (sc := [("number", .cell), ("a", .local)]) H (by decide) rfl rfl (fun _ _ _ _ _ _ _ _ _ _ => rfl) ⟨rfl, rfl, rfl⟩ (.inr rfl) (.inl rfl) rfl ?_
  refine xr_ret (sr_return (ev_own (eo_mapO h dQ dQ rfl (compSc_of rfl) (it_seq (ev_name rfl) rfl (by first | assumption | omega | decide | (simp; done) | (simp; omega))) (by omega) ?_)))
  intro i j q hj hq
  exact (ev_call rfl (ar_cons (ev_name rfl) (ar_cons (ev_name rfl) ar_nil)) ((rmul_ok H hq).up (by first | decide | omega | (simp [lev, inner, poly]; done))))
theorem sderive_ok {cx : Cx} (H : Mods cx) {k : Int} {a r : List Q} (h : sderive? a = some r) : CallTo cx 4 (Str.ofString "sderive") [.val (dS a)] k (dS r) k := by
  unfold sderive? at h
  split at h
  · cases h
  rename_i hl
  have hl := okL_lt (by simpa using hl)
  refine mod1 (x1 := "a") (sc := [("a", .cell), ("range", .globalImplicit), ("len", .globalImplicit)]) H (by decide) rfl rfl (fun _ _ _ _ _ _ _ _ _ => rfl) ⟨rfl, rfl, rfl⟩ (.inr rfl) ?_
  refine xr_ret (sr_return (ev_own (eo_mapO h (fun i => Dat.int (1 + (i : Int))) dQ rfl (compSc_of rfl) (it_range2 rfl (H.no "range" (by decide)) rfl (ev_int _) (ev_callb rfl (H.no "len" (by decide)) rfl (ea_cons (ev_name rfl) ea_nil) (cb_len_list _ (by first | assumption | omega | decide | (simp; done) | (simp; omega)))) (by first | assumption | omega | decide | (simp; done) | (simp; omega)) (by first | assumption | omega | decide | (simp; done) | (simp; omega)) (by first | assumption | omega | decide | (simp; done) | (simp; omega)) (by first | assumption | omega | decide | (simp; done) | (simp; omega)) (by first | (simp; done) | (simp; omega) | omega)) (by simp; omega) ?_)))
  intro i j q hj hq
  obtain ⟨hi, rfl⟩ := List.getElem?_eq_some_iff.mp hj
  simp at hi
  simp only [List.getElem_range] at hq ⊢
  obtain ⟨x, hx, hq⟩ := Option.bind_eq_some_iff.mp hq
  exact (ev_call rfl (ar_cons (ev_tuple (ea_cons (ev_name rfl) (ea_cons (ev_int _) ea_nil)) (by first | decide | (simp; done))) (ar_cons (ev_item (ev_name rfl) rfl (ev_name rfl) (by first | assumption | omega | decide | (simp; done) | (simp; omega)) (by first | assumption | omega | decide | (simp; done) | (simp; omega)) (by first | exact at_q hx (by omega) | exact at_q hy (by omega) | exact at_q hx (by simp) | exact at_q hy (by simp; omega))) ar_nil)) ((rmul_ok H hq).up (by first | decide | omega | (simp [lev, inner, poly]; done))))
theorem sintegrate_ok {cx : Cx} (H : Mods cx) {k : Int} {a r : List Q} (h : sintegrate? a = some r) : CallTo cx 4 (Str.ofString "sintegrate") [.val (dS a)] k (dS r) k := by
  unfold sintegrate? at h
  split at h
  · cases h
  rename_i hl
  have hl := okL_lt (by simpa using hl)
  obtain ⟨r', h', he⟩ := Option.bind_eq_some_iff.mp h
  clear h
  have h := h'
  cases he
  have hr := (mapO_at h).1
  simp at hr
  refine mod1 (x1 := "a") (sc := [("a", .cell), ("R0", .globalImplicit), ("range", .globalImplicit), ("len", .globalImplicit)]) H (by decide) rfl rfl (fun _ _ _ _ _ _ _ _ _ => rfl) ⟨rfl, rfl, rfl⟩ (.inr rfl) ?_
  refine xr_ret (sr_return (ev_own (eo_add (ds := [dQ r0]) (es := r'.map dQ) (ev_own (eo_list (ea_cons (ev_global rfl H.R0) ea_nil) (by decide))) (ev_own (eo_mapO h (fun i => Dat.int (i : Int)) dQ rfl (compSc_of rfl) (it_range0 rfl (H.no "range" (by decide)) rfl (ev_callb rfl (H.no "len" (by decide)) rfl (ea_cons (ev_name rfl) ea_nil) (cb_len_list _ (by first | assumption | omega | decide | (simp; done) | (simp; omega)))) (by first | assumption | omega | decide | (simp; done) | (simp; omega)) (by first | assumption | omega | decide | (simp; done) | (simp; omega)) (by first | (simp; done) | (simp; omega) | omega)) (by simp; omega) ?_)) (by simp; omega))))
  intro i j q hj hq
  obtain ⟨hi, rfl⟩ := List.getElem?_eq_some_iff.mp hj
  simp at hi
  simp only [List.getElem_range] at hq ⊢
  obtain ⟨x, hx, hq⟩ := Option.bind_eq_some_iff.mp hq
  exact (ev_call rfl (ar_cons (ev_item (ev_name rfl) rfl (ev_name rfl) (by first | assumption | omega | decide | (simp; done) | (simp; omega)) (by first | assumption | omega | decide | (simp; done) | (simp; omega)) (by first | exact at_q hx (by omega) | exact at_q hy (by omega) | exact at_q hx (by simp) | exact at_q hy (by simp; omega))) (ar_cons (ev_tuple (ea_cons (ev_bin (ev_name rfl) (ev_int _) (bin_add _ _)) (ea_cons (ev_int _) ea_nil)) (by first | decide | (simp; done))) ar_nil)) ((rdiv_ok H hq).up (by first | decide | omega | (simp [lev, inner, poly]; done))))
theorem sinverse_ok {cx : Cx} (H : Mods cx) {k : Int} {a r : List Q} (h : sinverse? a = some r) : CallTo cx 4 (Str.ofString "sinverse") [.val (dS a)] k (dS r) k := by
  unfold sinverse? at h
  obtain ⟨a0, ha0, h⟩ := Option.bind_eq_some_iff.mp h
  split at h
  case isFalse => cases h
  rename_i hc
  obtain ⟨hn, hl⟩ := Bool.and_eq_true_iff.mp hc
  have hl := okL_lt hl
  have hx := ha0
  have hpos : 0 < a.length := (List.getElem?_eq_some_iff.mp ha0).1
  have hpos' : 0 < (a.map dQ).length := by simpa using hpos
  refine mod1 (x1 := "a") (sc := [("a", .local), ("found", .local), ("at", .local), ("total", .local), ("spot", .local), ("len", .globalImplicit), ("R0", .globalImplicit), ("CasFail", .globalImplicit), ("range", .globalImplicit), ("R1", .globalImplicit), ("rsub", .globalImplicit), ("rmul", .globalImplicit), ("rdiv", .globalImplicit)]) H (by decide) rfl rfl (fun _ _ _ _ _ _ _ _ _ => rfl) ⟨rfl, rfl, rfl⟩ (.inl rfl) ?_
  have hne : (a0.1 == r0.1 && a0.2 == r0.2) = false := by
    unfold nz at hn
    cases hq : (a0.1 == r0.1 && a0.2 == r0.2) with
    | false => rfl
    | true => rw [show (a0.1 == 0 && a0.2 == 1) = true from hq] at hn; cases hn
  refine (xr_next (sn_if_f (te_and_t (te_eq (b := true) (te_cmp (ev_callb rfl (H.no "len" (by decide)) rfl (ea_cons (ev_name rfl) ea_nil) (cb_len_list _ (by first | assumption | omega | decide | (simp; done) | (simp; omega)))) (ev_int _) (cmp_gt _ _)) (by first | rfl | assumption | decide | (simp [*]; done) | (simp; omega))) (te_and_f (te_eq (b := false) (te_cmp (ev_item (ev_name rfl) rfl (ev_int _) (by first | assumption | omega | decide | (simp; done) | (simp; omega)) (by first | assumption | omega | decide | (simp; done) | (simp; omega)) (by first | exact at_q hx (by omega) | exact at_q hy (by omega) | exact at_q hx (by simp) | exact at_q hy (by simp; omega))) (ev_global rfl H.R0) (cmp_eq_q _ _)) (by first | rfl | assumption | decide | (simp [*]; done) | (simp; omega))))) xs_nil) (xr_next (sn_assign_own (.inl rfl) (eo_list ea_nil (by first | decide | (simp; done)))) ?_))
  refine xr_next (sn_for_iter _ (fun s : List Q => [("found", .own (s.map dQ)), ("a", .val (dS a))]) (items := rangeD 0 a.length) (by rw [rangeD_len]; exact h) (.inl rfl) (it_range1 rfl (H.no "range" (by decide)) rfl (ev_callb rfl (H.no "len" (by decide)) rfl (ea_cons (ev_name rfl) ea_nil) (cb_len_list _ (by first | assumption | omega | decide | (simp; done) | (simp; omega)))) (by first | assumption | omega | decide | (simp; done) | (simp; omega)) (by first | assumption | omega | decide | (simp; done) | (simp; omega)) (by first | (simp; done) | (simp; omega) | omega)) (by repeat (first | exact sub_nil | refine sub_cons rfl ?_)) ?_) (xr_freeze (x := "found") rfl (xr_ret (sr_return (ev_name rfl))))
  intro i d s s' hj hit hs
  have hlt : i < a.length := by have := (List.getElem?_eq_some_iff.mp hj).1; rwa [rangeD_len] at this
  rw [rangeD_at _ _ _ hlt] at hj
  cases hj
  have hsl : s.length = i := iter_inv (P := fun i s => s.length = i) rfl (fun i s s' e h => by
    obtain ⟨t, _, h⟩ := Option.bind_eq_some_iff.mp h
    obtain ⟨q, _, h⟩ := Option.bind_eq_some_iff.mp h
    cases h; simp [e]) hit
  obtain ⟨t, ht, hs⟩ := Option.bind_eq_some_iff.mp hs
  obtain ⟨q, hq, hs⟩ := Option.bind_eq_some_iff.mp hs
  cases hs
  cases i with
  | zero =>
    refine ⟨_, xs_next (sn_assign (.inl rfl) (ev_ife_t (te_eq (b := true) (te_cmp (ev_name rfl) (ev_int _) (cmp_eq _ _)) (by first | rfl | assumption | decide | (simp [*]; done) | (simp; omega))) (ev_global rfl H.R1))) (xs_next (sn_for_iter _ (fun t : Q => [("total", .val (dQ t)), ("at", .val (.int (0 + (0 : Nat)))), ("found", .own (s.map dQ)), ("a", .val (dS a))]) (items := rangeD 1 0) (by rw [rangeD_len]; exact ht) (.inl rfl) (it_range2 rfl (H.no "range" (by decide)) rfl (ev_int _) (ev_bin (ev_name rfl) (ev_int _) (bin_add _ _)) (by first | assumption | omega | decide | (simp; done) | (simp; omega)) (by first | assumption | omega | decide | (simp; done) | (simp; omega)) (by first | assumption | omega | decide | (simp; done) | (simp; omega)) (by first | assumption | omega | decide | (simp; done) | (simp; omega)) (by first | (simp; done) | (simp; omega) | omega)) (by repeat (first | exact sub_nil | refine sub_cons rfl ?_)) ?_) (xs_next (sn_append rfl (ev_call rfl (ar_cons (ev_name rfl) (ar_cons (ev_item (ev_name rfl) rfl (ev_int _) (by first | assumption | omega | decide | (simp; done) | (simp; omega)) (by first | assumption | omega | decide | (simp; done) | (simp; omega)) (by first | exact at_q hx (by omega) | exact at_q hy (by omega) | exact at_q hx (by simp) | exact at_q hy (by simp; omega))) ar_nil)) ((rdiv_ok H hq).up (by first | decide | omega | (simp [lev, inner, poly]; done)))) (by first | assumption | omega | decide | (simp; done) | (simp; omega))) xs_nil)), by simp only [List.map_append, List.map_cons, List.map_nil]; exact (by repeat (first | exact sub_nil | refine sub_cons rfl ?_))⟩
    intro j d t t' hj' _ ht'
    have := (List.getElem?_eq_some_iff.mp hj').1; rw [rangeD_len] at this
    omega
  | succ i =>
    refine ⟨_, xs_next (sn_assign (.inl rfl) (ev_ife_f (te_eq (b := false) (te_cmp (ev_name rfl) (ev_int _) (cmp_eq _ _)) (by first | rfl | assumption | decide | (simp [*]; done) | (simp; omega))) (ev_global rfl H.R0))) (xs_next (sn_for_iter _ (fun t : Q => [("total", .val (dQ t)), ("at", .val (.int (0 + ((i + 1 : Nat) : Int)))), ("found", .own (s.map dQ)), ("a", .val (dS a))]) (items := rangeD 1 (i + 1)) (by rw [rangeD_len]; exact ht) (.inl rfl) (it_range2 rfl (H.no "range" (by decide)) rfl (ev_int _) (ev_bin (ev_name rfl) (ev_int _) (bin_add _ _)) (by first | assumption | omega | decide | (simp; done) | (simp; omega)) (by first | assumption | omega | decide | (simp; done) | (simp; omega)) (by first | assumption | omega | decide | (simp; done) | (simp; omega)) (by first | assumption | omega | decide | (simp; done) | (simp; omega)) (by first | (simp; done) | (simp; omega) | omega)) (by repeat (first | exact sub_nil | refine sub_cons rfl ?_)) ?_) (xs_next (sn_append rfl (ev_call rfl (ar_cons (ev_name rfl) (ar_cons (ev_item (ev_name rfl) rfl (ev_int _) (by first | assumption | omega | decide | (simp; done) | (simp; omega)) (by first | assumption | omega | decide | (simp; done) | (simp; omega)) (by first | exact at_q hx (by omega) | exact at_q hy (by omega) | exact at_q hx (by simp) | exact at_q hy (by simp; omega))) ar_nil)) ((rdiv_ok H hq).up (by first | decide | omega | (simp [lev, inner, poly]; done)))) (by first | assumption | omega | decide | (simp; done) | (simp; omega))) xs_nil)), by simp only [List.map_append, List.map_cons, List.map_nil]; exact (by repeat (first | exact sub_nil | refine sub_cons rfl ?_))⟩
    intro j d t t' hj' _ ht'
    have hjl := (List.getElem?_eq_some_iff.mp hj').1; rw [rangeD_len] at hjl
    rw [rangeD_at _ _ _ hjl] at hj'
    cases hj'
    obtain ⟨x, hx, ht'⟩ := Option.bind_eq_some_iff.mp ht'
    obtain ⟨y, hy, ht'⟩ := Option.bind_eq_some_iff.mp ht'
    obtain ⟨z, hz, ht'⟩ := Option.bind_eq_some_iff.mp ht'
    exact ⟨_, (xs_next (sn_assign (.inl rfl) (ev_call rfl (ar_cons (ev_name rfl) (ar_cons (ev_call rfl (ar_cons (ev_item (ev_name rfl) rfl (ev_name rfl) (by first | assumption | omega | decide | (simp; done) | (simp; omega)) (by first | assumption | omega | decide | (simp; done) | (simp; omega)) (by first | exact at_q hx (by omega) | exact at_q hy (by omega) | exact at_q hx (by simp) | exact at_q hy (by simp; omega))) (ar_cons (ev_item_own rfl (ev_bin (ev_name rfl) (ev_name rfl) (bin_sub _ _)) (by first | assumption | omega | decide | (simp; done) | (simp; omega)) (by first | assumption | omega | decide | (simp; done) | (simp; omega)) (by first | exact at_q hx (by omega) | exact at_q hy (by omega) | exact at_q hx (by simp) | exact at_q hy (by simp; omega))) ar_nil)) ((rmul_ok H hz).up (by first | decide | omega | (simp [lev, inner, poly]; done)))) ar_nil)) ((rsub_ok H ht').up (by first | decide | omega | (simp [lev, inner, poly]; done))))) xs_nil), by repeat (first | exact sub_nil | refine sub_cons rfl ?_)⟩
end Mine
set_option maxRecDepth 10000
namespace Mine
open PySem PySem.W PyProof.Rows PySem.Calls PySem.Spec


theorem ssin_cos_ok {cx : Cx} (H : Mods cx) {k : Int} {a : List Q} {r : List Q × List Q} (h : ssincos? a = some r) : CallTo cx 4 (Str.ofString "ssin_cos") [.val (dS a)] k (.tuple [dS r.1, dS r.2]) k := by
  unfold ssincos? at h
  obtain ⟨b, hb, h⟩ := Option.bind_eq_some_iff.mp h
  split at h
  case isFalse => cases h
  rename_i hc
  obtain ⟨rfl, hl⟩ := Bool.and_eq_true_iff.mp hc
  have hl := okL_lt hl
  refine mod1 (x1 := "a") (sc := [("a", .local), ("sines", .local), ("others", .local), ("at", .local), ("one", .local), ("other", .local), ("spot", .local), ("moved", .local), ("need_begin", .globalImplicit), ("R0", .globalImplicit), ("range", .globalImplicit), ("len", .globalImplicit), ("rmul", .globalImplicit), ("radd", .globalImplicit), ("rsub", .globalImplicit), ("rdiv", .globalImplicit), ("R1", .globalImplicit)]) H (by decide) rfl rfl (fun _ _ _ _ _ _ _ _ _ => rfl) ⟨rfl, rfl, rfl⟩ (.inl rfl) ?_
  refine (xr_next (sn_expr (ev_call rfl (ar_cons (ev_name rfl) (ar_cons (ev_global rfl H.R0) ar_nil)) ((need_begin_ok H hb).up (by first | decide | omega | (simp [lev, inner, poly]; done))))) (xr_next (sn_swap2_own rfl rfl (by intro x l h; revert h; simp [List.lookup_cons]; repeat' split <;> simp) (eo_list ea_nil (by first | decide | (simp; done))) (eo_list ea_nil (by first | decide | (simp; done)))) ?_))
  refine xr_next (sn_for_iter _ (fun f : List Q × List Q => [("sines", .own (f.1.map dQ)), ("others", .own (f.2.map dQ)), ("a", .val (dS a))]) (items := rangeD 0 a.length) (by rw [rangeD_len]; exact h) (.inl rfl) (it_range1 rfl (H.no "range" (by decide)) rfl (ev_callb rfl (H.no "len" (by decide)) rfl (ea_cons (ev_name rfl) ea_nil) (cb_len_list _ (by first | assumption | omega | decide | (simp; done) | (simp; omega)))) (by first | assumption | omega | decide | (simp; done) | (simp; omega)) (by first | assumption | omega | decide | (simp; done) | (simp; omega)) (by first | (simp; done) | (simp; omega) | omega)) (by repeat (first | exact sub_nil | refine sub_cons rfl ?_)) ?_) (xr_freeze (x := "sines") rfl (xr_freeze (x := "others") rfl (xr_ret (sr_return (ev_tuple (ea_cons (ev_name rfl) (ea_cons (ev_name rfl) ea_nil)) (by first | decide | (simp; done)))))))
  intro i d f f' hj hit hs
  have hlt : i < a.length := by have := (List.getElem?_eq_some_iff.mp hj).1; rwa [rangeD_len] at this
  rw [rangeD_at _ _ _ hlt] at hj
  cases hj
  obtain ⟨hl1, hl2⟩ : f.1.length = i ∧ f.2.length = i := iter_inv (P := fun i (f : List Q × List Q) => f.1.length = i ∧ f.2.length = i) ⟨rfl, rfl⟩ (fun i f f' e h => by
    obtain ⟨t, _, h⟩ := Option.bind_eq_some_iff.mp h
    split at h
    · cases h; simp [e.1, e.2]
    · obtain ⟨p, _, h⟩ := Option.bind_eq_some_iff.mp h
      obtain ⟨q, _, h⟩ := Option.bind_eq_some_iff.mp h
      cases h; simp [e.1, e.2]) hit
  obtain ⟨t, ht, hs⟩ := Option.bind_eq_some_iff.mp hs
  cases i with
  | zero =>
    cases hs
    exact ⟨_, xs_next (sn_swap2 rfl rfl (ev_global rfl H.R0) (ev_global rfl H.R0)) (xs_next (sn_for_iter (s0 := (r0, r0)) (sN := t) _ (fun t : Q × Q => [("one", .val (dQ t.1)), ("other", .val (dQ t.2)), ("at", .val (.int (0 + (0 : Nat)))), ("sines", .own (f.1.map dQ)), ("others", .own (f.2.map dQ)), ("a", .val (dS a))]) (items := rangeD 1 0) (by rw [rangeD_len]; exact ht) (.inl rfl) (it_range2 rfl (H.no "range" (by decide)) rfl (ev_int _) (ev_bin (ev_name rfl) (ev_int _) (bin_add _ _)) (by first | assumption | omega | decide | (simp; done) | (simp; omega)) (by first | assumption | omega | decide | (simp; done) | (simp; omega)) (by first | assumption | omega | decide | (simp; done) | (simp; omega)) (by first | assumption | omega | decide | (simp; done) | (simp; omega)) (by first | (simp; done) | (simp; omega) | omega)) (by repeat (first | exact sub_nil | refine sub_cons rfl ?_)) (fun j d t t' hj' _ ht' => by
    have hjl := (List.getElem?_eq_some_iff.mp hj').1; rw [rangeD_len] at hjl
    rw [rangeD_at _ _ _ hjl] at hj'
    cases hj'
    obtain ⟨x, hx, ht'⟩ := Option.bind_eq_some_iff.mp ht'
    obtain ⟨mv, hmv, ht'⟩ := Option.bind_eq_some_iff.mp ht'
    obtain ⟨y, hy, ht'⟩ := Option.bind_eq_some_iff.mp ht'
    obtain ⟨z, hz, ht'⟩ := Option.bind_eq_some_iff.mp ht'
    obtain ⟨u, hu, ht'⟩ := Option.bind_eq_some_iff.mp ht'
    obtain ⟨y2, hy2, ht'⟩ := Option.bind_eq_some_iff.mp ht'
    obtain ⟨z2, hz2, ht'⟩ := Option.bind_eq_some_iff.mp ht'
    obtain ⟨v, hv, ht'⟩ := Option.bind_eq_some_iff.mp ht'
    cases ht'
    exact ⟨_, (xs_next (sn_assign (.inl rfl) (ev_call rfl (ar_cons (ev_tuple (ea_cons (ev_name rfl) (ea_cons (ev_int _) ea_nil)) (by first | decide | (simp; done))) (ar_cons (ev_item (ev_name rfl) rfl (ev_name rfl) (by first | assumption | omega | decide | (simp; done) | (simp; omega)) (by first | assumption | omega | decide | (simp; done) | (simp; omega)) (by first | exact at_q hx (by omega) | exact at_q hy (by omega) | exact at_q hy2 (by omega) | exact at_q hx (by simp) | exact at_q hy (by simp; omega))) ar_nil)) ((rmul_ok H hmv).up (by first | decide | omega | (simp [lev, inner, poly]; done))))) (xs_next (sn_assign (.inl rfl) (ev_call rfl (ar_cons (ev_name rfl) (ar_cons (ev_call rfl (ar_cons (ev_name rfl) (ar_cons (ev_item_own rfl (ev_bin (ev_name rfl) (ev_name rfl) (bin_sub _ _)) (by first | assumption | omega | decide | (simp; done) | (simp; omega)) (by first | assumption | omega | decide | (simp; done) | (simp; omega)) (by first | exact at_q hx (by omega) | exact at_q hy (by omega) | exact at_q hy2 (by omega) | exact at_q hx (by simp) | exact at_q hy (by simp; omega))) ar_nil)) ((rmul_ok H hz).up (by first | decide | omega | (simp [lev, inner, poly]; done)))) ar_nil)) ((radd_ok H hu).up (by first | decide | omega | (simp [lev, inner, poly]; done))))) (xs_next (sn_assign (.inl rfl) (ev_call rfl (ar_cons (ev_name rfl) (ar_cons (ev_call rfl (ar_cons (ev_name rfl) (ar_cons (ev_item_own rfl (ev_bin (ev_name rfl) (ev_name rfl) (bin_sub _ _)) (by first | assumption | omega | decide | (simp; done) | (simp; omega)) (by first | assumption | omega | decide | (simp; done) | (simp; omega)) (by first | exact at_q hx (by omega) | exact at_q hy (by omega) | exact at_q hy2 (by omega) | exact at_q hx (by simp) | exact at_q hy (by simp; omega))) ar_nil)) ((rmul_ok H hz2).up (by first | decide | omega | (simp [lev, inner, poly]; done)))) ar_nil)) ((rsub_ok H hv).up (by first | decide | omega | (simp [lev, inner, poly]; done))))) xs_nil))), by repeat (first | exact sub_nil | refine sub_cons rfl ?_)⟩)) (xs_next (sn_append rfl (ev_ife_t (te_eq (b := true) (te_cmp (ev_name rfl) (ev_int _) (cmp_eq _ _)) (by first | rfl | assumption | decide | (simp [*]; done) | (simp; omega))) (ev_global rfl H.R0)) (by first | assumption | omega | decide | (simp; done) | (simp; omega))) (xs_next (sn_append rfl (ev_ife_t (te_eq (b := true) (te_cmp (ev_name rfl) (ev_int _) (cmp_eq _ _)) (by first | rfl | assumption | decide | (simp [*]; done) | (simp; omega))) (ev_global rfl H.R1)) (by first | assumption | omega | decide | (simp; done) | (simp; omega))) xs_nil))), by simp only [List.map_append, List.map_cons, List.map_nil]; exact (by repeat (first | exact sub_nil | refine sub_cons rfl ?_))⟩
  | succ i =>
    obtain ⟨p, hp, hs⟩ := Option.bind_eq_some_iff.mp hs
    obtain ⟨q, hq, hs⟩ := Option.bind_eq_some_iff.mp hs
    cases hs
    have e0 : (0 + ((i + 1 : Nat) : Int)) = ((i + 1 : Nat) : Int) := by omega
    rw [e0]
    exact ⟨_, xs_next (sn_swap2 rfl rfl (ev_global rfl H.R0) (ev_global rfl H.R0)) (xs_next (sn_for_iter (s0 := (r0, r0)) (sN := t) _ (fun t : Q × Q => [("one", .val (dQ t.1)), ("other", .val (dQ t.2)), ("at", .val (.int ((i + 1 : Nat) : Int))), ("sines", .own (f.1.map dQ)), ("others", .own (f.2.map dQ)), ("a", .val (dS a))]) (items := rangeD 1 (i + 1)) (by rw [rangeD_len]; exact ht) (.inl rfl) (it_range2 rfl (H.no "range" (by decide)) rfl (ev_int _) (ev_bin (ev_name rfl) (ev_int _) (bin_add _ _)) (by first | assumption | omega | decide | (simp; done) | (simp; omega)) (by first | assumption | omega | decide | (simp; done) | (simp; omega)) (by first | assumption | omega | decide | (simp; done) | (simp; omega)) (by first | assumption | omega | decide | (simp; done) | (simp; omega)) (by first | (simp; done) | (simp; omega) | omega)) (by repeat (first | exact sub_nil | refine sub_cons rfl ?_)) (fun j d t t' hj' _ ht' => by
    have hjl := (List.getElem?_eq_some_iff.mp hj').1; rw [rangeD_len] at hjl
    rw [rangeD_at _ _ _ hjl] at hj'
    cases hj'
    obtain ⟨x, hx, ht'⟩ := Option.bind_eq_some_iff.mp ht'
    obtain ⟨mv, hmv, ht'⟩ := Option.bind_eq_some_iff.mp ht'
    obtain ⟨y, hy, ht'⟩ := Option.bind_eq_some_iff.mp ht'
    obtain ⟨z, hz, ht'⟩ := Option.bind_eq_some_iff.mp ht'
    obtain ⟨u, hu, ht'⟩ := Option.bind_eq_some_iff.mp ht'
    obtain ⟨y2, hy2, ht'⟩ := Option.bind_eq_some_iff.mp ht'
    obtain ⟨z2, hz2, ht'⟩ := Option.bind_eq_some_iff.mp ht'
    obtain ⟨v, hv, ht'⟩ := Option.bind_eq_some_iff.mp ht'
    cases ht'
    exact ⟨_, (xs_next (sn_assign (.inl rfl) (ev_call rfl (ar_cons (ev_tuple (ea_cons (ev_name rfl) (ea_cons (ev_int _) ea_nil)) (by first | decide | (simp; done))) (ar_cons (ev_item (ev_name rfl) rfl (ev_name rfl) (by first | assumption | omega | decide | (simp; done) | (simp; omega)) (by first | assumption | omega | decide | (simp; done) | (simp; omega)) (by first | exact at_q hx (by omega) | exact at_q hy (by omega) | exact at_q hy2 (by omega) | exact at_q hx (by simp) | exact at_q hy (by simp; omega))) ar_nil)) ((rmul_ok H hmv).up (by first | decide | omega | (simp [lev, inner, poly]; done))))) (xs_next (sn_assign (.inl rfl) (ev_call rfl (ar_cons (ev_name rfl) (ar_cons (ev_call rfl (ar_cons (ev_name rfl) (ar_cons (ev_item_own rfl (ev_bin (ev_name rfl) (ev_name rfl) (bin_sub _ _)) (by first | assumption | omega | decide | (simp; done) | (simp; omega)) (by first | assumption | omega | decide | (simp; done) | (simp; omega)) (by first | exact at_q hx (by omega) | exact at_q hy (by omega) | exact at_q hy2 (by omega) | exact at_q hx (by simp) | exact at_q hy (by simp; omega))) ar_nil)) ((rmul_ok H hz).up (by first | decide | omega | (simp [lev, inner, poly]; done)))) ar_nil)) ((radd_ok H hu).up (by first | decide | omega | (simp [lev, inner, poly]; done))))) (xs_next (sn_assign (.inl rfl) (ev_call rfl (ar_cons (ev_name rfl) (ar_cons (ev_call rfl (ar_cons (ev_name rfl) (ar_cons (ev_item_own rfl (ev_bin (ev_name rfl) (ev_name rfl) (bin_sub _ _)) (by first | assumption | omega | decide | (simp; done) | (simp; omega)) (by first | assumption | omega | decide | (simp; done) | (simp; omega)) (by first | exact at_q hx (by omega) | exact at_q hy (by omega) | exact at_q hy2 (by omega) | exact at_q hx (by simp) | exact at_q hy (by simp; omega))) ar_nil)) ((rmul_ok H hz2).up (by first | decide | omega | (simp [lev, inner, poly]; done)))) ar_nil)) ((rsub_ok H hv).up (by first | decide | omega | (simp [lev, inner, poly]; done))))) xs_nil))), by repeat (first | exact sub_nil | refine sub_cons rfl ?_)⟩)) (xs_next (sn_append rfl (ev_ife_f (te_eq (b := false) (te_cmp (ev_name rfl) (ev_int _) (cmp_eq _ _)) (by first | rfl | assumption | decide | (simp [*]; done) | (simp; omega))) (ev_call rfl (ar_cons (ev_name rfl) (ar_cons (ev_tuple (ea_cons (ev_name rfl) (ea_cons (ev_int _) ea_nil)) (by first | decide | (simp; done))) ar_nil)) ((rdiv_ok H hp).up (by first | decide | omega | (simp [lev, inner, poly]; done))))) (by first | assumption | omega | decide | (simp; done) | (simp; omega))) (xs_next (sn_append rfl (ev_ife_f (te_eq (b := false) (te_cmp (ev_name rfl) (ev_int _) (cmp_eq _ _)) (by first | rfl | assumption | decide | (simp [*]; done) | (simp; omega))) (ev_call rfl (ar_cons (ev_name rfl) (ar_cons (ev_tuple (ea_cons (ev_name rfl) (ea_cons (ev_int _) ea_nil)) (by first | decide | (simp; done))) ar_nil)) ((rdiv_ok H hq).up (by first | decide | omega | (simp [lev, inner, poly]; done))))) (by first | assumption | omega | decide | (simp; done) | (simp; omega))) xs_nil))), by simp only [List.map_append, List.map_cons, List.map_nil]; exact (by repeat (first | exact sub_nil | refine sub_cons rfl ?_))⟩
end Mine
set_option maxRecDepth 10000
namespace Mine
open PySem PySem.W PyProof.Rows PySem.Calls PySem.Spec


theorem ssin_ok {cx : Cx} (H : Mods cx) {k : Int} {a : List Q} {r : List Q × List Q} (h : ssincos? a = some r) : CallTo cx 5 (Str.ofString "ssin") [.val (dS a)] k (dS r.1) k := by
  refine mod1 (x1 := "a") (sc := [("a", .local), ("ssin_cos", .globalImplicit)]) H (by decide) rfl rfl (fun _ _ _ _ _ _ _ _ _ => rfl) ⟨rfl, rfl, rfl⟩ (.inl rfl) ?_
  exact (xr_ret (sr_return (ev_item (ev_call rfl (ar_cons (ev_name rfl) ar_nil) ((ssin_cos_ok H h).up (by first | decide | omega | (simp [lev, inner, poly]; done)))) rfl (ev_int _) (by decide) (by decide) rfl)))
theorem scos_ok {cx : Cx} (H : Mods cx) {k : Int} {a : List Q} {r : List Q × List Q} (h : ssincos? a = some r) : CallTo cx 5 (Str.ofString "scos") [.val (dS a)] k (dS r.2) k := by
  refine mod1 (x1 := "a") (sc := [("a", .local), ("ssin_cos", .globalImplicit)]) H (by decide) rfl rfl (fun _ _ _ _ _ _ _ _ _ => rfl) ⟨rfl, rfl, rfl⟩ (.inl rfl) ?_
  exact (xr_ret (sr_return (ev_item (ev_call rfl (ar_cons (ev_name rfl) ar_nil) ((ssin_cos_ok H h).up (by first | decide | omega | (simp [lev, inner, poly]; done)))) rfl (ev_int _) (by decide) (by decide) rfl)))
theorem satan_ok {cx : Cx} (H : Mods cx) {k : Int} {a r : List Q} (h : satan? a = some r) : CallTo cx 6 (Str.ofString "satan") [.val (dS a)] k (dS r) k := by
  unfold satan? at h
  obtain ⟨b, hb, h⟩ := Option.bind_eq_some_iff.mp h
  split at h
  case isFalse => cases h
  rename_i hc
  obtain ⟨rfl, hl⟩ := Bool.and_eq_true_iff.mp hc
  have hl := okL_lt hl
  obtain ⟨sq, hsq, h⟩ := Option.bind_eq_some_iff.mp h
  obtain ⟨s0, hx, h⟩ := Option.bind_eq_some_iff.mp h
  obtain ⟨t0, ht0, h⟩ := Option.bind_eq_some_iff.mp h
  obtain ⟨d, hd, h⟩ := Option.bind_eq_some_iff.mp h
  obtain ⟨v, hv, h⟩ := Option.bind_eq_some_iff.mp h
  obtain ⟨w, hw, h⟩ := Option.bind_eq_some_iff.mp h
  have hpos : 0 < sq.length := (List.getElem?_eq_some_iff.mp hx).1
  have hlen : sq.length = a.length := by
    have h2 := hsq
    unfold smul? at h2
    split at h2
    · cases h2
    · have := (mapO_at h2).1; simpa using this
  have hv' : sinverse? (sq.set 0 t0) = some v := hv
  refine mod1 (x1 := "a") (sc := [("a", .local), ("square", .local), ("need_begin", .globalImplicit), ("R0", .globalImplicit), ("len", .globalImplicit), ("smul", .globalImplicit), ("radd", .globalImplicit), ("R1", .globalImplicit), ("sintegrate", .globalImplicit), ("sderive", .globalImplicit), ("sinverse", .globalImplicit)]) H (by decide) rfl rfl (fun _ _ _ _ _ _ _ _ _ => rfl) ⟨rfl, rfl, rfl⟩ (.inl rfl) ?_
  have hal : ¬ a.length = 0 := by omega
  have e : Dat.list ((sq.map dQ).set (0 : Int).toNat (dQ t0)) = dS (sq.set 0 t0) := by show Dat.list ((sq.map dQ).set 0 (dQ t0)) = _; rw [← List.map_set]
  refine (xr_next (sn_expr (ev_call rfl (ar_cons (ev_name rfl) (ar_cons (ev_global rfl H.R0) ar_nil)) ((need_begin_ok H hb).up (by first | decide | omega | (simp [lev, inner, poly]; done))))) (xr_next (sn_if_f (te_eq (b := false) (te_cmp (ev_callb rfl (H.no "len" (by decide)) rfl (ea_cons (ev_name rfl) ea_nil) (cb_len_list _ (by first | assumption | omega | decide | (simp; done) | (simp; omega)))) (ev_int _) (cmp_eq _ _)) (by first | rfl | assumption | decide | (simp [*]; done) | (simp; omega))) xs_nil) (xr_next (sn_assign_own (.inl rfl) (eo_call rfl (ar_cons (ev_name rfl) (ar_cons (ev_name rfl) ar_nil)) ((smul_ok H hsq).up (by decide)))) (xr_next (sn_setitem_own rfl (ev_call rfl (ar_cons (ev_item_own rfl (ev_int _) (by first | assumption | omega | decide | (simp; done) | (simp; omega)) (by first | assumption | omega | decide | (simp; done) | (simp; omega)) (by first | exact at_q hx (by omega) | exact at_q hy (by omega) | exact at_q hx (by simp) | exact at_q hy (by simp; omega))) (ar_cons (ev_global rfl H.R1) ar_nil)) ((radd_ok H ht0).up (by first | decide | omega | (simp [lev, inner, poly]; done)))) (ev_int _) (by first | assumption | omega | decide | (simp; done) | (simp; omega)) (by first | assumption | omega | decide | (simp; done) | (simp; omega)) (by first | assumption | omega | decide | (simp; done) | (simp; omega))) ?_))))
  refine xr_freeze (x := "square") rfl ?_
  rw [e]
  exact (xr_ret (sr_return (ev_call rfl (ar_cons (ev_call rfl (ar_cons (ev_call rfl (ar_cons (ev_name rfl) ar_nil) ((sderive_ok H hd).up (by first | decide | omega | (simp [lev, inner, poly]; done)))) (ar_cons (ev_call rfl (ar_cons (ev_name rfl) ar_nil) ((sinverse_ok H hv).up (by first | decide | omega | (simp [lev, inner, poly]; done)))) ar_nil)) (((smul_ok H hw).to).up (by first | decide | omega | (simp [lev, inner, poly]; done)))) ar_nil) ((sintegrate_ok H h).up (by first | decide | omega | (simp [lev, inner, poly]; done))))))
theorem spower_ok {cx : Cx} (H : Mods cx) {k : Int} {a : List Q} {q : Q} {r : List Q} (h : spower? a q = some r) : CallTo cx 4 (Str.ofString "spower") [.val (dS a), .val (dQ q)] k (dS r) k := by
  unfold spower? at h
  obtain ⟨b, hb, h⟩ := Option.bind_eq_some_iff.mp h
  split at h
  case isFalse => cases h
  rename_i hc
  obtain ⟨rfl, hl⟩ := Bool.and_eq_true_iff.mp hc
  have hl := okL_lt hl
  refine mod2 (x1 := "a") (x2 := "number") (sc := [("a", .local), ("number", .local), ("found", .local), ("at", .local), ("total", .local), ("spot", .local), ("times", .local), ("need_begin", .globalImplicit), ("R1", .globalImplicit), ("range", .globalImplicit), ("len", .globalImplicit), ("R0", .globalImplicit), ("rsub", .globalImplicit), ("rmul", .globalImplicit), ("radd", .globalImplicit), ("rdiv", .globalImplicit)]) H (by decide) rfl rfl (fun _ _ _ _ _ _ _ _ _ _ => rfl) ⟨rfl, rfl, rfl⟩ (.inl rfl) (.inl rfl) rfl ?_
  refine (xr_next (sn_expr (ev_call rfl (ar_cons (ev_name rfl) (ar_cons (ev_global rfl H.R1) ar_nil)) ((need_begin_ok H hb).up (by first | decide | omega | (simp [lev, inner, poly]; done))))) (xr_next (sn_assign_own (.inl rfl) (eo_list ea_nil (by first | decide | (simp; done)))) ?_))
  refine xr_next (sn_for_iter _ (fun f : List Q => [("found", .own (f.map dQ)), ("a", .val (dS a)), ("number", .val (dQ q))]) (items := rangeD 0 a.length) (by rw [rangeD_len]; exact h) (.inl rfl) (it_range1 rfl (H.no "range" (by decide)) rfl (ev_callb rfl (H.no "len" (by decide)) rfl (ea_cons (ev_name rfl) ea_nil) (cb_len_list _ (by first | assumption | omega | decide | (simp; done) | (simp; omega)))) (by first | assumption | omega | decide | (simp; done) | (simp; omega)) (by first | assumption | omega | decide | (simp; done) | (simp; omega)) (by first | (simp; done) | (simp; omega) | omega)) (by repeat (first | exact sub_nil | refine sub_cons rfl ?_)) ?_) (xr_freeze (x := "found") rfl (xr_ret (sr_return (ev_name rfl))))
  intro i d s s' hj hit hs
  have hlt : i < a.length := by have := (List.getElem?_eq_some_iff.mp hj).1; rwa [rangeD_len] at this
  rw [rangeD_at _ _ _ hlt] at hj
  cases hj
  have hsl : s.length = i := iter_inv (P := fun i (s : List Q) => s.length = i) rfl (fun i s s' e h => by
    obtain ⟨t, _, h⟩ := Option.bind_eq_some_iff.mp h
    split at h
    · cases h; simp [e]
    · obtain ⟨q, _, h⟩ := Option.bind_eq_some_iff.mp h
      cases h; simp [e]) hit
  obtain ⟨t, ht, hs⟩ := Option.bind_eq_some_iff.mp hs
  cases i with
  | zero =>
    cases hs
    refine ⟨_, xs_next (sn_assign (.inl rfl) (ev_global rfl H.R0)) (xs_next (sn_for_iter _ (fun t : Q => [("total", .val (dQ t)), ("at", .val (.int (0 + (0 : Nat)))), ("found", .own (s.map dQ)), ("a", .val (dS a)), ("number", .val (dQ q))]) (items := rangeD 1 0) (by rw [rangeD_len]; exact ht) (.inl rfl) (it_range2 rfl (H.no "range" (by decide)) rfl (ev_int _) (ev_bin (ev_name rfl) (ev_int _) (bin_add _ _)) (by first | assumption | omega | decide | (simp; done) | (simp; omega)) (by first | assumption | omega | decide | (simp; done) | (simp; omega)) (by first | assumption | omega | decide | (simp; done) | (simp; omega)) (by first | assumption | omega | decide | (simp; done) | (simp; omega)) (by first | (simp; done) | (simp; omega) | omega)) (by repeat (first | exact sub_nil | refine sub_cons rfl ?_)) ?_) (xs_next (sn_append rfl (ev_ife_t (te_eq (b := true) (te_cmp (ev_name rfl) (ev_int _) (cmp_eq _ _)) (by first | rfl | assumption | decide | (simp [*]; done) | (simp; omega))) (ev_global rfl H.R1)) (by first | assumption | omega | decide | (simp; done) | (simp; omega))) xs_nil)), by simp only [List.map_append, List.map_cons, List.map_nil]; exact (by repeat (first | exact sub_nil | refine sub_cons rfl ?_))⟩
    intro j d t t' hj' _ ht'
    have := (List.getElem?_eq_some_iff.mp hj').1; rw [rangeD_len] at this
    omega
  | succ i =>
    obtain ⟨q', hq, hs⟩ := Option.bind_eq_some_iff.mp hs
    cases hs
    have e0 : (0 + ((i + 1 : Nat) : Int)) = ((i + 1 : Nat) : Int) := by omega
    rw [e0]
    refine ⟨_, xs_next (sn_assign (.inl rfl) (ev_global rfl H.R0)) (xs_next (sn_for_iter _ (fun t : Q => [("total", .val (dQ t)), ("at", .val (.int (((i + 1 : Nat) : Int)))), ("found", .own (s.map dQ)), ("a", .val (dS a)), ("number", .val (dQ q))]) (items := rangeD 1 (i + 1)) (by rw [rangeD_len]; exact ht) (.inl rfl) (it_range2 rfl (H.no "range" (by decide)) rfl (ev_int _) (ev_bin (ev_name rfl) (ev_int _) (bin_add _ _)) (by first | assumption | omega | decide | (simp; done) | (simp; omega)) (by first | assumption | omega | decide | (simp; done) | (simp; omega)) (by first | assumption | omega | decide | (simp; done) | (simp; omega)) (by first | assumption | omega | decide | (simp; done) | (simp; omega)) (by first | (simp; done) | (simp; omega) | omega)) (by repeat (first | exact sub_nil | refine sub_cons rfl ?_)) ?_) (xs_next (sn_append rfl (ev_ife_f (te_eq (b := false) (te_cmp (ev_name rfl) (ev_int _) (cmp_eq _ _)) (by first | rfl | assumption | decide | (simp [*]; done) | (simp; omega))) (ev_call rfl (ar_cons (ev_name rfl) (ar_cons (ev_tuple (ea_cons (ev_name rfl) (ea_cons (ev_int _) ea_nil)) (by first | decide | (simp; done))) ar_nil)) ((rdiv_ok H hq).up (by first | decide | omega | (simp [lev, inner, poly]; done))))) (by first | assumption | omega | decide | (simp; done) | (simp; omega))) xs_nil)), by simp only [List.map_append, List.map_cons, List.map_nil]; exact (by repeat (first | exact sub_nil | refine sub_cons rfl ?_))⟩
    intro j d t t' hj' _ ht'
    have hjl := (List.getElem?_eq_some_iff.mp hj').1; rw [rangeD_len] at hjl
    rw [rangeD_at _ _ _ hjl] at hj'
    cases hj'
    obtain ⟨u, hu, ht'⟩ := Option.bind_eq_some_iff.mp ht'
    obtain ⟨tm, htm, ht'⟩ := Option.bind_eq_some_iff.mp ht'
    obtain ⟨x, hx, ht'⟩ := Option.bind_eq_some_iff.mp ht'
    obtain ⟨z, hz, ht'⟩ := Option.bind_eq_some_iff.mp ht'
    obtain ⟨y, hy, ht'⟩ := Option.bind_eq_some_iff.mp ht'
    obtain ⟨z2, hz2, ht'⟩ := Option.bind_eq_some_iff.mp ht'
    exact ⟨_, (xs_next (sn_assign (.inl rfl) (ev_call rfl (ar_cons (ev_call rfl (ar_cons (ev_name rfl) (ar_cons (ev_tuple (ea_cons (ev_name rfl) (ea_cons (ev_int _) ea_nil)) (by first | decide | (simp; done))) ar_nil)) ((rmul_ok H hu).up (by first | decide | omega | (simp [lev, inner, poly]; done)))) (ar_cons (ev_tuple (ea_cons (ev_bin (ev_name rfl) (ev_name rfl) (bin_sub _ _)) (ea_cons (ev_int _) ea_nil)) (by first | decide | (simp; done))) ar_nil)) ((rsub_ok H htm).up (by first | decide | omega | (simp [lev, inner, poly]; done))))) (xs_next (sn_assign (.inl rfl) (ev_call rfl (ar_cons (ev_name rfl) (ar_cons (ev_call rfl (ar_cons (ev_call rfl (ar_cons (ev_name rfl) (ar_cons (ev_item (ev_name rfl) rfl (ev_name rfl) (by first | assumption | omega | decide | (simp; done) | (simp; omega)) (by first | assumption | omega | decide | (simp; done) | (simp; omega)) (by first | exact at_q hx (by omega) | exact at_q hy (by omega) | exact at_q hx (by simp) | exact at_q hy (by simp; omega))) ar_nil)) ((rmul_ok H hz).up (by first | decide | omega | (simp [lev, inner, poly]; done)))) (ar_cons (ev_item_own rfl (ev_bin (ev_name rfl) (ev_name rfl) (bin_sub _ _)) (by first | assumption | omega | decide | (simp; done) | (simp; omega)) (by first | assumption | omega | decide | (simp; done) | (simp; omega)) (by first | exact at_q hx (by omega) | exact at_q hy (by omega) | exact at_q hx (by simp) | exact at_q hy (by simp; omega))) ar_nil)) ((rmul_ok H hz2).up (by first | decide | omega | (simp [lev, inner, poly]; done)))) ar_nil)) ((radd_ok H ht').up (by first | decide | omega | (simp [lev, inner, poly]; done))))) xs_nil)), by repeat (first | exact sub_nil | refine sub_cons rfl ?_)⟩
noncomputable def swT (s : Nat × List Q × List Q) : Option Bool := some (decide (0 < s.1))
noncomputable def swN (s : Nat × List Q × List Q) : Option (Nat × List Q × List Q) := (if s.1 % 2 == 1 then smul? s.2.1 s.2.2 else some s.2.1).bind fun f => (smul? s.2.2 s.2.2).bind fun b => some (s.1 / 2, f, b)
theorem swl_runs : ∀ (k m : Nat) (f b r : List Q), swhole?.swl m k f b = some r → ∃ b', ∃ j, Runs swT swN j (m, f, b) (0, r, b')
  | k, 0, f, b, r, h => by
    have : r = f := by cases k <;> (unfold swhole?.swl at h; exact (Option.some.inj h).symm)
    subst this
    exact ⟨b, 0, .done rfl⟩
  | 0, m + 1, f, b, r, h => by unfold swhole?.swl at h; cases h
  | k + 1, m + 1, f, b, r, h => by
    unfold swhole?.swl at h
    obtain ⟨f', hf, h⟩ := Option.bind_eq_some_iff.mp h
    obtain ⟨b', hb, h⟩ := Option.bind_eq_some_iff.mp h
    obtain ⟨b'', j, hr⟩ := swl_runs k _ _ _ _ h
    refine ⟨b'', j + 1, .step (by simp [swT]) ?_ hr⟩
    simp only [swN, hf, hb, Option.bind_some]
theorem swhole_power_ok {cx : Cx} (H : Mods cx) {k : Int} {a r : List Q} {m : Nat} (h : swhole? a m = some r) {i : Int} (hi : i = (m : Int)) : CallTo cx 6 (Str.ofString "swhole_power") [.val (dS a), .val (.int i)] k (dS r) k := by
  subst hi
  unfold swhole? at h
  split at h
  · cases h
  rename_i hl
  have hl := okL_lt (by simpa using hl)
  obtain ⟨f, hf, h⟩ := Option.bind_eq_some_iff.mp h
  obtain ⟨b', hr⟩ := swl_runs _ _ _ _ _ h
  refine mod2 (x1 := "a") (x2 := "many") (sc := [("a", .local), ("many", .local), ("base", .local), ("found", .local), ("left", .local), ("sinverse", .globalImplicit), ("cut", .globalImplicit), ("R1", .globalImplicit), ("len", .globalImplicit), ("abs", .globalImplicit), ("smul", .globalImplicit)]) H (by decide) rfl rfl (fun _ _ _ _ _ _ _ _ _ _ => rfl) ⟨rfl, rfl, rfl⟩ (.inl rfl) (.inl rfl) rfl ?_
  have ea : ∀ x : Int, (if x < 0 then -x else x) = (x.natAbs : Int) := fun x => by split <;> omega
  refine (xr_next (sn_assign (.inl rfl) (ev_ife_f (te_eq (b := false) (te_cmp (ev_name rfl) (ev_int _) (cmp_lt _ _)) (by first | rfl | assumption | decide | (simp [*]; done) | (simp; omega))) (ev_name rfl))) (xr_next (sn_swap2 rfl rfl (ev_call rfl (ar_cons (ev_own (eo_list (ea_cons (ev_global rfl H.R1) ea_nil) (by first | decide | (simp; done)))) (ar_cons (ev_callb rfl (H.no "len" (by decide)) rfl (ea_cons (ev_name rfl) ea_nil) (cb_len_list _ (by first | assumption | omega | decide | (simp; done) | (simp; omega)))) ar_nil)) ((cut_ok H hf (by simp)).up (by first | decide | omega | (simp [lev, inner, poly]; done)))) (ev_callb rfl (H.no "abs" (by decide)) rfl (ea_cons (ev_name rfl) ea_nil) (cb_abs _))) ?_))
  refine xr_next (sn_while_run (fun s : Nat × List Q × List Q => [("left", .val (.int s.1)), ("found", .val (dS s.2.1)), ("base", .val (dS s.2.2))]) hr ?_ ?_ ?_) (xr_ret (sr_return (ev_name rfl)))
  · rw [ea, Int.natAbs_natCast]; exact (by repeat (first | exact sub_nil | refine sub_cons rfl ?_))
  · rintro s c hc
    have : c = decide (0 < s.1) := by simpa [swT] using hc.symm
    subst this
    exact te_eq (te_cmp (ev_name rfl) (ev_int _) (cmp_gt _ _)) (by simp)
  · rintro s s' h1 h2
    unfold swN at h2
    obtain ⟨f', hf', h2⟩ := Option.bind_eq_some_iff.mp h2
    obtain ⟨b2, hb2, h2⟩ := Option.bind_eq_some_iff.mp h2
    cases h2
    have ed : ((s.1 : Int).fdiv 2) = ((s.1 / 2 : Nat) : Int) := by rw [Int.fdiv_eq_ediv_of_nonneg _ (by omega)]; rfl
    have em : ((s.1 : Int).fmod 2) = ((s.1 % 2 : Nat) : Int) := by rw [Int.fmod_eq_emod_of_nonneg _ (by omega)]; rfl
    split at hf'
    · rename_i hc
      have hc' : (((s.1 : Int).fmod 2) == 1) = true := by rw [em]; simp at hc ⊢; omega
      refine ⟨_, (xs_next (sn_if_t (te_eq (b := true) (te_cmp (ev_bin (ev_name rfl) (ev_int _) (bin_mod _ _ (by first | assumption | omega | decide | (simp; done) | (simp; omega)))) (ev_int _) (cmp_eq _ _)) (by first | rfl | assumption | decide | (simp [*]; done) | (simp; omega))) (xs_next (sn_assign (.inl rfl) (ev_call rfl (ar_cons (ev_name rfl) (ar_cons (ev_name rfl) ar_nil)) (((smul_ok H hf').to).up (by first | decide | omega | (simp [lev, inner, poly]; done))))) xs_nil)) (xs_next (sn_assign (.inl rfl) (ev_call rfl (ar_cons (ev_name rfl) (ar_cons (ev_name rfl) ar_nil)) (((smul_ok H hb2).to).up (by first | decide | omega | (simp [lev, inner, poly]; done))))) (xs_next (sn_assign (.inl rfl) (ev_bin (ev_name rfl) (ev_int _) (bin_floordiv _ _ (by first | assumption | omega | decide | (simp; done) | (simp; omega)) (by first | assumption | omega | decide | (simp; done) | (simp; omega))))) xs_nil))), ?_⟩
      rw [ed]; exact (by repeat (first | exact sub_nil | refine sub_cons rfl ?_))
    · rename_i hc
      cases hf'
      have hc' : (((s.1 : Int).fmod 2) == 1) = false := by rw [em]; simp at hc ⊢; omega
      refine ⟨_, (xs_next (sn_if_f (te_eq (b := false) (te_cmp (ev_bin (ev_name rfl) (ev_int _) (bin_mod _ _ (by first | assumption | omega | decide | (simp; done) | (simp; omega)))) (ev_int _) (cmp_eq _ _)) (by first | rfl | assumption | decide | (simp [*]; done) | (simp; omega))) xs_nil) (xs_next (sn_assign (.inl rfl) (ev_call rfl (ar_cons (ev_name rfl) (ar_cons (ev_name rfl) ar_nil)) (((smul_ok H hb2).to).up (by first | decide | omega | (simp [lev, inner, poly]; done))))) (xs_next (sn_assign (.inl rfl) (ev_bin (ev_name rfl) (ev_int _) (bin_floordiv _ _ (by first | assumption | omega | decide | (simp; done) | (simp; omega)) (by first | assumption | omega | decide | (simp; done) | (simp; omega))))) xs_nil))), ?_⟩
      rw [ed]; exact (by repeat (first | exact sub_nil | refine sub_cons rfl ?_))
end Mine
set_option maxRecDepth 10000
namespace Mine
open PySem PySem.W PyProof.Rows PySem.Calls PySem.Spec


theorem lplain_ok {cx : Cx} (H : Mods cx) {k : Int} {q : Q} {m : Nat} {r : L} (h : lplain? q m = some r) {j : Int} (hj : j = (m : Int)) : CallTo cx 1 (Str.ofString "lplain") [.val (dQ q), .val (.int j)] k (dL r) k := by
  subst hj
  unfold lplain? at h
  split at h
  case isFalse => cases h
  rename_i hm
  have hm := okN_lt hm
  cases h
  refine mod2 (x1 := "number") (x2 := "many") (sc := [("number", .local), ("many", .local), ("R0", .globalImplicit)]) H (by decide) rfl rfl (fun _ _ _ _ _ _ _ _ _ _ => rfl) ⟨rfl, rfl, rfl⟩ (.inl rfl) (.inl rfl) rfl ?_
  exact xr_eq (xr_ret (sr_return (ev_tuple (ea_cons (ev_int _) (ea_cons (ev_own (eo_add (ev_own (eo_list (ea_cons (ev_name rfl) ea_nil) (by first | decide | (simp; done)))) (ev_own (eo_rep (ev_own (eo_list (ea_cons (ev_global rfl H.R0) ea_nil) (by first | decide | (simp; done)))) (ev_bin (ev_name rfl) (ev_int _) (bin_sub _ _)) (by first | assumption | omega | decide | (simp; done) | (simp; omega)) (by first | assumption | omega | decide | (simp; done) | (simp; omega)))) (by first | assumption | omega | decide | (simp; done) | (simp; omega)))) ea_nil)) (by first | decide | (simp; done))))) (by simp)
theorem lmoved_ok {cx : Cx} (H : Mods cx) {k : Int} {a r : L} {low : Int} (h : lmoved? a low = some r) : CallTo cx 1 (Str.ofString "lmoved") [.val (dL a), .val (.int low)] k (dL r) k := by
  unfold lmoved? at h
  split at h
  case isFalse => cases h
  rename_i hc
  obtain ⟨h1, h2⟩ := Bool.and_eq_true_iff.mp hc
  have h1 := okL_lt h1; have h2 := okZ_lt h2
  cases h
  refine mod2 (x1 := "a") (x2 := "low") (sc := [("a", .local), ("low", .local), ("R0", .globalImplicit)]) H (by decide) rfl rfl (fun _ _ _ _ _ _ _ _ _ _ => rfl) ⟨rfl, rfl, rfl⟩ (.inl rfl) (.inl rfl) rfl ?_
  exact xr_eq (xr_ret (sr_return (ev_tuple (ea_cons (ev_name rfl) (ea_cons (ev_own (eo_add (ev_own (eo_rep (ev_own (eo_list (ea_cons (ev_global rfl H.R0) ea_nil) (by first | decide | (simp; done)))) (ev_bin (ev_item (ev_name rfl) rfl (ev_int _) (by decide) (by decide) rfl) (ev_name rfl) (bin_sub _ _)) (by first | assumption | omega | decide | (simp; done) | (simp; omega)) (by first | assumption | omega | decide | (simp; done) | (simp; omega)))) (ev_item (ev_name rfl) rfl (ev_int _) (by decide) (by decide) rfl) (by first | assumption | omega | decide | (simp; done) | (simp; omega)))) ea_nil)) (by first | decide | (simp; done))))) (by simp)
theorem ladd_ok {cx : Cx} (H : Mods cx) {k : Int} {a b r : L} (h : ladd? a b = some r) : CallTo cx 5 (Str.ofString "ladd") [.val (dL a), .val (dL b)] k (dL r) k := by
  unfold ladd? at h
  dsimp only at h
  obtain ⟨x, hx, h⟩ := Option.bind_eq_some_iff.mp h
  obtain ⟨y, hy, h⟩ := Option.bind_eq_some_iff.mp h
  obtain ⟨s, hs, h⟩ := Option.bind_eq_some_iff.mp h
  cases h
  refine mod2 (x1 := "a") (x2 := "b") (sc := [("a", .local), ("b", .local), ("low", .local), ("min", .globalImplicit), ("sadd", .globalImplicit), ("lmoved", .globalImplicit)]) H (by decide) rfl rfl (fun _ _ _ _ _ _ _ _ _ _ => rfl) ⟨rfl, rfl, rfl⟩ (.inl rfl) (.inl rfl) rfl ?_
  exact (xr_next (sn_assign (.inl rfl) (ev_callb rfl (H.no "min" (by decide)) rfl (ea_cons (ev_item (ev_name rfl) rfl (ev_int _) (by decide) (by decide) rfl) (ea_cons (ev_item (ev_name rfl) rfl (ev_int _) (by decide) (by decide) rfl) ea_nil)) (cb_min _ _))) (xr_ret (sr_return (ev_tuple (ea_cons (ev_name rfl) (ea_cons (ev_call rfl (ar_cons (ev_item (ev_call rfl (ar_cons (ev_name rfl) (ar_cons (ev_name rfl) ar_nil)) ((lmoved_ok H hx).up (by first | decide | omega | (simp [lev, inner, poly]; done)))) rfl (ev_int _) (by decide) (by decide) rfl) (ar_cons (ev_item (ev_call rfl (ar_cons (ev_name rfl) (ar_cons (ev_name rfl) ar_nil)) ((lmoved_ok H hy).up (by first | decide | omega | (simp [lev, inner, poly]; done)))) rfl (ev_int _) (by decide) (by decide) rfl) ar_nil)) ((sadd_ok H hs).up (by first | decide | omega | (simp [lev, inner, poly]; done)))) ea_nil)) (by first | decide | (simp; done))))))
theorem lmul_ok {cx : Cx} (H : Mods cx) {k : Int} {a b r : L} (h : lmul? a b = some r) : CallTo cx 6 (Str.ofString "lmul") [.val (dL a), .val (dL b)] k (dL r) k := by
  unfold lmul? at h
  obtain ⟨s, hs, h⟩ := Option.bind_eq_some_iff.mp h
  cases h
  refine mod2 (x1 := "a") (x2 := "b") (sc := [("a", .local), ("b", .local), ("smul", .globalImplicit)]) H (by decide) rfl rfl (fun _ _ _ _ _ _ _ _ _ _ => rfl) ⟨rfl, rfl, rfl⟩ (.inl rfl) (.inl rfl) rfl ?_
  exact (xr_ret (sr_return (ev_tuple (ea_cons (ev_bin (ev_item (ev_name rfl) rfl (ev_int _) (by decide) (by decide) rfl) (ev_item (ev_name rfl) rfl (ev_int _) (by decide) (by decide) rfl) (bin_add _ _)) (ea_cons (ev_call rfl (ar_cons (ev_item (ev_name rfl) rfl (ev_int _) (by decide) (by decide) rfl) (ar_cons (ev_item (ev_name rfl) rfl (ev_int _) (by decide) (by decide) rfl) ar_nil)) (((smul_ok H hs).to).up (by first | decide | omega | (simp [lev, inner, poly]; done)))) ea_nil)) (by first | decide | (simp; done)))))
noncomputable def trT (s : L) : Option Bool := if okL s.2 then some (match s.2 with | [] => false | q :: _ => !nz q) else none
noncomputable def trN (s : L) : Option L := match s.2 with | [] => none | _ :: r => some (s.1 + 1, r)
theorem trim_runs : ∀ (l : List Q) (low : Int), l.length < 100 → ∃ j, Runs trT trN j (low, l) (ltrim low l)
  | [], low, h => ⟨0, .done rfl⟩
  | q :: r, low, h => by
    have hk : okL (q :: r) = true := by unfold okL; simpa [Nat.blt_eq] using h
    unfold ltrim
    cases hq : nz q with
    | true => exact ⟨0, .done (by simp [trT, hk, hq])⟩
    | false =>
      obtain ⟨j, hr⟩ := trim_runs r (low + 1) (by simp at h; omega)
      exact ⟨j + 1, .step (by simp [trT, hk, hq]) rfl hr⟩
theorem nz_eq {q : Q} {b : Bool} (h : nz q = !b) : (q.1 == r0.1 && q.2 == r0.2) = b := by
  unfold nz at h
  show (q.1 == 0 && q.2 == 1) = b
  revert h
  cases (q.1 == 0 && q.2 == 1) <;> cases b <;> simp
theorem ltrim_ok {cx : Cx} (H : Mods cx) {k : Int} {a t : L} (h : ltrim? a = some t) : CallTo cx 1 (Str.ofString "ltrim") [.val (dL a)] k (dL t) k := by
  unfold ltrim? at h
  split at h
  case isFalse => cases h
  rename_i hl
  cases h
  refine mod1 (x1 := "a") (sc := [("a", .local), ("low", .local), ("rest", .local), ("len", .globalImplicit), ("R0", .globalImplicit)]) H (by decide) rfl rfl (fun _ _ _ _ _ _ _ _ _ => rfl) ⟨rfl, rfl, rfl⟩ (.inl rfl) ?_
  refine (xr_next (sn_unpack2 (.inl rfl) (.inl rfl) (ev_name rfl)) ?_)
  refine xr_next (sn_while_run (fun s : L => [("low", .val (.int s.1)), ("rest", .val (dS s.2))]) (trim_runs _ _ (okL_lt hl)) (by repeat (first | exact sub_nil | refine sub_cons rfl ?_)) ?_ ?_) (xr_ret (sr_return (ev_tuple (ea_cons (ev_name rfl) (ea_cons (ev_name rfl) ea_nil)) (by first | decide | (simp; done)))))
  · rintro ⟨low, l⟩ c hc
    unfold trT at hc
    split at hc
    case isFalse => cases hc
    rename_i hk
    have hk := okL_lt hk
    dsimp only at hk hc
    cases l with
    | nil => cases hc; exact (te_and_f (te_eq (b := false) (te_cmp (ev_callb rfl (H.no "len" (by decide)) rfl (ea_cons (ev_name rfl) ea_nil) (cb_len_list _ (by first | assumption | omega | decide | (simp; done) | (simp; omega)))) (ev_int _) (cmp_gt _ _)) (by first | rfl | assumption | decide | (simp [*]; done) | (simp; omega))))
    | cons q r =>
      simp at hk
      have hx : (q :: r)[0]? = some q := rfl
      cases hn : nz q with
      | true =>
        have hc : c = false := by simpa [hn] using hc.symm
        have hq := nz_eq (b := false) hn
        subst hc
        exact (te_and_t (te_eq (b := true) (te_cmp (ev_callb rfl (H.no "len" (by decide)) rfl (ea_cons (ev_name rfl) ea_nil) (cb_len_list _ (by first | assumption | omega | decide | (simp; done) | (simp; omega)))) (ev_int _) (cmp_gt _ _)) (by first | rfl | assumption | decide | (simp [*]; done) | (simp; omega))) (te_and_f (te_eq (b := false) (te_cmp (ev_item (ev_name rfl) rfl (ev_int _) (by first | assumption | omega | decide | (simp; done) | (simp; omega)) (by first | assumption | omega | decide | (simp; done) | (simp; omega)) (by first | exact at_q hx (by omega) | exact at_q hy (by omega) | exact at_q hx (by simp) | exact at_q hy (by simp; omega))) (ev_global rfl H.R0) (cmp_eq_q _ _)) (by first | rfl | assumption | decide | (simp [*]; done) | (simp; omega)))))
      | false =>
        have hc : c = true := by simpa [hn] using hc.symm
        have hq := nz_eq (b := true) hn
        subst hc
        exact (te_and_t (te_eq (b := true) (te_cmp (ev_callb rfl (H.no "len" (by decide)) rfl (ea_cons (ev_name rfl) ea_nil) (cb_len_list _ (by first | assumption | omega | decide | (simp; done) | (simp; omega)))) (ev_int _) (cmp_gt _ _)) (by first | rfl | assumption | decide | (simp [*]; done) | (simp; omega))) (te_and_t (te_eq (b := true) (te_cmp (ev_item (ev_name rfl) rfl (ev_int _) (by first | assumption | omega | decide | (simp; done) | (simp; omega)) (by first | assumption | omega | decide | (simp; done) | (simp; omega)) (by first | exact at_q hx (by omega) | exact at_q hy (by omega) | exact at_q hx (by simp) | exact at_q hy (by simp; omega))) (ev_global rfl H.R0) (cmp_eq_q _ _)) (by first | rfl | assumption | decide | (simp [*]; done) | (simp; omega))) te_and_nil))
  · rintro ⟨low, l⟩ s' h1 h2
    unfold trT at h1
    split at h1
    case isFalse => cases h1
    rename_i hk
    have hk := okL_lt hk
    dsimp only at hk
    cases l with
    | nil => cases h2
    | cons q r =>
      simp at hk
      cases h2
      exact ⟨_, (xs_next (sn_swap2 rfl rfl (ev_bin (ev_name rfl) (ev_int _) (bin_add _ _)) (ev_own (eo_slice_from (ev_name rfl) (ev_int _) (by first | assumption | omega | decide | (simp; done) | (simp; omega)) (by first | assumption | omega | decide | (simp; done) | (simp; omega))))) xs_nil), by repeat (first | exact sub_nil | refine sub_cons rfl ?_)⟩
theorem ltrim_len {a t : L} (h : ltrim? a = some t) : t.2.length < 100 := by
  unfold ltrim? at h
  split at h
  case isFalse => cases h
  rename_i hl
  have hl := okL_lt hl
  cases h
  have : ∀ (l : List Q) (low : Int), (ltrim low l).2.length ≤ l.length := by
    intro l
    induction l with
    | nil => intro low; exact Nat.le_refl _
    | cons q r ih =>
      intro low
      unfold ltrim
      split
      · exact Nat.le_refl _
      · exact Nat.le_trans (ih _) (by simp)
  exact Nat.lt_of_le_of_lt (this _ _) hl
theorem linverse_ok {cx : Cx} (H : Mods cx) {k : Int} {a r : L} (h : linverse? a = some r) : CallTo cx 5 (Str.ofString "linverse") [.val (dL a)] k (dL r) k := by
  unfold linverse? at h
  obtain ⟨⟨low, l⟩, ht, h⟩ := Option.bind_eq_some_iff.mp h
  have hl := ltrim_len ht
  dsimp only at h hl
  split at h
  · cases h
  rename_i x l'
  obtain ⟨s, hs, h⟩ := Option.bind_eq_some_iff.mp h
  cases h
  simp at hl
  refine mod1 (x1 := "a") (sc := [("a", .local), ("low", .local), ("rest", .local), ("ltrim", .globalImplicit), ("len", .globalImplicit), ("CasFail", .globalImplicit), ("sinverse", .globalImplicit)]) H (by decide) rfl rfl (fun _ _ _ _ _ _ _ _ _ => rfl) ⟨rfl, rfl, rfl⟩ (.inl rfl) ?_
  exact (xr_next (sn_unpack2 (.inl rfl) (.inl rfl) (ev_call rfl (ar_cons (ev_name rfl) ar_nil) ((ltrim_ok H ht).up (by first | decide | omega | (simp [lev, inner, poly]; done))))) (xr_next (sn_if_f (te_eq (b := false) (te_cmp (ev_callb rfl (H.no "len" (by decide)) rfl (ea_cons (ev_name rfl) ea_nil) (cb_len_list _ (by first | assumption | omega | decide | (simp; done) | (simp; omega)))) (ev_int _) (cmp_eq _ _)) (by first | rfl | assumption | decide | (simp [*]; done) | (simp; omega))) xs_nil) (xr_ret (sr_return (ev_tuple (ea_cons (ev_bin (ev_int _) (ev_name rfl) (bin_sub _ _)) (ea_cons (ev_call rfl (ar_cons (ev_name rfl) ar_nil) ((sinverse_ok H hs).up (by first | decide | omega | (simp [lev, inner, poly]; done)))) ea_nil)) (by first | decide | (simp; done)))))))
theorem lpowpos_ok {cx : Cx} (H : Mods cx) {k : Int} {a r : L} {m : Int} (h : lpowpos? a m = some r) : CallTo cx 7 (Str.ofString "lpower") [.val (dL a), .val (.int m)] k (dL r) k := by
  unfold lpowpos? at h
  split at h
  · cases h
  rename_i hm
  obtain ⟨⟨low, l⟩, ht, h⟩ := Option.bind_eq_some_iff.mp h
  split at h
  case isFalse => cases h
  rename_i hk
  have hk := okI_lt hk
  obtain ⟨s, hs, h⟩ := Option.bind_eq_some_iff.mp h
  cases h
  have hm0 : (m == 0) = false := by simp; omega
  refine mod2 (x1 := "a") (x2 := "many") (sc := [("a", .local), ("many", .local), ("low", .local), ("rest", .local), ("R1", .globalImplicit), ("R0", .globalImplicit), ("len", .globalImplicit), ("lpower", .globalImplicit), ("linverse", .globalImplicit), ("ltrim", .globalImplicit), ("swhole_power", .globalImplicit)]) H (by decide) rfl rfl (fun _ _ _ _ _ _ _ _ _ _ => rfl) ⟨rfl, rfl, rfl⟩ (.inl rfl) (.inl rfl) rfl ?_
  exact (xr_next (sn_if_f (te_eq (b := false) (te_cmp (ev_name rfl) (ev_int _) (cmp_eq _ _)) (by first | rfl | assumption | decide | (simp [*]; done) | (simp; omega))) xs_nil) (xr_next (sn_if_f (te_eq (b := false) (te_cmp (ev_name rfl) (ev_int _) (cmp_lt _ _)) (by first | rfl | assumption | decide | (simp [*]; done) | (simp; omega))) xs_nil) (xr_next (sn_unpack2 (.inl rfl) (.inl rfl) (ev_call rfl (ar_cons (ev_name rfl) ar_nil) ((ltrim_ok H ht).up (by first | decide | omega | (simp [lev, inner, poly]; done))))) (xr_ret (sr_return (ev_tuple (ea_cons (ev_bin (ev_name rfl) (ev_name rfl) (bin_mul _ _ (by first | assumption | omega | decide | (simp; done) | (simp; omega)))) (ea_cons (ev_call rfl (ar_cons (ev_name rfl) (ar_cons (ev_name rfl) ar_nil)) ((swhole_power_ok H hs (by omega)).up (by first | decide | omega | (simp [lev, inner, poly]; done)))) ea_nil)) (by first | decide | (simp; done))))))))
theorem lpower_ok {cx : Cx} (H : Mods cx) {k : Int} {a r : L} {m : Int} (h : lpower? a m = some r) : CallTo cx 8 (Str.ofString "lpower") [.val (dL a), .val (.int m)] k (dL r) k := by
  unfold lpower? at h
  split at h
  · cases h
  rename_i hm0
  have hm0 : (m == 0) = false := by simpa using hm0
  split at h
  · rename_i hm
    obtain ⟨b, hb, h⟩ := Option.bind_eq_some_iff.mp h
    refine mod2 (x1 := "a") (x2 := "many") (sc := [("a", .local), ("many", .local), ("low", .local), ("rest", .local), ("R1", .globalImplicit), ("R0", .globalImplicit), ("len", .globalImplicit), ("lpower", .globalImplicit), ("linverse", .globalImplicit), ("ltrim", .globalImplicit), ("swhole_power", .globalImplicit)]) H (by decide) rfl rfl (fun _ _ _ _ _ _ _ _ _ _ => rfl) ⟨rfl, rfl, rfl⟩ (.inl rfl) (.inl rfl) rfl ?_
    refine xr_next (sn_if_f (te_eq (b := false) (te_cmp (ev_name rfl) (ev_int _) (cmp_eq _ _)) hm0) xs_nil) (xr_ret (sr_if_t (te_eq (b := true) (te_cmp (ev_name rfl) (ev_int _) (cmp_lt _ _)) (by simpa using hm)) (xr_ret (sr_return (ev_call rfl (ar_cons (ev_call rfl (ar_cons (ev_name rfl) ar_nil) ((linverse_ok H hb).up (by decide))) (ar_cons (ev_bin (ev_int _) (ev_name rfl) (bin_sub _ _)) ar_nil)) (lpowpos_ok H h))))))
  · exact (lpowpos_ok H h).up (by decide)
end Mine
set_option maxRecDepth 10000
namespace Mine
open PySem PySem.W PyProof.Rows PySem.Calls PySem.Spec


noncomputable def ruT (n : Int) (k : Nat) (s : Int × Int) : Option Bool := if okI s.2 then some (decide (s.2 ^ k ≤ n)) else none
noncomputable def ruN (s : Int × Int) : Option (Int × Int) := some (s.2, 2 * s.2)
theorem ru_runs {n : Int} {k : Nat} : ∀ (m : Nat) (lo hi : Int) (r : Int × Int), rootUp n k m lo hi = some r → ∃ j, Runs (ruT n k) ruN j (lo, hi) r
  | 0, _, _, _, h => by cases h
  | m + 1, lo, hi, r, h => by
    unfold rootUp at h
    split at h
    case isFalse => cases h
    rename_i hk
    split at h
    · rename_i hc
      obtain ⟨j, hr⟩ := ru_runs m _ _ _ h
      exact ⟨j + 1, .step (by simp [ruT, hk, hc]) rfl hr⟩
    · rename_i hc
      cases h
      exact ⟨0, .done (by simp [ruT, hk, hc])⟩
noncomputable def riT (s : Int × Int) : Option Bool := some (decide (1 < s.2 - s.1))
noncomputable def riN (n : Int) (k : Nat) (s : Int × Int) : Option (Int × Int) := if okI ((s.1 + s.2).fdiv 2) then some (if ((s.1 + s.2).fdiv 2) ^ k ≤ n then ((s.1 + s.2).fdiv 2, s.2) else (s.1, (s.1 + s.2).fdiv 2)) else none
theorem ri_runs {n : Int} {k : Nat} : ∀ (m : Nat) (lo hi r : Int), rootIn n k m lo hi = some r → ∃ hi', ∃ j, Runs riT (riN n k) j (lo, hi) (r, hi')
  | 0, _, _, _, h => by cases h
  | m + 1, lo, hi, r, h => by
    unfold rootIn at h
    split at h
    · rename_i hc
      dsimp only at h
      split at h
      case isFalse => cases h
      rename_i hk
      split at h
      · rename_i hc2
        obtain ⟨hi', j, hr⟩ := ri_runs m _ _ _ h
        exact ⟨hi', j + 1, .step (by simp [riT, hc]) (by simp [riN, hk, hc2]) hr⟩
      · rename_i hc2
        obtain ⟨hi', j, hr⟩ := ri_runs m _ _ _ h
        exact ⟨hi', j + 1, .step (by simp [riT, hc]) (by simp [riN, hk, hc2]) hr⟩
    · rename_i hc
      cases h
      exact ⟨hi, 0, .done (by simp [riT, hc])⟩
theorem root_of_ok {cx : Cx} (H : Mods cx) {k : Int} {n : Int} {m : Nat} {r : Int} (h : rootOf? n m = some r) (hm : m < 100) {j : Int} (hj : j = (m : Int)) : CallTo cx 1 (Str.ofString "root_of") [.val (.int n), .val (.int j)] k (.int r) k := by
  subst hj
  unfold rootOf? at h
  obtain ⟨⟨lo, hi⟩, h1, h⟩ := Option.bind_eq_some_iff.mp h
  obtain ⟨hi', h2⟩ := ri_runs _ _ _ _ h
  refine mod2 (x1 := "n") (x2 := "k") (sc := [("n", .local), ("k", .local), ("low", .local), ("high", .local), ("middle", .local)]) H (by decide) rfl rfl (fun _ _ _ _ _ _ _ _ _ _ => rfl) ⟨rfl, rfl, rfl⟩ (.inl rfl) (.inl rfl) rfl ?_
  refine (xr_next (sn_unpack2 (.inl rfl) (.inl rfl) (ev_tuple (ea_cons (ev_int _) (ea_cons (ev_int _) ea_nil)) (by first | decide | (simp; done))) (by intro _; rfl) (fun env _ => swapped_folded rfl)) ?_)
  refine xr_next (sn_while_run (fun s : Int × Int => [("low", .val (.int s.1)), ("high", .val (.int s.2)), ("n", .val (.int n)), ("k", .val (.int m))]) (ru_runs _ _ _ _ h1) (by repeat (first | exact sub_nil | refine sub_cons rfl ?_)) ?_ ?_) ?_
  · rintro ⟨lo, hi⟩ c hc
    unfold ruT at hc
    split at hc
    case isFalse => cases hc
    rename_i hk
    have hk := okI_lt hk
    cases hc
    exact te_eq (te_cmp (ev_bin (ev_name rfl) (ev_name rfl) (bin_pow _ _ (by omega) (by omega) hk)) (ev_name rfl) (cmp_le _ _)) (by simp)
  · rintro ⟨lo, hi⟩ s' h1 h2
    cases h2
    exact ⟨_, (xs_next (sn_swap2 rfl rfl (ev_name rfl) (ev_bin (ev_int _) (ev_name rfl) (bin_mul _ _ (by first | assumption | omega | decide | (simp; done) | (simp; omega))))) xs_nil), by repeat (first | exact sub_nil | refine sub_cons rfl ?_)⟩
  refine xr_next (sn_while_run (fun s : Int × Int => [("low", .val (.int s.1)), ("high", .val (.int s.2)), ("n", .val (.int n)), ("k", .val (.int m))]) h2 (by repeat (first | exact sub_nil | refine sub_cons rfl ?_)) ?_ ?_) (xr_ret (sr_return (ev_name rfl)))
  · rintro ⟨lo, hi⟩ c hc
    cases hc
    exact (te_cmp (ev_bin (ev_name rfl) (ev_name rfl) (bin_sub _ _)) (ev_int _) (cmp_gt _ _))
  · rintro ⟨lo, hi⟩ s' h1 h2
    unfold riN at h2
    split at h2
    case isFalse => cases h2
    rename_i hk
    have hk := okI_lt hk
    dsimp only at hk h2
    split at h2
    · rename_i hc
      cases h2
      have hc' : decide (((lo + hi).fdiv 2) ^ ((m : Int)).toNat ≤ n) = true := by simpa using hc
      exact ⟨_, (xs_next (sn_assign (.inl rfl) (ev_bin (ev_bin (ev_name rfl) (ev_name rfl) (bin_add _ _)) (ev_int _) (bin_floordiv _ _ (by first | assumption | omega | decide | (simp; done) | (simp; omega)) (by first | assumption | omega | decide | (simp; done) | (simp; omega))))) (xs_next (sn_if_t (te_eq (b := true) (te_cmp (ev_bin (ev_name rfl) (ev_name rfl) (bin_pow _ _ (by first | assumption | omega | decide | (simp; done) | (simp; omega)) (by first | assumption | omega | decide | (simp; done) | (simp; omega)) (by first | assumption | omega | decide | (simp; done) | (simp; omega)))) (ev_name rfl) (cmp_le _ _)) (by first | rfl | assumption | decide | (simp [*]; done) | (simp; omega))) (xs_next (sn_assign (.inl rfl) (ev_name rfl)) xs_nil)) xs_nil)), by repeat (first | exact sub_nil | refine sub_cons rfl ?_)⟩
    · rename_i hc
      cases h2
      have hc' : decide (((lo + hi).fdiv 2) ^ ((m : Int)).toNat ≤ n) = false := by simpa using hc
      exact ⟨_, (xs_next (sn_assign (.inl rfl) (ev_bin (ev_bin (ev_name rfl) (ev_name rfl) (bin_add _ _)) (ev_int _) (bin_floordiv _ _ (by first | assumption | omega | decide | (simp; done) | (simp; omega)) (by first | assumption | omega | decide | (simp; done) | (simp; omega))))) (xs_next (sn_if_f (te_eq (b := false) (te_cmp (ev_bin (ev_name rfl) (ev_name rfl) (bin_pow _ _ (by first | assumption | omega | decide | (simp; done) | (simp; omega)) (by first | assumption | omega | decide | (simp; done) | (simp; omega)) (by first | assumption | omega | decide | (simp; done) | (simp; omega)))) (ev_name rfl) (cmp_le _ _)) (by first | rfl | assumption | decide | (simp [*]; done) | (simp; omega))) (xs_next (sn_assign (.inl rfl) (ev_name rfl)) xs_nil)) xs_nil)), by repeat (first | exact sub_nil | refine sub_cons rfl ?_)⟩
theorem exact_root_ok {cx : Cx} (H : Mods cx) {k : Int} {q : Q} {m : Nat} {r : Option Q} (h : exactRoot? q m = some r) (hm : m < 100) {j : Int} (hj : j = (m : Int)) : CallTo cx 2 (Str.ofString "exact_root") [.val (dQ q), .val (.int j)] k (dO r) k := by
  subst hj
  unfold exactRoot? at h
  obtain ⟨t, ht, h⟩ := Option.bind_eq_some_iff.mp h
  obtain ⟨b, hb, h⟩ := Option.bind_eq_some_iff.mp h
  split at h
  case isFalse => cases h
  rename_i hc
  obtain ⟨kt, kb⟩ := Bool.and_eq_true_iff.mp hc
  have kt := okI_lt kt; have kb := okI_lt kb
  cases h
  refine mod2 (x1 := "number") (x2 := "many") (sc := [("number", .local), ("many", .local), ("top", .local), ("bottom", .local), ("root_of", .globalImplicit)]) H (by decide) rfl rfl (fun _ _ _ _ _ _ _ _ _ _ => rfl) ⟨rfl, rfl, rfl⟩ (.inl rfl) (.inl rfl) rfl ?_
  cases h1 : (t ^ m == q.1) with
  | false => exact xr_eq (xr_next (sn_swap2 rfl rfl (ev_call rfl (ar_cons (ev_item (ev_name rfl) rfl (ev_int _) (by decide) (by decide) rfl) (ar_cons (ev_name rfl) ar_nil)) ((root_of_ok H ht hm rfl).up (by first | decide | omega | (simp [lev, inner, poly]; done)))) (ev_call rfl (ar_cons (ev_item (ev_name rfl) rfl (ev_int _) (by decide) (by decide) rfl) (ar_cons (ev_name rfl) ar_nil)) ((root_of_ok H hb hm rfl).up (by first | decide | omega | (simp [lev, inner, poly]; done))))) (xr_ret (sr_return (ev_ife_f (te_and_f (te_eq (b := false) (te_cmp (ev_bin (ev_name rfl) (ev_name rfl) (bin_pow _ _ (by first | assumption | omega | decide | (simp; done) | (simp; omega)) (by first | assumption | omega | decide | (simp; done) | (simp; omega)) (by first | assumption | omega | decide | (simp; done) | (simp; omega)))) (ev_item (ev_name rfl) rfl (ev_int _) (by decide) (by decide) rfl) (cmp_eq _ _)) (by first | rfl | assumption | decide | (simp [*]; done) | (simp; omega)))) ev_none)))) (by simp [dO])
  | true =>
    cases h2 : (b ^ m == q.2) with
    | false => exact xr_eq (xr_next (sn_swap2 rfl rfl (ev_call rfl (ar_cons (ev_item (ev_name rfl) rfl (ev_int _) (by decide) (by decide) rfl) (ar_cons (ev_name rfl) ar_nil)) ((root_of_ok H ht hm rfl).up (by first | decide | omega | (simp [lev, inner, poly]; done)))) (ev_call rfl (ar_cons (ev_item (ev_name rfl) rfl (ev_int _) (by decide) (by decide) rfl) (ar_cons (ev_name rfl) ar_nil)) ((root_of_ok H hb hm rfl).up (by first | decide | omega | (simp [lev, inner, poly]; done))))) (xr_ret (sr_return (ev_ife_f (te_and_t (te_eq (b := true) (te_cmp (ev_bin (ev_name rfl) (ev_name rfl) (bin_pow _ _ (by first | assumption | omega | decide | (simp; done) | (simp; omega)) (by first | assumption | omega | decide | (simp; done) | (simp; omega)) (by first | assumption | omega | decide | (simp; done) | (simp; omega)))) (ev_item (ev_name rfl) rfl (ev_int _) (by decide) (by decide) rfl) (cmp_eq _ _)) (by first | rfl | assumption | decide | (simp [*]; done) | (simp; omega))) (te_and_f (te_eq (b := false) (te_cmp (ev_bin (ev_name rfl) (ev_name rfl) (bin_pow _ _ (by first | assumption | omega | decide | (simp; done) | (simp; omega)) (by first | assumption | omega | decide | (simp; done) | (simp; omega)) (by first | assumption | omega | decide | (simp; done) | (simp; omega)))) (ev_item (ev_name rfl) rfl (ev_int _) (by decide) (by decide) rfl) (cmp_eq _ _)) (by first | rfl | assumption | decide | (simp [*]; done) | (simp; omega))))) ev_none)))) (by simp [dO])
    | true => exact xr_eq (xr_next (sn_swap2 rfl rfl (ev_call rfl (ar_cons (ev_item (ev_name rfl) rfl (ev_int _) (by decide) (by decide) rfl) (ar_cons (ev_name rfl) ar_nil)) ((root_of_ok H ht hm rfl).up (by first | decide | omega | (simp [lev, inner, poly]; done)))) (ev_call rfl (ar_cons (ev_item (ev_name rfl) rfl (ev_int _) (by decide) (by decide) rfl) (ar_cons (ev_name rfl) ar_nil)) ((root_of_ok H hb hm rfl).up (by first | decide | omega | (simp [lev, inner, poly]; done))))) (xr_ret (sr_return (ev_ife_t (te_and_t (te_eq (b := true) (te_cmp (ev_bin (ev_name rfl) (ev_name rfl) (bin_pow _ _ (by first | assumption | omega | decide | (simp; done) | (simp; omega)) (by first | assumption | omega | decide | (simp; done) | (simp; omega)) (by first | assumption | omega | decide | (simp; done) | (simp; omega)))) (ev_item (ev_name rfl) rfl (ev_int _) (by decide) (by decide) rfl) (cmp_eq _ _)) (by first | rfl | assumption | decide | (simp [*]; done) | (simp; omega))) (te_and_t (te_eq (b := true) (te_cmp (ev_bin (ev_name rfl) (ev_name rfl) (bin_pow _ _ (by first | assumption | omega | decide | (simp; done) | (simp; omega)) (by first | assumption | omega | decide | (simp; done) | (simp; omega)) (by first | assumption | omega | decide | (simp; done) | (simp; omega)))) (ev_item (ev_name rfl) rfl (ev_int _) (by decide) (by decide) rfl) (cmp_eq _ _)) (by first | rfl | assumption | decide | (simp [*]; done) | (simp; omega))) te_and_nil)) (ev_tuple (ea_cons (ev_name rfl) (ea_cons (ev_name rfl) ea_nil)) (by first | decide | (simp; done))))))) (by simp [dO])
theorem from_zero_ok {cx : Cx} (H : Mods cx) {k : Int} {a : L} {r : List Q} (h : fromZero? a = some r) : CallTo cx 2 (Str.ofString "from_zero") [.val (dL a)] k (dS r) k := by
  unfold fromZero? at h
  obtain ⟨⟨low, l⟩, ht, h⟩ := Option.bind_eq_some_iff.mp h
  dsimp only at h
  split at h
  · cases h
  rename_i hk
  obtain ⟨h1, h2⟩ : okL l = true ∧ okZ low = true := by simpa using hk
  have h1 := okL_lt h1; have h2 := okZ_lt h2
  split at h
  · cases h
  rename_i hc
  cases h
  refine mod1 (x1 := "told") (sc := [("told", .local), ("low", .local), ("rest", .local), ("ltrim", .globalImplicit), ("len", .globalImplicit), ("CasFail", .globalImplicit), ("R0", .globalImplicit), ("max", .globalImplicit)]) H (by decide) rfl rfl (fun _ _ _ _ _ _ _ _ _ => rfl) ⟨rfl, rfl, rfl⟩ (.inl rfl) ?_
  have hmx : (if 0 > low then (0 : Int) else low) ≤ 10000 := by split <;> omega
  have hmn : -10000 ≤ (if 0 > low then (0 : Int) else low) := by split <;> omega
  have hmm : (if 0 > low then (0 : Int) else low).toNat < 100 := by split <;> omega
  by_cases hlow : low < 0
  · have hl : l.length = 0 := by
      rcases Nat.eq_zero_or_pos l.length with e | e
      · exact e
      · exact absurd (by simp [hlow, e]) hc
    exact xr_eq (xr_next (sn_unpack2 (.inl rfl) (.inl rfl) (ev_call rfl (ar_cons (ev_name rfl) ar_nil) ((ltrim_ok H ht).up (by first | decide | omega | (simp [lev, inner, poly]; done))))) (xr_next (sn_if_f (te_and_t (te_eq (b := true) (te_cmp (ev_name rfl) (ev_int _) (cmp_lt _ _)) (by first | rfl | assumption | decide | (simp [*]; done) | (simp; omega))) (te_and_f (te_eq (b := false) (te_cmp (ev_callb rfl (H.no "len" (by decide)) rfl (ea_cons (ev_name rfl) ea_nil) (cb_len_list _ (by first | assumption | omega | decide | (simp; done) | (simp; omega)))) (ev_int _) (cmp_gt _ _)) (by first | rfl | assumption | decide | (simp [*]; done) | (simp; omega))))) xs_nil) (xr_ret (sr_return (ev_own (eo_add (ev_own (eo_rep (ev_own (eo_list (ea_cons (ev_global rfl H.R0) ea_nil) (by first | decide | (simp; done)))) (ev_callb rfl (H.no "max" (by decide)) rfl (ea_cons (ev_name rfl) (ea_cons (ev_int _) ea_nil)) (cb_max _ _)) (by first | assumption | omega | decide | (simp; done) | (simp; omega)) (by first | assumption | omega | decide | (simp; done) | (simp; omega)))) (ev_name rfl) (by first | assumption | omega | decide | (simp; done) | (simp; omega)))))))) (by simp)
  · exact xr_eq (xr_next (sn_unpack2 (.inl rfl) (.inl rfl) (ev_call rfl (ar_cons (ev_name rfl) ar_nil) ((ltrim_ok H ht).up (by first | decide | omega | (simp [lev, inner, poly]; done))))) (xr_next (sn_if_f (te_and_f (te_eq (b := false) (te_cmp (ev_name rfl) (ev_int _) (cmp_lt _ _)) (by first | rfl | assumption | decide | (simp [*]; done) | (simp; omega)))) xs_nil) (xr_ret (sr_return (ev_own (eo_add (ev_own (eo_rep (ev_own (eo_list (ea_cons (ev_global rfl H.R0) ea_nil) (by first | decide | (simp; done)))) (ev_callb rfl (H.no "max" (by decide)) rfl (ea_cons (ev_name rfl) (ea_cons (ev_int _) ea_nil)) (cb_max _ _)) (by first | assumption | omega | decide | (simp; done) | (simp; omega)) (by first | assumption | omega | decide | (simp; done) | (simp; omega)))) (ev_name rfl) (by first | assumption | omega | decide | (simp; done) | (simp; omega)))))))) (by simp)
theorem lcut_ok {cx : Cx} (H : Mods cx) {k : Int} {a : L} {e : Nat} {r : List Q} (h : lcut? a e = some r) {j : Int} (hj : j = (e : Int)) : CallTo cx 2 (Str.ofString "lcut") [.val (dL a), .val (.int j)] k (dS r) k := by
  subst hj
  unfold lcut? at h
  obtain ⟨⟨low, l⟩, ht, h⟩ := Option.bind_eq_some_iff.mp h
  dsimp only at h
  split at h
  · cases h
  rename_i hk
  obtain ⟨⟨h1, h2⟩, h3⟩ : (okL l = true ∧ okZ low = true) ∧ okN e = true := by simpa using hk
  have h1 := okL_lt h1; have h2 := okZ_lt h2; have h3 := okN_lt h3
  split at h
  · cases h
  rename_i hc
  split at h
  · cases h
  rename_i hc2
  refine mod2 (x1 := "a") (x2 := "end") (sc := [("a", .local), ("end", .local), ("low", .local), ("rest", .local), ("ltrim", .globalImplicit), ("len", .globalImplicit), ("CasFail", .globalImplicit), ("R0", .globalImplicit)]) H (by decide) rfl rfl (fun _ _ _ _ _ _ _ _ _ _ => rfl) ⟨rfl, rfl, rfl⟩ (.inl rfl) (.inl rfl) rfl ?_
  split at h
  · rename_i hp
    cases h
    rcases Nat.eq_zero_or_pos l.length with e0 | e0
    · exact xr_eq (xr_next (sn_unpack2 (.inl rfl) (.inl rfl) (ev_call rfl (ar_cons (ev_name rfl) ar_nil) ((ltrim_ok H ht).up (by first | decide | omega | (simp [lev, inner, poly]; done))))) (xr_next (sn_if_f (te_and_f (te_eq (b := false) (te_cmp (ev_callb rfl (H.no "len" (by decide)) rfl (ea_cons (ev_name rfl) ea_nil) (cb_len_list _ (by first | assumption | omega | decide | (simp; done) | (simp; omega)))) (ev_int _) (cmp_gt _ _)) (by first | rfl | assumption | decide | (simp [*]; done) | (simp; omega)))) xs_nil) (xr_next (sn_if_f (te_eq (b := false) (te_cmp (ev_bin (ev_name rfl) (ev_callb rfl (H.no "len" (by decide)) rfl (ea_cons (ev_name rfl) ea_nil) (cb_len_list _ (by first | assumption | omega | decide | (simp; done) | (simp; omega)))) (bin_add _ _)) (ev_name rfl) (cmp_lt _ _)) (by first | rfl | assumption | decide | (simp [*]; done) | (simp; omega))) xs_nil) (xr_ret (sr_return (ev_ife_t (te_eq (b := true) (te_cmp (ev_name rfl) (ev_int _) (cmp_ge _ _)) (by first | rfl | assumption | decide | (simp [*]; done) | (simp; omega))) (ev_own (eo_slice_to (ev_own (eo_add (ev_own (eo_rep (ev_own (eo_list (ea_cons (ev_global rfl H.R0) ea_nil) (by first | decide | (simp; done)))) (ev_name rfl) (by first | assumption | omega | decide | (simp; done) | (simp; omega)) (by first | assumption | omega | decide | (simp; done) | (simp; omega)))) (ev_name rfl) (by first | assumption | omega | decide | (simp; done) | (simp; omega)))) (ev_name rfl) (by first | assumption | omega | decide | (simp; done) | (simp; omega)) (by first | assumption | omega | decide | (simp; done) | (simp; omega)))))))))) (by simp)
    · exact xr_eq (xr_next (sn_unpack2 (.inl rfl) (.inl rfl) (ev_call rfl (ar_cons (ev_name rfl) ar_nil) ((ltrim_ok H ht).up (by first | decide | omega | (simp [lev, inner, poly]; done))))) (xr_next (sn_if_f (te_and_t (te_eq (b := true) (te_cmp (ev_callb rfl (H.no "len" (by decide)) rfl (ea_cons (ev_name rfl) ea_nil) (cb_len_list _ (by first | assumption | omega | decide | (simp; done) | (simp; omega)))) (ev_int _) (cmp_gt _ _)) (by first | rfl | assumption | decide | (simp [*]; done) | (simp; omega))) (te_and_f (te_eq (b := false) (te_cmp (ev_name rfl) (ev_int _) (cmp_lt _ _)) (by first | rfl | assumption | decide | (simp [*]; done) | (simp; omega))))) xs_nil) (xr_next (sn_if_f (te_eq (b := false) (te_cmp (ev_bin (ev_name rfl) (ev_callb rfl (H.no "len" (by decide)) rfl (ea_cons (ev_name rfl) ea_nil) (cb_len_list _ (by first | assumption | omega | decide | (simp; done) | (simp; omega)))) (bin_add _ _)) (ev_name rfl) (cmp_lt _ _)) (by first | rfl | assumption | decide | (simp [*]; done) | (simp; omega))) xs_nil) (xr_ret (sr_return (ev_ife_t (te_eq (b := true) (te_cmp (ev_name rfl) (ev_int _) (cmp_ge _ _)) (by first | rfl | assumption | decide | (simp [*]; done) | (simp; omega))) (ev_own (eo_slice_to (ev_own (eo_add (ev_own (eo_rep (ev_own (eo_list (ea_cons (ev_global rfl H.R0) ea_nil) (by first | decide | (simp; done)))) (ev_name rfl) (by first | assumption | omega | decide | (simp; done) | (simp; omega)) (by first | assumption | omega | decide | (simp; done) | (simp; omega)))) (ev_name rfl) (by first | assumption | omega | decide | (simp; done) | (simp; omega)))) (ev_name rfl) (by first | assumption | omega | decide | (simp; done) | (simp; omega)) (by first | assumption | omega | decide | (simp; done) | (simp; omega)))))))))) (by simp)
  · rename_i hp
    cases h
    have e0 : l.length = 0 := by
      rcases Nat.eq_zero_or_pos l.length with e | e
      · exact e
      · exact absurd (by simp [e]; omega) hc
    exact xr_eq (xr_next (sn_unpack2 (.inl rfl) (.inl rfl) (ev_call rfl (ar_cons (ev_name rfl) ar_nil) ((ltrim_ok H ht).up (by first | decide | omega | (simp [lev, inner, poly]; done))))) (xr_next (sn_if_f (te_and_f (te_eq (b := false) (te_cmp (ev_callb rfl (H.no "len" (by decide)) rfl (ea_cons (ev_name rfl) ea_nil) (cb_len_list _ (by first | assumption | omega | decide | (simp; done) | (simp; omega)))) (ev_int _) (cmp_gt _ _)) (by first | rfl | assumption | decide | (simp [*]; done) | (simp; omega)))) xs_nil) (xr_next (sn_if_f (te_eq (b := false) (te_cmp (ev_bin (ev_name rfl) (ev_callb rfl (H.no "len" (by decide)) rfl (ea_cons (ev_name rfl) ea_nil) (cb_len_list _ (by first | assumption | omega | decide | (simp; done) | (simp; omega)))) (bin_add _ _)) (ev_name rfl) (cmp_lt _ _)) (by first | rfl | assumption | decide | (simp [*]; done) | (simp; omega))) xs_nil) (xr_ret (sr_return (ev_ife_f (te_eq (b := false) (te_cmp (ev_name rfl) (ev_int _) (cmp_ge _ _)) (by first | rfl | assumption | decide | (simp [*]; done) | (simp; omega))) (ev_own (eo_rep (ev_own (eo_list (ea_cons (ev_global rfl H.R0) ea_nil) (by first | decide | (simp; done)))) (ev_name rfl) (by first | assumption | omega | decide | (simp; done) | (simp; omega)) (by first | assumption | omega | decide | (simp; done) | (simp; omega)))))))))) (by simp)
end Mine
set_option maxRecDepth 10000
set_option maxHeartbeats 1000000
namespace Mine
open PySem PySem.W PyProof.Rows PySem.Calls PySem.Spec



theorem of_root_ok {cx : Cx} (H : Mods cx) {k : Int} {a r : L} {q : Q} (h : ofRoot? a q = some r) : CallTo cx 6 (Str.ofString "of_root") [.val (dL a), .val (dQ q)] k (dL r) k := by
  unfold ofRoot? at h
  obtain ⟨⟨low, l⟩, ht, h⟩ := Option.bind_eq_some_iff.mp h
  have hl := ltrim_len ht
  dsimp only at h hl
  split at h
  · cases h
  rename_i x l'
  split at h
  case isFalse => cases h
  rename_i hc
  simp only [Bool.and_eq_true, decide_eq_true_eq, beq_iff_eq] at hc
  obtain ⟨⟨⟨⟨⟨⟨c1, c2⟩, c3⟩, c4⟩, c5⟩, c6⟩, c7⟩ := hc
  have c4 := okI_lt c4
  obtain ⟨o, ho, h⟩ := Option.bind_eq_some_iff.mp h
  obtain ⟨f0, hf0, h⟩ := Option.bind_eq_some_iff.mp h
  obtain ⟨f, hf, h⟩ := Option.bind_eq_some_iff.mp h
  split at h
  case isFalse => cases h
  rename_i hk
  have k1 := okQ_1 hk; have k2 := okQ_2 hk
  obtain ⟨ix, hix, h⟩ := Option.bind_eq_some_iff.mp h
  obtain ⟨s1, hs1, h⟩ := Option.bind_eq_some_iff.mp h
  obtain ⟨s2, hs2, h⟩ := Option.bind_eq_some_iff.mp h
  obtain ⟨s3, hs3, h⟩ := Option.bind_eq_some_iff.mp h
  cases h
  subst hf0
  simp at hl
  have hx : (x :: l')[0]? = some x := rfl
  have hq2 : q.2 ≠ 0 := by omega
  have hb2 : q.2.natAbs < big := Nat.lt_of_lt_of_le (by omega : q.2.natAbs < 100) (by decide)
  have e1 : ((low * q.1).fmod q.2 != 0) = false := by simp [c1]
  have ea : (if q.1 < 0 then -q.1 else q.1) = (q.1.natAbs : Int) := by split <;> omega
  have ea0 : 0 ≤ (if q.1 < 0 then -q.1 else q.1) := by split <;> omega
  have ea1 : (if q.1 < 0 then -q.1 else q.1) ≤ 1000 := by split <;> omega
  have et : (if q.1 < 0 then -q.1 else q.1).toNat = q.1.natAbs := by rw [ea]; rfl
  have hs3' : sscale? (f.1 ^ (if q.1 < 0 then -q.1 else q.1).toNat, f.2 ^ (if q.1 < 0 then -q.1 else q.1).toNat) s2 = some s3 := by rw [et]; exact hs3
  refine mod2 (x1 := "told") (x2 := "number") (sc := [("told", .local), ("number", .local), ("low", .local), ("rest", .local), ("first", .local), ("begin", .local), ("ltrim", .globalImplicit), ("len", .globalImplicit), ("CasFail", .globalImplicit), ("exact_root", .globalImplicit), ("rdiv", .globalImplicit), ("R1", .globalImplicit), ("abs", .globalImplicit), ("sscale", .globalImplicit), ("spower", .globalImplicit)]) H (by decide) rfl rfl (fun _ _ _ _ _ _ _ _ _ _ => rfl) ⟨rfl, rfl, rfl⟩ (.inl rfl) (.inl rfl) rfl ?_
  split at hf
  · rename_i hneg
    exact (xr_next (sn_unpack2 (.inl rfl) (.inl rfl) (ev_call rfl (ar_cons (ev_name rfl) ar_nil) ((ltrim_ok H ht).up (by first | decide | omega | (simp [lev, inner, poly]; done))))) (xr_next (sn_if_f (te_or_f (te_eq (b := false) (te_cmp (ev_callb rfl (H.no "len" (by decide)) rfl (ea_cons (ev_name rfl) ea_nil) (cb_len_list _ (by first | assumption | omega | decide | (simp; done) | (simp; omega)))) (ev_int _) (cmp_eq _ _)) (by first | rfl | assumption | decide | (simp [*]; done) | (simp; omega))) (te_or_f (te_eq (b := false) (te_cmp (ev_bin (ev_bin (ev_name rfl) (ev_item (ev_name rfl) rfl (ev_int _) (by decide) (by decide) rfl) (bin_mul _ _ (by first | assumption | omega | decide | (simp; done) | (simp; omega)))) (ev_item (ev_name rfl) rfl (ev_int _) (by decide) (by decide) rfl) (bin_mod _ _ (by first | assumption | omega | decide | (simp; done) | (simp; omega)))) (ev_int _) (cmp_ne _ _)) (by first | rfl | assumption | decide | (simp [*]; done) | (simp; omega))) (te_or_f (te_eq (b := false) (te_cmp (ev_item (ev_item (ev_name rfl) rfl (ev_int _) (by first | assumption | omega | decide | (simp; done) | (simp; omega)) (by first | assumption | omega | decide | (simp; done) | (simp; omega)) (by first | exact at_q hx (by omega) | exact at_q hy (by omega) | exact at_q hx (by simp) | exact at_q hy (by simp; omega))) rfl (ev_int _) (by decide) (by decide) rfl) (ev_int _) (cmp_le _ _)) (by first | rfl | assumption | decide | (simp [*]; done) | (simp; omega))) te_or_nil))) xs_nil) (xr_next (sn_assign (.inl rfl) (ev_call rfl (ar_cons (ev_item (ev_name rfl) rfl (ev_int _) (by first | assumption | omega | decide | (simp; done) | (simp; omega)) (by first | assumption | omega | decide | (simp; done) | (simp; omega)) (by first | exact at_q hx (by omega) | exact at_q hy (by omega) | exact at_q hx (by simp) | exact at_q hy (by simp; omega))) (ar_cons (ev_item (ev_name rfl) rfl (ev_int _) (by decide) (by decide) rfl) ar_nil)) ((exact_root_ok H ho (by omega) (by omega)).up (by first | decide | omega | (simp [lev, inner, poly]; done))))) (xr_next (sn_if_f (te_eq (b := false) (te_cmp (ev_name rfl) ev_none (cmp_is_none _)) (by first | rfl | assumption | decide | (simp [*]; done) | (simp; omega))) xs_nil) (xr_next (sn_if_t (te_eq (b := true) (te_cmp (ev_item (ev_name rfl) rfl (ev_int _) (by decide) (by decide) rfl) (ev_int _) (cmp_lt _ _)) (by first | rfl | assumption | decide | (simp [*]; done) | (simp; omega))) (xs_next (sn_assign (.inl rfl) (ev_call rfl (ar_cons (ev_global rfl H.R1) (ar_cons (ev_name rfl) ar_nil)) ((rdiv_ok H hf).up (by first | decide | omega | (simp [lev, inner, poly]; done))))) xs_nil)) (xr_next (sn_assign (.inl rfl) (ev_tuple (ea_cons (ev_bin (ev_item (ev_name rfl) rfl (ev_int _) (by decide) (by decide) rfl) (ev_callb rfl (H.no "abs" (by decide)) rfl (ea_cons (ev_item (ev_name rfl) rfl (ev_int _) (by decide) (by decide) rfl) ea_nil) (cb_abs _)) (bin_pow _ _ (by first | assumption | omega | decide | (simp; done) | (simp; omega)) (by first | assumption | omega | decide | (simp; done) | (simp; omega)) (by first | assumption | omega | decide | (simp; done) | (simp; omega)))) (ea_cons (ev_bin (ev_item (ev_name rfl) rfl (ev_int _) (by decide) (by decide) rfl) (ev_callb rfl (H.no "abs" (by decide)) rfl (ea_cons (ev_item (ev_name rfl) rfl (ev_int _) (by decide) (by decide) rfl) ea_nil) (cb_abs _)) (bin_pow _ _ (by first | assumption | omega | decide | (simp; done) | (simp; omega)) (by first | assumption | omega | decide | (simp; done) | (simp; omega)) (by first | assumption | omega | decide | (simp; done) | (simp; omega)))) ea_nil)) (by first | decide | (simp; done)))) (xr_ret (sr_return (ev_tuple (ea_cons (ev_bin (ev_bin (ev_name rfl) (ev_item (ev_name rfl) rfl (ev_int _) (by decide) (by decide) rfl) (bin_mul _ _ (by first | assumption | omega | decide | (simp; done) | (simp; omega)))) (ev_item (ev_name rfl) rfl (ev_int _) (by decide) (by decide) rfl) (bin_floordiv _ _ (by first | assumption | omega | decide | (simp; done) | (simp; omega)) (by first | assumption | omega | decide | (simp; done) | (simp; omega)))) (ea_cons (ev_call rfl (ar_cons (ev_name rfl) (ar_cons (ev_call rfl (ar_cons (ev_call rfl (ar_cons (ev_call rfl (ar_cons (ev_global rfl H.R1) (ar_cons (ev_item (ev_name rfl) rfl (ev_int _) (by first | assumption | omega | decide | (simp; done) | (simp; omega)) (by first | assumption | omega | decide | (simp; done) | (simp; omega)) (by first | exact at_q hx (by omega) | exact at_q hy (by omega) | exact at_q hx (by simp) | exact at_q hy (by simp; omega))) ar_nil)) ((rdiv_ok H hix).up (by first | decide | omega | (simp [lev, inner, poly]; done)))) (ar_cons (ev_name rfl) ar_nil)) ((sscale_ok H hs1).up (by first | decide | omega | (simp [lev, inner, poly]; done)))) (ar_cons (ev_name rfl) ar_nil)) ((spower_ok H hs2).up (by first | decide | omega | (simp [lev, inner, poly]; done)))) ar_nil)) ((sscale_ok H hs3').up (by first | decide | omega | (simp [lev, inner, poly]; done)))) ea_nil)) (by first | decide | (simp; done)))))))))))
  · rename_i hneg
    cases hf
    exact (xr_next (sn_unpack2 (.inl rfl) (.inl rfl) (ev_call rfl (ar_cons (ev_name rfl) ar_nil) ((ltrim_ok H ht).up (by first | decide | omega | (simp [lev, inner, poly]; done))))) (xr_next (sn_if_f (te_or_f (te_eq (b := false) (te_cmp (ev_callb rfl (H.no "len" (by decide)) rfl (ea_cons (ev_name rfl) ea_nil) (cb_len_list _ (by first | assumption | omega | decide | (simp; done) | (simp; omega)))) (ev_int _) (cmp_eq _ _)) (by first | rfl | assumption | decide | (simp [*]; done) | (simp; omega))) (te_or_f (te_eq (b := false) (te_cmp (ev_bin (ev_bin (ev_name rfl) (ev_item (ev_name rfl) rfl (ev_int _) (by decide) (by decide) rfl) (bin_mul _ _ (by first | assumption | omega | decide | (simp; done) | (simp; omega)))) (ev_item (ev_name rfl) rfl (ev_int _) (by decide) (by decide) rfl) (bin_mod _ _ (by first | assumption | omega | decide | (simp; done) | (simp; omega)))) (ev_int _) (cmp_ne _ _)) (by first | rfl | assumption | decide | (simp [*]; done) | (simp; omega))) (te_or_f (te_eq (b := false) (te_cmp (ev_item (ev_item (ev_name rfl) rfl (ev_int _) (by first | assumption | omega | decide | (simp; done) | (simp; omega)) (by first | assumption | omega | decide | (simp; done) | (simp; omega)) (by first | exact at_q hx (by omega) | exact at_q hy (by omega) | exact at_q hx (by simp) | exact at_q hy (by simp; omega))) rfl (ev_int _) (by decide) (by decide) rfl) (ev_int _) (cmp_le _ _)) (by first | rfl | assumption | decide | (simp [*]; done) | (simp; omega))) te_or_nil))) xs_nil) (xr_next (sn_assign (.inl rfl) (ev_call rfl (ar_cons (ev_item (ev_name rfl) rfl (ev_int _) (by first | assumption | omega | decide | (simp; done) | (simp; omega)) (by first | assumption | omega | decide | (simp; done) | (simp; omega)) (by first | exact at_q hx (by omega) | exact at_q hy (by omega) | exact at_q hx (by simp) | exact at_q hy (by simp; omega))) (ar_cons (ev_item (ev_name rfl) rfl (ev_int _) (by decide) (by decide) rfl) ar_nil)) ((exact_root_ok H ho (by omega) (by omega)).up (by first | decide | omega | (simp [lev, inner, poly]; done))))) (xr_next (sn_if_f (te_eq (b := false) (te_cmp (ev_name rfl) ev_none (cmp_is_none _)) (by first | rfl | assumption | decide | (simp [*]; done) | (simp; omega))) xs_nil) (xr_next (sn_if_f (te_eq (b := false) (te_cmp (ev_item (ev_name rfl) rfl (ev_int _) (by decide) (by decide) rfl) (ev_int _) (cmp_lt _ _)) (by first | rfl | assumption | decide | (simp [*]; done) | (simp; omega))) xs_nil) (xr_next (sn_assign (.inl rfl) (ev_tuple (ea_cons (ev_bin (ev_item (ev_name rfl) rfl (ev_int _) (by decide) (by decide) rfl) (ev_callb rfl (H.no "abs" (by decide)) rfl (ea_cons (ev_item (ev_name rfl) rfl (ev_int _) (by decide) (by decide) rfl) ea_nil) (cb_abs _)) (bin_pow _ _ (by first | assumption | omega | decide | (simp; done) | (simp; omega)) (by first | assumption | omega | decide | (simp; done) | (simp; omega)) (by first | assumption | omega | decide | (simp; done) | (simp; omega)))) (ea_cons (ev_bin (ev_item (ev_name rfl) rfl (ev_int _) (by decide) (by decide) rfl) (ev_callb rfl (H.no "abs" (by decide)) rfl (ea_cons (ev_item (ev_name rfl) rfl (ev_int _) (by decide) (by decide) rfl) ea_nil) (cb_abs _)) (bin_pow _ _ (by first | assumption | omega | decide | (simp; done) | (simp; omega)) (by first | assumption | omega | decide | (simp; done) | (simp; omega)) (by first | assumption | omega | decide | (simp; done) | (simp; omega)))) ea_nil)) (by first | decide | (simp; done)))) (xr_ret (sr_return (ev_tuple (ea_cons (ev_bin (ev_bin (ev_name rfl) (ev_item (ev_name rfl) rfl (ev_int _) (by decide) (by decide) rfl) (bin_mul _ _ (by first | assumption | omega | decide | (simp; done) | (simp; omega)))) (ev_item (ev_name rfl) rfl (ev_int _) (by decide) (by decide) rfl) (bin_floordiv _ _ (by first | assumption | omega | decide | (simp; done) | (simp; omega)) (by first | assumption | omega | decide | (simp; done) | (simp; omega)))) (ea_cons (ev_call rfl (ar_cons (ev_name rfl) (ar_cons (ev_call rfl (ar_cons (ev_call rfl (ar_cons (ev_call rfl (ar_cons (ev_global rfl H.R1) (ar_cons (ev_item (ev_name rfl) rfl (ev_int _) (by first | assumption | omega | decide | (simp; done) | (simp; omega)) (by first | assumption | omega | decide | (simp; done) | (simp; omega)) (by first | exact at_q hx (by omega) | exact at_q hy (by omega) | exact at_q hx (by simp) | exact at_q hy (by simp; omega))) ar_nil)) ((rdiv_ok H hix).up (by first | decide | omega | (simp [lev, inner, poly]; done)))) (ar_cons (ev_name rfl) ar_nil)) ((sscale_ok H hs1).up (by first | decide | omega | (simp [lev, inner, poly]; done)))) (ar_cons (ev_name rfl) ar_nil)) ((spower_ok H hs2).up (by first | decide | omega | (simp [lev, inner, poly]; done)))) ar_nil)) ((sscale_ok H hs3').up (by first | decide | omega | (simp [lev, inner, poly]; done)))) ea_nil)) (by first | decide | (simp; done)))))))))))
theorem law_low_ok {cx : Cx} (H : Mods cx) {k : Int} {t b : Int} {q : Q} (h : lawLow? t b = some q) : CallTo cx 1 (Str.ofString "_law_low") [.val (.int t), .val (.int b)] k (dQ q) k := by
  unfold lawLow? at h
  split at h
  · cases h
  rename_i hc
  simp only [Bool.or_eq_true, beq_iff_eq, Bool.not_eq_true', not_or, Bool.not_eq_false] at hc
  obtain ⟨⟨h0, hlb⟩, hlt⟩ := hc
  have hlb : b.natAbs < 2 ^ 199 := by simpa [Nat.blt_eq] using hlb
  have hgp : 0 < Nat.gcd t.natAbs b.natAbs := Nat.gcd_pos_of_pos_right _ (by omega)
  have hgl : Nat.gcd t.natAbs b.natAbs ≤ b.natAbs := Nat.le_of_dvd (by omega) (Nat.gcd_dvd_right _ _)
  have hbig : (2 ^ 199 : Nat) < big := by decide
  dsimp only at h
  have ea : ∀ x : Int, (if x < 0 then -x else x) = (x.natAbs : Int) := fun x => by split <;> omega
  have g1 : ((Nat.gcd t.natAbs b.natAbs : Nat) : Int) ≠ 0 := by omega
  have g2 : ((Nat.gcd t.natAbs b.natAbs : Nat) : Int).natAbs < big := by omega
  refine mod2 (x1 := "top") (x2 := "bottom") (sc := [("top", .local), ("bottom", .local), ("one", .local), ("other", .local), ("sign", .local), ("abs", .globalImplicit)]) H (by decide) rfl rfl (fun _ _ _ _ _ _ _ _ _ _ => rfl) ⟨rfl, rfl, rfl⟩ (.inl rfl) (.inl rfl) rfl ?_
  refine (xr_next (sn_swap2 rfl rfl (ev_callb rfl (H.no "abs" (by decide)) rfl (ea_cons (ev_name rfl) ea_nil) (cb_abs _)) (ev_callb rfl (H.no "abs" (by decide)) rfl (ea_cons (ev_name rfl) ea_nil) (cb_abs _))) ?_)
  refine xr_next (sn_while_run (fun s : Nat × Nat => [("one", .val (.int s.1)), ("other", .val (.int s.2)), ("top", .val (.int t)), ("bottom", .val (.int b))]) (gcd_runs b.natAbs t.natAbs) ?_ ?_ ?_) ?_
  · rw [ea, ea]; exact (by repeat (first | exact sub_nil | refine sub_cons rfl ?_))
  · rintro s c hc
    have : c = (s.2 != 0) := by simpa using hc.symm
    subst this
    exact te_eq (te_cmp (ev_name rfl) (ev_int _) (cmp_gt _ _)) (by cases h : s.2 <;> simp)
  · rintro s s' h1 h2
    cases h2
    have hb : ((s.2 : Nat) : Int) ≠ 0 := by intro q; simp at h1; omega
    refine ⟨_, (xs_next (sn_swap2 rfl rfl (ev_name rfl) (ev_bin (ev_name rfl) (ev_name rfl) (bin_mod _ _ (by first | assumption | omega | decide | (simp; done) | (simp; omega))))) xs_nil), ?_⟩
    rw [show ((s.1 : Nat) : Int).fmod (s.2 : Nat) = ((s.1 % s.2 : Nat) : Int) from by rw [Int.fmod_eq_emod_of_nonneg _ (by omega)]; rfl]
    exact (by repeat (first | exact sub_nil | refine sub_cons rfl ?_))
  by_cases hp : 0 < b
  · simp only [hp, decide_true, if_true, Option.some.injEq] at h
    subst h
    exact (xr_next (sn_assign (.inl rfl) (ev_ife_t (te_eq (b := true) (te_cmp (ev_name rfl) (ev_int _) (cmp_gt _ _)) (by first | rfl | assumption | decide | (simp [*]; done) | (simp; omega))) (ev_int _))) (xr_ret (sr_return (ev_tuple (ea_cons (ev_bin (ev_bin (ev_name rfl) (ev_name rfl) (bin_mul _ _ (by first | assumption | omega | decide | (simp; done) | (simp; omega)))) (ev_name rfl) (bin_floordiv _ _ (by first | assumption | omega | decide | (simp; done) | (simp; omega)) (by first | assumption | omega | decide | (simp; done) | (simp; omega)))) (ea_cons (ev_bin (ev_bin (ev_name rfl) (ev_name rfl) (bin_mul _ _ (by first | assumption | omega | decide | (simp; done) | (simp; omega)))) (ev_name rfl) (bin_floordiv _ _ (by first | assumption | omega | decide | (simp; done) | (simp; omega)) (by first | assumption | omega | decide | (simp; done) | (simp; omega)))) ea_nil)) (by first | decide | (simp; done))))))
  · simp only [hp, decide_false, Bool.false_eq_true, if_false, Option.some.injEq] at h
    subst h
    exact (xr_next (sn_assign (.inl rfl) (ev_ife_f (te_eq (b := false) (te_cmp (ev_name rfl) (ev_int _) (cmp_gt _ _)) (by first | rfl | assumption | decide | (simp [*]; done) | (simp; omega))) (ev_neg (ev_int _)))) (xr_ret (sr_return (ev_tuple (ea_cons (ev_bin (ev_bin (ev_name rfl) (ev_name rfl) (bin_mul _ _ (by first | assumption | omega | decide | (simp; done) | (simp; omega)))) (ev_name rfl) (bin_floordiv _ _ (by first | assumption | omega | decide | (simp; done) | (simp; omega)) (by first | assumption | omega | decide | (simp; done) | (simp; omega)))) (ea_cons (ev_bin (ev_bin (ev_name rfl) (ev_name rfl) (bin_mul _ _ (by first | assumption | omega | decide | (simp; done) | (simp; omega)))) (ev_name rfl) (bin_floordiv _ _ (by first | assumption | omega | decide | (simp; done) | (simp; omega)) (by first | assumption | omega | decide | (simp; done) | (simp; omega)))) ea_nil)) (by first | decide | (simp; done))))))
theorem law_times_ok {cx : Cx} (H : Mods cx) {k : Int} {a b r : List Q} {m : Nat} (h : lawTimes? a b m = some r) {jm : Int} (hj : jm = (m : Int)) : CallTo cx 2 (Str.ofString "_law_times") [.val (dS a), .val (dS b), .val (.int jm)] k (dS r) k := by
  subst hj
  unfold lawTimes? at h
  split at h
  · cases h
  rename_i hk
  obtain ⟨⟨hla, hlb⟩, hm⟩ : (okL a = true ∧ okL b = true) ∧ okN m = true := by simpa using hk
  have hla := okL_lt hla; have hlb := okL_lt hlb; have hm := okN_lt hm
  refine mod3 (x1 := "one") (x2 := "other") (x3 := "many") (sc := [("one", .local), ("other", .local), ("many", .local), ("found", .local), ("at", .local), ("top", .local), ("bottom", .local), ("spot", .local), ("a", .local), ("b", .local), ("range", .globalImplicit), ("len", .globalImplicit), ("_law_low", .globalImplicit)]) H (by decide) rfl rfl (fun _ _ _ _ _ _ _ _ _ _ _ => rfl) ⟨rfl, rfl, rfl⟩ (.inl rfl) (.inl rfl) (.inl rfl) (by decide) ?_
  refine (xr_next (sn_assign_own (.inl rfl) (eo_list ea_nil (by first | decide | (simp; done)))) ?_)
  refine xr_next (sn_for_iter _ (fun f : List Q => [("found", .own (f.map dQ)), ("one", .val (dS a)), ("other", .val (dS b)), ("many", .val (.int m))]) (items := rangeD 0 m) (by rw [rangeD_len]; exact h) (.inl rfl) (it_range1 rfl (H.no "range" (by decide)) rfl (ev_name rfl) (by first | assumption | omega | decide | (simp; done) | (simp; omega)) (by first | assumption | omega | decide | (simp; done) | (simp; omega)) (by first | (simp; done) | (simp; omega) | omega)) (by repeat (first | exact sub_nil | refine sub_cons rfl ?_)) ?_) (xr_freeze (x := "found") rfl (xr_ret (sr_return (ev_name rfl))))
  intro i d s s' hj hit hs
  have hlt : i < m := by have := (List.getElem?_eq_some_iff.mp hj).1; rwa [rangeD_len] at this
  rw [rangeD_at _ _ _ hlt] at hj
  cases hj
  have hsl : s.length = i := iter_inv (P := fun i (s : List Q) => s.length = i) rfl (fun i s s' e h => by
    obtain ⟨t, _, h⟩ := Option.bind_eq_some_iff.mp h
    cases h; simp [e]) hit
  obtain ⟨p, hp, hs⟩ := Option.bind_eq_some_iff.mp hs
  cases hs
  refine ⟨_, xs_next (sn_unpack2 (.inl rfl) (.inl rfl) (ev_tuple (ea_cons (ev_int _) (ea_cons (ev_int _) ea_nil)) (by first | decide | (simp; done))) (by intro _; rfl) (fun env _ => swapped_folded rfl)) (xs_next (sn_for_iter (s0 := ((0, 1) : Q)) (sN := p) _ (fun p : Q => [("top", .val (.int p.1)), ("bottom", .val (.int p.2)), ("at", .val (.int (0 + (i : Int)))), ("found", .own (s.map dQ)), ("one", .val (dS a)), ("other", .val (dS b)), ("many", .val (.int m))]) (items := rangeD 0 (i + 1)) (by rw [rangeD_len]; exact hp) (.inl rfl) (it_range1 rfl (H.no "range" (by decide)) rfl (ev_bin (ev_name rfl) (ev_int _) (bin_add _ _)) (by first | assumption | omega | decide | (simp; done) | (simp; omega)) (by first | assumption | omega | decide | (simp; done) | (simp; omega)) (by first | (simp; done) | (simp; omega) | omega)) (by repeat (first | exact sub_nil | refine sub_cons rfl ?_)) ?_) (xs_next (sn_append rfl (ev_tuple (ea_cons (ev_name rfl) (ea_cons (ev_name rfl) ea_nil)) (by first | decide | (simp; done))) (by first | assumption | omega | decide | (simp; done) | (simp; omega))) xs_nil)), by simp only [List.map_append, List.map_cons, List.map_nil]; exact (by repeat (first | exact sub_nil | refine sub_cons rfl ?_))⟩
  intro j d p p' hj' _ hs
  have hjl := (List.getElem?_eq_some_iff.mp hj').1; rw [rangeD_len] at hjl
  rw [rangeD_at _ _ _ hjl] at hj'
  cases hj'
  split at hs
  · rename_i hc
    obtain ⟨hc1, hc2⟩ : j < a.length ∧ i - j < b.length := by simpa using hc
    obtain ⟨x, hx, hs⟩ := Option.bind_eq_some_iff.mp hs
    obtain ⟨y, hy, hs⟩ := Option.bind_eq_some_iff.mp hs
    split at hs
    case isFalse => cases hs
    rename_i hk2
    simp only [Bool.and_eq_true] at hk2
    obtain ⟨⟨⟨⟨⟨q1, q2⟩, q3⟩, q4⟩, q5⟩, q6⟩ := hk2
    have b1 := okQ_1 q1; have b2 := okQ_2 q1; have b3 := okQ_1 q2; have b4 := okI_lt q4; have b5 := okI_lt q5; have b6 := okI_lt q6
    exact ⟨_, (xs_next (sn_if_t (te_and_t (te_eq (b := true) (te_cmp (ev_name rfl) (ev_callb rfl (H.no "len" (by decide)) rfl (ea_cons (ev_name rfl) ea_nil) (cb_len_list _ (by first | assumption | omega | decide | (simp; done) | (simp; omega)))) (cmp_lt _ _)) (by first | rfl | assumption | decide | (simp [*]; done) | (simp; omega))) (te_and_t (te_eq (b := true) (te_cmp (ev_bin (ev_name rfl) (ev_name rfl) (bin_sub _ _)) (ev_callb rfl (H.no "len" (by decide)) rfl (ea_cons (ev_name rfl) ea_nil) (cb_len_list _ (by first | assumption | omega | decide | (simp; done) | (simp; omega)))) (cmp_lt _ _)) (by first | rfl | assumption | decide | (simp [*]; done) | (simp; omega))) te_and_nil)) (xs_next (sn_swap2 rfl rfl (ev_item (ev_name rfl) rfl (ev_name rfl) (by first | assumption | omega | decide | (simp; done) | (simp; omega)) (by first | assumption | omega | decide | (simp; done) | (simp; omega)) (by first | exact at_q hx (by omega) | exact at_q hy (by omega) | exact at_q hx (by simp) | exact at_q hy (by simp; omega))) (ev_item (ev_name rfl) rfl (ev_bin (ev_name rfl) (ev_name rfl) (bin_sub _ _)) (by first | assumption | omega | decide | (simp; done) | (simp; omega)) (by first | assumption | omega | decide | (simp; done) | (simp; omega)) (by first | exact at_q hx (by omega) | exact at_q hy (by omega) | exact at_q hx (by simp) | exact at_q hy (by simp; omega)))) (xs_next (sn_unpack2 (.inl rfl) (.inl rfl) (ev_call rfl (ar_cons (ev_bin (ev_bin (ev_bin (ev_name rfl) (ev_item (ev_name rfl) rfl (ev_int _) (by decide) (by decide) rfl) (bin_mul _ _ (by first | assumption | omega | decide | (simp; done) | (simp; omega)))) (ev_item (ev_name rfl) rfl (ev_int _) (by decide) (by decide) rfl) (bin_mul _ _ (by first | assumption | omega | decide | (simp; done) | (simp; omega)))) (ev_bin (ev_bin (ev_item (ev_name rfl) rfl (ev_int _) (by decide) (by decide) rfl) (ev_item (ev_name rfl) rfl (ev_int _) (by decide) (by decide) rfl) (bin_mul _ _ (by first | assumption | omega | decide | (simp; done) | (simp; omega)))) (ev_name rfl) (bin_mul _ _ (by first | assumption | omega | decide | (simp; done) | (simp; omega)))) (bin_add _ _)) (ar_cons (ev_bin (ev_bin (ev_name rfl) (ev_item (ev_name rfl) rfl (ev_int _) (by decide) (by decide) rfl) (bin_mul _ _ (by first | assumption | omega | decide | (simp; done) | (simp; omega)))) (ev_item (ev_name rfl) rfl (ev_int _) (by decide) (by decide) rfl) (bin_mul _ _ (by first | assumption | omega | decide | (simp; done) | (simp; omega)))) ar_nil)) ((law_low_ok H hs).up (by first | decide | omega | (simp [lev, inner, poly]; done))))) xs_nil))) xs_nil), by repeat (first | exact sub_nil | refine sub_cons rfl ?_)⟩
  · rename_i hc
    cases hs
    by_cases hc1 : j < a.length
    · have hc2 : ¬ i - j < b.length := by simpa [hc1] using hc
      exact ⟨_, (xs_next (sn_if_f (te_and_t (te_eq (b := true) (te_cmp (ev_name rfl) (ev_callb rfl (H.no "len" (by decide)) rfl (ea_cons (ev_name rfl) ea_nil) (cb_len_list _ (by first | assumption | omega | decide | (simp; done) | (simp; omega)))) (cmp_lt _ _)) (by first | rfl | assumption | decide | (simp [*]; done) | (simp; omega))) (te_and_f (te_eq (b := false) (te_cmp (ev_bin (ev_name rfl) (ev_name rfl) (bin_sub _ _)) (ev_callb rfl (H.no "len" (by decide)) rfl (ea_cons (ev_name rfl) ea_nil) (cb_len_list _ (by first | assumption | omega | decide | (simp; done) | (simp; omega)))) (cmp_lt _ _)) (by first | rfl | assumption | decide | (simp [*]; done) | (simp; omega))))) xs_nil) xs_nil), by repeat (first | exact sub_nil | refine sub_cons rfl ?_)⟩
    · exact ⟨_, (xs_next (sn_if_f (te_and_f (te_eq (b := false) (te_cmp (ev_name rfl) (ev_callb rfl (H.no "len" (by decide)) rfl (ea_cons (ev_name rfl) ea_nil) (cb_len_list _ (by first | assumption | omega | decide | (simp; done) | (simp; omega)))) (cmp_lt _ _)) (by first | rfl | assumption | decide | (simp [*]; done) | (simp; omega)))) xs_nil) xs_nil), by repeat (first | exact sub_nil | refine sub_cons rfl ?_)⟩
theorem law_poly_ok {cx : Cx} (H : Mods cx) {k : Int} (a b : Int) : CallTo cx 1 (Str.ofString "_law_poly") [.val (.tuple [.int a, .int b])] k (dT (poly a b)) k := by
  refine mod1 (x1 := "numbers") (sc := [("numbers", .local), ("a", .local), ("b", .local), ("square", .local), ("_law_x", .globalImplicit)]) H (by decide) rfl rfl (fun _ _ _ _ _ _ _ _ _ => rfl) ⟨rfl, rfl, rfl⟩ (.inl rfl) ?_
  exact xr_eq (xr_next (sn_unpack2 (.inl rfl) (.inl rfl) (ev_name rfl)) (xr_next (sn_assign (.inl rfl) (ev_tuple (ea_cons (ev_str _) (ea_cons (ev_global rfl H.X) (ea_cons (ev_tuple (ea_cons (ev_str _) (ea_cons (ev_int _) (ea_cons (ev_int _) ea_nil))) (by first | decide | (simp; done))) ea_nil))) (by first | decide | (simp; done)))) (xr_ret (sr_return (ev_tuple (ea_cons (ev_str _) (ea_cons (ev_tuple (ea_cons (ev_tuple (ea_cons (ev_str _) (ea_cons (ev_int _) (ea_cons (ev_int _) ea_nil))) (by first | decide | (simp; done))) (ea_cons (ev_tuple (ea_cons (ev_str _) (ea_cons (ev_tuple (ea_cons (ev_tuple (ea_cons (ev_str _) (ea_cons (ev_name rfl) (ea_cons (ev_int _) ea_nil))) (by first | decide | (simp; done))) (ea_cons (ev_global rfl H.X) ea_nil)) (by first | decide | (simp; done))) ea_nil)) (by first | decide | (simp; done))) (ea_cons (ev_tuple (ea_cons (ev_str _) (ea_cons (ev_tuple (ea_cons (ev_tuple (ea_cons (ev_str _) (ea_cons (ev_name rfl) (ea_cons (ev_int _) ea_nil))) (by first | decide | (simp; done))) (ea_cons (ev_name rfl) ea_nil)) (by first | decide | (simp; done))) ea_nil)) (by first | decide | (simp; done))) ea_nil))) (by first | decide | (simp; done))) ea_nil)) (by first | decide | (simp; done))))))) (by simp only [dT, poly])
end Mine
set_option maxRecDepth 10000
namespace Mine
open PySem PySem.W PyProof.Rows PySem.Calls PySem.Spec



theorem of_call_ok {cx : Cx} (H : Mods cx) {k : Int} {f : Fn} {a r : L} (h : ofCall? f a = some r) : CallTo cx 9 (Str.ofString "of_call") [.val (.str (fnName f)), .val (dL a)] k (dL r) k := by
  unfold ofCall? at h
  obtain ⟨inn, hinn, h⟩ := Option.bind_eq_some_iff.mp h
  refine mod2 (x1 := "name") (x2 := "told") (sc := [("name", .local), ("told", .local), ("inner", .local), ("from_zero", .globalImplicit), ("sexp", .globalImplicit), ("slog", .globalImplicit), ("ssin", .globalImplicit), ("scos", .globalImplicit), ("lmul", .globalImplicit), ("lpower", .globalImplicit), ("satan", .globalImplicit), ("of_root", .globalImplicit), ("CasFail", .globalImplicit)]) H (by decide) rfl rfl (fun _ _ _ _ _ _ _ _ _ _ => rfl) ⟨rfl, rfl, rfl⟩ (.inl rfl) (.inl rfl) rfl ?_
  cases f with
  | tan =>
    dsimp only at h
    obtain ⟨p, hp, h⟩ := Option.bind_eq_some_iff.mp h
    obtain ⟨c, hc, h⟩ := Option.bind_eq_some_iff.mp h
    exact (xr_next (sn_assign (.inl rfl) (ev_call rfl (ar_cons (ev_name rfl) ar_nil) ((from_zero_ok H hinn).up (by first | decide | omega | (simp [lev, inner, poly]; done))))) (xr_next (sn_if_f (te_eq (b := false) (te_cmp (ev_name rfl) (ev_str _) (cmp_eq_dat _ _ (by first | rfl | decide +kernel) (by first | rfl | decide +kernel))) (by first | rfl | assumption | decide | (simp [*]; done) | (simp; omega))) xs_nil) (xr_next (sn_if_f (te_eq (b := false) (te_cmp (ev_name rfl) (ev_str _) (cmp_eq_dat _ _ (by first | rfl | decide +kernel) (by first | rfl | decide +kernel))) (by first | rfl | assumption | decide | (simp [*]; done) | (simp; omega))) xs_nil) (xr_next (sn_if_f (te_eq (b := false) (te_cmp (ev_name rfl) (ev_str _) (cmp_eq_dat _ _ (by first | rfl | decide +kernel) (by first | rfl | decide +kernel))) (by first | rfl | assumption | decide | (simp [*]; done) | (simp; omega))) xs_nil) (xr_next (sn_if_f (te_eq (b := false) (te_cmp (ev_name rfl) (ev_str _) (cmp_eq_dat _ _ (by first | rfl | decide +kernel) (by first | rfl | decide +kernel))) (by first | rfl | assumption | decide | (simp [*]; done) | (simp; omega))) xs_nil) (xr_ret (sr_if_t (te_eq (b := true) (te_cmp (ev_name rfl) (ev_str _) (cmp_eq_dat _ _ (by first | rfl | decide +kernel) (by first | rfl | decide +kernel))) (by first | rfl | assumption | decide | (simp [*]; done) | (simp; omega))) (xr_ret (sr_return (ev_call rfl (ar_cons (ev_tuple (ea_cons (ev_int _) (ea_cons (ev_call rfl (ar_cons (ev_name rfl) ar_nil) ((ssin_ok H hp).up (by first | decide | omega | (simp [lev, inner, poly]; done)))) ea_nil)) (by first | decide | (simp; done))) (ar_cons (ev_call rfl (ar_cons (ev_tuple (ea_cons (ev_int _) (ea_cons (ev_call rfl (ar_cons (ev_name rfl) ar_nil) ((scos_ok H hp).up (by first | decide | omega | (simp [lev, inner, poly]; done)))) ea_nil)) (by first | decide | (simp; done))) (ar_cons (ev_neg (ev_int _)) ar_nil)) ((lpower_ok H hc).up (by first | decide | omega | (simp [lev, inner, poly]; done)))) ar_nil)) ((lmul_ok H h).up (by first | decide | omega | (simp [lev, inner, poly]; done)))))))))))))
  | atan =>
    dsimp only at h
    obtain ⟨s, hs, h⟩ := Option.bind_eq_some_iff.mp h
    cases h
    exact (xr_next (sn_assign (.inl rfl) (ev_call rfl (ar_cons (ev_name rfl) ar_nil) ((from_zero_ok H hinn).up (by first | decide | omega | (simp [lev, inner, poly]; done))))) (xr_next (sn_if_f (te_eq (b := false) (te_cmp (ev_name rfl) (ev_str _) (cmp_eq_dat _ _ (by first | rfl | decide +kernel) (by first | rfl | decide +kernel))) (by first | rfl | assumption | decide | (simp [*]; done) | (simp; omega))) xs_nil) (xr_next (sn_if_f (te_eq (b := false) (te_cmp (ev_name rfl) (ev_str _) (cmp_eq_dat _ _ (by first | rfl | decide +kernel) (by first | rfl | decide +kernel))) (by first | rfl | assumption | decide | (simp [*]; done) | (simp; omega))) xs_nil) (xr_next (sn_if_f (te_eq (b := false) (te_cmp (ev_name rfl) (ev_str _) (cmp_eq_dat _ _ (by first | rfl | decide +kernel) (by first | rfl | decide +kernel))) (by first | rfl | assumption | decide | (simp [*]; done) | (simp; omega))) xs_nil) (xr_next (sn_if_f (te_eq (b := false) (te_cmp (ev_name rfl) (ev_str _) (cmp_eq_dat _ _ (by first | rfl | decide +kernel) (by first | rfl | decide +kernel))) (by first | rfl | assumption | decide | (simp [*]; done) | (simp; omega))) xs_nil) (xr_next (sn_if_f (te_eq (b := false) (te_cmp (ev_name rfl) (ev_str _) (cmp_eq_dat _ _ (by first | rfl | decide +kernel) (by first | rfl | decide +kernel))) (by first | rfl | assumption | decide | (simp [*]; done) | (simp; omega))) xs_nil) (xr_ret (sr_if_t (te_eq (b := true) (te_cmp (ev_name rfl) (ev_str _) (cmp_eq_dat _ _ (by first | rfl | decide +kernel) (by first | rfl | decide +kernel))) (by first | rfl | assumption | decide | (simp [*]; done) | (simp; omega))) (xr_ret (sr_return (ev_tuple (ea_cons (ev_int _) (ea_cons (ev_call rfl (ar_cons (ev_name rfl) ar_nil) ((satan_ok H hs).up (by first | decide | omega | (simp [lev, inner, poly]; done)))) ea_nil)) (by first | decide | (simp; done)))))))))))))
  | sqrt =>
    dsimp only at h
    exact (xr_next (sn_assign (.inl rfl) (ev_call rfl (ar_cons (ev_name rfl) ar_nil) ((from_zero_ok H hinn).up (by first | decide | omega | (simp [lev, inner, poly]; done))))) (xr_next (sn_if_f (te_eq (b := false) (te_cmp (ev_name rfl) (ev_str _) (cmp_eq_dat _ _ (by first | rfl | decide +kernel) (by first | rfl | decide +kernel))) (by first | rfl | assumption | decide | (simp [*]; done) | (simp; omega))) xs_nil) (xr_next (sn_if_f (te_eq (b := false) (te_cmp (ev_name rfl) (ev_str _) (cmp_eq_dat _ _ (by first | rfl | decide +kernel) (by first | rfl | decide +kernel))) (by first | rfl | assumption | decide | (simp [*]; done) | (simp; omega))) xs_nil) (xr_next (sn_if_f (te_eq (b := false) (te_cmp (ev_name rfl) (ev_str _) (cmp_eq_dat _ _ (by first | rfl | decide +kernel) (by first | rfl | decide +kernel))) (by first | rfl | assumption | decide | (simp [*]; done) | (simp; omega))) xs_nil) (xr_next (sn_if_f (te_eq (b := false) (te_cmp (ev_name rfl) (ev_str _) (cmp_eq_dat _ _ (by first | rfl | decide +kernel) (by first | rfl | decide +kernel))) (by first | rfl | assumption | decide | (simp [*]; done) | (simp; omega))) xs_nil) (xr_next (sn_if_f (te_eq (b := false) (te_cmp (ev_name rfl) (ev_str _) (cmp_eq_dat _ _ (by first | rfl | decide +kernel) (by first | rfl | decide +kernel))) (by first | rfl | assumption | decide | (simp [*]; done) | (simp; omega))) xs_nil) (xr_next (sn_if_f (te_eq (b := false) (te_cmp (ev_name rfl) (ev_str _) (cmp_eq_dat _ _ (by first | rfl | decide +kernel) (by first | rfl | decide +kernel))) (by first | rfl | assumption | decide | (simp [*]; done) | (simp; omega))) xs_nil) (xr_ret (sr_if_t (te_eq (b := true) (te_cmp (ev_name rfl) (ev_str _) (cmp_eq_dat _ _ (by first | rfl | decide +kernel) (by first | rfl | decide +kernel))) (by first | rfl | assumption | decide | (simp [*]; done) | (simp; omega))) (xr_ret (sr_return (ev_call rfl (ar_cons (ev_tuple (ea_cons (ev_int _) (ea_cons (ev_name rfl) ea_nil)) (by first | decide | (simp; done))) (ar_cons (ev_tuple (ea_cons (ev_int _) (ea_cons (ev_int _) ea_nil)) (by first | decide | (simp; done))) ar_nil)) ((of_root_ok H h).up (by first | decide | omega | (simp [lev, inner, poly]; done)))))))))))))))
  | _ => cases h
theorem of_power_ok {cx : Cx} (H : Mods cx) {k : Int} {b : Tm} {p q : Int} {n m : Nat} {u r : L} (ih : CallTo cx n (Str.ofString "of_term") [.val (dT b), .val (.int m), .val dLt] k (dL u) k) (hn : 8 ≤ n)
    (h : (if q == 1 then lpower? u p else ofRoot? u (p, q)) = some r) : CallTo cx (n + 1) (Str.ofString "of_power") [.val (dT b), .val (dT (.num p q)), .val (.int m), .val dLt] k (dL r) k := by
  refine mod4 (x1 := "base") (x2 := "exponent") (x3 := "many") (x4 := "letter") (sc := [("base", .local), ("exponent", .local), ("many", .local), ("letter", .local), ("told", .local), ("CasFail", .globalImplicit), ("of_term", .globalImplicit), ("lpower", .globalImplicit), ("of_root", .globalImplicit)]) H (by decide) rfl rfl (fun _ _ _ _ _ _ _ _ _ _ _ _ => rfl) ⟨rfl, rfl, rfl⟩ (.inl rfl) (.inl rfl) (.inl rfl) (.inl rfl) (by decide) ?_
  have ih' := fun (_ : True) => ih
  split at h
  · rename_i hq
    exact (xr_next (sn_if_f (te_eq (b := false) (te_cmp (ev_item (ev_name rfl) rfl (ev_int _) (by decide) (by decide) rfl) (ev_str _) (cmp_ne_dat _ _ (by first | rfl | decide +kernel) (by first | rfl | decide +kernel))) (by first | rfl | assumption | decide | (simp [*]; done) | (simp; omega))) xs_nil) (xr_next (sn_assign (.inl rfl) (ev_call rfl (ar_cons (ev_name rfl) (ar_cons (ev_name rfl) (ar_cons (ev_name rfl) ar_nil))) (ih.up (by first | omega | exact Nat.le_refl _)))) (xr_ret (sr_if_t (te_eq (b := true) (te_cmp (ev_item (ev_name rfl) rfl (ev_int _) (by decide) (by decide) rfl) (ev_int _) (cmp_eq_dat _ _ (by first | rfl | decide +kernel) (by first | rfl | decide +kernel))) (by first | rfl | assumption | decide | (simp [*]; done) | (simp; omega))) (xr_ret (sr_return (ev_call rfl (ar_cons (ev_name rfl) (ar_cons (ev_item (ev_name rfl) rfl (ev_int _) (by decide) (by decide) rfl) ar_nil)) ((lpower_ok H h).up (by first | decide | omega | (simp [lev, inner, poly]; done))))))))))
  · rename_i hq
    have hq : (q == 1) = false := by simpa using hq
    exact (xr_next (sn_if_f (te_eq (b := false) (te_cmp (ev_item (ev_name rfl) rfl (ev_int _) (by decide) (by decide) rfl) (ev_str _) (cmp_ne_dat _ _ (by first | rfl | decide +kernel) (by first | rfl | decide +kernel))) (by first | rfl | assumption | decide | (simp [*]; done) | (simp; omega))) xs_nil) (xr_next (sn_assign (.inl rfl) (ev_call rfl (ar_cons (ev_name rfl) (ar_cons (ev_name rfl) (ar_cons (ev_name rfl) ar_nil))) (ih.up (by first | omega | exact Nat.le_refl _)))) (xr_next (sn_if_f (te_eq (b := false) (te_cmp (ev_item (ev_name rfl) rfl (ev_int _) (by decide) (by decide) rfl) (ev_int _) (cmp_eq_dat _ _ (by first | rfl | decide +kernel) (by first | rfl | decide +kernel))) (by first | rfl | assumption | decide | (simp [*]; done) | (simp; omega))) xs_nil) (xr_ret (sr_return (ev_call rfl (ar_cons (ev_name rfl) (ar_cons (ev_tuple (ea_cons (ev_item (ev_name rfl) rfl (ev_int _) (by decide) (by decide) rfl) (ea_cons (ev_item (ev_name rfl) rfl (ev_int _) (by decide) (by decide) rfl) ea_nil)) (by first | decide | (simp; done))) ar_nil)) ((of_root_ok H h).up (by first | decide | omega | (simp [lev, inner, poly]; done)))))))))
end Mine
set_option maxRecDepth 10000
namespace Mine
open PySem PySem.W PyProof.Rows PySem.Calls PySem.Spec




theorem term_sum {cx : Cx} (H : Mods cx) {k : Int} {m n : Nat} {r f0 : L} (ts : List Tm) (hlen : ts.length ≤ 10) (ih : ∀ t ∈ ts, ∀ u, term? m t = some u → CallTo cx n (Str.ofString "of_term") [.val (dT t), .val (.int m), .val dLt] k (dL u) k) (hn : 9 ≤ n)
    (h0 : lplain? r0 m = some f0) (h : iter (fun i f => (ts[i]?).bind fun t => (term? m t).bind fun u => ladd? f u) ts.length f0 = some r) :
    CallTo cx (n + 1) (Str.ofString "of_term") [.val (.tuple [.str "sum", .tuple (ts.map dT)]), .val (.int m), .val dLt] k (dL r) k := by
  refine mod3 (x1 := "t") (x2 := "many") (x3 := "letter") (sc := [("t", .local), ("many", .local), ("letter", .local), ("found", .local), ("one", .local), ("told", .local), ("lplain", .globalImplicit), ("CasFail", .globalImplicit), ("R0", .globalImplicit), ("len", .globalImplicit), ("of_power", .globalImplicit), ("of_call", .globalImplicit), ("of_term", .globalImplicit), ("R1", .globalImplicit), ("ladd", .globalImplicit), ("lmul", .globalImplicit)]) H (by decide) rfl rfl (fun _ _ _ _ _ _ _ _ _ _ _ => rfl) ⟨rfl, rfl, rfl⟩ (.inl rfl) (.inl rfl) (.inl rfl) (by decide) ?_
  refine (xr_next (sn_if_f (te_eq (b := false) (te_cmp (ev_item (ev_name rfl) rfl (ev_int _) (by decide) (by decide) rfl) (ev_str _) (cmp_eq_dat _ _ (by first | rfl | decide +kernel) (by first | rfl | decide +kernel))) (by first | rfl | assumption | decide | (simp [*]; done) | (simp; omega))) xs_nil) (xr_next (sn_if_f (te_eq (b := false) (te_cmp (ev_item (ev_name rfl) rfl (ev_int _) (by decide) (by decide) rfl) (ev_str _) (cmp_eq_dat _ _ (by first | rfl | decide +kernel) (by first | rfl | decide +kernel))) (by first | rfl | assumption | decide | (simp [*]; done) | (simp; omega))) xs_nil) (xr_next (sn_if_f (te_eq (b := false) (te_cmp (ev_item (ev_name rfl) rfl (ev_int _) (by decide) (by decide) rfl) (ev_str _) (cmp_eq_dat _ _ (by first | rfl | decide +kernel) (by first | rfl | decide +kernel))) (by first | rfl | assumption | decide | (simp [*]; done) | (simp; omega))) xs_nil) (xr_next (sn_if_f (te_and_f (te_eq (b := false) (te_cmp (ev_item (ev_name rfl) rfl (ev_int _) (by decide) (by decide) rfl) (ev_str _) (cmp_eq_dat _ _ (by first | rfl | decide +kernel) (by first | rfl | decide +kernel))) (by first | rfl | assumption | decide | (simp [*]; done) | (simp; omega)))) xs_nil) (xr_next (sn_if_f (te_eq (b := false) (te_cmp (ev_item (ev_name rfl) rfl (ev_int _) (by decide) (by decide) rfl) (ev_tuple (ea_cons (ev_str _) (ea_cons (ev_str _) ea_nil)) (by first | decide | (simp; done))) (cmp_notin_tuple _ _ (by first | rfl | decide +kernel) (by first | rfl | decide +kernel))) (by first | rfl | assumption | decide | (simp [*]; done) | (simp; omega))) xs_nil) (xr_next (sn_assign (.inl rfl) (ev_call rfl (ar_cons (ev_ife_t (te_eq (b := true) (te_cmp (ev_item (ev_name rfl) rfl (ev_int _) (by decide) (by decide) rfl) (ev_str _) (cmp_eq_dat _ _ (by first | rfl | decide +kernel) (by first | rfl | decide +kernel))) (by first | rfl | assumption | decide | (simp [*]; done) | (simp; omega))) (ev_global rfl H.R0)) (ar_cons (ev_name rfl) ar_nil)) ((lplain_ok H h0 rfl).up (by first | decide | omega | (simp [lev, inner, poly]; done))))) ?_))))))
  refine xr_next (sn_for_iter _ (fun f : L => [("found", .val (dL f)), ("t", .val (.tuple [.str "sum", .tuple (ts.map dT)])), ("many", .val (.int m)), ("letter", .val dLt)]) (items := ts.map dT) (by rw [List.length_map]; exact h) (.inl rfl) (it_seq (ev_item (ev_name rfl) rfl (ev_int _) (by decide) (by decide) rfl) rfl (by first | assumption | omega | decide | (simp; done) | (simp; omega))) (by repeat (first | exact sub_nil | refine sub_cons rfl ?_)) ?_) (xr_ret (sr_return (ev_name rfl)))
  intro i d f f' hj hit hs
  rw [List.getElem?_map] at hj
  obtain ⟨t, ht, rfl⟩ := Option.map_eq_some_iff.mp hj
  rw [ht, Option.bind_some] at hs
  obtain ⟨u, hu, hs⟩ := Option.bind_eq_some_iff.mp hs
  have ih1 := ih t (List.mem_of_getElem? ht) u hu
  exact ⟨_, (xs_next (sn_assign (.inl rfl) (ev_call rfl (ar_cons (ev_name rfl) (ar_cons (ev_name rfl) (ar_cons (ev_name rfl) ar_nil))) (ih1.up (by first | omega | exact Nat.le_refl _)))) (xs_next (sn_assign (.inl rfl) (ev_ife_t (te_eq (b := true) (te_cmp (ev_item (ev_name rfl) rfl (ev_int _) (by decide) (by decide) rfl) (ev_str _) (cmp_eq_dat _ _ (by first | rfl | decide +kernel) (by first | rfl | decide +kernel))) (by first | rfl | assumption | decide | (simp [*]; done) | (simp; omega))) (ev_call rfl (ar_cons (ev_name rfl) (ar_cons (ev_name rfl) ar_nil)) ((ladd_ok H hs).up (by first | decide | omega | (simp [lev, inner, poly]; done)))))) xs_nil)), by repeat (first | exact sub_nil | refine sub_cons rfl ?_)⟩

theorem term_prod {cx : Cx} (H : Mods cx) {k : Int} {m n : Nat} {r f0 : L} (ts : List Tm) (hlen : ts.length ≤ 10) (ih : ∀ t ∈ ts, ∀ u, term? m t = some u → CallTo cx n (Str.ofString "of_term") [.val (dT t), .val (.int m), .val dLt] k (dL u) k) (hn : 9 ≤ n)
    (h0 : lplain? r1 m = some f0) (h : iter (fun i f => (ts[i]?).bind fun t => (term? m t).bind fun u => lmul? f u) ts.length f0 = some r) :
    CallTo cx (n + 1) (Str.ofString "of_term") [.val (.tuple [.str "prod", .tuple (ts.map dT)]), .val (.int m), .val dLt] k (dL r) k := by
  refine mod3 (x1 := "t") (x2 := "many") (x3 := "letter") (sc := [("t", .local), ("many", .local), ("letter", .local), ("found", .local), ("one", .local), ("told", .local), ("lplain", .globalImplicit), ("CasFail", .globalImplicit), ("R0", .globalImplicit), ("len", .globalImplicit), ("of_power", .globalImplicit), ("of_call", .globalImplicit), ("of_term", .globalImplicit), ("R1", .globalImplicit), ("ladd", .globalImplicit), ("lmul", .globalImplicit)]) H (by decide) rfl rfl (fun _ _ _ _ _ _ _ _ _ _ _ => rfl) ⟨rfl, rfl, rfl⟩ (.inl rfl) (.inl rfl) (.inl rfl) (by decide) ?_
  refine (xr_next (sn_if_f (te_eq (b := false) (te_cmp (ev_item (ev_name rfl) rfl (ev_int _) (by decide) (by decide) rfl) (ev_str _) (cmp_eq_dat _ _ (by first | rfl | decide +kernel) (by first | rfl | decide +kernel))) (by first | rfl | assumption | decide | (simp [*]; done) | (simp; omega))) xs_nil) (xr_next (sn_if_f (te_eq (b := false) (te_cmp (ev_item (ev_name rfl) rfl (ev_int _) (by decide) (by decide) rfl) (ev_str _) (cmp_eq_dat _ _ (by first | rfl | decide +kernel) (by first | rfl | decide +kernel))) (by first | rfl | assumption | decide | (simp [*]; done) | (simp; omega))) xs_nil) (xr_next (sn_if_f (te_eq (b := false) (te_cmp (ev_item (ev_name rfl) rfl (ev_int _) (by decide) (by decide) rfl) (ev_str _) (cmp_eq_dat _ _ (by first | rfl | decide +kernel) (by first | rfl | decide +kernel))) (by first | rfl | assumption | decide | (simp [*]; done) | (simp; omega))) xs_nil) (xr_next (sn_if_f (te_and_f (te_eq (b := false) (te_cmp (ev_item (ev_name rfl) rfl (ev_int _) (by decide) (by decide) rfl) (ev_str _) (cmp_eq_dat _ _ (by first | rfl | decide +kernel) (by first | rfl | decide +kernel))) (by first | rfl | assumption | decide | (simp [*]; done) | (simp; omega)))) xs_nil) (xr_next (sn_if_f (te_eq (b := false) (te_cmp (ev_item (ev_name rfl) rfl (ev_int _) (by decide) (by decide) rfl) (ev_tuple (ea_cons (ev_str _) (ea_cons (ev_str _) ea_nil)) (by first | decide | (simp; done))) (cmp_notin_tuple _ _ (by first | rfl | decide +kernel) (by first | rfl | decide +kernel))) (by first | rfl | assumption | decide | (simp [*]; done) | (simp; omega))) xs_nil) (xr_next (sn_assign (.inl rfl) (ev_call rfl (ar_cons (ev_ife_f (te_eq (b := false) (te_cmp (ev_item (ev_name rfl) rfl (ev_int _) (by decide) (by decide) rfl) (ev_str _) (cmp_eq_dat _ _ (by first | rfl | decide +kernel) (by first | rfl | decide +kernel))) (by first | rfl | assumption | decide | (simp [*]; done) | (simp; omega))) (ev_global rfl H.R1)) (ar_cons (ev_name rfl) ar_nil)) ((lplain_ok H h0 rfl).up (by first | decide | omega | (simp [lev, inner, poly]; done))))) ?_))))))
  refine xr_next (sn_for_iter _ (fun f : L => [("found", .val (dL f)), ("t", .val (.tuple [.str "prod", .tuple (ts.map dT)])), ("many", .val (.int m)), ("letter", .val dLt)]) (items := ts.map dT) (by rw [List.length_map]; exact h) (.inl rfl) (it_seq (ev_item (ev_name rfl) rfl (ev_int _) (by decide) (by decide) rfl) rfl (by first | assumption | omega | decide | (simp; done) | (simp; omega))) (by repeat (first | exact sub_nil | refine sub_cons rfl ?_)) ?_) (xr_ret (sr_return (ev_name rfl)))
  intro i d f f' hj hit hs
  rw [List.getElem?_map] at hj
  obtain ⟨t, ht, rfl⟩ := Option.map_eq_some_iff.mp hj
  rw [ht, Option.bind_some] at hs
  obtain ⟨u, hu, hs⟩ := Option.bind_eq_some_iff.mp hs
  have ih1 := ih t (List.mem_of_getElem? ht) u hu
  exact ⟨_, (xs_next (sn_assign (.inl rfl) (ev_call rfl (ar_cons (ev_name rfl) (ar_cons (ev_name rfl) (ar_cons (ev_name rfl) ar_nil))) (ih1.up (by first | omega | exact Nat.le_refl _)))) (xs_next (sn_assign (.inl rfl) (ev_ife_f (te_eq (b := false) (te_cmp (ev_item (ev_name rfl) rfl (ev_int _) (by decide) (by decide) rfl) (ev_str _) (cmp_eq_dat _ _ (by first | rfl | decide +kernel) (by first | rfl | decide +kernel))) (by first | rfl | assumption | decide | (simp [*]; done) | (simp; omega))) (ev_call rfl (ar_cons (ev_name rfl) (ar_cons (ev_name rfl) ar_nil)) ((lmul_ok H hs).up (by first | decide | omega | (simp [lev, inner, poly]; done)))))) xs_nil)), by repeat (first | exact sub_nil | refine sub_cons rfl ?_)⟩

noncomputable def lev : Tm → Nat
  | .pow b _ => lev b + 2
  | .sum2 a b => max (lev a) (lev b) + 1
  | .sum3 a b c => max (lev a) (max (lev b) (lev c)) + 1
  | .prod2 a b => max (lev a) (lev b) + 1
  | .prod3 a b c => max (lev a) (max (lev b) (lev c)) + 1
  | .call _ a => lev a + 1
  | _ => 10
theorem lev_ge : ∀ t, 10 ≤ lev t
  | .pow b _ => by have := lev_ge b; simp [lev]; omega
  | .sum2 a b => by have := lev_ge a; simp [lev]; omega
  | .sum3 a b c => by have := lev_ge a; simp [lev]; omega
  | .prod2 a b => by have := lev_ge a; simp [lev]; omega
  | .prod3 a b c => by have := lev_ge a; simp [lev]; omega
  | .call _ a => by have := lev_ge a; simp [lev]; omega
  | .num _ _ | .x | .y | .call2 _ _ _ => by simp [lev]
theorem ih2 {P : Tm → Prop} {a b : Tm} (ha : P a) (hb : P b) : ∀ t ∈ [a, b], P t := fun t ht => by
  rcases List.mem_cons.mp ht with rfl | ht
  · exact ha
  · rcases List.mem_cons.mp ht with rfl | ht
    · exact hb
    · cases ht
theorem ih3 {P : Tm → Prop} {a b c : Tm} (ha : P a) (hb : P b) (hc : P c) : ∀ t ∈ [a, b, c], P t := fun t ht => by
  rcases List.mem_cons.mp ht with rfl | ht
  · exact ha
  · exact ih2 hb hc t ht
theorem of_term_ok {cx : Cx} (H : Mods cx) {k : Int} {m : Nat} (hm0 : 2 ≤ m) : ∀ (t : Tm) (r : L), term? m t = some r → CallTo cx (lev t) (Str.ofString "of_term") [.val (dT t), .val (.int m), .val dLt] k (dL r) k := by
  intro t
  induction t with
  | num a b =>
    intro r h
    unfold term? at h
    refine mod3 (x1 := "t") (x2 := "many") (x3 := "letter") (sc := [("t", .local), ("many", .local), ("letter", .local), ("found", .local), ("one", .local), ("told", .local), ("lplain", .globalImplicit), ("CasFail", .globalImplicit), ("R0", .globalImplicit), ("len", .globalImplicit), ("of_power", .globalImplicit), ("of_call", .globalImplicit), ("of_term", .globalImplicit), ("R1", .globalImplicit), ("ladd", .globalImplicit), ("lmul", .globalImplicit)]) H (by decide) rfl rfl (fun _ _ _ _ _ _ _ _ _ _ _ => rfl) ⟨rfl, rfl, rfl⟩ (.inl rfl) (.inl rfl) (.inl rfl) (by decide) ?_
    exact (xr_ret (sr_if_t (te_eq (b := true) (te_cmp (ev_item (ev_name rfl) rfl (ev_int _) (by decide) (by decide) rfl) (ev_str _) (cmp_eq_dat _ _ (by first | rfl | decide +kernel) (by first | rfl | decide +kernel))) (by first | rfl | assumption | decide | (simp [*]; done) | (simp; omega))) (xr_ret (sr_return (ev_call rfl (ar_cons (ev_tuple (ea_cons (ev_item (ev_name rfl) rfl (ev_int _) (by decide) (by decide) rfl) (ea_cons (ev_item (ev_name rfl) rfl (ev_int _) (by decide) (by decide) rfl) ea_nil)) (by first | decide | (simp; done))) (ar_cons (ev_name rfl) ar_nil)) ((lplain_ok H h rfl).up (by first | decide | omega | (simp [lev, inner, poly]; done))))))))
  | x =>
    intro r h
    unfold term? at h
    split at h
    case isFalse => cases h
    rename_i hm
    have hm := okN_lt hm
    cases h
    refine mod3 (x1 := "t") (x2 := "many") (x3 := "letter") (sc := [("t", .local), ("many", .local), ("letter", .local), ("found", .local), ("one", .local), ("told", .local), ("lplain", .globalImplicit), ("CasFail", .globalImplicit), ("R0", .globalImplicit), ("len", .globalImplicit), ("of_power", .globalImplicit), ("of_call", .globalImplicit), ("of_term", .globalImplicit), ("R1", .globalImplicit), ("ladd", .globalImplicit), ("lmul", .globalImplicit)]) H (by decide) rfl rfl (fun _ _ _ _ _ _ _ _ _ _ _ => rfl) ⟨rfl, rfl, rfl⟩ (.inl rfl) (.inl rfl) (.inl rfl) (by decide) ?_
    exact xr_eq (xr_next (sn_if_f (te_eq (b := false) (te_cmp (ev_item (ev_name rfl) rfl (ev_int _) (by decide) (by decide) rfl) (ev_str _) (cmp_eq_dat _ _ (by first | rfl | decide +kernel) (by first | rfl | decide +kernel))) (by first | rfl | assumption | decide | (simp [*]; done) | (simp; omega))) xs_nil) (xr_ret (sr_if_t (te_eq (b := true) (te_cmp (ev_item (ev_name rfl) rfl (ev_int _) (by decide) (by decide) rfl) (ev_str _) (cmp_eq_dat _ _ (by first | rfl | decide +kernel) (by first | rfl | decide +kernel))) (by first | rfl | assumption | decide | (simp [*]; done) | (simp; omega))) (xr_next (sn_if_f (te_eq (b := false) (te_cmp (ev_item (ev_name rfl) rfl (ev_int _) (by decide) (by decide) rfl) (ev_item (ev_name rfl) rfl (ev_int _) (by decide) (by decide) rfl) (cmp_ne_dat _ _ (by first | rfl | decide +kernel) (by first | rfl | decide +kernel))) (by first | rfl | assumption | decide | (simp [*]; done) | (simp; omega))) xs_nil) (xr_ret (sr_return (ev_tuple (ea_cons (ev_item (ev_item (ev_name rfl) rfl (ev_int _) (by decide) (by decide) rfl) rfl (ev_int _) (by decide) (by decide) rfl) (ea_cons (ev_own (eo_add (ev_item (ev_item (ev_name rfl) rfl (ev_int _) (by decide) (by decide) rfl) rfl (ev_int _) (by decide) (by decide) rfl) (ev_own (eo_rep (ev_own (eo_list (ea_cons (ev_global rfl H.R0) ea_nil) (by first | decide | (simp; done)))) (ev_bin (ev_name rfl) (ev_callb rfl (H.no "len" (by decide)) rfl (ea_cons (ev_item (ev_item (ev_name rfl) rfl (ev_int _) (by decide) (by decide) rfl) rfl (ev_int _) (by decide) (by decide) rfl) ea_nil) (cb_len_list _ (by first | assumption | omega | decide | (simp; done) | (simp; omega)))) (bin_sub _ _)) (by first | assumption | omega | decide | (simp; done) | (simp; omega)) (by first | assumption | omega | decide | (simp; done) | (simp; omega)))) (by first | assumption | omega | decide | (simp; done) | (simp; omega)))) ea_nil)) (by first | decide | (simp; done))))))))) (by simp; omega)
  | y => intro r h; cases h
  | pow b e ih _ =>
    intro r h
    cases e with
    | num p q =>
      unfold term? at h
      obtain ⟨u, hu, h⟩ := Option.bind_eq_some_iff.mp h
      have hp := of_power_ok H (ih u hu) (by have := lev_ge b; omega) h
      have ihp := hp
      refine mod3 (x1 := "t") (x2 := "many") (x3 := "letter") (sc := [("t", .local), ("many", .local), ("letter", .local), ("found", .local), ("one", .local), ("told", .local), ("lplain", .globalImplicit), ("CasFail", .globalImplicit), ("R0", .globalImplicit), ("len", .globalImplicit), ("of_power", .globalImplicit), ("of_call", .globalImplicit), ("of_term", .globalImplicit), ("R1", .globalImplicit), ("ladd", .globalImplicit), ("lmul", .globalImplicit)]) H (by decide) rfl rfl (fun _ _ _ _ _ _ _ _ _ _ _ => rfl) ⟨rfl, rfl, rfl⟩ (.inl rfl) (.inl rfl) (.inl rfl) (by decide) ?_
      exact (xr_next (sn_if_f (te_eq (b := false) (te_cmp (ev_item (ev_name rfl) rfl (ev_int _) (by decide) (by decide) rfl) (ev_str _) (cmp_eq_dat _ _ (by first | rfl | decide +kernel) (by first | rfl | decide +kernel))) (by first | rfl | assumption | decide | (simp [*]; done) | (simp; omega))) xs_nil) (xr_next (sn_if_f (te_eq (b := false) (te_cmp (ev_item (ev_name rfl) rfl (ev_int _) (by decide) (by decide) rfl) (ev_str _) (cmp_eq_dat _ _ (by first | rfl | decide +kernel) (by first | rfl | decide +kernel))) (by first | rfl | assumption | decide | (simp [*]; done) | (simp; omega))) xs_nil) (xr_ret (sr_if_t (te_eq (b := true) (te_cmp (ev_item (ev_name rfl) rfl (ev_int _) (by decide) (by decide) rfl) (ev_str _) (cmp_eq_dat _ _ (by first | rfl | decide +kernel) (by first | rfl | decide +kernel))) (by first | rfl | assumption | decide | (simp [*]; done) | (simp; omega))) (xr_ret (sr_return (ev_call rfl (ar_cons (ev_item (ev_name rfl) rfl (ev_int _) (by decide) (by decide) rfl) (ar_cons (ev_item (ev_name rfl) rfl (ev_int _) (by decide) (by decide) rfl) (ar_cons (ev_name rfl) (ar_cons (ev_name rfl) ar_nil)))) (ihp.up (by first | omega | exact Nat.le_refl _)))))))))
    | _ => cases h
  | sum2 a b iha ihb =>
    intro r h
    unfold term? at h
    obtain ⟨f0, h0, h⟩ := Option.bind_eq_some_iff.mp h
    refine term_sum H [a, b] (by simp) (ih2 (fun u hu => (iha u hu).up (by omega)) (fun u hu => (ihb u hu).up (by omega))) (by have := lev_ge a; omega) h0 ?_
    simpa [iter, Option.bind_assoc] using h
  | sum3 a b c iha ihb ihc =>
    intro r h
    unfold term? at h
    obtain ⟨f0, h0, h⟩ := Option.bind_eq_some_iff.mp h
    refine term_sum H [a, b, c] (by simp) (ih3 (fun u hu => (iha u hu).up (by omega)) (fun u hu => (ihb u hu).up (by omega)) (fun u hu => (ihc u hu).up (by omega))) (by have := lev_ge a; omega) h0 ?_
    simpa [iter, Option.bind_assoc] using h
  | prod2 a b iha ihb =>
    intro r h
    unfold term? at h
    obtain ⟨f0, h0, h⟩ := Option.bind_eq_some_iff.mp h
    refine term_prod H [a, b] (by simp) (ih2 (fun u hu => (iha u hu).up (by omega)) (fun u hu => (ihb u hu).up (by omega))) (by have := lev_ge a; omega) h0 ?_
    simpa [iter, Option.bind_assoc] using h
  | prod3 a b c iha ihb ihc =>
    intro r h
    unfold term? at h
    obtain ⟨f0, h0, h⟩ := Option.bind_eq_some_iff.mp h
    refine term_prod H [a, b, c] (by simp) (ih3 (fun u hu => (iha u hu).up (by omega)) (fun u hu => (ihb u hu).up (by omega)) (fun u hu => (ihc u hu).up (by omega))) (by have := lev_ge a; omega) h0 ?_
    simpa [iter, Option.bind_assoc] using h
  | call f a ih =>
    intro r h
    unfold term? at h
    obtain ⟨u, hu, h⟩ := Option.bind_eq_some_iff.mp h
    have ihu := ih u hu
    have hlev := lev_ge a
    refine mod3 (x1 := "t") (x2 := "many") (x3 := "letter") (sc := [("t", .local), ("many", .local), ("letter", .local), ("found", .local), ("one", .local), ("told", .local), ("lplain", .globalImplicit), ("CasFail", .globalImplicit), ("R0", .globalImplicit), ("len", .globalImplicit), ("of_power", .globalImplicit), ("of_call", .globalImplicit), ("of_term", .globalImplicit), ("R1", .globalImplicit), ("ladd", .globalImplicit), ("lmul", .globalImplicit)]) H (by decide) rfl rfl (fun _ _ _ _ _ _ _ _ _ _ _ => rfl) ⟨rfl, rfl, rfl⟩ (.inl rfl) (.inl rfl) (.inl rfl) (by decide) ?_
    exact (xr_next (sn_if_f (te_eq (b := false) (te_cmp (ev_item (ev_name rfl) rfl (ev_int _) (by decide) (by decide) rfl) (ev_str _) (cmp_eq_dat _ _ (by first | rfl | decide +kernel) (by first | rfl | decide +kernel))) (by first | rfl | assumption | decide | (simp [*]; done) | (simp; omega))) xs_nil) (xr_next (sn_if_f (te_eq (b := false) (te_cmp (ev_item (ev_name rfl) rfl (ev_int _) (by decide) (by decide) rfl) (ev_str _) (cmp_eq_dat _ _ (by first | rfl | decide +kernel) (by first | rfl | decide +kernel))) (by first | rfl | assumption | decide | (simp [*]; done) | (simp; omega))) xs_nil) (xr_next (sn_if_f (te_eq (b := false) (te_cmp (ev_item (ev_name rfl) rfl (ev_int _) (by decide) (by decide) rfl) (ev_str _) (cmp_eq_dat _ _ (by first | rfl | decide +kernel) (by first | rfl | decide +kernel))) (by first | rfl | assumption | decide | (simp [*]; done) | (simp; omega))) xs_nil) (xr_ret (sr_if_t (te_and_t (te_eq (b := true) (te_cmp (ev_item (ev_name rfl) rfl (ev_int _) (by decide) (by decide) rfl) (ev_str _) (cmp_eq_dat _ _ (by first | rfl | decide +kernel) (by first | rfl | decide +kernel))) (by first | rfl | assumption | decide | (simp [*]; done) | (simp; omega))) (te_and_t (te_eq (b := true) (te_cmp (ev_callb rfl (H.no "len" (by decide)) rfl (ea_cons (ev_item (ev_name rfl) rfl (ev_int _) (by decide) (by decide) rfl) ea_nil) (cb_len_tuple _ (by first | assumption | omega | decide | (simp; done) | (simp; omega)))) (ev_int _) (cmp_eq _ _)) (by first | rfl | assumption | decide | (simp [*]; done) | (simp; omega))) te_and_nil)) (xr_ret (sr_return (ev_call rfl (ar_cons (ev_item (ev_name rfl) rfl (ev_int _) (by decide) (by decide) rfl) (ar_cons (ev_call rfl (ar_cons (ev_item (ev_item (ev_name rfl) rfl (ev_int _) (by decide) (by decide) rfl) rfl (ev_int _) (by decide) (by decide) rfl) (ar_cons (ev_name rfl) (ar_cons (ev_name rfl) ar_nil))) (ihu.up (by first | omega | exact Nat.le_refl _))) ar_nil)) ((of_call_ok H h).up (by first | decide | omega | (simp [lev, inner, poly]; done)))))))))))
  | call2 f a b _ _ => intro r h; cases h
end Mine
set_option maxRecDepth 4000
namespace Mine
open PySem PySem.W PyProof.Rows PySem.Calls PySem.Spec

section
variable {cx : Cx} {n : Nat} {sc : Nms} {Γ Γ' Γ₁ Γ₂ : Gam} {k k' k₁ k₂ : Int} {st : Stmt} {rest : List Stmt} {d : Dat}

theorem sn_try {body : List Stmt} {h₀ : ExceptHandler} {hs : List ExceptHandler} {pos : Pos} (h : ExecsN cx n sc Γ k body Γ' k') : ExecN cx n sc Γ k (.Try body (h₀ :: hs) [] [] pos) Γ' k' := by
  refine ⟨fun g A env N s hA hE p Q hQ => ?_⟩
  refine wpAny_Try_except (wpAny_mono (h.run g A env N s hA hE p (fun f s₁ => match f with | .next => wpAny (model cx.prog cx.w) A (execs [] env) Q (fun _ _ => False) s₁ | f => Q f s₁) fun N₁ s₁ S₁ p₁ => ?_) (fun _ _ q => q) fun _ _ q => q.elim)
  exact wpAny_execs_nil (hQ N₁ s₁ S₁ p₁)
theorem sr_try {body : List Stmt} {h₀ : ExceptHandler} {hs : List ExceptHandler} {pos : Pos} (h : ExecsR cx n sc Γ k body d k') : ExecR cx n sc Γ k (.Try body (h₀ :: hs) [] [] pos) d k' := by
  refine ⟨fun g A env N s hA hE p Q hQ => ?_⟩
  exact wpAny_Try_except (wpAny_mono (h.run g A env N s hA hE p (fun f s₁ => match f with | .next => wpAny (model cx.prog cx.w) A (execs [] env) Q (fun _ _ => False) s₁ | f => Q f s₁) fun v N₁ s₁ S₁ p₁ hv => hQ v N₁ s₁ S₁ p₁ hv) (fun _ _ q => q) fun _ _ q => q.elim)

inductive WhileRet (cx : Cx) (n : Nat) (sc : Nms) (k : Int) (t : Expr) (body : List Stmt) : Nat → Gam → Dat → Prop
  | ret {Γ : Gam} {d : Dat} : TestTo cx n sc Γ k t true k → ExecsR cx n sc Γ k body d k → WhileRet cx n sc k t body 0 Γ d
  | step {m : Nat} {Γ Γ₁ Γ₂ : Gam} {d : Dat} : TestTo cx n sc Γ k t true k → ExecsN cx n sc Γ k body Γ₁ k → Sub Γ₁ Γ₂ → WhileRet cx n sc k t body m Γ₂ d → WhileRet cx n sc k t body (m + 1) Γ d

theorem sr_while {t : Expr} {body : List Stmt} {pos : Pos} {m : Nat} (h : WhileRet cx n sc k t body m Γ d) : ExecR cx n sc Γ k (.While t body [] pos) d k := by
  refine ⟨fun g A env N s hA hE p Q hQ => ?_⟩
  refine wpAny_While ?_
  refine codeAny_whileLoop (fun m s' => ∃ Γ₁ N', StepL cx g N s N' s' ∧ Pt cx g A env Γ₁ k N' s' ∧ WhileRet cx n sc k t body m Γ₁ d) (fun m s' hJ => ?_) m ⟨Γ, N, p.reflL, p, h⟩
  obtain ⟨Γ₁, N', S, p', hw⟩ := hJ
  cases hw with
  | ret ht hb =>
    refine wpAny_mono (ht.run g A env N' s' hA hE p' (fun b s₂ => if b = true then _ else _) fun N₂ s₂ S₂ p₂ => ?_) (fun _ _ q => q) fun _ _ q => q.elim
    rw [if_pos rfl]
    refine wpAny_mono (hb.run g A env N₂ s₂ hA hE p₂ _ fun v N₃ s₃ S₃ w₃ hv => ?_) (fun _ _ q => q) fun _ _ q => q.elim
    exact hQ v N₃ s₃ ((S.trans (S₂.toL p')).trans S₃) w₃ hv
  | step ht hb hs hr =>
    rename_i m' Γ₂ Γ₃
    refine wpAny_mono (ht.run g A env N' s' hA hE p' (fun b s₂ => if b = true then _ else _) fun N₂ s₂ S₂ p₂ => ?_) (fun _ _ q => q) fun _ _ q => q.elim
    rw [if_pos rfl]
    refine wpAny_mono (hb.run g A env N₂ s₂ hA hE p₂ _ fun N₃ s₃ S₃ p₃ => ?_) (fun _ _ q => q) fun _ _ q => q.elim
    exact ⟨m', Nat.lt_succ_self _, Γ₃, N₃, (S.trans (S₂.toL p')).trans S₃, p₃.weak hs, hr⟩

/-! the box -/
theorem ints_dat {N : Ledg} : ∀ {vs : List Value} {ns : List Int}, IntsAre vs ns → DatAll N vs (ns.map Dat.int)
  | _, _, .nil => .nil
  | _, _, .cons _ t r => .cons (.int _ t) (ints_dat r)
theorem ev_box1 {x : Str} {px pos cp : Pos} {c : Nat} (hx : Γ.lookup x = some .box) (hdb : (x == ("__debug__" : Str)) = false := by rfl) (hd2 : (x == ("__classdict__" : Str)) = false := by rfl) :
    EvalTo cx n sc Γ k (.Subscript (.Name x px) (.Constant (.int 1) c cp) pos) (.int k) k := by
  refine ⟨fun g A env N s hA hE p Q hQ => ?_⟩
  obtain ⟨v, Hv, Sv⟩ := p.see x _ hx
  cases Sv with
  | box =>
    refine Subscript_ (load_holds hE Hv hdb hd2 ?_)
    refine (ev_int (cx := cx) (n := n) (sc := sc) 1).run g A env N s hA hE p _ fun u N₂ s₂ S₂ p₂ hu => ?_
    cases hu with
    | int _ t =>
      obtain ⟨⟨tk, m, e⟩, _⟩ := p₂.box
      have hL : s₂.heap.IsList cx.bA #[.ref cx.lA, .int k tk] := ⟨_, e, rfl, m, rfl⟩
      exact tail_any hL.typeIs slot_list_getitem.lookup (wpAny_getItem_list hL (by decide) (by decide) (x := .int k tk) (by rfl) (hQ _ N₂ s₂ S₂ p₂ (.int _ _))) rfl
theorem ev_box0 {x : Str} {px pos cp : Pos} {c : Nat} (hx : Γ.lookup x = some .box) (hdb : (x == ("__debug__" : Str)) = false := by rfl) (hd2 : (x == ("__classdict__" : Str)) = false := by rfl) :
    EvalTo cx n sc Γ k (.Subscript (.Name x px) (.Constant (.int 0) c cp) pos) (.list (cx.ns.map Dat.int)) k := by
  refine ⟨fun g A env N s hA hE p Q hQ => ?_⟩
  obtain ⟨v, Hv, Sv⟩ := p.see x _ hx
  cases Sv with
  | box =>
    refine Subscript_ (load_holds hE Hv hdb hd2 ?_)
    refine (ev_int (cx := cx) (n := n) (sc := sc) 0).run g A env N s hA hE p _ fun u N₂ s₂ S₂ p₂ hu => ?_
    cases hu with
    | int _ t =>
      obtain ⟨⟨tk, m, e⟩, vs, m₂, e2, hi⟩ := p₂.box
      have hL : s₂.heap.IsList cx.bA #[.ref cx.lA, .int k tk] := ⟨_, e, rfl, m, rfl⟩
      obtain ⟨o, ho⟩ := p₂.lin
      have ho' := (p₂.led _ ho).1
      dsimp only at ho'
      rw [e2] at ho'; cases ho'
      exact tail_any hL.typeIs slot_list_getitem.lookup (wpAny_getItem_list hL (by decide) (by decide) (x := .ref cx.lA) (by rfl) (hQ _ N₂ s₂ S₂ p₂ (.list ho (ints_dat hi)))) rfl
theorem box_touch {g : Heap} {A : Around} {env : Env} {N : Ledg} {s : Shared} {h' : Heap} {tk : Nat} {m : Nat} {t : Tok} (p : Pt cx g A env Γ k N s) (hs : Heap.SameBut cx.bA s.heap h') (hg' : h'.get? cx.bA = some (listOf (#[.ref cx.lA, .int k' t]) m)) :
    StepL cx g N s N { s with heap := h', toks := tk } ∧ Pt cx g A env Γ k' N { s with heap := h', toks := tk } := by
  obtain ⟨⟨tk₀, m₀, eb⟩, vl, ml, el, il⟩ := p.box
  have hX : ∀ b, b ∉ cx.X → b ≠ cx.bA := fun b hb q => hb (q ▸ p.ok.bAX)
  have hB : ∀ b o, cx.base.get? b = some o → b ≠ cx.bA := fun b o e q => by rw [q, p.ok.xbase _ p.ok.bAX] at e; cases e
  have st : cx.base.StaysIn h' := fun b o e => hs.extBut b o (hB b o e) (p.stays b o e)
  have ex : ∀ b, (∃ o, s.heap.get? b = some o) → ∃ o, h'.get? b = some o := fun b ⟨o, e⟩ => by
    by_cases q : b = cx.bA
    · exact ⟨_, q ▸ hg'⟩
    · exact ⟨o, hs.extBut b o q e⟩
  obtain ⟨mm, hns⟩ := p.hasNs
  have hns' : h'.Ns env.locals mm := hns.at' fun o e => hs.extBut _ o (hX _ p.locX) e
  have cellk : ∀ {c : Addr} {u : Option Value}, c ∉ cx.X → s.heap.IsCell c u → h'.IsCell c u := fun hc ⟨o, e, hd⟩ => ⟨o, hs.extBut _ o (hX _ hc) e, hd⟩
  have fwd : ∀ {y : Str} {u : Value}, Holds cx g env s.heap y u → Holds cx g env h' y u := fun H => by
    cases H with
    | loc hk' hn' hv' => exact .loc hk' hns' (by rw [← hn'.agree hns]; exact hv')
    | cell hk' hc hX' hg hv' => exact .cell hk' hc hX' hg (cellk hX' hv')
  have bwd : ∀ {y : Str} {u : Value} {sl : Sl}, Γ.lookup y = some sl → Holds cx g env h' y u → Holds cx g env s.heap y u := fun hy H => by
    obtain ⟨w, Hw, _⟩ := p.see _ _ hy
    have := holds_unique H (fwd Hw)
    exact this ▸ Hw
  refine ⟨{ kp := .of_keeps fun b o hb e => hs.extBut b o (hX b hb.1) e, flds := fun b o vs hb e hd => hs.extBut b o (hX b hb) e, stays := st, xs := fun a _ h => ex a h, gens := rfl, os := rfl, sub := fun _ h => h, new := fun _ h => .inl h },
    { ok := p.ok, stays := st, xs := fun b hb => ex b (p.xs b hb), led := fun q hq => ⟨hs.extBut _ _ (hX _ (p.led q hq).2.2) (p.led q hq).1, (p.led q hq).2⟩, led₀ := p.led₀, lin := p.lin, box := ⟨⟨t, m, hg'⟩, vl, ml, hs.extBut _ _ (hX _ p.ok.lAX) el, il⟩, frs := ?_,
      hasNs := ⟨mm, hns'⟩, locX := p.locX, locB := p.locB, locG := p.locG, old := fun b o hb e => let ⟨o', e'⟩ := p.old b o hb e; ⟨o', hs.extBut b o' (hX b hb) e'⟩,
      cells := fun y hy => let ⟨c, u, h1, h2, h3, h4, h5⟩ := p.cells y hy; ⟨c, u, h1, h2, h3, h4, cellk h2 h5⟩, see := fun y sl hy => ?_, one := fun y z vy vz ly lz hy hz Hy Hz hne => p.one y z _ _ _ _ hy hz (bwd hy Hy) (bwd hz Hz) hne }⟩
  · obtain ⟨frs, h1, h2, h3⟩ := p.frs
    refine ⟨frs, h1, FunFrames.kpP (P := (· ∉ cx.X)) (.of_keeps fun b o hb e => hs.extBut b o (hX b hb) e) (fun e he a ha => (h3 e he a ha).1) h2, fun e he a ha => ⟨(h3 e he a ha).1, ?_⟩⟩
    obtain ⟨o, es, m, e1, e2⟩ := (h3 e he a ha).2
    exact ⟨o, es, m, hs.extBut a o (hX a (h3 e he a ha).1) e1, e2⟩
  · obtain ⟨v, H, Hs⟩ := p.see y sl hy
    refine ⟨v, fwd H, ?_⟩
    cases Hs with
    | val h => exact .val h
    | @own a vs c l e d f hX' l' hB' => exact .own (hs.extBut _ _ (hX _ hX') e) d f hX' l' hB'
    | box => exact .box
theorem sn_box_set {x : Str} {px sp pos cp : Pos} {c : Nat} {e : Expr} (hx : Γ.lookup x = some .box) (he : EvalTo cx n sc Γ k e (.int k') k)
    (hs : ∀ env, swapsWith e (some (.Subscript (.Name x px) (.Constant (.int 1) c cp) sp)) pos.line env = pure false := by intro _; rfl)
    (hdb : (x == ("__debug__" : Str)) = false := by rfl) (hd2 : (x == ("__classdict__" : Str)) = false := by rfl) :
    ExecN cx n sc Γ k (.Assign [.Subscript (.Name x px) (.Constant (.int 1) c cp) sp] e pos) Γ k' := by
  refine ⟨fun g A env N s hA hE p Q hQ => ?_⟩
  refine wpAny_Assign_Subscript (he.run g A env N s hA hE p _ fun v N₁ s₁ S₁ p₁ hv => ?_) (hs env)
  obtain ⟨w, Hw, Sw⟩ := p₁.see x _ hx
  cases Sw with
  | box =>
    refine load_holds hE Hw hdb hd2 ?_
    refine (ev_int (cx := cx) (n := n) (sc := sc) 1).run g A env N₁ s₁ hA hE p₁ _ fun u N₂ s₂ S₂ p₂ hu => ?_
    cases hu with
    | int _ t =>
      cases hv with
      | int _ tv =>
        obtain ⟨⟨tk, m, eb⟩, _⟩ := p₂.box
        refine setItem_exact eb (by decide) (by decide) (by simp) fun h' hs' hg' => ?_
        obtain ⟨S₃, p₃⟩ := box_touch (tk := s₂.toks) p₂ hs' (k' := k') (t := tv) (m := m) hg'
        exact hQ N₂ _ (((S₁.trans S₂).toL p).trans S₃) p₃
/-! two lists of ratios -/
theorem kq_dS (l : List Q) : kqdOk 8 (dS l) = true := by
  show (l.map dQ).all (kqdOk 7) = true
  rw [List.all_eq_true]
  intro d hd
  obtain ⟨q, _, rfl⟩ := List.mem_map.mp hd
  rfl
theorem eqv_dS : ∀ a b : List Q, PyData.eqvAll (kqdPs (a.map dQ)) (kqdPs (b.map dQ)) = (a == b)
  | [], [] => rfl
  | [], _ :: _ => rfl
  | _ :: _, [] => rfl
  | x :: a, y :: b => by
    have ih := eqv_dS a b
    show (PyData.eqv (kqdP (dQ x)) (kqdP (dQ y)) && PyData.eqvAll (kqdPs (a.map dQ)) (kqdPs (b.map dQ))) = (x == y && a == b)
    rw [ih]
    congr 1
    obtain ⟨x1, x2⟩ := x
    obtain ⟨y1, y2⟩ := y
    simp only [kqdP, kqdPs, PyData.eqv, PyData.eqvAll, Bool.and_true]
    rfl
theorem cmp_eq_s {d₁ d₂ : Dat} (a b : List Q) (h1 : d₁ = dS a) (h2 : d₂ = dS b) : CmpTo cx n .Eq d₁ d₂ (a == b) := by
  subst h1 h2
  have h := cmp_eq_dat (cx := cx) (n := n) (dS a) (dS b) (kq_dS a) (kq_dS b)
  have e : (kqdP (dS a)).eqv (kqdP (dS b)) = (a == b) := by
    show PyData.eqvAll _ _ = _
    exact eqv_dS a b
  rw [e] at h; exact h
theorem cmp_ne_s {d₁ d₂ : Dat} (a b : List Q) (h1 : d₁ = dS a) (h2 : d₂ = dS b) : CmpTo cx n .NotEq d₁ d₂ (!(a == b)) := by
  subst h1 h2
  have h := cmp_ne_dat (cx := cx) (n := n) (dS a) (dS b) (kq_dS a) (kq_dS b)
  have e : (kqdP (dS a)).eqv (kqdP (dS b)) = (a == b) := by
    show PyData.eqvAll _ _ = _
    exact eqv_dS a b
  rw [e] at h; exact h
end
end Mine
set_option maxRecDepth 10000
namespace Mine
open PySem PySem.W PyProof.Rows PySem.Calls PySem.Spec




theorem law_take_ok {cx : Cx} (H : Mods cx) {k : Int} {kn m : Nat} (hk : k = (kn : Int)) (hk2 : kn ≤ 100) (hm0 : 0 < m) (hm : m ≤ 100) {j : Int} (hj : j = (m : Int)) : CallTo cx 1 (Str.ofString "_law_take") [.box, .val (.int j)] k (.int (drawV cx.ns kn m : Nat)) (k + 1) := by
  subst hk hj
  have hs := H.short
  refine mod2 (x1 := "box") (x2 := "many") (sc := [("box", .local), ("many", .local), ("len", .globalImplicit), ("abs", .globalImplicit)]) H (by decide) rfl rfl (fun _ _ _ _ _ _ _ _ _ _ => rfl) ⟨rfl, rfl, rfl⟩ (.inl rfl) (.inl rfl) rfl ?_
  have hm' : ((m : Nat) : Int) ≠ 0 := by omega
  by_cases hlt : kn < cx.ns.length
  · have hx : (cx.ns.map Dat.int)[((kn : Int) + 1 - 1).toNat]? = some (.int (cx.ns.getD kn 0)) := by
      rw [show ((kn : Int) + 1 - 1).toNat = kn from by omega, List.getElem?_map, List.getD_eq_getElem?_getD, List.getElem?_eq_getElem hlt]; rfl
    have hc : (decide ((kn : Int) + 1 ≤ ((cx.ns.map Dat.int).length : Int))) = true := by simp; omega
    refine xr_eq (xr_next (sn_box_set rfl (ev_bin (ev_box1 rfl) (ev_int _) (bin_add _ _))) (xr_ret (sr_if_t (te_eq (b := true) (te_cmp (ev_box1 rfl) (ev_callb rfl (H.no "len" (by decide)) rfl (ea_cons (ev_box0 rfl) ea_nil) (cb_len_list _ (by first | assumption | omega | decide | (simp; done) | (simp; omega)))) (cmp_le _ _)) (by first | rfl | assumption | decide | (simp [*]; done) | (simp; omega))) (xr_ret (sr_return (ev_bin (ev_callb rfl (H.no "abs" (by decide)) rfl (ea_cons (ev_item (ev_box0 rfl) rfl (ev_bin (ev_box1 rfl) (ev_int _) (bin_sub _ _)) (by first | assumption | omega | decide | (simp; done) | (simp; omega)) (by first | assumption | omega | decide | (simp; done) | (simp; omega)) (by first | exact hx | exact at_q hx (by omega) | exact at_q hy (by omega) | exact at_q hx (by simp) | exact at_q hy (by simp; omega))) ea_nil) (cb_abs _)) (ev_name rfl) (bin_mod _ _ (by first | assumption | omega | decide | (simp; done) | (simp; omega))))))))) ?_
    have ea : ∀ x : Int, (if x < 0 then -x else x) = (x.natAbs : Int) := fun x => by split <;> omega
    rw [ea, Int.fmod_eq_emod_of_nonneg _ (by omega)]
    unfold drawV
    rw [if_pos hlt]; rfl
  · have hc : (decide ((kn : Int) + 1 ≤ ((cx.ns.map Dat.int).length : Int))) = false := by simp; omega
    refine xr_eq (xr_next (sn_box_set rfl (ev_bin (ev_box1 rfl) (ev_int _) (bin_add _ _))) (xr_next (sn_if_f (te_eq (b := false) (te_cmp (ev_box1 rfl) (ev_callb rfl (H.no "len" (by decide)) rfl (ea_cons (ev_box0 rfl) ea_nil) (cb_len_list _ (by first | assumption | omega | decide | (simp; done) | (simp; omega)))) (cmp_le _ _)) (by first | rfl | assumption | decide | (simp [*]; done) | (simp; omega))) xs_nil) (xr_ret (sr_return (ev_bin (ev_bin (ev_bin (ev_int _) (ev_box1 rfl) (bin_mul _ _ (by first | assumption | omega | decide | (simp; done) | (simp; omega)))) (ev_bin (ev_box1 rfl) (ev_int _) (bin_floordiv _ _ (by first | assumption | omega | decide | (simp; done) | (simp; omega)) (by first | assumption | omega | decide | (simp; done) | (simp; omega)))) (bin_add _ _)) (ev_name rfl) (bin_mod _ _ (by first | assumption | omega | decide | (simp; done) | (simp; omega)))))))) ?_
    rw [Int.fmod_eq_emod_of_nonneg _ (by omega), Int.fdiv_eq_ediv_of_nonneg _ (by omega)]
    unfold drawV
    rw [if_neg hlt]; rfl
theorem of_term_at {cx : Cx} (H : Mods cx) {k : Int} {m : Nat} (hm0 : 2 ≤ m) {t : Tm} {r : L} (h : term? m t = some r) {j : Int} (hj : j = (m : Int)) : CallTo cx (lev t) (Str.ofString "of_term") [.val (dT t), .val (.int j), .val dLt] k (dL r) k := hj ▸ of_term_ok H hm0 t r h
theorem laurent_go {cx : Cx} (H : Mods cx) {k : Int} {t : Tm} {e : Int} {r : L} (tst : Expr) (bd : List Stmt)
    (ht : ∀ more : Nat, more ≤ 24 → TestTo cx (lev t) [("t", .local), ("letter", .local), ("end", .local), ("more", .local), ("found", .local), ("e", .local), ("MOST_MORE", .globalImplicit), ("of_term", .globalImplicit), ("max", .globalImplicit), ("len", .globalImplicit), ("CasFail", .globalImplicit)] [("more", .val (.int more)), ("t", .val (dT t)), ("letter", .val dLt), ("end", .val (.int e))] k tst true k)
    (h1 : ∀ (more : Nat) (u : L), more ≤ 24 → 2 ≤ more → okZ e = true → term? ((if 1 > e then 1 else e).toNat + more) t = some u → okL u.2 = true → u.1 + u.2.length ≥ e → ExecsR cx (lev t) [("t", .local), ("letter", .local), ("end", .local), ("more", .local), ("found", .local), ("e", .local), ("MOST_MORE", .globalImplicit), ("of_term", .globalImplicit), ("max", .globalImplicit), ("len", .globalImplicit), ("CasFail", .globalImplicit)] [("more", .val (.int more)), ("t", .val (dT t)), ("letter", .val dLt), ("end", .val (.int e))] k bd (dL u) k)
    (h2 : ∀ (more : Nat) (u : L), more ≤ 24 → 2 ≤ more → okZ e = true → term? ((if 1 > e then 1 else e).toNat + more) t = some u → okL u.2 = true → ¬ u.1 + u.2.length ≥ e → ∃ Γ', ExecsN cx (lev t) [("t", .local), ("letter", .local), ("end", .local), ("more", .local), ("found", .local), ("e", .local), ("MOST_MORE", .globalImplicit), ("of_term", .globalImplicit), ("max", .globalImplicit), ("len", .globalImplicit), ("CasFail", .globalImplicit)] [("more", .val (.int more)), ("t", .val (dT t)), ("letter", .val dLt), ("end", .val (.int e))] k bd Γ' k ∧ Sub Γ' [("more", .val (.int (more * 2 : Nat))), ("t", .val (dT t)), ("letter", .val dLt), ("end", .val (.int e))]) :
    ∀ (f more : Nat), 2 ≤ more → laurentGo t e f more = some r → ∃ m, WhileRet cx (lev t) [("t", .local), ("letter", .local), ("end", .local), ("more", .local), ("found", .local), ("e", .local), ("MOST_MORE", .globalImplicit), ("of_term", .globalImplicit), ("max", .globalImplicit), ("len", .globalImplicit), ("CasFail", .globalImplicit)] k tst bd m [("more", .val (.int more)), ("t", .val (dT t)), ("letter", .val dLt), ("end", .val (.int e))] (dL r)
  | 0, _, _, h => by cases h
  | f + 1, more, hm, h => by
    unfold laurentGo at h
    split at h
    case isFalse => cases h
    rename_i hc
    obtain ⟨hc1, hc2⟩ : more ≤ 24 ∧ okZ e = true := by simpa using hc
    obtain ⟨u, hu, h⟩ := Option.bind_eq_some_iff.mp h
    split at h
    · cases h
    rename_i hk
    have hk : okL u.2 = true := by simpa using hk
    split at h
    · rename_i hge
      cases h
      exact ⟨0, .ret (ht more hc1) (h1 more _ hc1 hm hc2 hu hk hge)⟩
    · rename_i hge
      obtain ⟨m, hw⟩ := laurent_go H tst bd ht h1 h2 f (more * 2) (by omega) h
      obtain ⟨Γ', e1, e2⟩ := h2 more u hc1 hm hc2 hu hk hge
      exact ⟨m + 1, .step (ht more hc1) e1 e2 hw⟩
theorem laurent_of_ok {cx : Cx} (H : Mods cx) {k : Int} {t : Tm} {e : Int} {r : L} (h : laurent? t e = some r) : CallTo cx (lev t + 1) (Str.ofString "laurent_of") [.val (dT t), .val dLt, .val (.int e)] k (dL r) k := by
  refine mod3 (x1 := "t") (x2 := "letter") (x3 := "end") (sc := [("t", .local), ("letter", .local), ("end", .local), ("more", .local), ("found", .local), ("e", .local), ("MOST_MORE", .globalImplicit), ("of_term", .globalImplicit), ("max", .globalImplicit), ("len", .globalImplicit), ("CasFail", .globalImplicit)]) H (by decide) rfl rfl (fun _ _ _ _ _ _ _ _ _ _ _ => rfl) ⟨rfl, rfl, rfl⟩ (.inl rfl) (.inl rfl) (.inl rfl) (by decide) ?_
  refine (xr_next (sn_assign (.inl rfl) (ev_int _)) ?_)
  have hgo := fun tst bd ht h1 h2 => laurent_go (k := k) (r := r) H (t := t) (e := e) tst bd ht h1 h2 4 2 (Nat.le_refl _) h
  refine xr_weak (Γ' := [("more", .val (.int (2 : Nat))), ("t", .val (dT t)), ("letter", .val dLt), ("end", .val (.int e))]) (by repeat (first | exact sub_nil | refine sub_cons rfl ?_)) ?_
  refine xr_ret ?_
  suffices hh : ∃ m, WhileRet cx (lev t) [("t", .local), ("letter", .local), ("end", .local), ("more", .local), ("found", .local), ("e", .local), ("MOST_MORE", .globalImplicit), ("of_term", .globalImplicit), ("max", .globalImplicit), ("len", .globalImplicit), ("CasFail", .globalImplicit)] k _ _ m [("more", .val (.int (2 : Nat))), ("t", .val (dT t)), ("letter", .val dLt), ("end", .val (.int e))] (dL r) from let ⟨m, hw⟩ := hh; sr_while hw
  have hlev := lev_ge t
  refine hgo _ _ (fun more hm => ?_) (fun more u hm hm2 hz hu hk hge => ?_) (fun more u hm hm2 hz hu hk hge => ?_)
  · exact te_eq (te_cmp (ev_name rfl) (ev_global rfl H.MM) (cmp_le _ _)) (by simp; omega)
  · have hk := okL_lt hk
    have iht := of_term_at (k := k) H (by omega) hu (j := (if 1 > e then 1 else e) + (more : Int)) (by split <;> omega)
    exact (xr_ret (sr_try (xr_next (sn_assign (.inl rfl) (ev_call rfl (ar_cons (ev_name rfl) (ar_cons (ev_bin (ev_callb rfl (H.no "max" (by decide)) rfl (ea_cons (ev_name rfl) (ea_cons (ev_int _) ea_nil)) (cb_max _ _)) (ev_name rfl) (bin_add _ _)) (ar_cons (ev_name rfl) ar_nil))) (iht.up (by first | omega | exact Nat.le_refl _)))) (xr_ret (sr_if_t (te_eq (b := true) (te_cmp (ev_bin (ev_item (ev_name rfl) rfl (ev_int _) (by decide) (by decide) rfl) (ev_callb rfl (H.no "len" (by decide)) rfl (ea_cons (ev_item (ev_name rfl) rfl (ev_int _) (by decide) (by decide) rfl) ea_nil) (cb_len_list _ (by first | assumption | omega | decide | (simp; done) | (simp; omega)))) (bin_add _ _)) (ev_name rfl) (cmp_ge _ _)) (by first | rfl | assumption | decide | (simp [*]; done) | (simp; omega))) (xr_ret (sr_return (ev_name rfl))))))))
  · have hk := okL_lt hk
    have iht := of_term_at (k := k) H (by omega) hu (j := (if 1 > e then 1 else e) + (more : Int)) (by split <;> omega)
    have em : ((more * 2 : Nat) : Int) = (more : Int) * 2 := by omega
    have hb : ((more : Nat) : Int).natAbs < 2 ^ 64 := by omega
    rw [em]
    exact ⟨_, (xs_next (sn_try (xs_next (sn_assign (.inl rfl) (ev_call rfl (ar_cons (ev_name rfl) (ar_cons (ev_bin (ev_callb rfl (H.no "max" (by decide)) rfl (ea_cons (ev_name rfl) (ea_cons (ev_int _) ea_nil)) (cb_max _ _)) (ev_name rfl) (bin_add _ _)) (ar_cons (ev_name rfl) ar_nil))) (iht.up (by first | omega | exact Nat.le_refl _)))) (xs_next (sn_if_f (te_eq (b := false) (te_cmp (ev_bin (ev_item (ev_name rfl) rfl (ev_int _) (by decide) (by decide) rfl) (ev_callb rfl (H.no "len" (by decide)) rfl (ea_cons (ev_item (ev_name rfl) rfl (ev_int _) (by decide) (by decide) rfl) ea_nil) (cb_len_list _ (by first | assumption | omega | decide | (simp; done) | (simp; omega)))) (bin_add _ _)) (ev_name rfl) (cmp_ge _ _)) (by first | rfl | assumption | decide | (simp [*]; done) | (simp; omega))) xs_nil) xs_nil))) (xs_next (sn_assign (.inl rfl) (ev_bin (ev_name rfl) (ev_int _) (bin_mul _ _ (by first | assumption | omega | decide | (simp; done) | (simp; omega))))) xs_nil)), by repeat (first | exact sub_nil | refine sub_cons rfl ?_)⟩
theorem series_of_ok {cx : Cx} (H : Mods cx) {k : Int} {t : Tm} {e : Nat} {r : List Q} (h : series? t e = some r) {j : Int} (hj : j = (e : Int)) : CallTo cx (lev t + 2) (Str.ofString "series_of") [.val (dT t), .val (.str "x"), .val (.tuple [.int 0, .int 1]), .val (.int j)] k (dS r) k := by
  subst hj
  unfold series? at h
  obtain ⟨u, hu, h⟩ := Option.bind_eq_some_iff.mp h
  have hlev := lev_ge t
  refine mod4 (x1 := "t") (x2 := "name") (x3 := "at") (x4 := "order") (sc := [("t", .local), ("name", .local), ("at", .local), ("order", .local), ("found", .local), ("lcut", .globalImplicit), ("laurent_of", .globalImplicit), ("R1", .globalImplicit), ("CasFail", .globalImplicit)]) H (by decide) rfl rfl (fun _ _ _ _ _ _ _ _ _ _ _ _ => rfl) ⟨rfl, rfl, rfl⟩ (.inl rfl) (.inl rfl) (.inl rfl) (.inl rfl) (by decide) ?_
  exact (xr_next (sn_assign (.inl rfl) (ev_call rfl (ar_cons (ev_call rfl (ar_cons (ev_name rfl) (ar_cons (ev_tuple (ea_cons (ev_name rfl) (ea_cons (ev_tuple (ea_cons (ev_int _) (ea_cons (ev_own (eo_list (ea_cons (ev_name rfl) (ea_cons (ev_global rfl H.R1) ea_nil)) (by first | decide | (simp; done)))) ea_nil)) (by first | decide | (simp; done))) ea_nil)) (by first | decide | (simp; done))) (ar_cons (ev_name rfl) ar_nil))) ((laurent_of_ok H hu).up (by first | decide | omega | (simp [lev, inner, poly]; done)))) (ar_cons (ev_name rfl) ar_nil)) ((lcut_ok H h rfl).up (by first | decide | omega | (simp [lev, inner, poly]; done))))) (xr_next (sn_if_f (te_eq (b := false) (te_cmp (ev_name rfl) ev_none (cmp_is_none _)) (by first | rfl | assumption | decide | (simp [*]; done) | (simp; omega))) xs_nil) (xr_ret (sr_return (ev_name rfl)))))
end Mine
set_option maxRecDepth 4000
namespace Mine
open PySem PySem.W PyProof.Rows PySem.Calls PySem.Spec
section
variable {cx : Cx} {n : Nat} {sc : Nms} {Γ Γ' : Gam} {k k' k₁ k₂ : Int}
/-- the names of a comprehension have turned -/
theorem touch_junk {g : Heap} {A : Around} {env : Env} {N N' : Ledg} {s s' : Shared} {C : Addr} {h' : Heap} {tk : Nat} {m : Str → Option Value} (p₀ : Pt cx g A env Γ k N s) (p : Pt cx g A env Γ' k' N' s') (S : StepL cx g N s N' s')
    (h0 : s.heap.get? C = none) (hn : s'.heap.Ns C m) (hs : Heap.SameBut C s'.heap h') : StepL cx g N s N' { s' with heap := h', toks := tk } ∧ Pt cx g A env Γ' k' N' { s' with heap := h', toks := tk } := by
  obtain ⟨oC, es, ep, eC, dC, _⟩ := hn
  have hk : ∀ b o, b ≠ C → s'.heap.get? b = some o → h'.get? b = some o := fun b o hb e => hs.extBut b o hb e
  have hX : C ∉ cx.X := p₀.toWd.fresh_notX h0
  have hg : g.get? C = none := by
    cases e : g.get? C with
    | none => rfl
    | some o => obtain ⟨o', e'⟩ := p₀.old C o hX e; rw [h0] at e'; cases e'
  have hB : cx.base.get? C = none := by
    cases e : cx.base.get? C with
    | none => rfl
    | some o => have := p₀.stays _ _ e; rw [h0] at this; cases this
  have hN : ∀ q ∈ N', q.1 ≠ C := fun q hq e => by
    obtain ⟨e1, e2, _⟩ := p.led q hq
    rw [e, eC] at e1; cases e1; exact e2.nd _ _ dC
  have st : cx.base.StaysIn h' := fun b o e => hk b o (fun q => by rw [q, hB] at e; cases e) (p.stays b o e)
  have neL : env.locals ≠ C := fun q => by
    obtain ⟨m₀, ⟨o₀, _, _, e₀, _⟩⟩ := p₀.hasNs
    rw [q, h0] at e₀; cases e₀
  obtain ⟨mm, hns⟩ := p.hasNs
  have hns' : h'.Ns env.locals mm := hns.at' fun o e => hk _ _ neL e
  have cellk : ∀ {c : Addr} {u : Option Value}, s'.heap.IsCell c u → h'.IsCell c u := fun ⟨o, e, hd⟩ => ⟨o, hk _ o (fun z => by rw [z, eC] at e; cases e; rw [dC] at hd; cases hd) e, hd⟩
  have fwd : ∀ {y : Str} {u : Value}, Holds cx g env s'.heap y u → Holds cx g env h' y u := fun H => by
    cases H with
    | loc hk' hn' hv' => exact .loc hk' hns' (by rw [← hn'.agree hns]; exact hv')
    | cell hk' hc hX hg hv' => exact .cell hk' hc hX hg (cellk hv')
  have bwd : ∀ {y : Str} {u : Value} {sl : Sl}, Γ'.lookup y = some sl → Holds cx g env h' y u → Holds cx g env s'.heap y u := fun hy H => by
    obtain ⟨w, Hw, _⟩ := p.see _ _ hy
    have := holds_unique H (fwd Hw)
    exact this ▸ Hw
  refine ⟨{ kp := fun b o hb e => ?_, flds := fun b o vs hb e hd => hk b o (fun q => by rw [q, h0] at e; cases e) (S.flds b o vs hb e hd), stays := st, xs := fun a ha he => ?_, gens := S.gens, os := S.os, sub := S.sub, new := S.new }, 
    { ok := p.ok, stays := st, xs := fun b hb => ?_, led := fun q hq => ⟨hk _ _ (hN q hq) (p.led q hq).1, (p.led q hq).2⟩, led₀ := p.led₀, lin := p.lin, box := ?_, frs := ?_,
      hasNs := ⟨mm, hns'⟩, locX := p.locX, locB := p.locB, locG := p.locG, old := fun b o hb e => ?_, cells := fun y hy => ?_, see := fun y sl hy => ?_, one := fun y z vy vz ly lz hy hz Hy Hz hne => p.one y z _ _ _ _ hy hz (bwd hy Hy) (bwd hz Hz) hne }⟩
  · obtain ⟨sl, e1, f⟩ := S.kp b o hb e
    exact ⟨sl, hk b _ (fun q => by obtain ⟨_, o', e'⟩ := hb; rw [q, hg] at e'; cases e') e1, f⟩
  · obtain ⟨o, e⟩ := S.xs a ha he
    exact ⟨o, hk a o (fun q => hX (q ▸ ha)) e⟩
  · obtain ⟨o, e⟩ := p.xs b hb
    exact ⟨o, hk b o (fun q => hX (q ▸ hb)) e⟩
  · refine p.box.touch (T := [C]) (fun b o hb e => hk b o (fun q => hb (q ▸ .head _)) e) (fun h => ?_) (fun h => ?_)
    · rcases List.mem_cons.mp h with h | h
      · exact hX (h ▸ p.ok.bAX)
      · cases h
    · rcases List.mem_cons.mp h with h | h
      · obtain ⟨o, ho⟩ := p.lin
        exact hN _ ho h
      · cases h
  · obtain ⟨frs, h1, h2, h3⟩ := p.frs
    obtain ⟨frs₀, h1₀, _, h3₀⟩ := p₀.frs
    rw [h1] at h1₀; cases h1₀
    have ne : ∀ e ∈ frs, ∀ a, e.frame = some a → a ≠ C := fun e he a ha q => by
      obtain ⟨_, o, _, _, e1, _⟩ := h3₀ e he a ha
      rw [q, h0] at e1; cases e1
    refine ⟨frs, h1, FunFrames.kpP (P := fun a => a ≠ C) (.of_keeps fun b o hb e => hk b o hb e) ne h2, fun e he b hb => ⟨(h3 e he b hb).1, ?_⟩⟩
    obtain ⟨o, es, m, e1, e2⟩ := (h3 e he b hb).2
    exact ⟨o, es, m, hk b o (ne e he b hb) e1, e2⟩
  · obtain ⟨o', e'⟩ := p.old b o hb e
    exact ⟨o', hk b o' (fun z => by rw [z, hg] at e; cases e) e'⟩
  · obtain ⟨c, u, h1, h2, h3, h4, h5⟩ := p.cells y hy
    exact ⟨c, u, h1, h2, h3, h4, cellk h5⟩
  · obtain ⟨v, H, Hs⟩ := p.see y sl hy
    refine ⟨v, fwd H, ?_⟩
    cases Hs with
    | val h => exact .val h
    | @own a vs c l e d f hX' l' hB' => exact .own (hk _ _ (fun q => by rw [q, eC] at e; cases e; cases dC) e) d f hX' l' hB'
    | box => exact .box

theorem sn_assign_comp {elt iter : Expr} {x y : Str} {px py pos pos₂ : Pos} {scope : Scope} {items outs : List Dat} {Γc : Gam} (hk : scope.kind = .function) (hC : CompSc sc scope.names x Γ Γc)
    (hi : IterTo cx n sc Γ k iter items k₁) (hlen : outs.length = items.length) (hz : items.length ≤ 10000)
    (he : ∀ (i : Nat) (d o : Dat), items[i]? = some d → outs[i]? = some o → EvalTo cx n (compNames scope.names sc) ((x, .val d) :: Γc) k₁ elt o k₁)
    (hy : sc.lookup y = some .local) (hsw : ∀ env, EnvOk sc env → swapsWith (.ListComp elt [⟨.Name x px, iter, [], 0⟩] scope pos) (some (.Name y py)) pos₂.line env = pure true)
    (hfs : ∀ env x, foldedSetIterable iter env x = pure x := by intro _ _; rfl) : ExecN cx n sc Γ k (.Assign [.Name y py] (.ListComp elt [⟨.Name x px, iter, [], 0⟩] scope pos) pos₂) ((y, .own outs) :: Γ) k₁ := by
  refine ⟨fun g A env N s hA hE p Q hQ => ?_⟩
  rw [exec_Assign_Name_used _ _ _ _ (hsw env hE)]
  refine wpAny_bind (wpAny_standAt (wpAny_bind ?_))
  unfold evalThenUse
  refine wpAny_bind (wpAny_mono (comp_core (use := some (assign (.Name y py) env)) (Qc := fun _ s' => Q .next s') hk hC hi hlen hz he hfs hA hE p fun D C N' vs c m s₃ S1 P1 hDh hd' hDn hDs hCs hDC hns r => ?_) (fun _ s' h => wpAny_pure (wpAny_pure h)) fun _ _ q => q)
  have hsl := own_sl (N₁ := N') (s₁ := s₃) p hDs hDh hd' hDn
  show wpAny _ A (assign (.Name y py) env (.ref D)) _ _ _
  refine wpAny_assign_Name (store_pt' hE P1 (.inl hy) hsl (fun l _ z vz lz hzy hz Hz q => ?_) fun s₅ S₅ P₅ _ _ ⟨a', ha', hsb'⟩ => ?_)
  · obtain ⟨u, Hu, Su⟩ := p.see z _ hz
    have := holds_unique Hz (Hu.kp S1.kp p.locX)
    subst this
    cases Su with
    | own e' _ _ _ _ _ => injection q with q; rw [q, hDs] at e'; cases e'
  · have hCa : C ≠ a' := by
      rcases ha' with rfl | ⟨hkc, _⟩
      · intro q
        obtain ⟨m₀, ⟨o₀, _, _, e₀, _⟩⟩ := p.hasNs
        rw [← q, hCs] at e₀; cases e₀
      · rw [kindOf_of hE hy] at hkc; cases hkc
    have hns5 : s₅.heap.Ns C m := hns.sameBut hsb' hCa
    refine ⟨m, hns5, fun h₆ hs₆ => ?_⟩
    obtain ⟨S₆, P₆⟩ := touch_junk (tk := s₅.toks) p P₅ ((S1.toL p).trans S₅) hCs hns5 hs₆
    exact hQ N' _ S₆ P₆
end
end Mine
set_option linter.unusedSimpArgs false
set_option maxRecDepth 10000
namespace Mine
open PySem PySem.W PyProof.Rows PySem.Calls PySem.Spec




theorem sn_assign_mapO {cx : Cx} {n : Nat} {sc : Nms} {Γ : Gam} {k k₁ : Int} {α β : Type} {f : α → Option β} {l : List α} {r : List β} (h : mapO f l = some r) (da : α → Dat) (db : β → Dat) {elt iter : Expr} {x y : Str} {px py pos pos₂ : Pos} {scope : Scope} {Γc : Gam} (hk : scope.kind = .function) (hC : CompSc sc scope.names x Γ Γc)
    (hi : IterTo cx n sc Γ k iter (l.map da) k₁) (hz : l.length ≤ 10000)
    (he : ∀ (i : Nat) (a : α) (b : β), l[i]? = some a → f a = some b → EvalTo cx n (compNames scope.names sc) ((x, .val (da a)) :: Γc) k₁ elt (db b) k₁)
    (hy : sc.lookup y = some .local) (hsw : ∀ env, EnvOk sc env → swapsWith (.ListComp elt [⟨.Name x px, iter, [], 0⟩] scope pos) (some (.Name y py)) pos₂.line env = pure true)
    (hfs : ∀ env x, foldedSetIterable iter env x = pure x := by intro _ _; rfl) : ExecN cx n sc Γ k (.Assign [.Name y py] (.ListComp elt [⟨.Name x px, iter, [], 0⟩] scope pos) pos₂) ((y, .own (r.map db)) :: Γ) k₁ := by
  obtain ⟨h1, h2⟩ := mapO_at h
  refine sn_assign_comp hk hC hi (by simp [h1]) (by simpa using hz) (fun i d o hd ho => ?_) hy hsw hfs
  rw [List.getElem?_map] at hd ho
  obtain ⟨a, ha, rfl⟩ := Option.map_eq_some_iff.mp hd
  obtain ⟨b, hb, rfl⟩ := Option.map_eq_some_iff.mp ho
  obtain ⟨y, hy, hf⟩ := h2 i a ha
  rw [hb] at hy; cases hy
  exact he i a b ha hf
theorem swaps_name {sc : Nms} {elt : Expr} {gens : List Comprehension} {scope : Scope} {pos : Pos} {y : Str} {py : Pos} {l : Nat} (hy : sc.lookup y = some .local) (hl : (py.line == pos.line) = true) (hn : (scope.names.any fun x => x.1 == y && (x.2 == .local || x.2 == .cell)) = false) :
    ∀ env, EnvOk sc env → swapsWith (.ListComp elt gens scope pos) (some (.Name y py)) l env = pure true := by
  intro env hE
  have e1 := kindOf_of hE hy
  have e3 : env.blockKind = .function := by unfold Env.blockKind; rw [hE.kind]; rfl
  unfold swapsWith
  simp only [e1, e3]
  show pure _ = _
  have hl' : (py.line == (Expr.ListComp elt gens scope pos).pos.line) = true := hl
  rw [hl', hn]
  rfl
theorem law_calls_right_ok {cx : Cx} (H : Mods cx) {k : Int} {kn : Nat} (hk : k = (kn : Int)) (hk2 : kn ≤ 50) (h : callsRight? ((drawV cx.ns kn 3 : Nat) : Int) ((drawV cx.ns (kn + 1) 3 : Nat) : Int) = some true) : CallTo cx 18 (Str.ofString "_law_calls_right") [.box] k (.bool true) (k + 1 + 1) := by
  generalize ha : ((drawV cx.ns kn 3 : Nat) : Int) = a at h
  generalize hb : ((drawV cx.ns (kn + 1) 3 : Nat) : Int) = b at h
  have hab : a.natAbs < 100 ∧ b.natAbs < 100 := by
    subst ha hb
    unfold drawV
    constructor <;> (split <;> omega)
  unfold callsRight? at h
  dsimp only at h
  obtain ⟨tg, htg, h⟩ := Option.bind_eq_some_iff.mp h
  obtain ⟨sc, hsc, h⟩ := Option.bind_eq_some_iff.mp h
  obtain ⟨tc, htc, h⟩ := Option.bind_eq_some_iff.mp h
  split at h
  · cases h
  rename_i hc1
  have hc1 : (!(tc == sc.1)) = false := by simpa using hc1
  obtain ⟨arc, harc, h⟩ := Option.bind_eq_some_iff.mp h
  obtain ⟨sq, hsq, h⟩ := Option.bind_eq_some_iff.mp h
  obtain ⟨c0, hc0, h⟩ := Option.bind_eq_some_iff.mp h
  obtain ⟨c1, _, h⟩ := Option.bind_eq_some_iff.mp h
  obtain ⟨c2, _, h⟩ := Option.bind_eq_some_iff.mp h
  obtain ⟨c3, _, h⟩ := Option.bind_eq_some_iff.mp h
  obtain ⟨sl, hsl, h⟩ := Option.bind_eq_some_iff.mp h
  split at h
  · cases h
  rename_i hc2
  have hc2 : ((c0.1 == 0 && c0.2 == 1) = true) ∧ okL sq = true := by simpa using hc2
  obtain ⟨hc2, hlsq⟩ := hc2
  have hlsq := okL_lt hlsq
  obtain ⟨hc2a, hc2b⟩ : c0.1 = 0 ∧ c0.2 = 1 := by simpa using hc2
  obtain ⟨lt, hlt, h⟩ := Option.bind_eq_some_iff.mp h
  split at h
  · cases h
  rename_i hc3
  have hc3 : (!(lt == [(1 + a, 1), (2 * (b - 1), 1), (0, 1)])) = false := by simpa using hc3
  obtain ⟨rt, hrt, h⟩ := Option.bind_eq_some_iff.mp h
  obtain ⟨rr, hrr, h⟩ := Option.bind_eq_some_iff.mp h
  split at h
  · cases h
  rename_i hc4
  have hc4 : (rr == [(1, 1), (1 + a, 1), (b - 1, 1)]) = true := by simpa using hc4
  obtain ⟨x0, hx0, h⟩ := Option.bind_eq_some_iff.mp h
  split at h
  case isFalse => cases h
  rename_i hc5
  obtain ⟨hc5a, hc5b⟩ : x0.1 = 1 ∧ x0.2 = 1 := by simpa using hc5
  have t1 := law_take_ok (k := k) H hk (by omega) (m := 3) (by decide) (by decide) (j := 3) rfl
  have t2 := law_take_ok (k := k + 1) H (kn := kn + 1) (by omega) (by omega) (m := 3) (by decide) (by decide) (j := 3) rfl
  rw [ha] at t1
  rw [hb] at t2
  refine mod1 (x1 := "box") (sc := [("box", .local), ("numbers", .local), ("square", .local), ("inner", .local), ("tangent", .local), ("arc", .cell), ("squared", .local), ("slopes", .local), ("root", .local), ("_law_take", .globalImplicit), ("_law_x", .globalImplicit), ("series_of", .globalImplicit), ("_law_times", .globalImplicit), ("scos", .globalImplicit), ("ssin", .globalImplicit), ("_law_poly", .globalImplicit)]) H (by decide) rfl rfl (fun _ _ _ _ _ _ _ _ _ => rfl) ⟨rfl, rfl, rfl⟩ (.inl rfl) ?_
  refine (xr_next (sn_assign (.inl rfl) (ev_own (eo_list (ea_cons (ev_tuple (ea_cons (ev_int _) (ea_cons (ev_int _) ea_nil)) (by first | decide | (simp; done))) (ea_cons (ev_tuple (ea_cons (ev_bin (ev_int _) (ev_call rfl (ar_box rfl (ar_cons (ev_int _) ar_nil)) (t1.up (by first | omega | exact Nat.le_refl _))) (bin_add _ _)) (ea_cons (ev_int _) ea_nil)) (by first | decide | (simp; done))) (ea_cons (ev_tuple (ea_cons (ev_bin (ev_call rfl (ar_box rfl (ar_cons (ev_int _) ar_nil)) (t2.up (by first | omega | exact Nat.le_refl _))) (ev_int _) (bin_sub _ _)) (ea_cons (ev_int _) ea_nil)) (by first | decide | (simp; done))) (ea_cons (ev_tuple (ea_cons (ev_int _) (ea_cons (ev_int _) ea_nil)) (by first | decide | (simp; done))) ea_nil)))) (by first | decide | (simp; done))))) (xr_next (sn_assign (.inl rfl) (ev_tuple (ea_cons (ev_str _) (ea_cons (ev_tuple (ea_cons (ev_tuple (ea_cons (ev_str _) (ea_cons (ev_item (ev_item (ev_name rfl) rfl (ev_int _) (by decide) (by decide) rfl) rfl (ev_int _) (by decide) (by decide) rfl) (ea_cons (ev_int _) ea_nil))) (by first | decide | (simp; done))) (ea_cons (ev_tuple (ea_cons (ev_str _) (ea_cons (ev_global rfl H.X) (ea_cons (ev_tuple (ea_cons (ev_str _) (ea_cons (ev_int _) (ea_cons (ev_int _) ea_nil))) (by first | decide | (simp; done))) ea_nil))) (by first | decide | (simp; done))) ea_nil)) (by first | decide | (simp; done))) ea_nil)) (by first | decide | (simp; done)))) (xr_next (sn_assign (.inl rfl) (ev_tuple (ea_cons (ev_str _) (ea_cons (ev_tuple (ea_cons (ev_tuple (ea_cons (ev_str _) (ea_cons (ev_tuple (ea_cons (ev_tuple (ea_cons (ev_str _) (ea_cons (ev_item (ev_item (ev_name rfl) rfl (ev_int _) (by decide) (by decide) rfl) rfl (ev_int _) (by decide) (by decide) rfl) (ea_cons (ev_int _) ea_nil))) (by first | decide | (simp; done))) (ea_cons (ev_global rfl H.X) ea_nil)) (by first | decide | (simp; done))) ea_nil)) (by first | decide | (simp; done))) (ea_cons (ev_name rfl) ea_nil)) (by first | decide | (simp; done))) ea_nil)) (by first | decide | (simp; done)))) ?_)))
  have t3 : CallTo cx 2 (Str.ofString "_law_times") [.val (dS sl), .val (.list ([.tuple [.int 1, .int 1]] ++ (sq.map dQ).drop (1 : Int).toNat)), .val (.int 3)] (k + 1 + 1) (dS lt) (k + 1 + 1) := by
    rw [show Dat.list ([.tuple [.int 1, .int 1]] ++ (sq.map dQ).drop (1 : Int).toNat) = dS ((1, 1) :: sq.drop 1) from by simp [← List.map_drop]]
    exact law_times_ok H hlt rfl
  refine (xr_next (sn_assign (.inl rfl) (ev_call rfl (ar_cons (ev_tuple (ea_cons (ev_str _) (ea_cons (ev_str _) (ea_cons (ev_tuple (ea_cons (ev_name rfl) ea_nil) (by first | decide | (simp; done))) ea_nil))) (by first | decide | (simp; done))) (ar_cons (ev_str _) (ar_cons (ev_tuple (ea_cons (ev_int _) (ea_cons (ev_int _) ea_nil)) (by first | decide | (simp; done))) (ar_cons (ev_int _) ar_nil)))) ((series_of_ok H htg rfl).up (by first | decide | omega | (simp [lev, inner, poly]; done))))) (xr_next (sn_if_f (te_eq (b := false) (te_cmp (ev_call rfl (ar_cons (ev_name rfl) (ar_cons (ev_call rfl (ar_cons (ev_name rfl) ar_nil) ((scos_ok H hsc).up (by first | decide | omega | (simp [lev, inner, poly]; done)))) (ar_cons (ev_int _) ar_nil))) ((law_times_ok H htc rfl).up (by first | decide | omega | (simp [lev, inner, poly]; done)))) (ev_call rfl (ar_cons (ev_name rfl) ar_nil) ((ssin_ok H hsc).up (by first | decide | omega | (simp [lev, inner, poly]; done)))) (cmp_ne_s tc sc.1 rfl rfl)) (by first | rfl | (simp [kqdP, kqdPs, PyData.eqv, PyData.eqvAll, *]; done) | assumption | decide | (simp [*]; done) | (simp; omega))) xs_nil) (xr_next (sn_assign (.inr rfl) (ev_call rfl (ar_cons (ev_tuple (ea_cons (ev_str _) (ea_cons (ev_str _) (ea_cons (ev_tuple (ea_cons (ev_name rfl) ea_nil) (by first | decide | (simp; done))) ea_nil))) (by first | decide | (simp; done))) (ar_cons (ev_str _) (ar_cons (ev_tuple (ea_cons (ev_int _) (ea_cons (ev_int _) ea_nil)) (by first | decide | (simp; done))) (ar_cons (ev_int _) ar_nil)))) ((series_of_ok H harc rfl).up (by first | decide | omega | (simp [lev, inner, poly]; done))))) (xr_next (sn_assign (.inl rfl) (ev_call rfl (ar_cons (ev_name rfl) (ar_cons (ev_name rfl) (ar_cons (ev_int _) ar_nil))) ((law_times_ok H hsq rfl).up (by first | decide | omega | (simp [lev, inner, poly]; done))))) ?_))))
  refine xr_next (sn_assign_mapO hsl Dat.int dQ rfl (compSc_of rfl) (it_seq (ev_tuple (ea_cons (ev_int _) (ea_cons (ev_int _) (ea_cons (ev_int _) ea_nil))) (by first | decide | (simp; done))) rfl (by first | assumption | omega | decide | (simp; done) | (simp; omega))) (by decide) ?_ rfl (swaps_name rfl rfl rfl)) ?_
  · intro i j q hj hq
    have hj' : 0 < j ∧ j < 4 := by
      have := List.mem_of_getElem? hj
      simp at this; omega
    obtain ⟨c, hx, hq⟩ := Option.bind_eq_some_iff.mp hq
    have hx : (arc.map dQ)[j.toNat]? = some (dQ c) := by simp [hx]
    exact (ev_call rfl (ar_cons (ev_bin (ev_name rfl) (ev_item (ev_item (ev_name rfl) rfl (ev_name rfl) (by first | assumption | omega | decide | (simp; done) | (simp; omega)) (by first | assumption | omega | decide | (simp; done) | (simp; omega)) (by first | rfl | exact hx | exact at_q hx (by omega) | exact at_q hy (by omega) | exact at_q hx (by simp) | exact at_q hy (by simp; omega))) rfl (ev_int _) (by decide) (by decide) rfl) (bin_mul _ _ (by first | assumption | omega | decide | (simp; done) | (simp; omega)))) (ar_cons (ev_item (ev_item (ev_name rfl) rfl (ev_name rfl) (by first | assumption | omega | decide | (simp; done) | (simp; omega)) (by first | assumption | omega | decide | (simp; done) | (simp; omega)) (by first | rfl | exact hx | exact at_q hx (by omega) | exact at_q hy (by omega) | exact at_q hx (by simp) | exact at_q hy (by simp; omega))) rfl (ev_int _) (by decide) (by decide) rfl) ar_nil)) ((law_low_ok H hq).up (by first | decide | omega | (simp [lev, inner, poly]; done))))
  refine xr_freeze (x := "slopes") rfl ?_
  have hx := hc0
  refine (xr_next (sn_if_f (te_eq (b := false) (te_cmp (ev_item (ev_name rfl) rfl (ev_int _) (by first | assumption | omega | decide | (simp; done) | (simp; omega)) (by first | assumption | omega | decide | (simp; done) | (simp; omega)) (by first | rfl | exact hx | exact at_q hx (by omega) | exact at_q hy (by omega) | exact at_q hx (by simp) | exact at_q hy (by simp; omega))) (ev_tuple (ea_cons (ev_int _) (ea_cons (ev_int _) ea_nil)) (by first | decide | (simp; done))) (cmp_ne_dat _ _ (by first | rfl | decide +kernel) (by first | rfl | decide +kernel))) (by first | rfl | (simp [kqdP, kqdPs, PyData.eqv, PyData.eqvAll, *]; done) | assumption | decide | (simp [*]; done) | (simp; omega))) xs_nil) (xr_next (sn_if_f (te_eq (b := false) (te_cmp (ev_call rfl (ar_cons (ev_name rfl) (ar_cons (ev_own (eo_add (ev_own (eo_list (ea_cons (ev_tuple (ea_cons (ev_int _) (ea_cons (ev_int _) ea_nil)) (by first | decide | (simp; done))) ea_nil) (by first | decide | (simp; done)))) (ev_own (eo_slice_from (ev_name rfl) (ev_int _) (by first | assumption | omega | decide | (simp; done) | (simp; omega)) (by first | assumption | omega | decide | (simp; done) | (simp; omega)))) (by first | assumption | omega | decide | (simp; done) | (simp; omega)))) (ar_cons (ev_int _) ar_nil))) (t3.up (by first | omega | exact Nat.le_refl _))) (ev_own (eo_list (ea_cons (ev_item (ev_name rfl) rfl (ev_int _) (by first | assumption | omega | decide | (simp; done) | (simp; omega)) (by first | assumption | omega | decide | (simp; done) | (simp; omega)) (by first | rfl | exact hx | exact at_q hx (by omega) | exact at_q hy (by omega) | exact at_q hx (by simp) | exact at_q hy (by simp; omega))) (ea_cons (ev_tuple (ea_cons (ev_bin (ev_int _) (ev_item (ev_item (ev_name rfl) rfl (ev_int _) (by first | assumption | omega | decide | (simp; done) | (simp; omega)) (by first | assumption | omega | decide | (simp; done) | (simp; omega)) (by first | rfl | exact hx | exact at_q hx (by omega) | exact at_q hy (by omega) | exact at_q hx (by simp) | exact at_q hy (by simp; omega))) rfl (ev_int _) (by decide) (by decide) rfl) (bin_mul _ _ (by first | assumption | omega | decide | (simp; done) | (simp; omega)))) (ea_cons (ev_int _) ea_nil)) (by first | decide | (simp; done))) (ea_cons (ev_tuple (ea_cons (ev_int _) (ea_cons (ev_int _) ea_nil)) (by first | decide | (simp; done))) ea_nil))) (by first | decide | (simp; done)))) (cmp_ne_s lt [(1 + a, 1), (2 * (b - 1), 1), (0, 1)] rfl rfl)) (by first | rfl | (simp [kqdP, kqdPs, PyData.eqv, PyData.eqvAll, *]; done) | assumption | decide | (simp [*]; done) | (simp; omega))) xs_nil) (xr_next (sn_assign (.inl rfl) (ev_call rfl (ar_cons (ev_tuple (ea_cons (ev_str _) (ea_cons (ev_str _) (ea_cons (ev_tuple (ea_cons (ev_call rfl (ar_cons (ev_tuple (ea_cons (ev_item (ev_item (ev_name rfl) rfl (ev_int _) (by first | assumption | omega | decide | (simp; done) | (simp; omega)) (by first | assumption | omega | decide | (simp; done) | (simp; omega)) (by first | rfl | exact hx | exact at_q hx (by omega) | exact at_q hy (by omega) | exact at_q hx (by simp) | exact at_q hy (by simp; omega))) rfl (ev_int _) (by decide) (by decide) rfl) (ea_cons (ev_item (ev_item (ev_name rfl) rfl (ev_int _) (by first | assumption | omega | decide | (simp; done) | (simp; omega)) (by first | assumption | omega | decide | (simp; done) | (simp; omega)) (by first | rfl | exact hx | exact at_q hx (by omega) | exact at_q hy (by omega) | exact at_q hx (by simp) | exact at_q hy (by simp; omega))) rfl (ev_int _) (by decide) (by decide) rfl) ea_nil)) (by first | decide | (simp; done))) ar_nil) ((law_poly_ok H _ _).up (by first | decide | omega | (simp [lev, inner, poly]; done)))) ea_nil) (by first | decide | (simp; done))) ea_nil))) (by first | decide | (simp; done))) (ar_cons (ev_str _) (ar_cons (ev_tuple (ea_cons (ev_int _) (ea_cons (ev_int _) ea_nil)) (by first | decide | (simp; done))) (ar_cons (ev_int _) ar_nil)))) ((series_of_ok H hrt rfl).up (by first | decide | omega | (simp [lev, inner, poly]; done))))) ?_)))
  have hx := hx0
  exact xr_eq (xr_ret (sr_return (ev_and_t (ev_eq (ev_cmp (ev_call rfl (ar_cons (ev_name rfl) (ar_cons (ev_name rfl) (ar_cons (ev_int _) ar_nil))) ((law_times_ok H hrr rfl).up (by first | decide | omega | (simp [lev, inner, poly]; done)))) (ev_own (eo_list (ea_cons (ev_tuple (ea_cons (ev_int _) (ea_cons (ev_int _) ea_nil)) (by first | decide | (simp; done))) (ea_cons (ev_item (ev_name rfl) rfl (ev_int _) (by first | assumption | omega | decide | (simp; done) | (simp; omega)) (by first | assumption | omega | decide | (simp; done) | (simp; omega)) (by first | rfl | exact hx | exact at_q hx (by omega) | exact at_q hy (by omega) | exact at_q hx (by simp) | exact at_q hy (by simp; omega))) (ea_cons (ev_item (ev_name rfl) rfl (ev_int _) (by first | assumption | omega | decide | (simp; done) | (simp; omega)) (by first | assumption | omega | decide | (simp; done) | (simp; omega)) (by first | rfl | exact hx | exact at_q hx (by omega) | exact at_q hy (by omega) | exact at_q hx (by simp) | exact at_q hy (by simp; omega))) ea_nil))) (by first | decide | (simp; done)))) (cmp_eq_s rr [(1, 1), (1 + a, 1), (b - 1, 1)] rfl rfl)) (by first | rfl | (simp [*]; done) | (simp [kqdP, kqdPs, PyData.eqv, PyData.eqvAll, *]; done))) (ev_and_one (ev_eq (d' := .bool true) (ev_cmp (ev_item (ev_name rfl) rfl (ev_int _) (by first | assumption | omega | decide | (simp; done) | (simp; omega)) (by first | assumption | omega | decide | (simp; done) | (simp; omega)) (by first | rfl | exact hx | exact at_q hx (by omega) | exact at_q hy (by omega) | exact at_q hx (by simp) | exact at_q hy (by simp; omega))) (ev_tuple (ea_cons (ev_int _) (ea_cons (ev_int _) ea_nil)) (by first | decide | (simp; done))) (cmp_eq_dat _ _ (by first | rfl | decide +kernel) (by first | rfl | decide +kernel))) (by first | rfl | (simp [*]; done) | (simp [kqdP, kqdPs, PyData.eqv, PyData.eqvAll, *]; done))))))) rfl
end Mine
set_option maxRecDepth 100000
namespace Mine
open PySem PySem.W PyProof.Rows PySem.Calls PySem.Spec

section
variable {prog : Program} {w : World} {A : Around} {E : Value → Shared → Prop} {h : Heap} {g : Array GenState} {d : Drawn} {t : Nat} {os : OsState}
variable {nm q : Str} {C N : Addr} {bs bm : List Value} {hdct : Bool} {sn : List Str} {sub : List Value} {ab : Bool} {col : Option Bool} {dd : Option Addr} {k0 k1 k2 k3 k5 : Option Value} {B newId initId : String}

theorem type_call_own (F : ExcBaseFacts B newId initId bm) {mN : Str → Option Value} {rest : List Value} {Q : Fin → Shared → Prop} {fI : Addr} {ofn : Obj}
    (hC : h.get? C = some (excClassObj nm q C N bs bm hdct sn sub ab col dd k0 k1 k2 k3 k5 newId)) (hn : h.Ns N mN) (hni : mN "__init__" = some (.ref fI)) (hf : h.get? fI = some ofn) (hfc : ofn.cls = .type "function")
    (hq : wpAny (model prog w) A (call (.ref fI) (.ref (h.objs.size + 1) :: rest)) (fun v s' => v = .none ∧ Q (.done (.ret (.ref (h.objs.size + 1)))) s') E
      ⟨(h.push { cls := .type "tuple", data := .seq rest.toArray }).push { cls := .ref C, data := .fields #[.ref h.objs.size, .none, .none, .none, .bool false, .none] }, g, d, t, os⟩) (hrest : rest.length ≤ sizeLine := by size_fits) :
    wpAny (model prog w) A (Builtin.«type.__call__» ⟨.ref C :: rest, []⟩) Q E ⟨h, g, d, t, os⟩ := by
  repeat (first | with_reducible refine wpAny_loadPart_at hC ?_ | with_reducible refine wpAny_madeBy_exc hC ?_ | wp_step)
  refine codeAny_call_builtin_code (Code.quiet_builtin _ F.quiet) (wpAny_check_new_sub F hC ?_)
  refine codeAny_exc_new_sub F hC ?_ hrest
  show wpAny _ _ _ _ _ _
  have hC₁ := Heap.get?_push_of_some { cls := .ref C, data := .fields #[.ref h.objs.size, .none, .none, .none, .bool false, .none] }
    (Heap.get?_push_of_some { cls := .type "tuple", data := .seq rest.toArray } hC)
  have hf₁ := Heap.get?_push_of_some { cls := .ref C, data := .fields #[.ref h.objs.size, .none, .none, .none, .bool false, .none] }
    (Heap.get?_push_of_some { cls := .type "tuple", data := .seq rest.toArray } hf)
  have hn₁ : ((h.push { cls := .type "tuple", data := .seq rest.toArray }).push { cls := .ref C, data := .fields #[.ref h.objs.size, .none, .none, .none, .bool false, .none] }).Ns N mN :=
    let ⟨o, es, ep, e, r⟩ := hn; ⟨o, es, ep, Heap.get?_push_of_some _ (Heap.get?_push_of_some _ e), r⟩
  have hget : ((h.push { cls := .type "tuple", data := .seq rest.toArray }).push
      { cls := .ref C, data := .fields #[.ref h.objs.size, .none, .none, .none, .bool false, .none] }).get? (h.objs.size + 1) = some
      { cls := .ref C, data := .fields #[.ref h.objs.size, .none, .none, .none, .bool false, .none] } := by heap_get
  have hcC : (Value.ref C :: bm).contains (.ref C) = true := by simp
  unfold isInstance
  repeat (first | with_reducible refine wpAny_loadPart_at hget ?_ | (with_reducible refine wpAny_isSubtype_exc hC₁ ?_; rw [hcC]) | wp_step)
  show wpAny _ _ (typeLookup (.ref C) _) _ _ _
  refine wpAny_typeLookup_exc hC₁ hn₁ F.mroIs F.init.lookup ?_
  rw [hni]
  refine wpAny_holding (wpAny_bind ?_)
  unfold bindSpecial
  refine wpAny_bind (wpAny_typeOf (T := "function") ⟨_, hf₁, hfc⟩ ?_)
  rw [if_pos (by decide)]
  refine wpAny_pure ?_
  show wpAny _ _ (call (.ref fI) ([Value.ref (h.objs.size + 1)] ++ rest) [] >>= _) _ _ _
  refine wpAny_bind (wpAny_mono hq (fun v s' hv => ?_) fun _ _ x => x)
  obtain ⟨rfl, hv⟩ := hv
  refine wpAny_pure ?_
  dsimp only
  rw [if_neg (by decide)]
  exact wpAny_pure hv
theorem call_own_exc (F : ExcBaseFacts B newId initId bm) {mN : Str → Option Value} {rest : List Value} {Q : Value → Shared → Prop} {fI : Addr} {ofn : Obj}
    (hC : h.get? C = some (excClassObj nm q C N bs bm hdct sn sub ab col dd k0 k1 k2 k3 k5 newId)) (hn : h.Ns N mN) (hni : mN "__init__" = some (.ref fI)) (hf : h.get? fI = some ofn) (hfc : ofn.cls = .type "function")
    (hq : wpAny (model prog w) (A.under (.builtin "type.__call__" ⟨.ref C :: rest, []⟩)) (call (.ref fI) (.ref (h.objs.size + 1) :: rest)) (fun v s' => v = .none ∧ Q (.ref (h.objs.size + 1)) s') E
      ⟨(h.push { cls := .type "tuple", data := .seq rest.toArray }).push { cls := .ref C, data := .fields #[.ref h.objs.size, .none, .none, .none, .bool false, .none] }, g, d, t, os⟩) (hrest : rest.length ≤ sizeLine := by size_fits) :
    wpAny (model prog w) A (call (.ref C) rest) Q E ⟨h, g, d, t, os⟩ := by
  have f1 := tc_lookup
  have f2 := tc_bind (.ref C)
  have hT : (⟨h, g, d, t, os⟩ : Shared).TypeIs (.ref C) "type" := ⟨_, hC, rfl⟩
  refine wpAny_call (codeAny_of_tree ?_)
  show wpAny _ _ (callAny (.ref C) _) _ _ _
  repeat (any_goals (first | assumption | with_reducible refine wpAny_loadPart_at hC ?_ | wp_step))
  refine ⟨rfl, ?_⟩
  refine codeAny_call_builtin_at (Code.quiet_builtin _ (by decide +kernel)) entry_typeCall (wpAny_check_type_call_sub hC ?_)
  exact type_call_own (hrest := hrest) F hC hn hni hf hfc hq

theorem init_call_exc (F : ExcBaseFacts B newId initId bm) {rest : List Value} {Q : Value → Shared → Prop} {e t0 : Addr} {oe : Obj} {vs : Array Value}
    (hC : h.get? C = some (excClassObj nm q C N bs bm hdct sn sub ab col dd k0 k1 k2 k3 k5 newId)) (he : h.get? e = some oe) (hcls : oe.cls = .ref C) (hd : oe.data = .fields vs) (h0 : vs[0]? = some (.ref t0))
    (hq : Q .none ⟨(h.push { cls := .type "tuple", data := .seq rest.toArray }).update e (Obj.mapFields (·.setIfInBounds 0 (.ref h.objs.size))), g, d, t, os⟩) (hrest : rest.length ≤ sizeLine := by size_fits) :
    wpAny (model prog w) A (call (.builtin initId) (.ref e :: rest)) Q E ⟨h, g, d, t, os⟩ := by
  refine wpAny_call (codeAny_call_builtin F.init.plain F.initEntry (wpAny_check_init_sub F hC he hcls ?_))
  unfold Builtin.«BaseException.__init__»
  dsimp only
  rw [if_neg (by simp)]
  unfold newTuple Builtin.BaseException.bexcPut
  have hsz : 0 < vs.size := (Array.getElem?_eq_some_iff.mp h0).1
  have he₁ := Heap.get?_push_of_some (h := h) { cls := .type "tuple", data := .seq rest.toArray } he
  refine wpAny_bind (wpAny_newObj_type (wpAny_bind (wpAny_bind (wpAny_field he₁ hd h0 (wpAny_bind (wpAny_setField he₁ hd hsz ?_))))) (by show rest.toArray.size ≤ sizeLine; rw [List.size_toArray]; exact hrest))
  exact wpAny_letGo (wpAny_pure hq)
theorem exc_init_of : findCls [] (.type "Exception") (.type "type") "__init__" = some (.val (.builtin "Exception.__init__")) := by kernel_rfl
theorem getMethod_excInit {pl : Sem Bool} {Q : Value × List Value → Shared → Prop} {s : Shared} {L : Addr} {m : Str → Option Value} (hn : s.heap.Ns L m) (h : Q (.builtin "Exception.__init__", []) { s with toks := s.toks + 1 }) :
    wpAny (model prog w) A (getMethod (.type "Exception") "__init__" pl) Q E s :=
  method_type (K := []) (h₀ := {}) (L := L) ⟨hn, fun b o e => by simp [Heap.get?] at e, Nat.zero_le _⟩ (fun a o e => by cases e) (by kernel_rfl) (by decide +kernel) exc_init_of (by decide +kernel) h
end
end Mine
set_option maxRecDepth 10000
namespace Mine
open PySem PySem.W PyProof.Rows PySem.Calls PySem.Spec

noncomputable def classBody : List Stmt → Str → List Stmt
  | [], _ => []
  | .ClassDef name _ _ body .. :: r, f => if name == f then body else classBody r f
  | _ :: r, f => classBody r f
noncomputable def initFn : Arguments × List Stmt × Scope := fdOf (classBody PySem.Challenge.pw_pf0052_01.main.body "CasFail") "__init__"
noncomputable def excBm : List Value := [.type "Exception", .type "BaseException", .type "object"]

structure Exc (cx : Cx) where
  C : Addr
  N : Addr
  fI : Addr
  nm : Str
  q : Str
  bs : List Value
  sn : List Str
  sub : List Value
  ab : Bool
  col : Option Bool
  dd : Option Addr
  k0 : Option Value
  k1 : Option Value
  k2 : Option Value
  k3 : Option Value
  k5 : Option Value
  mN : Str → Option Value
  obj : cx.base.get? C = some (excClassObj nm q C N bs excBm true sn sub ab col dd k0 k1 k2 k3 k5 "Exception.__new__")
  ns : cx.base.Ns N mN
  init : mN "__init__" = some (.ref fI)
  quiet : mN "__setattr__" = none ∧ mN "kind" = none ∧ mN "text" = none ∧ mN "__getattribute__" = none ∧ mN "__getattr__" = none
  bound : cx.mg "CasFail" = some (.ref C)
  noexc : cx.mg "Exception" = none
  fn : ∃ o name qual doc pm an cdv ct, cx.base.get? fI = some o ∧ o.cls = .type "function" ∧ o.data = .func (fnOf name qual initFn.1 initFn.2.1 initFn.2.2 .none .none doc pm an cdv ct) ∧ cx.base.CodeRec cdv qual

section
variable {cx : Cx} {n : Nat} {sc : Nms} {Γ Γ' : Gam} {k k' k₁ k₂ : Int}

/-- a record that no name holds has turned; new objects stand -/
theorem touch_flds {g : Heap} {A : Around} {env : Env} {N : Ledg} {s : Shared} {I : Addr} {h' : Heap} {tk : Nat} (p : Pt cx g A env Γ k N s)
    (hI : ∃ o vs, s.heap.get? I = some o ∧ o.data = .fields vs) (hI' : ∃ o, h'.get? I = some o) (hX : I ∉ cx.X) (hg : g.get? I = none) (hB : cx.base.get? I = none)
    (hk : ∀ b o, b ≠ I → s.heap.get? b = some o → h'.get? b = some o) : Pt cx g A env Γ k N { s with heap := h', toks := tk } := by
  obtain ⟨oI, vI, eI, dI⟩ := hI
  have hN : ∀ q ∈ N, q.1 ≠ I := fun q hq e => by
    obtain ⟨e1, ⟨xs, m, e2⟩, _⟩ := p.led q hq
    rw [e, eI] at e1; cases e1; rw [dI] at e2; cases e2
  have st : cx.base.StaysIn h' := fun b o e => hk b o (fun q => by rw [q, hB] at e; cases e) (p.stays b o e)
  obtain ⟨m, hns⟩ := p.hasNs
  obtain ⟨oL, es, ep, hL, hLd, hLr⟩ := id hns
  have neL : env.locals ≠ I := fun q => by rw [q, eI] at hL; cases hL; rw [dI] at hLd; cases hLd
  have hns' : h'.Ns env.locals m := hns.at' fun o e => hk _ _ neL e
  have cellk : ∀ {c : Addr} {u : Option Value}, s.heap.IsCell c u → h'.IsCell c u := fun ⟨o, e, hd⟩ => ⟨o, hk _ o (fun z => by rw [z, eI] at e; cases e; rw [dI] at hd; cases hd) e, hd⟩
  have fwd : ∀ {y : Str} {u : Value}, Holds cx g env s.heap y u → Holds cx g env h' y u := fun H => by
    cases H with
    | loc hk' hn' hv' => exact .loc hk' hns' (by rw [← hn'.agree hns]; exact hv')
    | cell hk' hc hX hg hv' => exact .cell hk' hc hX hg (cellk hv')
  have bwd : ∀ {y : Str} {u : Value} {sl : Sl}, Γ.lookup y = some sl → Holds cx g env h' y u → Holds cx g env s.heap y u := fun hy H => by
    obtain ⟨w, Hw, _⟩ := p.see _ _ hy
    have := holds_unique H (fwd Hw)
    exact this ▸ Hw
  refine { ok := p.ok, stays := st, xs := fun b hb => ?_, led := fun q hq => ⟨hk _ _ (hN q hq) (p.led q hq).1, (p.led q hq).2⟩, led₀ := p.led₀, lin := p.lin, box := ?_, frs := ?_,
           hasNs := ⟨m, hns'⟩, locX := p.locX, locB := p.locB, locG := p.locG, old := fun b o hb e => ?_, cells := fun y hy => ?_, see := fun y sl hy => ?_, one := fun y z vy vz ly lz hy hz Hy Hz hne => p.one y z _ _ _ _ hy hz (bwd hy Hy) (bwd hz Hz) hne }
  · obtain ⟨o, e⟩ := p.xs b hb
    exact ⟨o, hk b o (fun q => hX (q ▸ hb)) e⟩
  · refine p.box.touch (T := [I]) (fun b o hb e => hk b o (fun q => hb (q ▸ .head _)) e) (fun h => ?_) (fun h => ?_)
    · rcases List.mem_cons.mp h with h | h
      · exact hX (h ▸ p.ok.bAX)
      · cases h
    · rcases List.mem_cons.mp h with h | h
      · obtain ⟨o, ho⟩ := p.lin
        exact hN _ ho h
      · cases h
  · obtain ⟨frs, h1, h2, h3⟩ := p.frs
    refine ⟨frs, h1, h2.of_keeps fun b o e hd => ⟨o, hk b o (fun q => by rw [q, eI] at e; cases e; exact hd _ dI) e, rfl⟩, fun e he b hb => ⟨(h3 e he b hb).1, ?_⟩⟩
    obtain ⟨o, es, m, e1, e2⟩ := (h3 e he b hb).2
    exact ⟨o, es, m, hk b o (fun q => by rw [q, eI] at e1; cases e1; rw [dI] at e2; cases e2) e1, e2⟩
  · obtain ⟨o', e'⟩ := p.old b o hb e
    exact ⟨o', hk b o' (fun z => by rw [z, hg] at e; cases e) e'⟩
  · obtain ⟨c, u, h1, h2, h3, h4, h5⟩ := p.cells y hy
    exact ⟨c, u, h1, h2, h3, h4, cellk h5⟩
  · obtain ⟨v, H, Hs⟩ := p.see y sl hy
    refine ⟨v, fwd H, ?_⟩
    cases Hs with
    | val h => exact .val h
    | @own a vs c l e d f hX' l' hB' => exact .own (hk _ _ (fun q => by rw [q, eI] at e; cases e; cases dI) e) d f hX' l' hB'
    | box => exact .box

/-- the call of an __init__: self is a bare value -/
theorem call_core_raw {A : Around} {N : Ledg} {s : Shared} {v0 : Value} {vs : List Value} {as : List Sl} {x0 : Str} {xs : List Str} {params : Arguments} {body : List Stmt} {scope : Scope} {name qual : Str} {doc pm cdv ct : Value} {an : Option Addr} {a : Addr} {o : Obj}
    {Q E : Value → Shared → Prop} (g : Heap) (hg' : ∀ b o, g.get? b = some o → s.heap.get? b = some o) (hA : Room (n + 1) A) (p : Wd cx A k N s) (hv : AAll cx N vs as) (hg : cx.base.get? a = some o) (hd : o.data = .func (fnOf name qual params body scope .none .none doc pm an cdv ct)) (hcd : cx.base.CodeRec cdv qual)
    (hb : bindArgs (fnOf name qual params body scope .none .none doc pm an cdv ct) ⟨v0 :: vs, []⟩ = pure ((x0, v0) :: xs.zip vs)) (hlen : xs.length = as.length) (hnd : (x0 :: xs).Nodup) (hks : ∀ x ∈ x0 :: xs, scope.names.lookup x = some .local)
    (hcl : ∀ y ∈ scope.names, y.2 ≠ .cell)
    (hk : scope.kind = .function) (hco : scope.isCoroutine = false) (hgen : scope.isGenerator = false)
    (h : ∀ env s₁, Room n (A.deeper env) → EnvOk scope.names env → Pt cx g (A.deeper env) env (xs.zip as) k N s₁ → Holds cx g env s₁.heap x0 v0 → (∀ b o, s.heap.get? b = some o → s₁.heap.get? b = some o) → s₁.gens = s.gens → s₁.os = s.os → s.heap.get? env.locals = none →
      wpAny (model cx.prog cx.w) (A.deeper env) (execs body env) (fun f s' => Q (match f with | .ret v => v | _ => .none) s')
        (fun e s' => wpAny (model cx.prog cx.w) (A.deeper env) (leaving env e) (fun _ s'' => E e s'') (fun e' s'' => E e' s'') s') s₁) :
    wpAny (model cx.prog cx.w) A (call (.ref a) (v0 :: vs)) Q E s := by
  have hz : ((x0, v0) :: xs.zip vs).map (·.1) = x0 :: xs := by
    rw [List.map_cons]
    congr 1
    rw [← List.unzip_fst, List.unzip_zip (by rw [hv.len, hlen])]
  refine PySem.wpAny_call (codeAny_call_cells (fd := fnOf name qual params body scope .none .none doc pm an cdv ct) (body := body) (Nat.lt_of_lt_of_le (by have := hA.2.1; omega : A.depth < 600) (by decide)) (p.stays _ _ hg) hd (p.ok.nolimit.keeps p.stays) (hcd.keeps p.stays) rfl hb rfl (fun y hy => ?_) (fun s₁ X => ?_) hco hgen hk)
  · have hy' : y.1 ∈ x0 :: xs := hz ▸ List.mem_map_of_mem hy
    exact .inl (hks _ hy')
  · obtain ⟨h₁, tk, rfl, hkeep⟩ := X.done
    have hnx : ∀ b, s.heap.get? b = none → b ∉ cx.X := fun b hb hx => by
      obtain ⟨o, e⟩ := p.xs b hx
      rw [hb] at e; cases e
    have hnb : ∀ b, s.heap.get? b = none → cx.base.get? b = none := fun b hb => by
      cases e : cx.base.get? b with
      | none => rfl
      | some o => have := p.stays b o e; rw [hb] at this; cases this
    have hng : ∀ b, s.heap.get? b = none → g.get? b = none := fun b hb => by
      cases e : g.get? b with
      | none => rfl
      | some o => have := hg' b o e; rw [hb] at this; cases this
    obtain ⟨oL, es, ep, hL, hLd, hLr⟩ := id X.toInCall.ns
    refine h _ _ ⟨hA.1, ?_, ?_⟩ ⟨rfl, hk, rfl, rfl, fun x y c hx hy => name_of_addr X.apart (cells_in hx) (cells_in hy)⟩ ?_ ?_ hkeep rfl rfl (get_size _)
    · have := hA.2.1; show A.depth + 1 + n < 600; omega
    · have := hA.2.2; show A.units + 3 + 20 * n < 9000; omega
    · refine { ok := p.ok, stays := fun b o e => hkeep b o (p.stays b o e), xs := fun b hb => let ⟨o, e⟩ := p.xs b hb; ⟨o, hkeep b o e⟩, led := fun q hq => ⟨hkeep _ _ (p.led q hq).1, (p.led q hq).2⟩, led₀ := p.led₀, lin := p.lin, box := p.box.of_keeps hkeep, frs := ?_,
               hasNs := ⟨_, X.toInCall.ns⟩, locX := hnx _ (get_size _), locB := hnb _ (get_size _), locG := hng _ (get_size _), old := fun b o _ e => ⟨o, hkeep b o (hg' b o e)⟩, cells := fun x hx => ?_, see := fun x sl hx => ?_, one := fun x y vx vy lx ly hx hy _ _ _ => ?_ }
      · obtain ⟨frs, h1, h2, h3⟩ := p.frs
        refine ⟨callEnvC (fnOf name qual params body scope .none .none doc pm an cdv ct) s.heap.objs.size a :: frs, by show A.frames.map _ = _; rw [h1]; rfl, ⟨(fun q => by rw [show (callEnvC (fnOf name qual params body scope .none .none doc pm an cdv ct) s.heap.objs.size a).scope.kind = .function from hk] at q; cases q), ⟨_, oL, rfl, hnb _ (get_size _), hL, fun vs q => by rw [hLd] at q; cases q⟩, h2.of_keeps fun b o e _ => ⟨o, hkeep b o e, rfl⟩⟩, fun e he => ?_⟩
        rcases List.mem_cons.mp he with rfl | he
        · intro b hb; cases hb; exact ⟨hnx _ (get_size _), oL, es, ep, hL, hLd⟩
        · intro b hb
          obtain ⟨o, es, m, e1, e2⟩ := (h3 e he b hb).2
          exact ⟨(h3 e he b hb).1, o, es, m, hkeep b o e1, e2⟩
      · have hx' : scope.names.lookup x = some .cell := hx
        exact absurd rfl (hcl _ (mem_of_lookup' hx'))
      · obtain ⟨v, hv', hin⟩ := hv.look hx
        have hxs : x ∈ xs := (List.of_mem_zip (mem_of_lookup' hx)).1
        refine ⟨v, .loc (hks x (.tail _ hxs)) X.toInCall.ns (bindL_at _ _ _ _ _ (by rw [hz]; exact hnd) (hks x (.tail _ hxs)) ?_), ?_⟩
        · rw [List.lookup_cons]
          cases hb : x == x0 with
          | true =>
            have := eq_of_beq hb
            subst this
            exact absurd hxs (List.nodup_cons.mp hnd).1
          | false => exact hv'
        · cases hin with
          | val h => exact .val h
          | box => exact .box
      · obtain ⟨v, _, hin⟩ := hv.look hx
        exact hin.noOwn.elim
    · exact .loc (hks x0 (.head _)) X.toInCall.ns (bindL_at _ _ _ _ _ (by rw [hz]; exact hnd) (hks x0 (.head _)) (by simp))
end
end Mine
set_option maxRecDepth 100000
namespace Mine
open PySem PySem.W PyProof.Rows PySem.Calls PySem.Spec
open Builtin Builtin.ObjectAttr

section
variable {prog : Program} {w : World} {A : Around} {E : Value → Shared → Prop} {h : Heap} {g : Array GenState} {d : Drawn} {t : Nat} {os : OsState}
variable {nm q : Str} {C N x : Addr} {bs bm : List Value} {sn : List Str} {sub : List Value} {ab : Bool} {col : Option Bool} {dd : Option Addr} {k0 k1 k2 k3 k5 : Option Value} {B newId sa owner : String}
  {mN mA : Str → Option Value} {name : Str} {v : Value}

/-- the first attribute that is stored: the object's dict is made -/
theorem store_first_entry {tk : Tok} {Q : Fin → Shared → Prop} {o : Obj} (SF : StoreFacts B bm sa owner)
    (hC : h.get? C = some (excClassObj nm q C N bs bm true sn sub ab col dd k0 k1 k2 k3 k5 newId)) (hn : h.Ns N mN) (hna : mN name = none)
    (hB : typeLookup (.type B) name = pure none) (hx : h.get? x = some o) (hc : o.cls = .ref C) (hnc : ∀ c, o.data ≠ .cls c) (hdn : o.dict = none)
    (hq : ∀ h' tk', h'.get? x = some { cls := o.cls, dict := some h.objs.size, data := o.data, slots := o.slots } → h'.Ns1 h.objs.size (fun y => if y = name then some v else none) →
      (∀ b o, b ≠ x → h.get? b = some o → h'.get? b = some o) → Q (.done (.ret .none)) ⟨h', g, d, tk', os⟩) :
    wpAny (model prog w) A (Builtin.«object.__setattr__» ⟨[.ref x, .str name tk, v], []⟩) Q E ⟨h, g, d, t, os⟩ := by
  have hpass := SF.passes (.ref x)
  unfold Builtin.«object.__setattr__»
  repeat (first | rw [refuse_eq] | (rw [refuseLoop_ref, hpass]) | (with_reducible refine wpAny_loadPart_at hx ?_; rw [hc]) | with_reducible refine wpAny_mroOf_exc hC ?_ | (with_reducible refine wpAny_typeLookup_exc hC hn SF.mro hB ?_; rw [hna]) | wp_step)
  rw [hdn, if_neg (by simp [typeHasDict])]
  split
  · rename_i hcd
    cases hcd
  split
  · rename_i c hcd
    exact absurd hcd (hnc c)
  · have hx₁ : (h.push { cls := .type "dict", data := .dict #[] }).get? x = some o := Heap.get?_push_of_some _ hx
    have hxs : x ≠ h.objs.size := Nat.ne_of_lt (Heap.lt_size hx)
    refine wpAny_bind (wpAny_alloc' ?_)
    refine wpAny_bind (wpAny_update' hx₁ ?_)
    refine wpAny_pure ?_
    have hgd : ((h.push { cls := .type "dict", data := .dict #[] }).update x fun o => { cls := o.cls, dict := some h.objs.size, data := o.data, slots := o.slots }).get? h.objs.size
        = some { cls := .type "dict", data := .dict #[] } :=
      (Heap.get?_update_ne _ _ _ _ hxs.symm).trans (Heap.get?_push_at rfl rfl)
    have hnd : ((h.push { cls := .type "dict", data := .dict #[] }).update x fun o => { cls := o.cls, dict := some h.objs.size, data := o.data, slots := o.slots }).Ns h.objs.size (fun _ => none) :=
      ⟨_, #[], _, hgd, rfl, fun e he => absurd he (by simp), fun _ => rfl⟩
    show wpAny _ _ (storeInDict h.objs.size (.str name tk) name v) _ _ _
    unfold storeInDict newKeyGuard
    refine wpAny_bind (wpAny_pure (wpAny_bind (wpAny_nsSet1 (Heap.Ns1.of_empty hnd) fun h' hn' hs => ?_)))
    obtain ⟨oD, esD, epD, hoD, hdD, hcD⟩ := hn'.count (Within.cons name v Within.nil)
    refine wpAny_bind (wpAny_lookBehind hoD (by rw [hdD]; exact pastItsLine_dict (Nat.le_trans hcD (by rw [List.length_cons, List.length_nil, sizeLine_eq]; omega))) ?_)
    wp_walk
    refine hq h' _ ?_ hn' (fun b ob hbx hb => ?_)
    · refine (hs.2 x hxs).trans (Heap.get?_update_self _ hx₁ ?_)
      have hfr := (Heap.get?_some_iff.mp hx).2
      obtain ⟨oc, od, odt, osl⟩ := o
      cases odt <;> first | rfl | exact hfr
    · exact (hs.2 b (Nat.ne_of_lt (Heap.lt_size hb))).trans ((Heap.get?_update_ne _ _ _ _ hbx).trans (Heap.get?_push_of_some _ hb))

theorem store_first {Q : Unit → Shared → Prop} {o : Obj} (SF : StoreFacts B bm sa owner)
    (hC : h.get? C = some (excClassObj nm q C N bs bm true sn sub ab col dd k0 k1 k2 k3 k5 newId)) (hn : h.Ns N mN) (hns : mN "__setattr__" = none) (hna : mN name = none)
    (hB : typeLookup (.type B) name = pure none) (hx : h.get? x = some o) (hc : o.cls = .ref C) (hnc : ∀ c, o.data ≠ .cls c) (hdn : o.dict = none)
    (hq : ∀ h' tk', h'.get? x = some { cls := o.cls, dict := some h.objs.size, data := o.data, slots := o.slots } → h'.Ns1 h.objs.size (fun y => if y = name then some v else none) →
      (∀ b o, b ≠ x → h.get? b = some o → h'.get? b = some o) → Q () ⟨h', g, d, tk', os⟩) :
    wpAny (model prog w) A (setAttr (.ref x) name v) Q E ⟨h, g, d, t, os⟩ := by
  have f3 := SF.slot.bind (.ref x)
  unfold setAttr callSpecial? specialOf
  repeat (any_goals (first | assumption | (with_reducible refine wpAny_loadPart_at hx ?_; rw [hc]) | (with_reducible refine wpAny_typeLookup_exc hC hn SF.mro SF.slot.lookup ?_; rw [hns]) | wp_step))
  refine codeAny_call_builtin SF.slot.plain SF.entry (wpAny_check_sa SF hC hx hc (store_first_entry SF hC hn hna hB hx hc hnc hdn fun h' tk' e1 e2 e3 => ?_))
  repeat (any_goals (first | assumption | wp_step))
  exact hq h' tk' e1 e2 e3
theorem no_kind : typeLookup (.type "Exception") "kind" = pure none := by rw [typeLookup_type, builtinLookup_eq_fast]; kernel_rfl
theorem no_text : typeLookup (.type "Exception") "text" = pure none := by rw [typeLookup_type, builtinLookup_eq_fast]; kernel_rfl
end
end Mine
set_option maxRecDepth 10000
namespace Mine
open PySem PySem.W PyProof.Rows PySem.Calls PySem.Spec

section
variable {cx : Cx} {n : Nat} {sc : Nms} {Γ Γ' : Gam} {k k' k₁ k₂ : Int}
theorem Wd.out {A : Around} {env : Env} {N : Ledg} {s : Shared} {frs : List Env} (hf : A.frames = some frs) (p : Wd cx (A.deeper env) k N s) : Wd cx A k N s := by
  refine { p with frs := ?_ }
  obtain ⟨frs', h1, h2, h3⟩ := p.frs
  rw [Around.frames_deeper hf] at h1
  cases h1
  exact ⟨frs, hf, h2.2.2, fun e he => h3 e (.tail _ he)⟩

theorem Wd.keep {A : Around} {N : Ledg} {s : Shared} {h' : Heap} {tk : Nat} (p : Wd cx A k N s) (T : Addr → Prop) (hk : ∀ b o, ¬ T b → s.heap.get? b = some o → h'.get? b = some o) (hTX : ∀ b, T b → b ∉ cx.X) (hTB : ∀ b, T b → cx.base.get? b = none)
    (hTN : ∀ q ∈ N, ¬ T q.1) (hTF : ∀ frs, A.frames = some frs → ∀ e ∈ frs, ∀ a, e.frame = some a → ¬ T a) : Wd cx A k N { s with heap := h', toks := tk } := by
  obtain ⟨frs, h1, h2, h3⟩ := p.frs
  obtain ⟨⟨tk₀, m₀, eb⟩, vl, ml, el, il⟩ := p.box
  obtain ⟨ol, hl⟩ := p.lin
  have st : cx.base.StaysIn h' := fun b o e => hk b o (fun q => by rw [hTB b q] at e; cases e) (p.stays b o e)
  refine ⟨p.ok, st, fun b hb => ?_, fun q hq => ⟨hk _ _ (hTN q hq) (p.led q hq).1, (p.led q hq).2⟩, p.led₀, p.lin, ⟨⟨tk₀, m₀, hk _ _ (fun q => hTX _ q p.ok.bAX) eb⟩, vl, ml, hk _ _ (hTN _ hl) el, il⟩,
    frs, h1, FunFrames.kpP (P := fun a => ¬ T a) (.of_keeps fun b o hb e => hk b o hb e) (hTF frs h1) h2, fun e he a ha => ⟨(h3 e he a ha).1, ?_⟩⟩
  · obtain ⟨o, e⟩ := p.xs b hb
    exact ⟨o, hk b o (fun q => hTX b q hb) e⟩
  · obtain ⟨o, es, m, e1, e2⟩ := (h3 e he a ha).2
    exact ⟨o, es, m, hk a o (hTF frs h1 e he a ha) e1, e2⟩

theorem init_ok (X : Exc cx) {kd tx : Str} (hl1 : kd.length + (": " : Str).length ≤ sizeLine) (hl2 : (kd ++ (": " : Str)).length + tx.length ≤ sizeLine) {A : Around} {N : Ledg} {s : Shared} {g : Heap} {e t0 : Addr} {tk1 tk2 : Tok} {E Q : Value → Shared → Prop} (hA : Room 2 A) (p : Wd cx A k N s) (hg' : ∀ b o, g.get? b = some o → s.heap.get? b = some o)
    (he : s.heap.get? e = some { cls := .ref X.C, data := .fields #[.ref t0, .none, .none, .none, .bool false, .none] }) (heG : g.get? e = none) (heB : cx.base.get? e = none) (heX : e ∉ cx.X)
    (hQ : ∀ (N' : Ledg) (s' : Shared) (dx : Addr) (ox : Obj) (vs : Array Value) (m : Str → Option Value) (tk : Tok), Wd cx A k N' s' → (∀ p ∈ N, p ∈ N') → (∀ p ∈ N', p ∈ N ∨ s.heap.get? p.1 = none) → s'.gens = s.gens → s'.os = s.os → KpP (fun b => b ∉ cx.X ∧ b ≠ e) s.heap s'.heap →
      s'.heap.get? e = some ox → ox.cls = .ref X.C → ox.dict = some dx → ox.data = .fields vs → vs[1]? = some .none → s.heap.get? dx = none → s'.heap.Ns dx m → m "kind" = some (.str kd tk) → Q .none s') :
    wpAny (model cx.prog cx.w) A (call (.ref X.fI) [.ref e, .str kd tk1, .str tx tk2]) Q E s := by
  obtain ⟨o, name, qual, doc, pm, an, cdv, ct, f1, f2, f3, f4⟩ := X.fn
  refine call_core_raw (n := 1) (x0 := "self") (xs := ["kind", "text"]) (as := [.val (.str kd), .val (.str tx)]) (vs := [.str kd tk1, .str tx tk2]) g hg' hA p (.cons (.val (.str _ _)) (.cons (.val (.str _ _)) .nil)) f1 f3 f4 rfl rfl (by decide) ?_ ?_ rfl rfl rfl ?_
  · intro x hx
    rcases List.mem_cons.mp hx with rfl | hx
    · rfl
    · rcases List.mem_cons.mp hx with rfl | hx
      · rfl
      · rcases List.mem_cons.mp hx with rfl | hx
        · rfl
        · cases hx
  · decide +kernel
  intro env s₁ hA' hE p₁ Hself hkeep hgs hos hL0
  have he₁ := hkeep _ _ he
  have hin : interactive env = false := by unfold interactive; rw [hE.kind]; rfl
  obtain ⟨mL, hnsL⟩ := p₁.hasNs
  refine wpAny_execs_cons (wpAny_Expr ?_ hin rfl)
  refine MethodCall_ (load_boot p₁.toWd hE rfl X.noexc rfl (by decide) rfl (getMethod_excInit hnsL ?_)) rfl
  have P1 := (p₁.toks (s₁.toks + 1)).2
  rw [starE_cons (by intro _ _ h; cases h), starE_cons (by intro _ _ h; cases h)]
  refine Calls.callWith_builtin rfl (Calls.evalArgs_plain (spliced_cons (load_holds hE Hself rfl rfl (spliced_cons (anyF ((ev_bin (ev_bin (ev_name rfl) (ev_str _) (bin_add_str _ _ ?_)) (ev_name rfl) (bin_add_str _ _ ?_)).run g _ env N _ hA' hE P1 _ fun v N₂ s₂ S₂ p₂ hv => spliced_nil ?_))))))
  · exact hl1
  · exact hl2
  cases hv with
  | str _ tm =>
    have he₂ := S₂.kp.get (o := { cls := .ref X.C, data := .fields #[.ref t0, .none, .none, .none, .bool false, .none] }) heX he₁ (by intro _ _ q; cases q)
    refine init_call_exc F.excBase_Exception (p₂.stays _ _ X.obj) he₂ rfl rfl rfl ?_ (by simp [sizeLine_eq])
    have hes : e ≠ s₂.heap.objs.size := Nat.ne_of_lt (Heap.lt_size he₂)
    have hk₃ : ∀ b o, b ≠ e → s₂.heap.get? b = some o → ((s₂.heap.push { cls := .type "tuple", data := .seq #[Value.str (kd ++ Str.ofString ": " ++ tx) tm] }).update e (Obj.mapFields fun x => x.setIfInBounds 0 (Value.ref s₂.heap.objs.size))).get? b = some o := fun b o hb e' =>
      (Heap.get?_update_other _ _ (Ne.symm hb)).trans (Heap.get?_push_of_some _ e')
    have he₃ : ((s₂.heap.push { cls := .type "tuple", data := .seq #[Value.str (kd ++ Str.ofString ": " ++ tx) tm] }).update e (Obj.mapFields fun x => x.setIfInBounds 0 (Value.ref s₂.heap.objs.size))).get? e =
        some { cls := .ref X.C, data := .fields #[.ref s₂.heap.objs.size, .none, .none, .none, .bool false, .none] } := Heap.get?_update_self _ (Heap.get?_push_of_some _ he₂) rfl
    have P3 := touch_flds (tk := s₂.toks) p₂ ⟨_, _, he₂, rfl⟩ ⟨_, he₃⟩ heX heG heB hk₃
    have Hself₃ : Holds cx g env ((s₂.heap.push { cls := .type "tuple", data := .seq #[Value.str (kd ++ Str.ofString ": " ++ tx) tm] }).update e (Obj.mapFields fun x => x.setIfInBounds 0 (Value.ref s₂.heap.objs.size))) "self" (.ref e) := by
      have H2 := Hself.kp S₂.kp p₁.locX
      cases H2 with
      | loc a1 a2 a3 =>
        obtain ⟨o₀, _, _, e0, d0, _⟩ := id a2
        exact .loc a1 (a2.at' fun o e' => hk₃ _ _ (fun q => by rw [q, he₂] at e0; cases e0; cases d0) e') a3
      | cell a1 => rcases a1 with a1 | a1 <;> (rw [kindOf_of hE (show initFn.2.2.names.lookup ("self" : Str) = some .local from rfl)] at a1; cases a1)
    generalize hH3 : ((s₂.heap.push { cls := .type "tuple", data := .seq #[Value.str (kd ++ Str.ofString ": " ++ tx) tm] }).update e (Obj.mapFields fun x => x.setIfInBounds 0 (Value.ref s₂.heap.objs.size))) = H3 at *
    show wpAny _ _ (execs _ env) _ _ { s₂ with heap := H3 }
    have q1 := X.quiet
    obtain ⟨vk, Hk, Sk⟩ := P3.see "kind" (.val (.str kd)) rfl
    obtain ⟨vt, Ht, St⟩ := P3.see "text" (.val (.str tx)) rfl
    cases Sk with
    | val hvk =>
    cases hvk with
    | str _ tkk =>
    cases St with
    | val hvt =>
    cases hvt with
    | str _ tkt =>
    refine wpAny_execs_cons (plainObj_wpAny_Assign_Attribute (load_holds hE Hk rfl rfl (load_holds hE Hself₃ rfl rfl ?_)) rfl)
    refine store_first F.store_Exception (P3.stays _ _ X.obj) (X.ns.keeps P3.stays) q1.1 q1.2.1 no_kind he₃ rfl (by intro c h; cases h) rfl fun h₄ tk₄ e1 e2 e3 => ?_
    have P4 := touch_flds (tk := tk₄) P3 ⟨_, _, he₃, rfl⟩ ⟨_, e1⟩ heX heG heB e3
    have Hloc : ∀ {y : Str} {u : Value}, Holds cx g env H3 y u → initFn.2.2.names.lookup y = some .local → Holds cx g env h₄ y u := fun H hy => by
      cases H with
      | loc a1 a2 a3 =>
        obtain ⟨o₀, _, _, e0, d0, _⟩ := id a2
        exact .loc a1 (a2.at' fun o e' => e3 _ _ (fun q => by rw [q, he₃] at e0; cases e0; cases d0) e') a3
      | cell a1 => rcases a1 with a1 | a1 <;> (rw [kindOf_of hE hy] at a1; cases a1)
    show wpAny _ _ (execs _ env) _ _ { s₂ with heap := h₄, toks := tk₄ }
    have hed : e ≠ H3.objs.size := Nat.ne_of_lt (Heap.lt_size he₃)
    have heC : e ≠ X.C := fun q => by rw [q, X.obj] at heB; cases heB
    refine wpAny_execs_cons (plainObj_wpAny_Assign_Attribute (load_holds hE (Hloc Ht rfl) rfl rfl (load_holds hE (Hloc Hself₃ rfl) rfl rfl ?_)) rfl)
    refine store_attr (ns := ["kind"]) F.store_Exception (P4.stays _ _ X.obj) (X.ns.keeps P4.stays) q1.1 q1.2.2.1 no_text heC (mA := fun y => if y = "kind" then some (.str kd tkk) else none) ⟨_, e1, rfl, (by intro c h; cases h), .inr ⟨_, rfl, Ne.symm hed, e2⟩⟩ (fun h₅ tk₅ I₅ keep₅ same₅ => ?_) ?_ (by decide)
    · refine wpAny_execs_nil ?_
      obtain ⟨frs, hfrs, hfrs2, hfrs3⟩ := p.frs
      have hdxH : H3.get? H3.objs.size = none := get_size _
      have ex₂ : ∀ b, (∃ o, s.heap.get? b = some o) → ∃ o, s₂.heap.get? b = some o := fun b ⟨o, e'⟩ => by
        by_cases hb : b ∈ cx.X
        · exact p₂.xs b hb
        · obtain ⟨sl, e'', _⟩ := S₂.kp b o hb (hkeep b o e')
          exact ⟨_, e''⟩
      have ex₃ : ∀ b, (∃ o, s₂.heap.get? b = some o) → ∃ o, H3.get? b = some o := fun b ⟨o, e'⟩ => by
        by_cases hb : b = e
        · exact ⟨_, hb ▸ he₃⟩
        · exact ⟨o, hk₃ b o hb e'⟩
      have hk₅ : ∀ b o, ¬ (b = e ∨ b = H3.objs.size) → s₂.heap.get? b = some o → h₅.get? b = some o := fun b o hb e' =>
        keep₅ b o (fun q => hb (.inl q)) (fun o₀ dx h1 h2 q => by rw [e1] at h1; cases h1; cases h2; exact hb (.inr q)) (e3 b o (fun q => hb (.inl q)) (hk₃ b o (fun q => hb (.inl q)) e'))
      have hdX : H3.objs.size ∉ cx.X := fun hx => by obtain ⟨o, e'⟩ := P3.xs _ hx; have e'' : H3.get? H3.objs.size = some o := e'; rw [hdxH] at e''; cases e''
      have hdB : cx.base.get? H3.objs.size = none := by
        cases e' : cx.base.get? H3.objs.size with
        | none => rfl
        | some o => have e'' : H3.get? H3.objs.size = some o := P3.stays _ _ e'; rw [hdxH] at e''; cases e''
      have w := (Wd.out hfrs p₂.toWd).keep (tk := tk₅) (fun b => b = e ∨ b = H3.objs.size) hk₅ (fun b hb => by rcases hb with rfl | rfl; exact heX; exact hdX) (fun b hb => by rcases hb with rfl | rfl; exact heB; exact hdB)
        (fun q hq hb => by
          rcases hb with hb | hb
          · obtain ⟨e', ⟨xs, m, e''⟩, _⟩ := p₂.led q hq
            rw [hb, he₂] at e'; injection e' with e'; rw [← e'] at e''; cases e''
          · have e' : H3.get? q.1 = some q.2 := (P3.led q hq).1
            rw [hb, hdxH] at e'; cases e')
        (fun frs' hf' e' he' a ha hb => by
          rw [hfrs] at hf'; cases hf'
          obtain ⟨frs'', h1, _, h3⟩ := P3.frs
          rw [Around.frames_deeper hfrs] at h1; cases h1
          obtain ⟨_, o, es, m, e1, e2⟩ := h3 e' (.tail _ he') a ha
          have e1' : H3.get? a = some o := e1
          rcases hb with hb | hb
          · rw [hb, he₃] at e1'; cases e1'; cases e2
          · rw [hb, hdxH] at e1'; cases e1')
      obtain ⟨o₁, z1, z2, z3, z4, z5⟩ := same₅ _ e1
      obtain ⟨oI, i1, i2, i3, i4⟩ := I₅
      rw [z1] at i1
      cases i1
      have hdict := z5 _ rfl
      refine hQ N₂ { s₂ with heap := h₅, toks := tk₅ } H3.objs.size o₁ _ (fun y => if y = "text" then some (.str tx tkt) else if y = "kind" then some (.str kd tkk) else none) tkk w S₂.sub (fun q hq => (S₂.new q hq).imp id fun h1 => ?_) (S₂.gens.trans hgs) (S₂.os.trans hos) (fun b o hb e' => ?_) z1 z2 hdict z3 rfl ?_ ?_ ?_
      · cases e' : s.heap.get? q.1 with
        | none => rfl
        | some o => have e'' : s₁.heap.get? q.1 = some o := hkeep _ _ e'; have h1' : s₁.heap.get? q.1 = none := h1; rw [h1'] at e''; cases e''
      · obtain ⟨sl, e'', f⟩ := S₂.kp b o hb.1 (hkeep b o e')
        refine ⟨sl, hk₅ b _ (fun q => ?_) e'', f⟩
        rcases q with q | q
        · exact hb.2 q
        · obtain ⟨o', e3'⟩ := ex₃ b ⟨_, e''⟩
          rw [q, hdxH] at e3'; cases e3'
      · cases e' : s.heap.get? H3.objs.size with
        | none => rfl
        | some o =>
          obtain ⟨o', e''⟩ := ex₃ _ (ex₂ _ ⟨o, e'⟩)
          rw [hdxH] at e''; cases e''
      · rcases i4 with ⟨i4, _⟩ | ⟨dx, i4, _, i5⟩
        · rw [hdict] at i4; cases i4
        · rw [hdict] at i4; cases i4
          exact i5.ns
      · show (if ("kind" : Str) = "text" then _ else if ("kind" : Str) = "kind" then _ else _) = _
        rw [if_neg (by decide), if_pos rfl]
    · intro y hy
      by_cases q : y = "kind"
      · exact q ▸ .head _
      · exact absurd (if_neg q) hy
end
end Mine
set_option maxRecDepth 10000
namespace Mine
open PySem PySem.W PyProof.Rows PySem.Calls PySem.Spec

/-- what the passing on of an exception may turn -/
structure Ch (cx : Cx) (g h h' : Heap) : Prop where
  keep : ∀ b o, h.get? b = some o → (∀ vs, o.data ≠ .fields vs) → ∃ sl, h'.get? b = some { o with slots := sl } ∧ ((∀ es n, o.data ≠ .dict es n) → sl = o.slots)
  flds : ∀ b o vs, h.get? b = some o → o.data = .fields vs → (b ∈ cx.X ∨ (∃ o', g.get? b = some o') ∨ ∃ o', cx.base.get? b = some o') → h'.get? b = some o
  stays : cx.base.StaysIn h → cx.base.StaysIn h'

theorem Ch.refl (cx : Cx) (g h : Heap) : Ch cx g h h := ⟨fun b o e _ => ⟨o.slots, by cases o; exact e, fun _ => rfl⟩, fun _ _ _ e _ _ => e, fun h => h⟩
theorem Ch.trans {cx : Cx} {g h h' h'' : Heap} (x : Ch cx g h h') (y : Ch cx g h' h'') : Ch cx g h h'' where
  keep := fun b o e hd => by
    obtain ⟨sl, e1, f1⟩ := x.keep b o e hd
    obtain ⟨sl2, e2, f2⟩ := y.keep b _ e1 hd
    exact ⟨sl2, e2, fun q => (f2 q).trans (f1 q)⟩
  flds := fun b o vs e hd hb => y.flds b o vs (x.flds b o vs e hd hb) hd hb
  stays := fun h => y.stays (x.stays h)

noncomputable def TB (cx : Cx) (g h : Heap) (e : Addr) (vs : Array Value) : Prop :=
  ∃ T oT ts, vs[1]? = some (.ref T) ∧ g.get? T = none ∧ T ∉ cx.X ∧ cx.base.get? T = none ∧ T ≠ e ∧ h.get? T = some oT ∧ oT.data = .fields ts ∧ 3 < ts.size
/-- an exception of the file's own class in flight -/
structure Fly (cx : Cx) (X : Exc cx) (g h : Heap) (e : Addr) (tb : Bool) : Prop where
  new : g.get? e = none
  notX : e ∉ cx.X
  base : cx.base.get? e = none
  obj : ∃ ox vs dx m tk, h.get? e = some ox ∧ ox.cls = .ref X.C ∧ ox.dict = some dx ∧ ox.data = .fields vs ∧ g.get? dx = none ∧ dx ∉ cx.X ∧ h.Ns dx m ∧ m "kind" = some (.str "domain" tk) ∧ ((tb = false ∧ vs[1]? = some .none) ∨ TB cx g h e vs)

section
variable {cx : Cx} {n : Nat} {sc : Nms} {Γ Γ' : Gam} {k k' k₁ k₂ : Int} {X : Exc cx} {g : Heap} {A : Around} {N : Ledg} {s : Shared} {e : Addr} {tb : Bool}

theorem Wd.ch {h' : Heap} {tk : Nat} (p : Wd cx A k N s) (C : Ch cx g s.heap h') : Wd cx A k N { s with heap := h', toks := tk } := by
  obtain ⟨frs, h1, h2, h3⟩ := p.frs
  obtain ⟨⟨tk₀, m₀, eb⟩, vl, ml, el, il⟩ := p.box
  have ex : ∀ a o (xs : Array Value) (m : Nat), s.heap.get? a = some o → o.data = .seq xs m → h'.get? a = some o := fun a o xs m e hd => by
    obtain ⟨sl, e1, f⟩ := C.keep a o e (fun vs q => by rw [hd] at q; cases q)
    rw [f (fun es n q => by rw [hd] at q; cases q)] at e1; exact e1
  refine ⟨p.ok, C.stays p.stays, fun b hb => ?_, fun q hq => ?_, p.led₀, p.lin, ⟨⟨tk₀, m₀, ex _ _ _ _ eb rfl⟩, vl, ml, ex _ _ _ _ el rfl, il⟩, frs, h1, h2.of_keeps fun b o e hd => ?_, fun e he a ha => ⟨(h3 e he a ha).1, ?_⟩⟩
  · obtain ⟨o, e⟩ := p.xs b hb
    by_cases hd : ∃ vs, o.data = .fields vs
    · obtain ⟨vs, hd⟩ := hd
      exact ⟨o, C.flds b o vs e hd (.inl hb)⟩
    · obtain ⟨sl, e1, _⟩ := C.keep b o e fun vs q => hd ⟨vs, q⟩
      exact ⟨_, e1⟩
  · obtain ⟨e1, ⟨xs, m, e2⟩, e3⟩ := p.led q hq
    exact ⟨ex _ _ _ _ e1 e2, ⟨xs, m, e2⟩, e3⟩
  · obtain ⟨sl, e1, _⟩ := C.keep b o e hd
    exact ⟨_, e1, rfl⟩
  · obtain ⟨o, es, m, e1, e2⟩ := (h3 e he a ha).2
    obtain ⟨sl, e3, _⟩ := C.keep a o e1 fun vs q => by rw [e2] at q; cases q
    exact ⟨_, es, m, e3, e2⟩

theorem ns_slots {h h' : Heap} {a : Addr} {m : Str → Option Value} (hn : h.Ns a m) (hk : ∀ o, h.get? a = some o → ∃ sl, h'.get? a = some { o with slots := sl }) : h'.Ns a m := by
  obtain ⟨o, es, ep, e, hd, r⟩ := hn
  obtain ⟨sl, e1⟩ := hk o e
  exact ⟨_, es, ep, e1, hd, r⟩

/-- the frame object of the frame at the head -/
theorem frame_of {env : Env} {outer : List Env} {L : Addr} {Q : Value → Shared → Prop} {E : Value → Shared → Prop} (p : Wd cx A k N s) (hfr : A.frames = some (env :: outer)) (hf : env.frame = some L)
    (h : ∀ h', Ch cx g s.heap h' → (∀ b o vs, s.heap.get? b = some o → o.data = .fields vs → h'.get? b = some o) → (∀ b, s.heap.get? b = none → h'.get? b = none) → Q (.ref L) { s with heap := h' }) : wpAny (model cx.prog cx.w) A (frameOf env) Q E s := by
  obtain ⟨frs, h1, h2, h3⟩ := p.frs
  rw [hfr] at h1; cases h1
  refine wpAny_frameOf_fun hfr h2 hf fun h' hs => h h' ⟨fun b o e hd => ?_, fun b o vs e hd _ => ?_, fun st b o e => ?_⟩ (fun b o vs e hd => ?_) fun b e => ?_
  · by_cases hb : b ∈ (env :: outer).filterMap (·.frame)
    · obtain ⟨sl, e1⟩ := hs.2.2 b o e
      obtain ⟨e', he', ha⟩ := List.mem_filterMap.mp hb
      obtain ⟨_, o', es, m, e2, e3⟩ := h3 e' he' b ha
      rw [e] at e2; cases e2
      exact ⟨sl, e1, fun q => absurd e3 (q es m)⟩
    · exact ⟨o.slots, by rw [hs.2.1 b hb]; cases o; exact e, fun _ => rfl⟩
  · refine (hs.2.1 b fun hb => ?_).trans e
    obtain ⟨_, o', e', hd'⟩ := h2.mem hb
    rw [e] at e'; cases e'; exact hd' _ hd
  · refine (hs.2.1 b fun hb => ?_).trans (st b o e)
    rw [(h2.mem hb).1] at e; cases e
  · refine (hs.2.1 b fun hb => ?_).trans e
    obtain ⟨_, o', e', hd'⟩ := h2.mem hb
    rw [e] at e'; cases e'; exact hd' _ hd
  · rw [hs.2.1 b fun hb => ?_]; exact e
    obtain ⟨_, o', e', hd'⟩ := h2.mem hb
    rw [e] at e'; cases e'
end
end Mine
set_option maxRecDepth 10000
namespace Mine
open PySem PySem.W PyProof.Rows PySem.Calls PySem.Spec

section
variable {cx : Cx} {n : Nat} {sc : Nms} {Γ Γ' : Gam} {k k' k₁ k₂ : Int} {X : Exc cx} {g : Heap} {A : Around} {N : Ledg} {s : Shared} {e : Addr} {tb : Bool}

theorem ch_upd {h h' : Heap} {a : Addr} (ha : a ∉ cx.X) (hg : g.get? a = none) (hb : cx.base.get? a = none) (hf : ∃ o vs, h.get? a = some o ∧ o.data = .fields vs) (hk : ∀ b o, b ≠ a → h.get? b = some o → h'.get? b = some o) : Ch cx g h h' := by
  obtain ⟨oa, va, ea, da⟩ := hf
  refine ⟨fun b o e hd => ⟨o.slots, by have := hk b o (fun q => by rw [q, ea] at e; cases e; exact hd _ da) e; cases o; exact this, fun _ => rfl⟩, fun b o vs e hd h => hk b o (fun q => ?_) e, fun st b o e => hk b o (fun q => by rw [q, hb] at e; cases e) (st b o e)⟩
  subst q
  rcases h with h | ⟨_, h⟩ | ⟨_, h⟩
  · exact ha h
  · rw [hg] at h; cases h
  · rw [hb] at h; cases h
theorem ch_keep {h h' : Heap} (hk : ∀ b o, h.get? b = some o → h'.get? b = some o) : Ch cx g h h' :=
  ⟨fun b o e _ => ⟨o.slots, by have := hk b o e; cases o; exact this, fun _ => rfl⟩, fun b o _ e _ _ => hk b o e, fun st b o e => hk b o (st b o e)⟩
theorem Ch.old {h h' : Heap} (C : Ch cx g h h') (ho : ∀ b o, b ∉ cx.X → g.get? b = some o → ∃ o', h.get? b = some o') : ∀ b o, b ∉ cx.X → g.get? b = some o → ∃ o', h'.get? b = some o' := fun b o hb e => by
  obtain ⟨o', e'⟩ := ho b o hb e
  by_cases hd : ∃ vs, o'.data = .fields vs
  · obtain ⟨vs, hd⟩ := hd
    exact ⟨o', C.flds b o' vs e' hd (.inr (.inl ⟨o, e⟩))⟩
  · obtain ⟨sl, e1, _⟩ := C.keep b o' e' fun vs q => hd ⟨vs, q⟩
    exact ⟨_, e1⟩

/-- a new entry of the traceback at the head of e -/
theorem new_entry {env : Env} {outer : List Env} {L : Addr} {head : Value} {hadNext : Bool} {Q : Unit → Shared → Prop} {E : Value → Shared → Prop} (p : Wd cx A k N s) (hfr : A.frames = some (env :: outer)) (hf : env.frame = some L)
    (ho : ∀ b o, b ∉ cx.X → g.get? b = some o → ∃ o', s.heap.get? b = some o') (F : Fly cx X g s.heap e tb)
    (h : ∀ h', Ch cx g s.heap h' → Fly cx X g h' e true → Q () { s with heap := h' }) :
    wpAny (model cx.prog cx.w) A (do let a ← frameOf env; let pl ← entryPlaceOf L hadNext; let b ← EntryCells.newEntry head a .none (rawInt L) .none pl; setField (.ref e) 1 b) Q E s := by
  obtain ⟨ox, vs, dx, m, tk, he, hcls, hdict, hd, gdx, dxX, hns, hkind, htb⟩ := F.obj
  have hsz : 1 < vs.size := by
    rcases htb with ⟨_, h1⟩ | ⟨T, _, _, h1, _⟩ <;> exact (Array.getElem?_eq_some_iff.mp h1).1
  refine wpAny_bind (frame_of (g := g) p hfr hf fun h₁ C₁ kf kn => ?_)
  refine wpAny_bind (wpAny_entryPlaceOf fun pl hpl => ?_)
  unfold EntryCells.newEntry newFields
  refine wpAny_bind (wpAny_newObj_type ?_ (hpl.sizeOk5 _ _ _ _ _))
  have he₁ := kf e ox vs he hd
  have he₂ := Heap.get?_push_of_some (h := h₁) { cls := .type "traceback", dict := none, data := .fields ([head, .ref L, .none, rawInt L, .none] ++ (if pl.isEmpty then List.replicate 6 Value.none else pl)).toArray } he₁
  refine wpAny_setField he₂ hd hsz ?_
  have hT0 : s.heap.get? h₁.objs.size = none := by
    cases q : s.heap.get? h₁.objs.size with
    | none => rfl
    | some o =>
      by_cases hd : ∃ vs, o.data = .fields vs
      · obtain ⟨vs, hd⟩ := hd
        have := kf _ _ _ q hd; rw [get_size] at this; cases this
      · obtain ⟨sl, e1, _⟩ := C₁.keep _ _ q fun vs q => hd ⟨vs, q⟩
        rw [get_size] at e1; cases e1
  have hTX : h₁.objs.size ∉ cx.X := p.fresh_notX hT0
  have hTg : g.get? h₁.objs.size = none := by
    cases q : g.get? h₁.objs.size with
    | none => rfl
    | some o => obtain ⟨o', e'⟩ := ho _ _ hTX q; rw [hT0] at e'; cases e'
  have hTb : cx.base.get? h₁.objs.size = none := by
    cases q : cx.base.get? h₁.objs.size with
    | none => rfl
    | some o => have := p.stays _ _ q; rw [hT0] at this; cases this
  have hTe : h₁.objs.size ≠ e := Nat.ne_of_gt (Heap.lt_size he₁)
  have hd₃ := Obj.data_mapFields hd (·.setIfInBounds 1 (Value.ref h₁.objs.size))
  have he₃ := Heap.get?_update_self (Obj.mapFields (·.setIfInBounds 1 (Value.ref h₁.objs.size))) he₂ (Obj.isFreed_of_fields hd₃)
  have hk : ∀ b o, b ≠ e → h₁.get? b = some o → ((h₁.push { cls := .type "traceback", dict := none, data := .fields ([head, .ref L, .none, rawInt L, .none] ++ (if pl.isEmpty then List.replicate 6 Value.none else pl)).toArray }).update e (Obj.mapFields (·.setIfInBounds 1 (Value.ref h₁.objs.size)))).get? b = some o := fun b o hb e' =>
    (Heap.get?_update_other _ _ (Ne.symm hb)).trans (Heap.get?_push_of_some _ e')
  have hT₃ := (Heap.get?_update_other (h₁.push { cls := .type "traceback", dict := none, data := .fields ([head, .ref L, .none, rawInt L, .none] ++ (if pl.isEmpty then List.replicate 6 Value.none else pl)).toArray })
    (Obj.mapFields (·.setIfInBounds 1 (Value.ref h₁.objs.size))) (Ne.symm hTe)).trans (Heap.get?_push_size h₁ rfl)
  have C₂ : Ch cx g h₁ _ := ch_upd F.notX F.new F.base ⟨ox, vs, he₁, hd⟩ hk
  have C := C₁.trans C₂
  refine h _ C ⟨F.new, F.notX, F.base, _, _, dx, m, tk, he₃, (Obj.cls_mapFields _ _).trans hcls, ?_, hd₃, gdx, dxX, ns_slots hns fun o e' => ?_, hkind, .inr ⟨_, _, _, ?_, hTg, hTX, hTb, hTe, hT₃, rfl, ?_⟩⟩
  · cases ox; cases hd; exact hdict
  · obtain ⟨sl, e1, _⟩ := C.keep _ o e' (fun vs q => by
      obtain ⟨o₀, _, _, e0, d0, _⟩ := hns
      rw [e'] at e0; cases e0; rw [d0] at q; cases q)
    exact ⟨sl, e1⟩
  · simp [hsz]
  · simp only [List.size_toArray, List.length_append, List.length_cons, List.length_nil]; omega
end
end Mine
set_option maxRecDepth 10000
namespace Mine
open PySem PySem.W PyProof.Rows PySem.Calls PySem.Spec

section
variable {cx : Cx} {n : Nat} {sc : Nms} {Γ Γ' : Gam} {k k' k₁ k₂ : Int} {X : Exc cx} {g : Heap} {A : Around} {N : Ledg} {s : Shared} {e : Addr} {tb : Bool}

theorem Fly.ch {h h' : Heap} (F : Fly cx X g h e tb) (C : Ch cx g h h') (he : ∀ o, h.get? e = some o → h'.get? e = some o) (hT : ∀ vs, TB cx g h e vs → TB cx g h' e vs) : Fly cx X g h' e tb := by
  obtain ⟨ox, vs, dx, m, tk, e1, e2, e3, e4, e5, e6, e7, e8, e9⟩ := F.obj
  refine ⟨F.new, F.notX, F.base, ox, vs, dx, m, tk, he _ e1, e2, e3, e4, e5, e6, ns_slots e7 fun o e' => ?_, e8, e9.imp id (hT vs)⟩
  obtain ⟨sl, e1, _⟩ := C.keep _ o e' (fun vs q => by
    obtain ⟨o₀, _, _, e0, d0, _⟩ := e7
    rw [e'] at e0; cases e0; rw [d0] at q; cases q)
  exact ⟨sl, e1⟩

/-- the flight's mark is set -/
theorem set_tb {fr : Value} {Q : Unit → Shared → Prop} {E : Value → Shared → Prop} {T : Addr} {vs : Array Value} {ox : Obj} (F : Fly cx X g s.heap e tb) (he : s.heap.get? e = some ox) (hd : ox.data = .fields vs) (h1 : vs[1]? = some (.ref T))
    (h : ∀ h', Ch cx g s.heap h' → Fly cx X g h' e true → Q () { s with heap := h' }) : wpAny (model cx.prog cx.w) A (setField (.ref T) 3 fr) Q E s := by
  obtain ⟨ox', vs', dx, m, tk, e1, e2, e3, e4, e5, e6, e7, e8, e9⟩ := id F.obj
  rw [he] at e1; cases e1
  rw [hd] at e4; cases e4
  rcases e9 with ⟨_, q⟩ | ⟨T', oT, ts, t1, t2, t3, t4, t5, t6, t7, t8⟩
  · rw [h1] at q; cases q
  rw [h1] at t1; cases t1
  refine wpAny_setField t6 t7 t8 (h _ ?_ ?_)
  all_goals
    have hdT := Obj.data_mapFields t7 (·.setIfInBounds 3 fr)
    have hT' := Heap.get?_update_self (Obj.mapFields (·.setIfInBounds 3 fr)) t6 (Obj.isFreed_of_fields hdT)
    have hk : ∀ b o, b ≠ T → s.heap.get? b = some o → (s.heap.update T (Obj.mapFields (·.setIfInBounds 3 fr))).get? b = some o := fun b o hb e' => (Heap.get?_update_other _ _ (Ne.symm hb)).trans e'
  · exact ch_upd t3 t2 t4 ⟨oT, ts, t6, t7⟩ hk
  · have C : Ch cx g s.heap _ := ch_upd t3 t2 t4 ⟨oT, ts, t6, t7⟩ hk
    refine ⟨F.new, F.notX, F.base, ox, vs, dx, m, tk, hk _ _ (Ne.symm t5) he, e2, e3, hd, e5, e6, ns_slots e7 fun o e' => ?_, e8, .inr ⟨T, _, _, h1, t2, t3, t4, t5, hT', hdT, by simpa using t8⟩⟩
    obtain ⟨sl, e1, _⟩ := C.keep _ o e' (fun vs q => by
      obtain ⟨o₀, _, _, e0, d0, _⟩ := e7
      rw [e'] at e0; cases e0; rw [d0] at q; cases q)
    exact ⟨sl, e1⟩

theorem set_fly {fr : Option Addr} {Q : Unit → Shared → Prop} {E : Value → Shared → Prop} (F : Fly cx X g s.heap e true) (h : ∀ h', Ch cx g s.heap h' → Fly cx X g h' e true → Q () { s with heap := h' }) : wpAny (model cx.prog cx.w) A (setFlight (.ref e) fr) Q E s := by
  obtain ⟨ox, vs, dx, m, tk, e1, e2, e3, e4, e5, e6, e7, e8, e9⟩ := id F.obj
  rcases e9 with ⟨q, _⟩ | ⟨T, oT, ts, t1, t2, t3, t4, t5, t6, t7, t8⟩
  · cases q
  unfold setFlight
  refine wpAny_bind (wpAny_field e1 e4 t1 ?_)
  rw [if_pos (show (Value.ref T != Value.none) = true from by simp)]
  exact set_tb F e1 e4 t1 h

theorem note_fly {env : Env} {outer : List Env} {L : Addr} {Q : Unit → Shared → Prop} {E : Value → Shared → Prop} (p : Wd cx A k N s) (hfr : A.frames = some (env :: outer)) (hf : env.frame = some L)
    (ho : ∀ b o, b ∉ cx.X → g.get? b = some o → ∃ o', s.heap.get? b = some o') (F : Fly cx X g s.heap e tb)
    (h : ∀ h', Ch cx g s.heap h' → Fly cx X g h' e true → Q () { s with heap := h' }) : wpAny (model cx.prog cx.w) A (noteFrame (.ref e) env) Q E s := by
  obtain ⟨ox, vs, dx, m, tk, e1, e2, e3, e4, e5, e6, e7, e8, e9⟩ := id F.obj
  unfold noteFrame
  simp only [hf]
  rcases e9 with ⟨_, h1⟩ | ⟨T, oT, ts, t1, t2, t3, t4, t5, t6, t7, t8⟩
  · refine wpAny_bind (wpAny_field e1 e4 h1 ?_)
    rw [if_neg (by decide)]
    exact new_entry p hfr hf ho F h
  · refine wpAny_bind (wpAny_field e1 e4 t1 ?_)
    rw [if_pos (show (Value.ref T != Value.none) = true from by simp)]
    refine wpAny_bind (wpAny_field (x := ts[3]) t6 t7 (Array.getElem?_eq_getElem t8) ?_)
    by_cases hq : (ts[3] == rawInt L) = true
    · rw [if_pos hq]
      refine wpAny_pure (h s.heap (.refl _ _ _) ⟨F.new, F.notX, F.base, ox, vs, dx, m, tk, e1, e2, e3, e4, e5, e6, e7, e8, .inr ⟨T, oT, ts, t1, t2, t3, t4, t5, t6, t7, t8⟩⟩)
    · rw [if_neg hq]
      refine wpAny_bind (set_tb F e1 e4 t1 fun h₁ C₁ F₁ => ?_)
      exact new_entry (s := { s with heap := h₁ }) (p.ch (tk := s.toks) C₁) hfr hf (C₁.old ho) F₁ fun h₂ C₂ F₂ => h h₂ (C₁.trans C₂) F₂

theorem leave_fly {env : Env} {outer : List Env} {L : Addr} {Q : Unit → Shared → Prop} {E : Value → Shared → Prop} (p : Wd cx A k N s) (hfr : A.frames = some (env :: outer)) (hf : env.frame = some L)
    (ho : ∀ b o, b ∉ cx.X → g.get? b = some o → ∃ o', s.heap.get? b = some o') (F : Fly cx X g s.heap e tb)
    (h : ∀ h', Ch cx g s.heap h' → Fly cx X g h' e true → Q () { s with heap := h' }) : wpAny (model cx.prog cx.w) A (leaving env (.ref e)) Q E s := by
  unfold leaving
  refine wpAny_bind (note_fly p hfr hf ho F fun h₁ C₁ F₁ => ?_)
  exact set_fly (s := { s with heap := h₁ }) F₁ fun h₂ C₂ F₂ => h h₂ (C₁.trans C₂) F₂
theorem back_fly {env : Env} {E : Value → Shared → Prop} (F : Fly cx X g s.heap e true) (h : ∀ h', Ch cx g s.heap h' → Fly cx X g h' e true → E (.ref e) { s with heap := h' }) : cameBackBy (model cx.prog cx.w) A env E (.ref e) s := by
  obtain ⟨ox, vs, dx, m, tk, e1, e2, e3, e4, e5, e6, e7, e8, e9⟩ := id F.obj
  rcases e9 with ⟨q, _⟩ | ⟨T, oT, ts, t1, t2, t3, t4, t5, t6, t7, t8⟩
  · cases q
  unfold cameBackBy
  refine wpAny_bind (wpAny_field e1 e4 t1 ?_)
  rw [if_neg (by simp)]
  exact set_fly F h
end
end Mine
set_option maxRecDepth 100000
namespace Mine
open PySem PySem.W PyProof.Rows PySem.Calls PySem.Spec

section
variable {M : Model} {A : Around} {E : Value → Shared → Prop} {env : Env}
variable {nm q : Str} {C N : Addr} {bs bm : List Value} {hdct : Bool} {sn : List Str} {sub : List Value} {ab : Bool} {col : Option Bool} {dd : Option Addr} {k0 k1 k2 k3 k5 : Option Value} {newId : String}
theorem raiseStmt_own {s : Shared} {x : Sem Value} {Q : Flow → Shared → Prop} (hbase : bm.contains (.type "BaseException") = true) (hh : A.handled = none)
    (h : wpAny M A x (fun v s₁ => ∃ e ox, v = .ref e ∧ s₁.heap.get? C = some (excClassObj nm q C N bs bm hdct sn sub ab col dd k0 k1 k2 k3 k5 newId) ∧ s₁.heap.get? e = some ox ∧ ox.cls = .ref C ∧ ∃ vs, ox.data = .fields vs ∧ ((vs[1]? = some .none ∧ E (.ref e) s₁) ∨ ∃ T, vs[1]? = some (.ref T) ∧ wpAny M A (setField (.ref T) 3 .none) (fun _ s' => E (.ref e) s') E s₁)) E s) :
    wpAny M A (raiseStmt env (some x) none) Q E s := by
  have hcB : (Value.ref C :: bm).contains (.type "BaseException") = true := by rw [List.contains_cons, hbase, Bool.or_true]
  unfold raiseStmt
  refine wpAny_bind (wpAny_mono h (fun v s₁ h₁ => ?_) fun _ _ x => x)
  obtain ⟨e, ox, rfl, hC, he, hc, vs, hd, hE⟩ := h₁
  obtain ⟨hp, g, d, tk, os⟩ := s₁
  obtain ⟨oc, od, odt, osl⟩ := ox
  dsimp only at hc hd
  subst hc hd
  repeat (first | with_reducible refine wpAny_loadPart_at he ?_ | with_reducible refine wpAny_loadPart_at hC ?_ | (with_reducible refine wpAny_isSubtype_exc hC ?_; rw [hcB]) | wp_step)
  rcases hE with ⟨h1, hE⟩ | ⟨T, h1, hE⟩
  · rw [h1]
    refine wpAny_pure ?_
    rw [if_neg (by decide)]
    exact wpAny_pure (wpAny_raiseNew_none hh hE)
  · rw [h1]
    refine wpAny_pure ?_
    rw [if_pos (by simp)]
    exact wpAny_mono hE (fun _ _ q => wpAny_raiseNew_none hh q) fun _ _ q => q
end

section
variable {M : Model} {A : Around} {E : Value → Shared → Prop}
variable {nm q : Str} {C N : Addr} {bs bm : List Value} {hdct : Bool} {sn : List Str} {sub : List Value} {ab : Bool} {col : Option Bool} {dd : Option Addr} {k0 k1 k2 k3 k5 : Option Value} {newId : String}
theorem callWith_cls {s : Shared} {pos : Pos} {first : List Value} {args : List (Bool × Sem Value)} {Q : Value → Shared → Prop} (hplain : args.any (·.1) = false)
    (h : wpAny M A (evalArgs (.ref C) true args []) (fun a s₁ => s₁.heap.get? C = some (excClassObj nm q C N bs bm hdct sn sub ab col dd k0 k1 k2 k3 k5 newId) ∧ wpAny M A (call (.ref C) (first ++ a.pos) a.kw) Q E s₁) E s) :
    wpAny M A (callWith pos (.ref C) first args []) Q E s := by
  unfold callWith
  refine wpAny_bind (wpAny_holding (wpAny_mono h (fun a s₁ h₁ => wpAny_bind (wpAny_standAt ?_)) fun _ _ x => x))
  obtain ⟨hC, h₁⟩ := h₁
  simp only [hplain, List.any_nil, Bool.or_false]
  obtain ⟨hp, g, d, tk, os⟩ := s₁
  refine wpAny_bind (wpAny_keeperOf_exc hC ?_)
  exact wpAny_bind (wpAny_mono h₁ (fun r s₂ hr => wpAny_bind (wpAny_holding (wpAny_point (wpAny_pure hr)))) fun _ _ x => x)
end

/-! raising judgements -/
/-- from one point to the next, as seen from the heap g that the frame was entered with -/
structure StepW (cx : Cx) (g : Heap) (N : Ledg) (s : Shared) (N' : Ledg) (s' : Shared) : Prop where
  kp : KpP (fun b => b ∉ cx.X ∧ ∃ o, g.get? b = some o) s.heap s'.heap
  stays : cx.base.StaysIn s'.heap
  xs : ∀ a ∈ cx.X, (∃ o, s.heap.get? a = some o) → ∃ o, s'.heap.get? a = some o
  gens : s'.gens = s.gens
  os : s'.os = s.os
  sub : ∀ p ∈ N, p ∈ N'
  new : ∀ p ∈ N', p ∈ N ∨ g.get? p.1 = none
theorem StepW.trans {cx : Cx} {g : Heap} {N N' N'' : Ledg} {s s' s'' : Shared} (x : StepW cx g N s N' s') (y : StepW cx g N' s' N'' s'') : StepW cx g N s N'' s'' where
  kp := x.kp.trans y.kp
  stays := y.stays
  xs := fun a ha h => y.xs a ha (x.xs a ha h)
  gens := y.gens.trans x.gens
  os := y.os.trans x.os
  sub := fun p hp => y.sub p (x.sub p hp)
  new := fun p hp => (y.new p hp).elim (fun h => x.new p h) .inr
theorem StepL.toW {cx : Cx} {g : Heap} {N N' : Ledg} {s s' : Shared} (x : StepL cx g N s N' s') : StepW cx g N s N' s' := ⟨x.kp, x.stays, x.xs, x.gens, x.os, x.sub, x.new⟩
theorem StepW.ch {cx : Cx} {g : Heap} {N N' : Ledg} {s s' : Shared} {h' : Heap} {tk : Nat} (x : StepW cx g N s N' s') (C : Ch cx g s'.heap h') : StepW cx g N s N' { s' with heap := h', toks := tk } where
  kp := fun b o hb e' => by
    obtain ⟨sl1, a1, b1⟩ := x.kp b o hb e'
    by_cases hd : ∃ vs, o.data = .fields vs
    · obtain ⟨vs, hd⟩ := hd
      exact ⟨sl1, C.flds b _ vs a1 hd (.inr (.inl hb.2)), b1⟩
    · obtain ⟨sl2, a2, b2⟩ := C.keep b _ a1 fun vs q => hd ⟨vs, q⟩
      exact ⟨sl2, a2, fun q => (b2 q).trans (b1 q)⟩
  stays := C.stays x.stays
  xs := fun a ha h => by
    obtain ⟨o, e⟩ := x.xs a ha h
    by_cases hd : ∃ vs, o.data = .fields vs
    · obtain ⟨vs, hd⟩ := hd
      exact ⟨o, C.flds a o vs e hd (.inl ha)⟩
    · obtain ⟨sl, e1, _⟩ := C.keep a o e fun vs q => hd ⟨vs, q⟩
      exact ⟨_, e1⟩
  gens := x.gens
  os := x.os
  sub := x.sub
  new := x.new

noncomputable def Frm (A : Around) (env : Env) : Prop := ∃ outer L, A.frames = some (env :: outer) ∧ env.frame = some L
structure ExecX (cx : Cx) (X : Exc cx) (n : Nat) (sc : Nms) (Γ : Gam) (k : Int) (st : Stmt) : Prop where
  run : ∀ g A env N s, Room n A → EnvOk sc env → Pt cx g A env Γ k N s → Frm A env → ∀ (Q : Flow → Shared → Prop) (E : Value → Shared → Prop),
    (∀ e tb N' s', StepW cx g N s N' s' → Wd cx A k N' s' → (∀ b o, b ∉ cx.X → g.get? b = some o → ∃ o', s'.heap.get? b = some o') → (∃ m, s'.heap.Ns env.locals m) → Fly cx X g s'.heap e tb → E (.ref e) s') → wpAny (model cx.prog cx.w) A (exec st env) Q E s
structure ExecsX (cx : Cx) (X : Exc cx) (n : Nat) (sc : Nms) (Γ : Gam) (k : Int) (st : List Stmt) : Prop where
  run : ∀ g A env N s, Room n A → EnvOk sc env → Pt cx g A env Γ k N s → Frm A env → ∀ (Q : Flow → Shared → Prop) (E : Value → Shared → Prop),
    (∀ e tb N' s', StepW cx g N s N' s' → Wd cx A k N' s' → (∀ b o, b ∉ cx.X → g.get? b = some o → ∃ o', s'.heap.get? b = some o') → (∃ m, s'.heap.Ns env.locals m) → Fly cx X g s'.heap e tb → E (.ref e) s') → wpAny (model cx.prog cx.w) A (execs st env) Q E s
structure EvalX (cx : Cx) (X : Exc cx) (n : Nat) (sc : Nms) (Γ : Gam) (k : Int) (x : Expr) : Prop where
  run : ∀ g A env N s, Room n A → EnvOk sc env → Pt cx g A env Γ k N s → Frm A env → ∀ (Q E : Value → Shared → Prop),
    (∀ e tb N' s', StepW cx g N s N' s' → Wd cx A k N' s' → (∀ b o, b ∉ cx.X → g.get? b = some o → ∃ o', s'.heap.get? b = some o') → (∃ m, s'.heap.Ns env.locals m) → Fly cx X g s'.heap e tb → E (.ref e) s') → wpAny (model cx.prog cx.w) A (eval x env) Q E s
noncomputable def CallX (cx : Cx) (X : Exc cx) (n : Nat) (f : Str) (as : List Sl) (k : Int) : Prop :=
  ∃ a, FnAt cx f a ∧ ∀ A N s vs, Room n A → Wd cx A k N s → AAll cx N vs as → ∀ (Q E : Value → Shared → Prop),
    (∀ e N' s', KpP (· ∉ cx.X) s.heap s'.heap → Wd cx A k N' s' → s'.gens = s.gens → s'.os = s.os → (∀ p ∈ N, p ∈ N') → (∀ p ∈ N', p ∈ N ∨ s.heap.get? p.1 = none) → Fly cx X s.heap s'.heap e true → E (.ref e) s') →
    wpAny (model cx.prog cx.w) A (call (.ref a) vs) Q E s

section
variable {cx : Cx} {X : Exc cx} {n : Nat} {sc : Nms} {Γ Γ' Γ₁ : Gam} {k k' k₁ k₂ : Int}

theorem Fly.weak {g g' h : Heap} {e : Addr} {tb : Bool} (F : Fly cx X g h e tb) (hg : ∀ b o, b ∉ cx.X → g'.get? b = some o → ∃ o', g.get? b = some o') : Fly cx X g' h e tb := by
  have key : ∀ b, b ∉ cx.X → g.get? b = none → g'.get? b = none := fun b hb e => by
    cases q : g'.get? b with
    | none => rfl
    | some o => obtain ⟨o', e'⟩ := hg b o hb q; rw [e] at e'; cases e'
  obtain ⟨ox, vs, dx, m, tk, e1, e2, e3, e4, e5, e6, e7, e8, e9⟩ := F.obj
  exact ⟨key _ F.notX F.new, F.notX, F.base, ox, vs, dx, m, tk, e1, e2, e3, e4, key _ e6 e5, e6, e7, e8, e9.imp id fun ⟨T, oT, ts, t1, t2, t3, t4, t5⟩ => ⟨T, oT, ts, t1, key _ t3 t2, t3, t4, t5⟩⟩

/-- raise CasFail(kind, text) -/
theorem sx_raise {ek et : Expr} {np cpos pos : Pos} {tx : Str} (hx : sc.lookup ("CasFail" : Str) = some .globalImplicit) (h1 : EvalTo cx (n + 4) sc Γ k ek (.str "domain") k) (h2 : EvalTo cx (n + 4) sc Γ k et (.str tx) k)
    (hl2 : ((("domain" : Str) ++ (": " : Str)).length + tx.length ≤ sizeLine))
    (hs : ∀ env, starEach [ek, et] env = (false, eval ek env) :: (false, eval et env) :: starEach [] env) (hpl : ∀ env, (backTo cpos (starEach [ek, et] env)).any (·.1) = false := by intro _; rfl) :
    ExecX cx X (n + 4) sc Γ k (.Raise (some (.Call (.Name "CasFail" np) [ek, et] [] cpos)) none pos) := by
  refine ⟨fun g A env N s hA hE p hfm Q E hQ => ?_⟩
  rw [arm_exec_Raise]
  refine wpAny_bind (wpAny_standAt (raiseStmt_own (C := X.C) (nm := X.nm) (q := X.q) (N := X.N) (bs := X.bs) (bm := excBm) (hdct := true) (sn := X.sn) (sub := X.sub) (ab := X.ab) (col := X.col) (dd := X.dd) (k0 := X.k0) (k1 := X.k1) (k2 := X.k2) (k3 := X.k3) (k5 := X.k5) (newId := "Exception.__new__") (by decide +kernel) hA.1 ?_))
  refine wpAny_bind ?_
  refine call_expand (call_name ..) (load_global p.toWd hE hx X.bound (by decide) ?_)
  refine callWith_cls (C := X.C) (nm := X.nm) (q := X.q) (N := X.N) (bs := X.bs) (bm := excBm) (hdct := true) (sn := X.sn) (sub := X.sub) (ab := X.ab) (col := X.col) (dd := X.dd) (k0 := X.k0) (k1 := X.k1) (k2 := X.k2) (k3 := X.k3) (k5 := X.k5) (newId := "Exception.__new__") (hpl env) ?_
  rw [hs]
  refine Calls.evalArgs_plain (spliced_cons (anyF (h1.run g A env N s hA hE p _ fun v N₁ s₁ S₁ p₁ hv => spliced_cons (anyF (h2.run g A env N₁ s₁ hA hE p₁ _ fun w N₂ s₂ S₂ p₂ hw => spliced_nil ?_)))))
  refine ⟨p₂.stays _ _ X.obj, ?_⟩
  cases hv with
  | str _ t1 =>
  cases hw with
  | str _ t2 =>
  obtain ⟨oI, name, qual, doc, pm, an, cdv, ct, f1, f2, f3, f4⟩ := X.fn
  have hgN : g.get? (s₂.heap.objs.size + 1) = none := by
    cases q : g.get? (s₂.heap.objs.size + 1) with
    | none => rfl
    | some o =>
      by_cases hX : s₂.heap.objs.size + 1 ∈ cx.X
      · obtain ⟨o', e'⟩ := p₂.xs _ hX
        exact absurd (Heap.lt_size e') (Nat.not_lt.mpr (Nat.le_succ _))
      · obtain ⟨o', e'⟩ := p₂.old _ o hX q
        exact absurd (Heap.lt_size e') (Nat.not_lt.mpr (Nat.le_succ _))
  refine call_own_exc F.excBase_Exception (p₂.stays _ _ X.obj) (X.ns.keeps p₂.stays) X.init (p₂.stays _ _ f1) f2 ?_ (by simp [sizeLine_eq])
  have hk : ∀ b o, s₂.heap.get? b = some o → ((s₂.heap.push { cls := .type "tuple", data := .seq ([Value.str "domain" t1, Value.str tx t2] : List Value).toArray }).push { cls := .ref X.C, data := .fields #[.ref s₂.heap.objs.size, .none, .none, .none, .bool false, .none] }).get? b = some o :=
    fun b o e' => Heap.get?_push_of_some _ (Heap.get?_push_of_some _ e')
  have hget : ((s₂.heap.push { cls := .type "tuple", data := .seq ([Value.str "domain" t1, Value.str tx t2] : List Value).toArray }).push { cls := .ref X.C, data := .fields #[.ref s₂.heap.objs.size, .none, .none, .none, .bool false, .none] }).get? (s₂.heap.objs.size + 1) =
      some { cls := .ref X.C, data := .fields #[.ref s₂.heap.objs.size, .none, .none, .none, .bool false, .none] } := Heap.get?_push_at (by simp only [Heap.size_push]) rfl
  have he0 : s₂.heap.get? (s₂.heap.objs.size + 1) = none := Heap.get?_none_of_le (Nat.le_succ _)
  have heX : s₂.heap.objs.size + 1 ∉ cx.X := p₂.fresh_notX he0
  have heB : cx.base.get? (s₂.heap.objs.size + 1) = none := by
    cases q : cx.base.get? (s₂.heap.objs.size + 1) with
    | none => rfl
    | some o => have := p₂.stays _ _ q; rw [he0] at this; cases this
  have S₃ := Step.grown (N' := []) (tk := s₂.toks) p₂.toWd hk (fun q hq => by cases hq)
  have P3 := p₂.step S₃ (p₂.box.of_keeps hk)
  have hw : Wd cx (A.under (.builtin "type.__call__" ⟨.ref X.C :: [Value.str "domain" t1, Value.str tx t2], []⟩)) k ([] ++ N₂) { s₂ with heap := _, toks := s₂.toks } := { P3.toWd with frs := P3.frs }
  refine init_ok X (by decide +kernel) hl2 (A := A.under (.builtin "type.__call__" ⟨.ref X.C :: [Value.str "domain" t1, Value.str tx t2], []⟩)) ⟨hA.1, ?_, ?_⟩ hw hk hget he0 heB heX fun N₄ s₄ dx ox vs m tk w z1 z2 z3 z4 z5 y1 y2 y3 y4 y5 y6 y7 y8 => ?_
  · have := hA.2.1; show A.depth + 1 + 2 < 600; omega
  · have hu : (Code.builtin "type.__call__" ⟨.ref X.C :: [Value.str "domain" t1, Value.str tx t2], []⟩).cUnits ≤ 3 := by first | (show (0 : Nat) ≤ 3; decide) | (show (1 : Nat) ≤ 3; decide) | (show (2 : Nat) ≤ 3; decide) | (show (3 : Nat) ≤ 3; decide)
    have := hA.2.2
    show A.units + (Code.builtin "type.__call__" ⟨.ref X.C :: [Value.str "domain" t1, Value.str tx t2], []⟩).cUnits + 20 * 2 < 9000
    omega
  refine ⟨rfl, wpAny_bind (wpAny_standAt (wpAny_pure ⟨_, ox, rfl, w.stays _ _ X.obj, y1, y2, vs, y4, .inl ⟨y5, ?_⟩⟩))⟩
  have W : Wd cx A k N₄ s₄ := { w with frs := w.frs }
  have S12 := S₁.trans S₂
  have ne : ∀ b o, s₂.heap.get? b = some o → b ≠ s₂.heap.objs.size + 1 := fun b o e' q => by rw [q, he0] at e'; cases e'
  have hdX : dx ∉ cx.X := fun hx => by
    obtain ⟨o, e'⟩ := P3.xs _ hx
    have e'' := e'.symm.trans y6
    cases e''
  refine hQ _ false N₄ s₄ { kp := fun b o hb e' => ?_, stays := w.stays, xs := fun a ha _ => w.xs a ha, gens := z3.trans S12.gens, os := z4.trans S12.os, sub := fun q hq => z1 q (by simpa using S12.sub q hq), new := fun q hq => ?_ } W (fun b o hb e' => ?_) (p₂.hasNs.imp fun mm hn => z5.ns ⟨p₂.locX, fun q => by obtain ⟨o₀, _, _, e0, _⟩ := hn; exact ne _ _ e0 q⟩ (hn.at' fun o e' => hk _ _ e'))
    ⟨hgN, heX, heB, ox, vs, dx, m, tk, y1, y2, y3, y4, ?_, hdX, y7, y8, .inl ⟨rfl, y5⟩⟩
  · obtain ⟨sl1, a1, b1⟩ := S12.kp b o hb.1 e'
    obtain ⟨sl2, a2, b2⟩ := z5 b _ ⟨hb.1, ne _ _ a1⟩ (hk _ _ a1)
    exact ⟨sl2, a2, fun hd => (b2 hd).trans (b1 hd)⟩
  · rcases z2 q hq with h0 | h0
    · rcases S12.new q (by simpa using h0) with h0 | h0
      · exact .inl h0
      · refine .inr ?_
        cases e' : g.get? q.1 with
        | none => rfl
        | some o =>
          obtain ⟨o', e''⟩ := p.old q.1 o (w.led q hq).2.2 e'
          rw [h0] at e''; cases e''
    · refine .inr ?_
      cases e' : g.get? q.1 with
      | none => rfl
      | some o =>
        obtain ⟨o', e''⟩ := p₂.old q.1 o (w.led q hq).2.2 e'
        have := (hk _ _ e'').symm.trans h0
        cases this
  · obtain ⟨o', e''⟩ := p₂.old b o hb e'
    obtain ⟨sl2, a2, _⟩ := z5 b _ ⟨hb, ne _ _ e''⟩ (hk _ _ e'')
    exact ⟨_, a2⟩
  · cases e' : g.get? dx with
    | none => rfl
    | some o =>
      obtain ⟨o', e''⟩ := p₂.old dx o hdX e'
      have := (hk _ _ e'').symm.trans y6
      cases this
end
end Mine
set_option maxRecDepth 10000
namespace Mine
open PySem PySem.W PyProof.Rows PySem.Calls PySem.Spec

section
variable {cx : Cx} {X : Exc cx} {n : Nat} {sc : Nms} {Γ Γ' Γ₁ : Gam} {k k' k₁ k₂ : Int} {st : Stmt} {rest : List Stmt}

theorem xx_raise (h : ExecX cx X n sc Γ k st) : ExecsX cx X n sc Γ k (st :: rest) :=
  ⟨fun g A env N s hA hE p hfm Q E hQ => wpAny_execs_cons (h.run g A env N s hA hE p hfm _ E hQ)⟩
theorem xx_next (h : ExecN cx n sc Γ k st Γ₁ k) (h2 : ExecsX cx X n sc Γ₁ k rest) : ExecsX cx X n sc Γ k (st :: rest) :=
  ⟨fun g A env N s hA hE p hfm Q E hQ => wpAny_execs_cons (anyF (h.run g A env N s hA hE p _ fun N₁ s₁ S₁ p₁ =>
    h2.run g A env N₁ s₁ hA hE p₁ hfm Q E fun e tb N₂ s₂ S₂ w o hn F => hQ e tb N₂ s₂ (S₁.toW.trans S₂) w o hn F))⟩
theorem sx_if_t {t : Expr} {b o : List Stmt} {pos : Pos} (ht : TestTo cx n sc Γ k t true k) (h : ExecsX cx X n sc Γ k b) : ExecX cx X n sc Γ k (.If t b o pos) :=
  ⟨fun g A env N s hA hE p hfm Q E hQ => wpAny_If (anyF (ht.run g A env N s hA hE p _ fun N₁ s₁ S₁ p₁ => h.run g A env N₁ s₁ hA hE p₁ hfm Q E fun e tb N₂ s₂ S₂ w o hn F => hQ e tb N₂ s₂ ((S₁.toL p).toW.trans S₂) w o hn F))⟩
theorem sx_if_f {t : Expr} {b o : List Stmt} {pos : Pos} (ht : TestTo cx n sc Γ k t false k) (h : ExecsX cx X n sc Γ k o) : ExecX cx X n sc Γ k (.If t b o pos) :=
  ⟨fun g A env N s hA hE p hfm Q E hQ => wpAny_If (anyF (ht.run g A env N s hA hE p _ fun N₁ s₁ S₁ p₁ => h.run g A env N₁ s₁ hA hE p₁ hfm Q E fun e tb N₂ s₂ S₂ w o hn F => hQ e tb N₂ s₂ ((S₁.toL p).toW.trans S₂) w o hn F))⟩
theorem sx_return {e : Expr} {pos : Pos} (h : EvalX cx X n sc Γ k e) : ExecX cx X n sc Γ k (.Return (some e) pos) :=
  ⟨fun g A env N s hA hE p hfm Q E hQ => wpAny_Return_some (h.run g A env N s hA hE p hfm _ E hQ)⟩
theorem sx_assign {x : Str} {px pos : Pos} {e : Expr} (h : EvalX cx X n sc Γ k e) (hs : ∀ env, swapsWith e (some (.Name x px)) pos.line env = pure false := by intro _; rfl) : ExecX cx X n sc Γ k (.Assign [.Name x px] e pos) :=
  ⟨fun g A env N s hA hE p hfm Q E hQ => wpAny_Assign_Name (h.run g A env N s hA hE p hfm _ E hQ) (hs env)⟩
theorem sx_expr {e : Expr} {pos : Pos} (h : EvalX cx X n sc Γ k e) (hi : ∀ env, EnvOk sc env → swapsWith e none pos.line env = pure false := by intro _ _; rfl) : ExecX cx X n sc Γ k (.Expr e pos) :=
  ⟨fun g A env N s hA hE p hfm Q E hQ => wpAny_Expr (h.run g A env N s hA hE p hfm _ E hQ) (by unfold interactive; rw [hE.kind]; rfl) (hi env hE)⟩
theorem ex_item {value slice : Expr} {pos : Pos} (h : EvalX cx X n sc Γ k value) : EvalX cx X n sc Γ k (.Subscript value slice pos) :=
  ⟨fun g A env N s hA hE p hfm Q E hQ => Subscript_ (h.run g A env N s hA hE p hfm _ E hQ)⟩

theorem ex_call {f : Str} {fp pos : Pos} {e : Expr} {es : List Expr} {as : List Sl} (hf : sc.lookup f = some .globalImplicit) (ha : EvalArgs cx n sc Γ k (e :: es) as k) (hc : CallX cx X n f as k)
    (hs : ∀ env, starEach (e :: es) env = (false, eval e env) :: starEach es env := by intro _; exact starE_cons (by intro _ _ h; cases h)) (hd : (f == ("__debug__" : Str)) = false := by rfl) (hpl : ∀ env, (backTo pos (starEach es env)).any (·.1) = false := by intro _; rfl) :
    EvalX cx X n sc Γ k (.Call (.Name f fp) (e :: es) [] pos) := by
  refine ⟨fun g A env N s hA hE p hfm Q E hQ => ?_⟩
  obtain ⟨a, ⟨h1, o, fd, h2, h3⟩, hc⟩ := hc
  refine call_expand (call_name ..) (load_global p.toWd hE hf h1 hd ?_)
  have hsp := ha.run g A env N s pos hA hE p
  rw [hs] at hsp ⊢
  refine Calls.callWith_function (o := o) (fd := fd) (Calls.evalArgs_plain (anyF (hsp _ fun vs N₁ s₁ S₁ p₁ hv => ⟨⟨p₁.stays _ _ h2, h3⟩, ?_⟩)))
  refine hc A N₁ s₁ vs hA p₁.toWd hv Q E fun e N₂ s₂ kp W gg oo sub new F => ?_
  have S : Step cx N₁ s₁ N₂ s₂ := ⟨kp, W.stays, fun a ha _ => W.xs a ha, gg, oo, W.led, sub, new⟩
  refine hQ e true N₂ s₂ ((S₁.trans S).toL p).toW W (fun b o hb e' => ?_) (p₁.hasNs.imp fun m hn => kp.ns p₁.locX hn) (F.weak fun b o hb e' => p₁.old b o hb e')
  obtain ⟨o', e''⟩ := p₁.old b o hb e'
  obtain ⟨sl, e3, _⟩ := kp b o' hb e''
  exact ⟨_, e3⟩
theorem call_x {f : Str} {params : Arguments} {body : List Stmt} {scope : Scope} {as : List Sl} {xs : List Str} (hf : FnHas cx f params body scope)
    (hb : ∀ (name qual : Str) (doc pm cdv ct : Value) (an : Option Addr) (vs : List Value), vs.length = as.length → bindArgs (fnOf name qual params body scope .none .none doc pm an cdv ct) ⟨vs, []⟩ = pure (xs.zip vs)) (hlen : xs.length = as.length) (hnd : xs.Nodup) (hks : ∀ x ∈ xs, scope.names.lookup x = some .local ∨ scope.names.lookup x = some .cell)
    (hk : scope.kind = .function) (hco : scope.isCoroutine = false) (hgen : scope.isGenerator = false)
    (h : ExecsX cx X n scope.names (xs.zip as) k body) : CallX cx X (n + 1) f as k := by
  obtain ⟨a, o, name, qual, doc, pm, an, cdv, ct, h1, h2, h3, h4⟩ := hf
  refine ⟨a, ⟨h1, o, _, h2, h3⟩, fun A N s vs hA p hv Q E hQ => ?_⟩
  refine call_core hA p hv h2 h3 h4 (hb _ _ _ _ _ _ _ vs hv.len) hlen hnd hks hk hco hgen fun env s₁ hA' hE p₁ hkeep hg ho => ?_
  obtain ⟨frs, hfrs, _, _⟩ := p.frs
  obtain ⟨frs', hf1, hf2, _⟩ := p₁.frs
  rw [Around.frames_deeper hfrs] at hf1; cases hf1
  obtain ⟨_, ⟨L, _, hL, _⟩, _⟩ := hf2
  refine h.run s.heap _ env N s₁ hA' hE p₁ ⟨_, L, Around.frames_deeper hfrs, hL⟩ _ _ fun e tb N' s' S W old hns F => ?_
  refine leave_fly W (Around.frames_deeper hfrs) hL old F fun h' C F' => ?_
  refine hQ e N' { s' with heap := h' } (fun b o hb e' => ?_) ((Wd.out hfrs W).ch (tk := s'.toks) C) (S.gens.trans hg) (S.os.trans ho) S.sub S.new F'
  obtain ⟨sl1, a1, b1⟩ := S.kp b o ⟨hb, o, e'⟩ (hkeep b o e')
  by_cases hd : ∃ vs, o.data = .fields vs
  · obtain ⟨vs, hd⟩ := hd
    exact ⟨sl1, C.flds b _ vs a1 hd (.inr (.inl ⟨o, e'⟩)), b1⟩
  · obtain ⟨sl2, a2, b2⟩ := C.keep b _ a1 fun vs q => hd ⟨vs, q⟩
    exact ⟨sl2, a2, fun q => (b2 q).trans (b1 q)⟩
end
end Mine
set_option maxRecDepth 10000
namespace Mine
open PySem PySem.W PyProof.Rows PySem.Calls PySem.Spec
section
variable {cx : Cx} {X : Exc cx} {n : Nat} {sc : Nms} {Γ Γ' Γ₁ : Gam} {k k' k₁ k₂ : Int} {st : Stmt} {rest : List Stmt}
theorem ex_tuple2 {e₁ e₂ : Expr} {c : Nat} {pos : Pos} {d : Dat} (h1 : EvalTo cx n sc Γ k e₁ d k) (h2 : EvalX cx X n sc Γ k e₂)
    (hs1 : ∀ env, starEach [e₁, e₂] env = (false, eval e₁ env) :: starEach [e₂] env := by intro _; exact starE_cons (by intro _ _ h; cases h)) (hs2 : ∀ env, starEach [e₂] env = (false, eval e₂ env) :: starEach [] env := by intro _; exact starE_cons (by intro _ _ h; cases h)) :
    EvalX cx X n sc Γ k (.Tuple [e₁, e₂] c pos) :=
  ⟨fun g A env N s hA hE p hfm Q E hQ => Tuple_ (spliced_more (anyF (h1.run g A env N s hA hE p _ fun v N₁ s₁ S₁ p₁ hv =>
    spliced_more (h2.run g A env N₁ s₁ hA hE p₁ hfm _ E fun e tb N₂ s₂ S₂ w o hn F => hQ e tb N₂ s₂ ((S₁.toL p).toW.trans S₂) w o hn F) (hs2 env))) (hs1 env))⟩
theorem sx_raise' {ek et : Expr} {np cpos pos : Pos} {tx : Str} (hx : sc.lookup ("CasFail" : Str) = some .globalImplicit) (h1 : EvalTo cx (n + 4) sc Γ k ek (.str "domain") k) (h2 : EvalTo cx (n + 4) sc Γ k et (.str tx) k)
    (hl2 : ((("domain" : Str) ++ (": " : Str)).length + tx.length ≤ sizeLine) := by decide +kernel)
    (hs1 : ∀ env, starEach [ek, et] env = (false, eval ek env) :: starEach [et] env := by intro _; exact starE_cons (by intro _ _ h; cases h)) (hs2 : ∀ env, starEach [et] env = (false, eval et env) :: starEach [] env := by intro _; exact starE_cons (by intro _ _ h; cases h))
    (hpl : ∀ env, (backTo cpos (starEach [ek, et] env)).any (·.1) = false := by intro _; rfl) :
    ExecX cx X (n + 4) sc Γ k (.Raise (some (.Call (.Name "CasFail" np) [ek, et] [] cpos)) none pos) :=
  sx_raise hx h1 h2 hl2 (fun env => (hs1 env).trans (congrArg _ (hs2 env))) hpl
theorem modx1 (H : Mods cx) {f : String} (hf : f ∈ fnNames) {x1 : Str} {a1 : Sl} {body : List Stmt} (hB : (fn (Str.ofString f)).2.1 = body) (hs : (fn (Str.ofString f)).2.2.names = sc)
    (hb : ∀ (name qual : Str) (body : List Stmt) (doc pm cdv ct : Value) (an : Option Addr) (v1 : Value), bindArgs (fnOf name qual (fn (Str.ofString f)).1 body (fn (Str.ofString f)).2.2 .none .none doc pm an cdv ct) ⟨[v1], []⟩ = pure [(x1, v1)])
    (hk : (fn (Str.ofString f)).2.2.kind = .function ∧ (fn (Str.ofString f)).2.2.isCoroutine = false ∧ (fn (Str.ofString f)).2.2.isGenerator = false)
    (h1 : sc.lookup x1 = some .local ∨ sc.lookup x1 = some .cell)
    (h : ExecsX cx X n sc [(x1, a1)] k body) : CallX cx X (n + 1) (Str.ofString f) [a1] k := by
  subst hs hB
  refine call_x (xs := [x1]) (H.fn f hf) (fun name qual doc pm cdv ct an vs hl => ?_) rfl (by simp) ?_ hk.1 hk.2.1 hk.2.2 h
  · match vs, hl with
    | [v1], _ => exact hb ..
  · intro x hx
    rcases List.mem_cons.mp hx with rfl | hx
    · exact h1
    · cases hx
theorem modx2 (H : Mods cx) {f : String} (hf : f ∈ fnNames) {x1 x2 : Str} {a1 a2 : Sl} {body : List Stmt} (hB : (fn (Str.ofString f)).2.1 = body) (hs : (fn (Str.ofString f)).2.2.names = sc)
    (hb : ∀ (name qual : Str) (body : List Stmt) (doc pm cdv ct : Value) (an : Option Addr) (v1 v2 : Value), bindArgs (fnOf name qual (fn (Str.ofString f)).1 body (fn (Str.ofString f)).2.2 .none .none doc pm an cdv ct) ⟨[v1, v2], []⟩ = pure [(x1, v1), (x2, v2)])
    (hk : (fn (Str.ofString f)).2.2.kind = .function ∧ (fn (Str.ofString f)).2.2.isCoroutine = false ∧ (fn (Str.ofString f)).2.2.isGenerator = false)
    (h1 : sc.lookup x1 = some .local ∨ sc.lookup x1 = some .cell) (h2 : sc.lookup x2 = some .local ∨ sc.lookup x2 = some .cell) (hne : (x1 == x2) = false)
    (h : ExecsX cx X n sc [(x1, a1), (x2, a2)] k body) : CallX cx X (n + 1) (Str.ofString f) [a1, a2] k := by
  subst hs hB
  refine call_x (xs := [x1, x2]) (H.fn f hf) (fun name qual doc pm cdv ct an vs hl => ?_) rfl ?_ ?_ hk.1 hk.2.1 hk.2.2 h
  · match vs, hl with
    | [v1, v2], _ => exact hb ..
  · simpa using hne
  · intro x hx
    rcases List.mem_cons.mp hx with rfl | hx
    · exact h1
    · rcases List.mem_cons.mp hx with rfl | hx
      · exact h2
      · cases hx
theorem modx3 (H : Mods cx) {f : String} (hf : f ∈ fnNames) {x1 x2 x3 : Str} {a1 a2 a3 : Sl} {body : List Stmt} (hB : (fn (Str.ofString f)).2.1 = body) (hs : (fn (Str.ofString f)).2.2.names = sc)
    (hb : ∀ (name qual : Str) (body : List Stmt) (doc pm cdv ct : Value) (an : Option Addr) (v1 v2 v3 : Value), bindArgs (fnOf name qual (fn (Str.ofString f)).1 body (fn (Str.ofString f)).2.2 .none .none doc pm an cdv ct) ⟨[v1, v2, v3], []⟩ = pure [(x1, v1), (x2, v2), (x3, v3)])
    (hk : (fn (Str.ofString f)).2.2.kind = .function ∧ (fn (Str.ofString f)).2.2.isCoroutine = false ∧ (fn (Str.ofString f)).2.2.isGenerator = false)
    (h1 : sc.lookup x1 = some .local ∨ sc.lookup x1 = some .cell) (h2 : sc.lookup x2 = some .local ∨ sc.lookup x2 = some .cell) (h3 : sc.lookup x3 = some .local ∨ sc.lookup x3 = some .cell) (hne : [x1, x2, x3].Nodup)
    (h : ExecsX cx X n sc [(x1, a1), (x2, a2), (x3, a3)] k body) : CallX cx X (n + 1) (Str.ofString f) [a1, a2, a3] k := by
  subst hs hB
  refine call_x (xs := [x1, x2, x3]) (H.fn f hf) (fun name qual doc pm cdv ct an vs hl => ?_) rfl hne ?_ hk.1 hk.2.1 hk.2.2 h
  · match vs, hl with
    | [v1, v2, v3], _ => exact hb ..
  · intro x hx
    rcases List.mem_cons.mp hx with rfl | hx
    · exact h1
    · rcases List.mem_cons.mp hx with rfl | hx
      · exact h2
      · rcases List.mem_cons.mp hx with rfl | hx
        · exact h3
        · cases hx
theorem modx4 (H : Mods cx) {f : String} (hf : f ∈ fnNames) {x1 x2 x3 x4 : Str} {a1 a2 a3 a4 : Sl} {body : List Stmt} (hB : (fn (Str.ofString f)).2.1 = body) (hs : (fn (Str.ofString f)).2.2.names = sc)
    (hb : ∀ (name qual : Str) (body : List Stmt) (doc pm cdv ct : Value) (an : Option Addr) (v1 v2 v3 v4 : Value), bindArgs (fnOf name qual (fn (Str.ofString f)).1 body (fn (Str.ofString f)).2.2 .none .none doc pm an cdv ct) ⟨[v1, v2, v3, v4], []⟩ = pure [(x1, v1), (x2, v2), (x3, v3), (x4, v4)])
    (hk : (fn (Str.ofString f)).2.2.kind = .function ∧ (fn (Str.ofString f)).2.2.isCoroutine = false ∧ (fn (Str.ofString f)).2.2.isGenerator = false)
    (h1 : sc.lookup x1 = some .local ∨ sc.lookup x1 = some .cell) (h2 : sc.lookup x2 = some .local ∨ sc.lookup x2 = some .cell) (h3 : sc.lookup x3 = some .local ∨ sc.lookup x3 = some .cell) (h4 : sc.lookup x4 = some .local ∨ sc.lookup x4 = some .cell) (hne : [x1, x2, x3, x4].Nodup)
    (h : ExecsX cx X n sc [(x1, a1), (x2, a2), (x3, a3), (x4, a4)] k body) : CallX cx X (n + 1) (Str.ofString f) [a1, a2, a3, a4] k := by
  subst hs hB
  refine call_x (xs := [x1, x2, x3, x4]) (H.fn f hf) (fun name qual doc pm cdv ct an vs hl => ?_) rfl hne ?_ hk.1 hk.2.1 hk.2.2 h
  · match vs, hl with
    | [v1, v2, v3, v4], _ => exact hb ..
  · intro x hx
    rcases List.mem_cons.mp hx with rfl | hx
    · exact h1
    · rcases List.mem_cons.mp hx with rfl | hx
      · exact h2
      · rcases List.mem_cons.mp hx with rfl | hx
        · exact h3
        · rcases List.mem_cons.mp hx with rfl | hx
          · exact h4
          · cases hx
theorem CallX.up {m : Nat} {f : Str} {as : List Sl} (h : CallX cx X m f as k) (hm : m ≤ n) : CallX cx X n f as k :=
  let ⟨a, h1, h2⟩ := h; ⟨a, h1, fun A N s vs hA => h2 A N s vs (hA.mono hm)⟩
end
end Mine
set_option maxRecDepth 10000
namespace Mine
open PySem PySem.W PyProof.Rows PySem.Calls PySem.Spec
section
variable {cx : Cx} {X : Exc cx} {n : Nat} {sc : Nms} {Γ Γ' Γ₁ : Gam} {k k' k₁ k₂ : Int}
theorem ex_arg {f : Str} {fp pos : Pos} {e : Expr} {es : List Expr} {params : Arguments} {body : List Stmt} {scope : Scope} (hf : sc.lookup f = some .globalImplicit) (hc : FnHas cx f params body scope) (ha : EvalX cx X n sc Γ k e)
    (hs : ∀ env, starEach (e :: es) env = (false, eval e env) :: starEach es env := by intro _; exact starE_cons (by intro _ _ h; cases h)) (hd : (f == ("__debug__" : Str)) = false := by rfl) (hpl : ∀ env, (backTo pos (starEach es env)).any (·.1) = false := by intro _; rfl) :
    EvalX cx X n sc Γ k (.Call (.Name f fp) (e :: es) [] pos) := by
  refine ⟨fun g A env N s hA hE p hfm Q E hQ => ?_⟩
  obtain ⟨a, o, name, qual, doc, pm, an, cdv, ct, h1, h2, h3, h4⟩ := hc
  refine call_expand (call_name ..) (load_global p.toWd hE hf h1 hd ?_)
  rw [hs]
  exact Calls.callWith_function (o := o) (fd := fnOf name qual params body scope .none .none doc pm an cdv ct) (Q := Q) (Calls.evalArgs_plain (spliced_cons (ha.run g A env N s hA hE p hfm _ E hQ)))
/-- need_begin: the argument list begins with another number -/
noncomputable def needX (a : List Q) (q : Q) : Bool := match a with
  | [] => false
  | x :: _ => okL a && okQ x && okQ q && x.1 * q.2 - q.1 * x.2 != 0
noncomputable def fromX (a : L) : Bool := okL a.2 && okZ (ltrim a.1 a.2).1 && decide ((ltrim a.1 a.2).1 < 0) && decide (0 < (ltrim a.1 a.2).2.length)
noncomputable def callX (f : Fn) (a : L) : Bool := fromX a || (match fromZero? a with
  | some inn => (match f with | .gamma => true | .log => needX inn r1 | .sin => needX inn r0 | _ => false)
  | none => false)
noncomputable def termX (m : Nat) : Tm → Bool
  | .pow b (.num p q) => if q == 1 then false else (match term? m b with | some u => rootX u (p, q) | none => false)
  | .pow _ _ => true
  | .y => true
  | .call2 _ _ _ => true
  | .call f a => (match term? m a with | some u => callX f u | none => false)
  | _ => false
noncomputable def lcutX (a : L) : Bool := okL a.2 && okZ (ltrim a.1 a.2).1 && decide ((ltrim a.1 a.2).1 < 0) && decide (0 < (ltrim a.1 a.2).2.length)
end
end Mine
set_option linter.unusedSimpArgs false
set_option maxRecDepth 10000
set_option maxHeartbeats 1000000
namespace Mine
open PySem PySem.W PyProof.Rows PySem.Calls PySem.Spec


theorem need_begin_x {cx : Cx} {X : Exc cx} (H : Mods cx) {k : Int} {a : List Q} {q : Q} (hq : q = r0 ∨ q = r1) (h : needX a q = true) : CallX cx X 5 (Str.ofString "need_begin") [.val (dS a), .val (dQ q)] k := by
  cases a with
  | nil => cases h
  | cons x r =>
    unfold needX at h
    simp only [Bool.and_eq_true, bne_iff_ne, ne_eq] at h
    obtain ⟨⟨⟨hl, ha⟩, hb⟩, h0⟩ := h
    have hl := okL_lt hl
    have hx : (x :: r)[0]? = some x := rfl
    have hl' : r.length < 99 := by simp at hl; omega
    have hv : (b2i (decide (0 < x.1 * q.2 - q.1 * x.2)) - b2i (decide (x.1 * q.2 - q.1 * x.2 < 0)) != 0) = true := by
      generalize x.1 * q.2 - q.1 * x.2 = z at h0
      by_cases hz : 0 < z
      · rw [decide_eq_true hz, decide_eq_false (by omega)]; rfl
      · rw [decide_eq_false hz, decide_eq_true (by omega)]; rfl
    refine modx2 (x1 := "a") (x2 := "number") (sc := [("a", .local), ("number", .local), ("len", .globalImplicit), ("rcompare", .globalImplicit), ("CasFail", .globalImplicit), ("str", .globalImplicit)]) H (by decide) rfl rfl (fun _ _ _ _ _ _ _ _ _ _ => rfl) ⟨rfl, rfl, rfl⟩ (.inl rfl) (.inl rfl) rfl ?_
    rcases hq with rfl | rfl
    · exact (xx_raise (sx_if_t (te_and_t (te_eq (b := true) (te_cmp (ev_callb rfl (H.no "len" (by decide)) rfl (ea_cons (ev_name rfl) ea_nil) (cb_len_list _ (by first | omega | assumption | decide | (simp; done) | (simp; omega)))) (ev_int _) (cmp_gt _ _)) (by first | rfl | (simp [kqdP, kqdPs, PyData.eqv, PyData.eqvAll, *]; done) | assumption | decide | (simp [*]; done) | (simp; omega))) (te_and_t (te_eq (b := true) (te_cmp (ev_call rfl (ar_cons (ev_item (ev_name rfl) rfl (ev_int _) (by first | omega | assumption | decide | (simp; done) | (simp; omega)) (by first | omega | assumption | decide | (simp; done) | (simp; omega)) (by first | rfl | exact hx | exact at_q hx (by omega) | exact at_q hy (by omega) | exact at_q hx (by simp) | exact at_q hy (by simp; omega))) (ar_cons (ev_name rfl) ar_nil)) ((rcompare_ok H ha hb).up (by first | decide | omega | (simp [lev, inner, poly]; done)))) (ev_int _) (cmp_ne _ _)) (by first | rfl | (simp [kqdP, kqdPs, PyData.eqv, PyData.eqvAll, *]; done) | assumption | decide | (simp [*]; done) | (simp; omega))) te_and_nil)) (xx_raise (sx_raise' rfl (ev_str _) (ev_bin (ev_str _) (ev_str_int rfl (H.no "str" (by decide)) rfl (ev_item (ev_name rfl) rfl (ev_int _) (by decide) (by decide) rfl) (by decide)) (bin_add_str _ _ (by decide +kernel)))))))
    · exact (xx_raise (sx_if_t (te_and_t (te_eq (b := true) (te_cmp (ev_callb rfl (H.no "len" (by decide)) rfl (ea_cons (ev_name rfl) ea_nil) (cb_len_list _ (by first | omega | assumption | decide | (simp; done) | (simp; omega)))) (ev_int _) (cmp_gt _ _)) (by first | rfl | (simp [kqdP, kqdPs, PyData.eqv, PyData.eqvAll, *]; done) | assumption | decide | (simp [*]; done) | (simp; omega))) (te_and_t (te_eq (b := true) (te_cmp (ev_call rfl (ar_cons (ev_item (ev_name rfl) rfl (ev_int _) (by first | omega | assumption | decide | (simp; done) | (simp; omega)) (by first | omega | assumption | decide | (simp; done) | (simp; omega)) (by first | rfl | exact hx | exact at_q hx (by omega) | exact at_q hy (by omega) | exact at_q hx (by simp) | exact at_q hy (by simp; omega))) (ar_cons (ev_name rfl) ar_nil)) ((rcompare_ok H ha hb).up (by first | decide | omega | (simp [lev, inner, poly]; done)))) (ev_int _) (cmp_ne _ _)) (by first | rfl | (simp [kqdP, kqdPs, PyData.eqv, PyData.eqvAll, *]; done) | assumption | decide | (simp [*]; done) | (simp; omega))) te_and_nil)) (xx_raise (sx_raise' rfl (ev_str _) (ev_bin (ev_str _) (ev_str_int rfl (H.no "str" (by decide)) rfl (ev_item (ev_name rfl) rfl (ev_int _) (by decide) (by decide) rfl) (by decide)) (bin_add_str _ _ (by decide +kernel)))))))
theorem slog_x {cx : Cx} {X : Exc cx} (H : Mods cx) {k : Int} {a : List Q} (h : needX a r1 = true) : CallX cx X 6 (Str.ofString "slog") [.val (dS a)] k := by
  refine modx1 (x1 := "a") (sc := [("a", .local), ("need_begin", .globalImplicit), ("R1", .globalImplicit), ("len", .globalImplicit), ("sintegrate", .globalImplicit), ("smul", .globalImplicit), ("sderive", .globalImplicit), ("sinverse", .globalImplicit)]) H (by decide) rfl rfl (fun _ _ _ _ _ _ _ _ _ => rfl) ⟨rfl, rfl, rfl⟩ (.inl rfl) ?_
  exact (xx_raise (sx_expr (ex_call rfl (ar_cons (ev_name rfl) (ar_cons (ev_global rfl H.R1) ar_nil)) ((need_begin_x (X := X) H (.inr rfl) h).up (by first | decide | omega | (simp [lev, inner, poly]; done))))))
theorem ssin_cos_x {cx : Cx} {X : Exc cx} (H : Mods cx) {k : Int} {a : List Q} (h : needX a r0 = true) : CallX cx X 6 (Str.ofString "ssin_cos") [.val (dS a)] k := by
  refine modx1 (x1 := "a") (sc := [("a", .local), ("sines", .local), ("others", .local), ("at", .local), ("one", .local), ("other", .local), ("spot", .local), ("moved", .local), ("need_begin", .globalImplicit), ("R0", .globalImplicit), ("range", .globalImplicit), ("len", .globalImplicit), ("rmul", .globalImplicit), ("radd", .globalImplicit), ("rsub", .globalImplicit), ("rdiv", .globalImplicit), ("R1", .globalImplicit)]) H (by decide) rfl rfl (fun _ _ _ _ _ _ _ _ _ => rfl) ⟨rfl, rfl, rfl⟩ (.inl rfl) ?_
  exact (xx_raise (sx_expr (ex_call rfl (ar_cons (ev_name rfl) (ar_cons (ev_global rfl H.R0) ar_nil)) ((need_begin_x (X := X) H (.inl rfl) h).up (by first | decide | omega | (simp [lev, inner, poly]; done))))))
theorem ssin_x {cx : Cx} {X : Exc cx} (H : Mods cx) {k : Int} {a : List Q} (h : needX a r0 = true) : CallX cx X 7 (Str.ofString "ssin") [.val (dS a)] k := by
  refine modx1 (x1 := "a") (sc := [("a", .local), ("ssin_cos", .globalImplicit)]) H (by decide) rfl rfl (fun _ _ _ _ _ _ _ _ _ => rfl) ⟨rfl, rfl, rfl⟩ (.inl rfl) ?_
  exact (xx_raise (sx_return (ex_item (ex_call rfl (ar_cons (ev_name rfl) ar_nil) ((ssin_cos_x (X := X) H h).up (by first | decide | omega | (simp [lev, inner, poly]; done)))))))
theorem ltrim_eq {a : L} (h : okL a.2 = true) : ltrim? a = some (ltrim a.1 a.2) := by unfold ltrim?; rw [if_pos h]
theorem from_zero_x {cx : Cx} {X : Exc cx} (H : Mods cx) {k : Int} {a : L} (h : fromX a = true) : CallX cx X 5 (Str.ofString "from_zero") [.val (dL a)] k := by
  unfold fromX at h
  simp only [Bool.and_eq_true, decide_eq_true_eq] at h
  obtain ⟨⟨⟨h1, h2⟩, h3⟩, h4⟩ := h
  have ht := ltrim_eq h1
  have h1' := okL_lt (show okL (ltrim a.1 a.2).2 = true from by have := ltrim_len ht; unfold okL; rw [Nat.blt_eq]; exact this)
  generalize ltrim a.1 a.2 = t at *
  obtain ⟨low, l⟩ := t
  dsimp only at *
  refine modx1 (x1 := "told") (sc := [("told", .local), ("low", .local), ("rest", .local), ("ltrim", .globalImplicit), ("len", .globalImplicit), ("CasFail", .globalImplicit), ("R0", .globalImplicit), ("max", .globalImplicit)]) H (by decide) rfl rfl (fun _ _ _ _ _ _ _ _ _ => rfl) ⟨rfl, rfl, rfl⟩ (.inl rfl) ?_
  exact (xx_next (sn_unpack2 (.inl rfl) (.inl rfl) (ev_call rfl (ar_cons (ev_name rfl) ar_nil) ((ltrim_ok H ht).up (by first | decide | omega | (simp [lev, inner, poly]; done))))) (xx_raise (sx_if_t (te_and_t (te_eq (b := true) (te_cmp (ev_name rfl) (ev_int _) (cmp_lt _ _)) (by first | rfl | (simp [kqdP, kqdPs, PyData.eqv, PyData.eqvAll, *]; done) | assumption | decide | (simp [*]; done) | (simp; omega))) (te_and_t (te_eq (b := true) (te_cmp (ev_callb rfl (H.no "len" (by decide)) rfl (ea_cons (ev_name rfl) ea_nil) (cb_len_list _ (by first | omega | assumption | decide | (simp; done) | (simp; omega)))) (ev_int _) (cmp_gt _ _)) (by first | rfl | (simp [kqdP, kqdPs, PyData.eqv, PyData.eqvAll, *]; done) | assumption | decide | (simp [*]; done) | (simp; omega))) te_and_nil)) (xx_raise (sx_raise' rfl (ev_str _) (ev_str _))))))
theorem lcut_x {cx : Cx} {X : Exc cx} (H : Mods cx) {k : Int} {a : L} {e : Int} (h : lcutX a = true) : CallX cx X 5 (Str.ofString "lcut") [.val (dL a), .val (.int e)] k := by
  unfold lcutX at h
  simp only [Bool.and_eq_true, decide_eq_true_eq] at h
  obtain ⟨⟨⟨h1, h2⟩, h3⟩, h4⟩ := h
  have ht := ltrim_eq h1
  have h1' := okL_lt (show okL (ltrim a.1 a.2).2 = true from by have := ltrim_len ht; unfold okL; rw [Nat.blt_eq]; exact this)
  generalize ltrim a.1 a.2 = t at *
  obtain ⟨low, l⟩ := t
  dsimp only at *
  refine modx2 (x1 := "a") (x2 := "end") (sc := [("a", .local), ("end", .local), ("low", .local), ("rest", .local), ("ltrim", .globalImplicit), ("len", .globalImplicit), ("CasFail", .globalImplicit), ("R0", .globalImplicit)]) H (by decide) rfl rfl (fun _ _ _ _ _ _ _ _ _ _ => rfl) ⟨rfl, rfl, rfl⟩ (.inl rfl) (.inl rfl) rfl ?_
  exact (xx_next (sn_unpack2 (.inl rfl) (.inl rfl) (ev_call rfl (ar_cons (ev_name rfl) ar_nil) ((ltrim_ok H ht).up (by first | decide | omega | (simp [lev, inner, poly]; done))))) (xx_raise (sx_if_t (te_and_t (te_eq (b := true) (te_cmp (ev_callb rfl (H.no "len" (by decide)) rfl (ea_cons (ev_name rfl) ea_nil) (cb_len_list _ (by first | omega | assumption | decide | (simp; done) | (simp; omega)))) (ev_int _) (cmp_gt _ _)) (by first | rfl | (simp [kqdP, kqdPs, PyData.eqv, PyData.eqvAll, *]; done) | assumption | decide | (simp [*]; done) | (simp; omega))) (te_and_t (te_eq (b := true) (te_cmp (ev_name rfl) (ev_int _) (cmp_lt _ _)) (by first | rfl | (simp [kqdP, kqdPs, PyData.eqv, PyData.eqvAll, *]; done) | assumption | decide | (simp [*]; done) | (simp; omega))) te_and_nil)) (xx_raise (sx_raise' rfl (ev_str _) (ev_str _))))))
theorem of_call_x {cx : Cx} {X : Exc cx} (H : Mods cx) {k : Int} {f : Fn} {a : L} (h : callX f a = true) : CallX cx X 9 (Str.ofString "of_call") [.val (.str (fnName f)), .val (dL a)] k := by
  unfold callX at h
  refine modx2 (x1 := "name") (x2 := "told") (sc := [("name", .local), ("told", .local), ("inner", .local), ("from_zero", .globalImplicit), ("sexp", .globalImplicit), ("slog", .globalImplicit), ("ssin", .globalImplicit), ("scos", .globalImplicit), ("lmul", .globalImplicit), ("lpower", .globalImplicit), ("satan", .globalImplicit), ("of_root", .globalImplicit), ("CasFail", .globalImplicit)]) H (by decide) rfl rfl (fun _ _ _ _ _ _ _ _ _ _ => rfl) ⟨rfl, rfl, rfl⟩ (.inl rfl) (.inl rfl) rfl ?_
  rcases Bool.or_eq_true_iff.mp h with h | h
  · exact (xx_raise (sx_assign (ex_call rfl (ar_cons (ev_name rfl) ar_nil) ((from_zero_x (X := X) H h).up (by first | decide | omega | (simp [lev, inner, poly]; done))))))
  · split at h
    case h_2 => cases h
    rename_i inn hinn
    split at h
    · exact (xx_next (sn_assign (.inl rfl) (ev_call rfl (ar_cons (ev_name rfl) ar_nil) ((from_zero_ok H hinn).up (by first | decide | omega | (simp [lev, inner, poly]; done))))) (xx_next (sn_if_f (te_eq (b := false) (te_cmp (ev_name rfl) (ev_str _) (cmp_eq_dat _ _ (by first | rfl | decide +kernel) (by first | rfl | decide +kernel))) (by first | rfl | (simp [kqdP, kqdPs, PyData.eqv, PyData.eqvAll, *]; done) | assumption | decide | (simp [*]; done) | (simp; omega))) xs_nil) (xx_next (sn_if_f (te_eq (b := false) (te_cmp (ev_name rfl) (ev_str _) (cmp_eq_dat _ _ (by first | rfl | decide +kernel) (by first | rfl | decide +kernel))) (by first | rfl | (simp [kqdP, kqdPs, PyData.eqv, PyData.eqvAll, *]; done) | assumption | decide | (simp [*]; done) | (simp; omega))) xs_nil) (xx_next (sn_if_f (te_eq (b := false) (te_cmp (ev_name rfl) (ev_str _) (cmp_eq_dat _ _ (by first | rfl | decide +kernel) (by first | rfl | decide +kernel))) (by first | rfl | (simp [kqdP, kqdPs, PyData.eqv, PyData.eqvAll, *]; done) | assumption | decide | (simp [*]; done) | (simp; omega))) xs_nil) (xx_next (sn_if_f (te_eq (b := false) (te_cmp (ev_name rfl) (ev_str _) (cmp_eq_dat _ _ (by first | rfl | decide +kernel) (by first | rfl | decide +kernel))) (by first | rfl | (simp [kqdP, kqdPs, PyData.eqv, PyData.eqvAll, *]; done) | assumption | decide | (simp [*]; done) | (simp; omega))) xs_nil) (xx_next (sn_if_f (te_eq (b := false) (te_cmp (ev_name rfl) (ev_str _) (cmp_eq_dat _ _ (by first | rfl | decide +kernel) (by first | rfl | decide +kernel))) (by first | rfl | (simp [kqdP, kqdPs, PyData.eqv, PyData.eqvAll, *]; done) | assumption | decide | (simp [*]; done) | (simp; omega))) xs_nil) (xx_next (sn_if_f (te_eq (b := false) (te_cmp (ev_name rfl) (ev_str _) (cmp_eq_dat _ _ (by first | rfl | decide +kernel) (by first | rfl | decide +kernel))) (by first | rfl | (simp [kqdP, kqdPs, PyData.eqv, PyData.eqvAll, *]; done) | assumption | decide | (simp [*]; done) | (simp; omega))) xs_nil) (xx_next (sn_if_f (te_eq (b := false) (te_cmp (ev_name rfl) (ev_str _) (cmp_eq_dat _ _ (by first | rfl | decide +kernel) (by first | rfl | decide +kernel))) (by first | rfl | (simp [kqdP, kqdPs, PyData.eqv, PyData.eqvAll, *]; done) | assumption | decide | (simp [*]; done) | (simp; omega))) xs_nil) (xx_raise (sx_raise' rfl (ev_str _) (ev_bin (ev_str _) (ev_name rfl) (bin_add_str _ _ (by decide +kernel)))))))))))))
    · exact (xx_next (sn_assign (.inl rfl) (ev_call rfl (ar_cons (ev_name rfl) ar_nil) ((from_zero_ok H hinn).up (by first | decide | omega | (simp [lev, inner, poly]; done))))) (xx_next (sn_if_f (te_eq (b := false) (te_cmp (ev_name rfl) (ev_str _) (cmp_eq_dat _ _ (by first | rfl | decide +kernel) (by first | rfl | decide +kernel))) (by first | rfl | (simp [kqdP, kqdPs, PyData.eqv, PyData.eqvAll, *]; done) | assumption | decide | (simp [*]; done) | (simp; omega))) xs_nil) (xx_raise (sx_if_t (te_eq (b := true) (te_cmp (ev_name rfl) (ev_str _) (cmp_eq_dat _ _ (by first | rfl | decide +kernel) (by first | rfl | decide +kernel))) (by first | rfl | (simp [kqdP, kqdPs, PyData.eqv, PyData.eqvAll, *]; done) | assumption | decide | (simp [*]; done) | (simp; omega))) (xx_raise (sx_return (ex_tuple2 (ev_int _) (ex_call rfl (ar_cons (ev_name rfl) ar_nil) ((slog_x (X := X) H h).up (by first | decide | omega | (simp [lev, inner, poly]; done)))))))))))
    · exact (xx_next (sn_assign (.inl rfl) (ev_call rfl (ar_cons (ev_name rfl) ar_nil) ((from_zero_ok H hinn).up (by first | decide | omega | (simp [lev, inner, poly]; done))))) (xx_next (sn_if_f (te_eq (b := false) (te_cmp (ev_name rfl) (ev_str _) (cmp_eq_dat _ _ (by first | rfl | decide +kernel) (by first | rfl | decide +kernel))) (by first | rfl | (simp [kqdP, kqdPs, PyData.eqv, PyData.eqvAll, *]; done) | assumption | decide | (simp [*]; done) | (simp; omega))) xs_nil) (xx_next (sn_if_f (te_eq (b := false) (te_cmp (ev_name rfl) (ev_str _) (cmp_eq_dat _ _ (by first | rfl | decide +kernel) (by first | rfl | decide +kernel))) (by first | rfl | (simp [kqdP, kqdPs, PyData.eqv, PyData.eqvAll, *]; done) | assumption | decide | (simp [*]; done) | (simp; omega))) xs_nil) (xx_raise (sx_if_t (te_eq (b := true) (te_cmp (ev_name rfl) (ev_str _) (cmp_eq_dat _ _ (by first | rfl | decide +kernel) (by first | rfl | decide +kernel))) (by first | rfl | (simp [kqdP, kqdPs, PyData.eqv, PyData.eqvAll, *]; done) | assumption | decide | (simp [*]; done) | (simp; omega))) (xx_raise (sx_return (ex_tuple2 (ev_int _) (ex_call rfl (ar_cons (ev_name rfl) ar_nil) ((ssin_x (X := X) H h).up (by first | decide | omega | (simp [lev, inner, poly]; done))))))))))))
    · cases h
theorem of_root_x {cx : Cx} {X : Exc cx} (H : Mods cx) {k : Int} {a : L} {q : Q} (h : rootX a q = true) : CallX cx X 7 (Str.ofString "of_root") [.val (dL a), .val (dQ q)] k := by
  unfold rootX at h
  split at h
  · cases h
  rename_i hok
  have hok : okL a.2 = true := by simpa using hok
  have ht := ltrim_eq hok
  have hl := ltrim_len ht
  dsimp only at h hl
  generalize ltrim a.1 a.2 = t at *
  obtain ⟨low, l⟩ := t
  dsimp only at *
  refine modx2 (x1 := "told") (x2 := "number") (sc := [("told", .local), ("number", .local), ("low", .local), ("rest", .local), ("first", .local), ("begin", .local), ("ltrim", .globalImplicit), ("len", .globalImplicit), ("CasFail", .globalImplicit), ("exact_root", .globalImplicit), ("rdiv", .globalImplicit), ("R1", .globalImplicit), ("abs", .globalImplicit), ("sscale", .globalImplicit), ("spower", .globalImplicit)]) H (by decide) rfl rfl (fun _ _ _ _ _ _ _ _ _ _ => rfl) ⟨rfl, rfl, rfl⟩ (.inl rfl) (.inl rfl) rfl ?_
  split at h
  · exact (xx_next (sn_unpack2 (.inl rfl) (.inl rfl) (ev_call rfl (ar_cons (ev_name rfl) ar_nil) ((ltrim_ok H ht).up (by first | decide | omega | (simp [lev, inner, poly]; done))))) (xx_raise (sx_if_t (te_or_t (te_eq (b := true) (te_cmp (ev_callb rfl (H.no "len" (by decide)) rfl (ea_cons (ev_name rfl) ea_nil) (cb_len_list _ (by first | omega | assumption | decide | (simp; done) | (simp; omega)))) (ev_int _) (cmp_eq _ _)) (by first | rfl | (simp [kqdP, kqdPs, PyData.eqv, PyData.eqvAll, *]; done) | assumption | decide | (simp [*]; done) | (simp; omega)))) (xx_raise (sx_raise' rfl (ev_str _) (ev_str _))))))
  · rename_i x l'
    simp only [Bool.and_eq_true, Bool.or_eq_true, decide_eq_true_eq] at h
    obtain ⟨⟨⟨⟨⟨c1, c2⟩, c3⟩, c4⟩, c5⟩, h⟩ := h
    have c1 := okI_lt c1
    have c2 := okI_lt c2
    have hq2 : q.2 ≠ 0 := by omega
    have hb2 : q.2.natAbs < big := Nat.lt_of_lt_of_le (by omega : q.2.natAbs < 100) (by decide)
    simp at hl
    have hx : (x :: l')[0]? = some x := rfl
    cases e1 : ((low * q.1).fmod q.2 != 0) with
    | true => exact (xx_next (sn_unpack2 (.inl rfl) (.inl rfl) (ev_call rfl (ar_cons (ev_name rfl) ar_nil) ((ltrim_ok H ht).up (by first | decide | omega | (simp [lev, inner, poly]; done))))) (xx_raise (sx_if_t (te_or_f (te_eq (b := false) (te_cmp (ev_callb rfl (H.no "len" (by decide)) rfl (ea_cons (ev_name rfl) ea_nil) (cb_len_list _ (by first | omega | assumption | decide | (simp; done) | (simp; omega)))) (ev_int _) (cmp_eq _ _)) (by first | rfl | (simp [kqdP, kqdPs, PyData.eqv, PyData.eqvAll, *]; done) | assumption | decide | (simp [*]; done) | (simp; omega))) (te_or_t (te_eq (b := true) (te_cmp (ev_bin (ev_bin (ev_name rfl) (ev_item (ev_name rfl) rfl (ev_int _) (by decide) (by decide) rfl) (bin_mul _ _ (by first | omega | assumption | decide | (simp; done) | (simp; omega)))) (ev_item (ev_name rfl) rfl (ev_int _) (by decide) (by decide) rfl) (bin_mod _ _ (by first | omega | assumption | decide | (simp; done) | (simp; omega)))) (ev_int _) (cmp_ne _ _)) (by first | rfl | (simp [kqdP, kqdPs, PyData.eqv, PyData.eqvAll, *]; done) | assumption | decide | (simp [*]; done) | (simp; omega))))) (xx_raise (sx_raise' rfl (ev_str _) (ev_str _))))))
    | false =>
      rw [e1] at h
      cases e2 : (decide (0 < x.1)) with
      | false =>
        have e2' : ¬ 0 < x.1 := by simpa using e2
        exact (xx_next (sn_unpack2 (.inl rfl) (.inl rfl) (ev_call rfl (ar_cons (ev_name rfl) ar_nil) ((ltrim_ok H ht).up (by first | decide | omega | (simp [lev, inner, poly]; done))))) (xx_raise (sx_if_t (te_or_f (te_eq (b := false) (te_cmp (ev_callb rfl (H.no "len" (by decide)) rfl (ea_cons (ev_name rfl) ea_nil) (cb_len_list _ (by first | omega | assumption | decide | (simp; done) | (simp; omega)))) (ev_int _) (cmp_eq _ _)) (by first | rfl | (simp [kqdP, kqdPs, PyData.eqv, PyData.eqvAll, *]; done) | assumption | decide | (simp [*]; done) | (simp; omega))) (te_or_f (te_eq (b := false) (te_cmp (ev_bin (ev_bin (ev_name rfl) (ev_item (ev_name rfl) rfl (ev_int _) (by decide) (by decide) rfl) (bin_mul _ _ (by first | omega | assumption | decide | (simp; done) | (simp; omega)))) (ev_item (ev_name rfl) rfl (ev_int _) (by decide) (by decide) rfl) (bin_mod _ _ (by first | omega | assumption | decide | (simp; done) | (simp; omega)))) (ev_int _) (cmp_ne _ _)) (by first | rfl | (simp [kqdP, kqdPs, PyData.eqv, PyData.eqvAll, *]; done) | assumption | decide | (simp [*]; done) | (simp; omega))) (te_or_t (te_eq (b := true) (te_cmp (ev_item (ev_item (ev_name rfl) rfl (ev_int _) (by first | omega | assumption | decide | (simp; done) | (simp; omega)) (by first | omega | assumption | decide | (simp; done) | (simp; omega)) (by first | rfl | exact hx | exact at_q hx (by omega) | exact at_q hy (by omega) | exact at_q hx (by simp) | exact at_q hy (by simp; omega))) rfl (ev_int _) (by decide) (by decide) rfl) (ev_int _) (cmp_le _ _)) (by first | rfl | (simp [kqdP, kqdPs, PyData.eqv, PyData.eqvAll, *]; done) | assumption | decide | (simp [*]; done) | (simp; omega)))))) (xx_raise (sx_raise' rfl (ev_str _) (ev_str _))))))
      | true =>
        have e2' : 0 < x.1 := by simpa using e2
        rw [e2] at h
        simp only [Bool.not_true, Bool.false_eq_true, false_or] at h
        split at h
        case h_2 => cases h
        rename_i ho
        exact (xx_next (sn_unpack2 (.inl rfl) (.inl rfl) (ev_call rfl (ar_cons (ev_name rfl) ar_nil) ((ltrim_ok H ht).up (by first | decide | omega | (simp [lev, inner, poly]; done))))) (xx_next (sn_if_f (te_or_f (te_eq (b := false) (te_cmp (ev_callb rfl (H.no "len" (by decide)) rfl (ea_cons (ev_name rfl) ea_nil) (cb_len_list _ (by first | omega | assumption | decide | (simp; done) | (simp; omega)))) (ev_int _) (cmp_eq _ _)) (by first | rfl | (simp [kqdP, kqdPs, PyData.eqv, PyData.eqvAll, *]; done) | assumption | decide | (simp [*]; done) | (simp; omega))) (te_or_f (te_eq (b := false) (te_cmp (ev_bin (ev_bin (ev_name rfl) (ev_item (ev_name rfl) rfl (ev_int _) (by decide) (by decide) rfl) (bin_mul _ _ (by first | omega | assumption | decide | (simp; done) | (simp; omega)))) (ev_item (ev_name rfl) rfl (ev_int _) (by decide) (by decide) rfl) (bin_mod _ _ (by first | omega | assumption | decide | (simp; done) | (simp; omega)))) (ev_int _) (cmp_ne _ _)) (by first | rfl | (simp [kqdP, kqdPs, PyData.eqv, PyData.eqvAll, *]; done) | assumption | decide | (simp [*]; done) | (simp; omega))) (te_or_f (te_eq (b := false) (te_cmp (ev_item (ev_item (ev_name rfl) rfl (ev_int _) (by first | omega | assumption | decide | (simp; done) | (simp; omega)) (by first | omega | assumption | decide | (simp; done) | (simp; omega)) (by first | rfl | exact hx | exact at_q hx (by omega) | exact at_q hy (by omega) | exact at_q hx (by simp) | exact at_q hy (by simp; omega))) rfl (ev_int _) (by decide) (by decide) rfl) (ev_int _) (cmp_le _ _)) (by first | rfl | (simp [kqdP, kqdPs, PyData.eqv, PyData.eqvAll, *]; done) | assumption | decide | (simp [*]; done) | (simp; omega))) te_or_nil))) xs_nil) (xx_next (sn_assign (.inl rfl) (ev_call rfl (ar_cons (ev_item (ev_name rfl) rfl (ev_int _) (by first | omega | assumption | decide | (simp; done) | (simp; omega)) (by first | omega | assumption | decide | (simp; done) | (simp; omega)) (by first | rfl | exact hx | exact at_q hx (by omega) | exact at_q hy (by omega) | exact at_q hx (by simp) | exact at_q hy (by simp; omega))) (ar_cons (ev_item (ev_name rfl) rfl (ev_int _) (by decide) (by decide) rfl) ar_nil)) ((exact_root_ok H ho (by omega) (by omega)).up (by first | decide | omega | (simp [lev, inner, poly]; done))))) (xx_raise (sx_if_t (te_eq (b := true) (te_cmp (ev_name rfl) ev_none (cmp_is_none _)) (by first | rfl | (simp [kqdP, kqdPs, PyData.eqv, PyData.eqvAll, *]; done) | assumption | decide | (simp [*]; done) | (simp; omega))) (xx_raise (sx_raise' rfl (ev_str _) (ev_str _))))))))
end Mine
set_option linter.unusedSimpArgs false
set_option maxRecDepth 10000
set_option maxHeartbeats 1000000
namespace Mine
open PySem PySem.W PyProof.Rows PySem.Calls PySem.Spec

theorem of_power_n_x {cx : Cx} {X : Exc cx} (H : Mods cx) {k : Int} {b : Tm} {p q : Int} {n m : Nat} {u : L} (ih : CallTo cx n (Str.ofString "of_term") [.val (dT b), .val (.int m), .val dLt] k (dL u) k) (hn : 8 ≤ n)
    (h1 : (q == 1) = false) (h : rootX u (p, q) = true) : CallX cx X (n + 1) (Str.ofString "of_power") [.val (dT b), .val (dT (.num p q)), .val (.int m), .val dLt] k := by
  refine modx4 (x1 := "base") (x2 := "exponent") (x3 := "many") (x4 := "letter") (sc := [("base", .local), ("exponent", .local), ("many", .local), ("letter", .local), ("told", .local), ("CasFail", .globalImplicit), ("of_term", .globalImplicit), ("lpower", .globalImplicit), ("of_root", .globalImplicit)]) H (by decide) rfl rfl (fun _ _ _ _ _ _ _ _ _ _ _ _ => rfl) ⟨rfl, rfl, rfl⟩ (.inl rfl) (.inl rfl) (.inl rfl) (.inl rfl) (by decide) ?_
  exact (xx_next (sn_if_f (te_eq (b := false) (te_cmp (ev_item (ev_name rfl) rfl (ev_int _) (by decide) (by decide) rfl) (ev_str _) (cmp_ne_dat _ _ (by first | rfl | decide +kernel) (by first | rfl | decide +kernel))) (by first | rfl | (simp [kqdP, kqdPs, PyData.eqv, PyData.eqvAll, *]; done) | assumption | decide | (simp [*]; done) | (simp; omega))) xs_nil) (xx_next (sn_assign (.inl rfl) (ev_call rfl (ar_cons (ev_name rfl) (ar_cons (ev_name rfl) (ar_cons (ev_name rfl) ar_nil))) (ih.up (by first | omega | exact Nat.le_refl _)))) (xx_next (sn_if_f (te_eq (b := false) (te_cmp (ev_item (ev_name rfl) rfl (ev_int _) (by decide) (by decide) rfl) (ev_int _) (cmp_eq_dat _ _ (by first | rfl | decide +kernel) (by first | rfl | decide +kernel))) (by first | rfl | (simp [kqdP, kqdPs, PyData.eqv, PyData.eqvAll, *]; done) | assumption | decide | (simp [*]; done) | (simp; omega))) xs_nil) (xx_raise (sx_return (ex_call rfl (ar_cons (ev_name rfl) (ar_cons (ev_tuple (ea_cons (ev_item (ev_name rfl) rfl (ev_int _) (by decide) (by decide) rfl) (ea_cons (ev_item (ev_name rfl) rfl (ev_int _) (by decide) (by decide) rfl) ea_nil)) (by first | decide | (simp; done))) ar_nil)) ((of_root_x (X := X) H h).up (by first | decide | omega | (simp [lev, inner, poly]; done)))))))))
noncomputable def isNum : Tm → Bool
  | .num _ _ => true
  | _ => false
theorem of_power_e_x {cx : Cx} {X : Exc cx} (H : Mods cx) {k : Int} {b e : Tm} {m : Nat} (h : isNum e = false) : CallX cx X 9 (Str.ofString "of_power") [.val (dT b), .val (dT e), .val (.int m), .val dLt] k := by
  refine modx4 (x1 := "base") (x2 := "exponent") (x3 := "many") (x4 := "letter") (sc := [("base", .local), ("exponent", .local), ("many", .local), ("letter", .local), ("told", .local), ("CasFail", .globalImplicit), ("of_term", .globalImplicit), ("lpower", .globalImplicit), ("of_root", .globalImplicit)]) H (by decide) rfl rfl (fun _ _ _ _ _ _ _ _ _ _ _ _ => rfl) ⟨rfl, rfl, rfl⟩ (.inl rfl) (.inl rfl) (.inl rfl) (.inl rfl) (by decide) ?_
  cases e with
  | num _ _ => cases h
  | _ => exact (xx_raise (sx_if_t (te_eq (b := true) (te_cmp (ev_item (ev_name rfl) rfl (ev_int _) (by decide) (by decide) rfl) (ev_str _) (cmp_ne_dat _ _ (by first | rfl | decide +kernel) (by first | rfl | decide +kernel))) (by first | rfl | (simp [kqdP, kqdPs, PyData.eqv, PyData.eqvAll, *]; done) | assumption | decide | (simp [*]; done) | (simp; omega))) (xx_raise (sx_raise' rfl (ev_str _) (ev_str _)))))
theorem of_term_x {cx : Cx} {X : Exc cx} (H : Mods cx) {k : Int} {m : Nat} (hm0 : 2 ≤ m) {t : Tm} (h : termX m t = true) : CallX cx X (lev t) (Str.ofString "of_term") [.val (dT t), .val (.int m), .val dLt] k := by
  cases t with
  | pow b e =>
    have hlev := lev_ge b
    have hp : CallX cx X (lev b + 1) (Str.ofString "of_power") [.val (dT b), .val (dT e), .val (.int m), .val dLt] k := by
      cases e with
      | num p q =>
        simp only [termX] at h
        split at h
        · cases h
        rename_i hq
        have hq : (q == 1) = false := by simpa using hq
        split at h
        case h_2 => cases h
        rename_i u hu
        exact of_power_n_x H (of_term_ok H hm0 b u hu) (by omega) hq h
      | _ => exact (of_power_e_x H rfl).up (by omega)
    have ihp := hp
    refine modx3 (x1 := "t") (x2 := "many") (x3 := "letter") (sc := [("t", .local), ("many", .local), ("letter", .local), ("found", .local), ("one", .local), ("told", .local), ("lplain", .globalImplicit), ("CasFail", .globalImplicit), ("R0", .globalImplicit), ("len", .globalImplicit), ("of_power", .globalImplicit), ("of_call", .globalImplicit), ("of_term", .globalImplicit), ("R1", .globalImplicit), ("ladd", .globalImplicit), ("lmul", .globalImplicit)]) H (by decide) rfl rfl (fun _ _ _ _ _ _ _ _ _ _ _ => rfl) ⟨rfl, rfl, rfl⟩ (.inl rfl) (.inl rfl) (.inl rfl) (by decide) ?_
    exact (xx_next (sn_if_f (te_eq (b := false) (te_cmp (ev_item (ev_name rfl) rfl (ev_int _) (by decide) (by decide) rfl) (ev_str _) (cmp_eq_dat _ _ (by first | rfl | decide +kernel) (by first | rfl | decide +kernel))) (by first | rfl | (simp [kqdP, kqdPs, PyData.eqv, PyData.eqvAll, *]; done) | assumption | decide | (simp [*]; done) | (simp; omega))) xs_nil) (xx_next (sn_if_f (te_eq (b := false) (te_cmp (ev_item (ev_name rfl) rfl (ev_int _) (by decide) (by decide) rfl) (ev_str _) (cmp_eq_dat _ _ (by first | rfl | decide +kernel) (by first | rfl | decide +kernel))) (by first | rfl | (simp [kqdP, kqdPs, PyData.eqv, PyData.eqvAll, *]; done) | assumption | decide | (simp [*]; done) | (simp; omega))) xs_nil) (xx_raise (sx_if_t (te_eq (b := true) (te_cmp (ev_item (ev_name rfl) rfl (ev_int _) (by decide) (by decide) rfl) (ev_str _) (cmp_eq_dat _ _ (by first | rfl | decide +kernel) (by first | rfl | decide +kernel))) (by first | rfl | (simp [kqdP, kqdPs, PyData.eqv, PyData.eqvAll, *]; done) | assumption | decide | (simp [*]; done) | (simp; omega))) (xx_raise (sx_return (ex_call rfl (ar_cons (ev_item (ev_name rfl) rfl (ev_int _) (by decide) (by decide) rfl) (ar_cons (ev_item (ev_name rfl) rfl (ev_int _) (by decide) (by decide) rfl) (ar_cons (ev_name rfl) (ar_cons (ev_name rfl) ar_nil)))) (ihp.up (by first | omega | exact Nat.le_refl _)))))))))
  | y =>
    refine modx3 (n := 9) (x1 := "t") (x2 := "many") (x3 := "letter") (sc := [("t", .local), ("many", .local), ("letter", .local), ("found", .local), ("one", .local), ("told", .local), ("lplain", .globalImplicit), ("CasFail", .globalImplicit), ("R0", .globalImplicit), ("len", .globalImplicit), ("of_power", .globalImplicit), ("of_call", .globalImplicit), ("of_term", .globalImplicit), ("R1", .globalImplicit), ("ladd", .globalImplicit), ("lmul", .globalImplicit)]) H (by decide) rfl rfl (fun _ _ _ _ _ _ _ _ _ _ _ => rfl) ⟨rfl, rfl, rfl⟩ (.inl rfl) (.inl rfl) (.inl rfl) (by decide) ?_
    exact (xx_next (sn_if_f (te_eq (b := false) (te_cmp (ev_item (ev_name rfl) rfl (ev_int _) (by decide) (by decide) rfl) (ev_str _) (cmp_eq_dat _ _ (by first | rfl | decide +kernel) (by first | rfl | decide +kernel))) (by first | rfl | (simp [kqdP, kqdPs, PyData.eqv, PyData.eqvAll, *]; done) | assumption | decide | (simp [*]; done) | (simp; omega))) xs_nil) (xx_raise (sx_if_t (te_eq (b := true) (te_cmp (ev_item (ev_name rfl) rfl (ev_int _) (by decide) (by decide) rfl) (ev_str _) (cmp_eq_dat _ _ (by first | rfl | decide +kernel) (by first | rfl | decide +kernel))) (by first | rfl | (simp [kqdP, kqdPs, PyData.eqv, PyData.eqvAll, *]; done) | assumption | decide | (simp [*]; done) | (simp; omega))) (xx_raise (sx_if_t (te_eq (b := true) (te_cmp (ev_item (ev_name rfl) rfl (ev_int _) (by decide) (by decide) rfl) (ev_item (ev_name rfl) rfl (ev_int _) (by decide) (by decide) rfl) (cmp_ne_dat _ _ (by first | rfl | decide +kernel) (by first | rfl | decide +kernel))) (by first | rfl | (simp [kqdP, kqdPs, PyData.eqv, PyData.eqvAll, *]; done) | assumption | decide | (simp [*]; done) | (simp; omega))) (xx_raise (sx_raise' rfl (ev_str _) (ev_bin (ev_str _) (ev_item (ev_name rfl) rfl (ev_int _) (by decide) (by decide) rfl) (bin_add_str _ _ (by decide +kernel))))))))))
  | call2 f a b =>
    refine modx3 (n := 9) (x1 := "t") (x2 := "many") (x3 := "letter") (sc := [("t", .local), ("many", .local), ("letter", .local), ("found", .local), ("one", .local), ("told", .local), ("lplain", .globalImplicit), ("CasFail", .globalImplicit), ("R0", .globalImplicit), ("len", .globalImplicit), ("of_power", .globalImplicit), ("of_call", .globalImplicit), ("of_term", .globalImplicit), ("R1", .globalImplicit), ("ladd", .globalImplicit), ("lmul", .globalImplicit)]) H (by decide) rfl rfl (fun _ _ _ _ _ _ _ _ _ _ _ => rfl) ⟨rfl, rfl, rfl⟩ (.inl rfl) (.inl rfl) (.inl rfl) (by decide) ?_
    exact (xx_next (sn_if_f (te_eq (b := false) (te_cmp (ev_item (ev_name rfl) rfl (ev_int _) (by decide) (by decide) rfl) (ev_str _) (cmp_eq_dat _ _ (by first | rfl | decide +kernel) (by first | rfl | decide +kernel))) (by first | rfl | (simp [kqdP, kqdPs, PyData.eqv, PyData.eqvAll, *]; done) | assumption | decide | (simp [*]; done) | (simp; omega))) xs_nil) (xx_next (sn_if_f (te_eq (b := false) (te_cmp (ev_item (ev_name rfl) rfl (ev_int _) (by decide) (by decide) rfl) (ev_str _) (cmp_eq_dat _ _ (by first | rfl | decide +kernel) (by first | rfl | decide +kernel))) (by first | rfl | (simp [kqdP, kqdPs, PyData.eqv, PyData.eqvAll, *]; done) | assumption | decide | (simp [*]; done) | (simp; omega))) xs_nil) (xx_next (sn_if_f (te_eq (b := false) (te_cmp (ev_item (ev_name rfl) rfl (ev_int _) (by decide) (by decide) rfl) (ev_str _) (cmp_eq_dat _ _ (by first | rfl | decide +kernel) (by first | rfl | decide +kernel))) (by first | rfl | (simp [kqdP, kqdPs, PyData.eqv, PyData.eqvAll, *]; done) | assumption | decide | (simp [*]; done) | (simp; omega))) xs_nil) (xx_next (sn_if_f (te_and_t (te_eq (b := true) (te_cmp (ev_item (ev_name rfl) rfl (ev_int _) (by decide) (by decide) rfl) (ev_str _) (cmp_eq_dat _ _ (by first | rfl | decide +kernel) (by first | rfl | decide +kernel))) (by first | rfl | (simp [kqdP, kqdPs, PyData.eqv, PyData.eqvAll, *]; done) | assumption | decide | (simp [*]; done) | (simp; omega))) (te_and_f (te_eq (b := false) (te_cmp (ev_callb rfl (H.no "len" (by decide)) rfl (ea_cons (ev_item (ev_name rfl) rfl (ev_int _) (by decide) (by decide) rfl) ea_nil) (cb_len_tuple _ (by first | omega | assumption | decide | (simp; done) | (simp; omega)))) (ev_int _) (cmp_eq _ _)) (by first | rfl | (simp [kqdP, kqdPs, PyData.eqv, PyData.eqvAll, *]; done) | assumption | decide | (simp [*]; done) | (simp; omega))))) xs_nil) (xx_raise (sx_if_t (te_eq (b := true) (te_cmp (ev_item (ev_name rfl) rfl (ev_int _) (by decide) (by decide) rfl) (ev_tuple (ea_cons (ev_str _) (ea_cons (ev_str _) ea_nil)) (by first | decide | (simp; done))) (cmp_notin_tuple _ _ (by first | rfl | decide +kernel) (by first | rfl | decide +kernel))) (by first | rfl | (simp [kqdP, kqdPs, PyData.eqv, PyData.eqvAll, *]; done) | assumption | decide | (simp [*]; done) | (simp; omega))) (xx_raise (sx_raise' rfl (ev_str _) (ev_bin (ev_str _) (ev_item (ev_name rfl) rfl (ev_int _) (by decide) (by decide) rfl) (bin_add_str _ _ (by decide +kernel)))))))))))
  | call f a =>
    simp only [termX] at h
    split at h
    case h_2 => cases h
    rename_i u hu
    have ihu := of_term_ok H (k := k) hm0 a u hu
    have hlev := lev_ge a
    refine modx3 (x1 := "t") (x2 := "many") (x3 := "letter") (sc := [("t", .local), ("many", .local), ("letter", .local), ("found", .local), ("one", .local), ("told", .local), ("lplain", .globalImplicit), ("CasFail", .globalImplicit), ("R0", .globalImplicit), ("len", .globalImplicit), ("of_power", .globalImplicit), ("of_call", .globalImplicit), ("of_term", .globalImplicit), ("R1", .globalImplicit), ("ladd", .globalImplicit), ("lmul", .globalImplicit)]) H (by decide) rfl rfl (fun _ _ _ _ _ _ _ _ _ _ _ => rfl) ⟨rfl, rfl, rfl⟩ (.inl rfl) (.inl rfl) (.inl rfl) (by decide) ?_
    exact (xx_next (sn_if_f (te_eq (b := false) (te_cmp (ev_item (ev_name rfl) rfl (ev_int _) (by decide) (by decide) rfl) (ev_str _) (cmp_eq_dat _ _ (by first | rfl | decide +kernel) (by first | rfl | decide +kernel))) (by first | rfl | (simp [kqdP, kqdPs, PyData.eqv, PyData.eqvAll, *]; done) | assumption | decide | (simp [*]; done) | (simp; omega))) xs_nil) (xx_next (sn_if_f (te_eq (b := false) (te_cmp (ev_item (ev_name rfl) rfl (ev_int _) (by decide) (by decide) rfl) (ev_str _) (cmp_eq_dat _ _ (by first | rfl | decide +kernel) (by first | rfl | decide +kernel))) (by first | rfl | (simp [kqdP, kqdPs, PyData.eqv, PyData.eqvAll, *]; done) | assumption | decide | (simp [*]; done) | (simp; omega))) xs_nil) (xx_next (sn_if_f (te_eq (b := false) (te_cmp (ev_item (ev_name rfl) rfl (ev_int _) (by decide) (by decide) rfl) (ev_str _) (cmp_eq_dat _ _ (by first | rfl | decide +kernel) (by first | rfl | decide +kernel))) (by first | rfl | (simp [kqdP, kqdPs, PyData.eqv, PyData.eqvAll, *]; done) | assumption | decide | (simp [*]; done) | (simp; omega))) xs_nil) (xx_raise (sx_if_t (te_and_t (te_eq (b := true) (te_cmp (ev_item (ev_name rfl) rfl (ev_int _) (by decide) (by decide) rfl) (ev_str _) (cmp_eq_dat _ _ (by first | rfl | decide +kernel) (by first | rfl | decide +kernel))) (by first | rfl | (simp [kqdP, kqdPs, PyData.eqv, PyData.eqvAll, *]; done) | assumption | decide | (simp [*]; done) | (simp; omega))) (te_and_t (te_eq (b := true) (te_cmp (ev_callb rfl (H.no "len" (by decide)) rfl (ea_cons (ev_item (ev_name rfl) rfl (ev_int _) (by decide) (by decide) rfl) ea_nil) (cb_len_tuple _ (by first | omega | assumption | decide | (simp; done) | (simp; omega)))) (ev_int _) (cmp_eq _ _)) (by first | rfl | (simp [kqdP, kqdPs, PyData.eqv, PyData.eqvAll, *]; done) | assumption | decide | (simp [*]; done) | (simp; omega))) te_and_nil)) (xx_raise (sx_return (ex_call rfl (ar_cons (ev_item (ev_name rfl) rfl (ev_int _) (by decide) (by decide) rfl) (ar_cons (ev_call rfl (ar_cons (ev_item (ev_item (ev_name rfl) rfl (ev_int _) (by decide) (by decide) rfl) rfl (ev_int _) (by decide) (by decide) rfl) (ar_cons (ev_name rfl) (ar_cons (ev_name rfl) ar_nil))) (ihu.up (by first | omega | exact Nat.le_refl _))) ar_nil)) ((of_call_x (X := X) H h).up (by first | decide | omega | (simp [lev, inner, poly]; done)))))))))))
  | _ => cases h
end Mine
set_option maxRecDepth 100000
namespace Mine
open PySem PySem.W PyProof.Rows PySem.Calls PySem.Spec
open Builtin Builtin.ObjectAttr
section
variable {prog : Program} {w : World} {A : Around} {E : Value → Shared → Prop} {h : Heap} {g : Array GenState} {d : Drawn} {t : Nat} {os : OsState}
variable {nm q : Str} {C N x dx : Addr} {bs bm : List Value} {sn : List Str} {sub : List Value} {ab : Bool} {col : Option Bool} {dd : Option Addr} {k0 k1 k2 k3 k5 : Option Value} {newId B : String}
  {mN mA : Str → Option Value} {name : Str} {v : Value} {o : Obj} {vs : Array Value}

theorem own_entry {tk : Tok} {Q : Fin → Shared → Prop}
    (hC : h.get? C = some (excClassObj nm q C N bs bm true sn sub ab col dd k0 k1 k2 k3 k5 newId)) (hn : h.Ns N mN) (hna : mN name = none) (hbm : mroOf (.type B) = pure bm)
    (hB : typeLookup (.type B) name = pure none) (hx : h.get? x = some o) (hc : o.cls = .ref C) (hd : o.data = .fields vs) (hdx : o.dict = some dx) (hns : h.Ns dx mA) (hv : mA name = some v) (hq : Q (.done (.ret v)) ⟨h, g, d, t, os⟩) :
    wpAny (model prog w) A (Builtin.«object.__getattribute__» ⟨[.ref x, .str name tk], []⟩) Q E ⟨h, g, d, t, os⟩ := by
  repeat (any_goals (first | assumption | (with_reducible refine wpAny_loadPart_at hx ?_; rw [hc]) | (with_reducible refine wpAny_typeLookup_exc hC hn hbm hB ?_; rw [hna]) | wp_step))
  split
  · rename_i c hcd
    rw [hd] at hcd; cases hcd
  unfold instanceDict
  repeat (first | (with_reducible refine wpAny_loadPart_at hx ?_; rw [hc]) | with_reducible refine wpAny_loadPart_at hC ?_ | wp_step)
  rw [hdx]
  repeat (first | (with_reducible refine wpAny_nsGet hns ?_; rw [hv]) | wp_step)
  exact hq

theorem own_attr {expr : Bool} {Q : Value → Shared → Prop}
    (hC : h.get? C = some (excClassObj nm q C N bs excBm true sn sub ab col dd k0 k1 k2 k3 k5 newId)) (hn : h.Ns N mN) (hng : mN "__getattribute__" = none) (hnh : mN "__getattr__" = none) (hna : mN name = none)
    (hB : typeLookup (.type "Exception") name = pure none) (hx : h.get? x = some o) (hc : o.cls = .ref C) (hd : o.data = .fields vs) (hdx : o.dict = some dx) (hns : h.Ns dx mA) (hv : mA name = some v) (hh : handedOut v = pure v) (hq : Q v ⟨h, g, d, t + 1, os⟩) :
    wpAny (model prog w) A (getAttr (.ref x) name expr) Q E ⟨h, g, d, t, os⟩ := by
  have FB := F.attrBase_Exception
  have f3 := FB.ga.bind (.ref x)
  have hx0 : (expr && onTheHeap (Value.builtin "BaseException.__getattribute__")) = false := by cases expr <;> rfl
  have hx2 : (Value.builtin "BaseException.__getattribute__" == Value.builtin "object.__getattribute__") = false := by decide +kernel
  have hx1 : (onTheHeap (Value.ref C) && Value.builtin "BaseException.__getattribute__" == Value.builtin "object.__getattribute__") = false := by rw [hx2]; rfl
  unfold getAttr
  repeat (any_goals (first | assumption | (with_reducible refine wpAny_loadPart_at hx ?_; rw [hc]) | (with_reducible refine wpAny_typeLookup_exc hC hn FB.mro FB.ga.lookup ?_; rw [hng]) | (with_reducible refine wpAny_typeLookup_exc hC hn FB.mro FB.noGetattr ?_; rw [hnh]) | wp_step))
  refine codeAny_call_builtin FB.ga.plain F.entry_bexc_ga (wpAny_check_ga_own FB hC .base hx hc (own_entry hC hn hna FB.mro hB hx hc hd hdx hns hv ?_))
  repeat (any_goals (first | assumption | wp_step))
  all_goals trace_state
end
end Mine
set_option maxRecDepth 10000
namespace Mine
open PySem PySem.W PyProof.Rows PySem.Calls PySem.Spec

section
variable {cx : Cx} {n : Nat} {sc : Nms} {Γ Γ' : Gam} {k k' k₁ k₂ : Int} {X : Exc cx} {g : Heap} {A : Around} {env : Env} {N : Ledg} {s : Shared} {e : Addr} {tb : Bool}

theorem Wd.mark {v : Option Value} (p : Wd cx A k N s) : Wd cx (A.mark v) k N s := { p with frs := p.frs }
theorem Pt.mark {v : Option Value} (p : Pt cx g A env Γ k N s) : Pt cx g (A.mark v) env Γ k N s := { p with frs := p.frs }
theorem Wd.unmark {v : Option Value} (p : Wd cx (A.mark v) k N s) : Wd cx A k N s := { p with frs := p.frs }
theorem Pt.unmark {v : Option Value} (p : Pt cx g (A.mark v) env Γ k N s) : Pt cx g A env Γ k N s := { p with frs := p.frs }
theorem Pt.bare (w : Wd cx A k N s) (hn : ∃ m, s.heap.Ns env.locals m) (hX : env.locals ∉ cx.X) (hB : cx.base.get? env.locals = none) (hG : g.get? env.locals = none)
    (ho : ∀ b o, b ∉ cx.X → g.get? b = some o → ∃ o', s.heap.get? b = some o') (hnc : ∀ x, env.kindOf x ≠ some .cell) : Pt cx g A env [] k N s :=
  { w with hasNs := hn, locX := hX, locB := hB, locG := hG, old := ho, cells := fun x hx => absurd hx (hnc x), see := fun x sl hx => (by cases hx), one := fun x y vx vy lx ly hx => (by cases hx) }
theorem ns_ch {h h' : Heap} {a : Addr} {m : Str → Option Value} (C : Ch cx g h h') (hn : h.Ns a m) : h'.Ns a m :=
  ns_slots hn fun o e' => by
    obtain ⟨sl, e1, _⟩ := C.keep _ o e' (fun vs q => by
      obtain ⟨o₀, _, _, e0, d0, _⟩ := hn
      rw [e'] at e0; cases e0; rw [d0] at q; cases q)
    exact ⟨sl, e1⟩
theorem Pt.ch0 {h' : Heap} {tk : Nat} (p : Pt cx g A env [] k N s) (hnc : ∀ x, env.kindOf x ≠ some .cell) (C : Ch cx g s.heap h') : Pt cx g A env [] k N { s with heap := h', toks := tk } :=
  Pt.bare (p.toWd.ch C) (p.hasNs.imp fun m h => ns_ch C h) p.locX p.locB p.locG (C.old p.old) hnc

/-- the frame's names have turned -/
theorem bare_store {m m' : Str → Option Value} {h' : Heap} {tk : Nat} (p : Pt cx g A env [] k N s) (hnc : ∀ x, env.kindOf x ≠ some .cell) (hn : s.heap.Ns env.locals m) (hn' : h'.Ns env.locals m') (hs : Heap.SameBut env.locals s.heap h') :
    StepW cx g N s N { s with heap := h', toks := tk } ∧ Pt cx g A env [] k N { s with heap := h', toks := tk } := by
  obtain ⟨oL, es, ep, hL, hLd, hLr⟩ := id hn
  obtain ⟨S, w⟩ := store_core (tk := tk) p hs p.locX p.locG p.locB (fun o e xs n q => by rw [hL] at e; cases e; rw [hLd] at q; cases q) (fun o vs e q => by rw [hL] at e; cases e; rw [hLd] at q; cases q)
    (fun o e => by obtain ⟨o', es', ep', e', hd', _⟩ := hn'; exact ⟨o', e', (fun vs q => by rw [hd'] at q; cases q), fun _ _ _ => ⟨_, _, hd'⟩⟩)
  refine ⟨S.toW, Pt.bare w ⟨_, hn'⟩ p.locX p.locB p.locG (fun b o hb e => ?_) hnc⟩
  obtain ⟨o', e'⟩ := p.old b o hb e
  exact ⟨o', hs.extBut b o' (fun z => by rw [z, p.locG] at e; cases e) e'⟩
theorem fly_same {h h' : Heap} {L : Addr} {m m' : Str → Option Value} (F : Fly cx X g h e tb) (hn : h.Ns L m) (hn' : h'.Ns L m') (hs : Heap.SameBut L h h') (hk : m' "kind" = m "kind") : Fly cx X g h' e tb := by
  obtain ⟨ox, vs, dx, mx, tk, e1, e2, e3, e4, e5, e6, e7, e8, e9⟩ := F.obj
  obtain ⟨oL, es, ep, hL, hLd, _⟩ := id hn
  have keep : ∀ b o, (∃ vs, o.data = .fields vs) → h.get? b = some o → h'.get? b = some o := fun b o hd e' => hs.extBut b o (fun q => by
    rw [q, hL] at e'; cases e'; obtain ⟨vs, hd⟩ := hd; rw [hLd] at hd; cases hd) e'
  have T : ∀ vs, TB cx g h e vs → TB cx g h' e vs := fun vs ⟨T, oT, ts, t1, t2, t3, t4, t5, t6, t7, t8⟩ => ⟨T, oT, ts, t1, t2, t3, t4, t5, keep _ _ ⟨_, t7⟩ t6, t7, t8⟩
  by_cases hd : dx = L
  · subst hd
    have hm : m "kind" = mx "kind" := hn.agree e7 _
    exact ⟨F.new, F.notX, F.base, ox, vs, dx, m', tk, keep _ _ ⟨_, e4⟩ e1, e2, e3, e4, e5, e6, hn', by rw [hk, hm]; exact e8, e9.imp id (T vs)⟩
  · exact ⟨F.new, F.notX, F.base, ox, vs, dx, mx, tk, keep _ _ ⟨_, e4⟩ e1, e2, e3, e4, e5, e6, e7.sameBut hs hd, e8, e9.imp id (T vs)⟩

/-- the handler's name is let go -/
theorem name_goes {nm : Str} {pos : Pos} {m : Str → Option Value} {Q : Unit → Shared → Prop} {E : Value → Shared → Prop} (hE : EnvOk sc env) (p : Pt cx g A env [] k N s) (hnc : ∀ x, env.kindOf x ≠ some .cell) (hnm : sc.lookup nm = some .local) (hne : nm ≠ "kind") (hn : s.heap.Ns env.locals m)
    (h : ∀ s', StepW cx g N s N s' → Pt cx g A env [] k N s' → (∀ e tb, Fly cx X g s.heap e tb → Fly cx X g s'.heap e tb) → Q () s') :
    wpAny (model cx.prog cx.w) A (do bindName env nm .none; unbindBehindTheSuite env nm pos) Q E s := by
  have hp : (env.scope.kind == .class || (env.scope.kind == .module && env.locals != env.globals)) = false := by rw [hE.kind]; rfl
  have hl := kindOf_of hE hnm
  refine wpAny_bind (wpAny_bindName (wpAny_storeName_local hl hn (fun h₁ hn₁ hs₁ => ?_) hp))
  unfold unbindBehindTheSuite
  refine wpAny_onRaise ?_
  unfold unbindName
  refine wpAny_bind (wpAny_point (wpAny_bind ?_))
  unfold deleteName
  simp only [hl, hp]
  rw [if_neg (by decide)]
  refine wpAny_bind (wpAny_nsDel_keeps hn₁ fun h₂ v hn₂ hs₂ => ?_)
  simp only [if_true, Option.isSome_some, Bool.not_true, Bool.false_eq_true, if_false]
  obtain ⟨S, P⟩ := bare_store (tk := s.toks + 1) p hnc hn hn₂ (hs₁.trans hs₂)
  exact wpAny_pure (wpAny_point (h _ S P fun e tb F => fly_same F hn hn₂ (hs₁.trans hs₂) (by simp [Ne.symm hne])))

/-- what follows when the suite of a handler raises -/
noncomputable abbrev Rsd (M : Model) (A : Around) (e : Value) (env : Env) (nm : Str) (pos : Pos) (E : Value → Shared → Prop) (x : Value) (s₃ : Shared) : Prop :=
  wpAny M (A.mark (some e)) (noteFrame x env) (fun _ s₃' =>
    wpAny M (A.mark (some e)) (do bindName env nm .none; unbindBehindTheSuite env nm pos)
      (fun _ s₄ => wpAny M (A.mark (some e)) (passOn "try.except-as" x env : Sem Flow) (fun _ _ => False) (notedBy M (A.mark (some e)) env (cameBackBy M A env E)) s₄)
      (fun y s₄ => wpAny M (A.mark (some e)) (setFlight x none) (fun _ s₅ => (notedBy M (A.mark (some e)) env (cameBackBy M A env E)) y s₅) (notedBy M (A.mark (some e)) env (cameBackBy M A env E)) s₄) s₃') (notedBy M (A.mark (some e)) env (cameBackBy M A env E)) s₃

theorem nocell (hE : EnvOk sc env) (hnc : ∀ x, sc.lookup x ≠ some .cell) : ∀ x, env.kindOf x ≠ some .cell := fun x q => hnc x (by rw [← hE.names]; exact q)
theorem catch_own {body suite : List Stmt} {b₀ : Stmt} {nm : Str} {np pos pos2 : Pos} {Q : Flow → Shared → Prop} {E : Value → Shared → Prop} (hE : EnvOk sc env) (p : Pt cx g A env Γ k N s) (hfm : Frm A env)
    (hC : sc.lookup ("CasFail" : Str) = some .globalImplicit) (hnm : sc.lookup nm = some .local) (hne : nm ≠ "kind") (hnc : ∀ x, sc.lookup x ≠ some .cell)
    (hb : ∀ (Q : Flow → Shared → Prop) (E : Value → Shared → Prop), (∀ e tb N' s', StepW cx g N s N' s' → Wd cx A k N' s' → (∀ b o, b ∉ cx.X → g.get? b = some o → ∃ o', s'.heap.get? b = some o') → (∃ m, s'.heap.Ns env.locals m) → Fly cx X g s'.heap e tb → E (.ref e) s') →
      wpAny (model cx.prog cx.w) A (execs body env) Q E s)
    (h : ∀ e N₁ s₁ m, StepW cx g N s N₁ s₁ → Pt cx g (A.mark (some (.ref e))) env [] k N₁ s₁ → s₁.heap.Ns env.locals m → m nm = some (.ref e) → Fly cx X g s₁.heap e true →
      wpAny (model cx.prog cx.w) (A.mark (some (.ref e))) (execs (b₀ :: suite) env)
        (fun f s₂ => wpAny (model cx.prog cx.w) A (do bindName env nm .none; unbindBehindTheSuite env nm pos) (fun _ s₅ => Q f s₅) E s₂)
        (Rsd (model cx.prog cx.w) A (.ref e) env nm pos E) s₁) :
    wpAny (model cx.prog cx.w) A (exec (.Try body [.ExceptHandler (some (.Name "CasFail" np)) (some nm) (b₀ :: suite) pos] [] [] pos2) env) Q E s := by
  obtain ⟨outer, L, hfr, hL⟩ := hfm
  have hkc := nocell hE hnc
  refine wpAny_Try_except (hb _ _ fun e tb N₁ s₁ S w o hn F => ?_)
  refine note_fly w hfr hL o F fun h₁ C₁ F₁ => ?_
  refine set_fly (s := { s₁ with heap := h₁ }) F₁ fun h₂ C₂ F₂ => ?_
  have C := C₁.trans C₂
  have w₂ : Wd cx A k N₁ { s₁ with heap := h₂ } := w.ch (tk := s₁.toks) C
  obtain ⟨ox, vs, dx, mx, tk, e1, e2, e3, e4, e5, e6, e7, e8, e9⟩ := id F₂.obj
  refine wpAny_handleBy_cons (codeAny_handlers_test ?_) (by intro q; cases q)
  refine load_global w₂.mark hE hC X.bound (by decide) ?_
  refine wpAny_excMatches_sub_self (w₂.stays _ _ X.obj) e1 e2 (by decide +kernel) ?_
  refine codeAny_handlers_suite_as ?_
  refine set_fly (s := { s₁ with heap := h₂ }) F₂ fun h₃ C₃ F₃ => ?_
  have Ca := C.trans C₃
  have w₃ : Wd cx A k N₁ { s₁ with heap := h₃ } := w.ch (tk := s₁.toks) Ca
  obtain ⟨m, hns⟩ := hn
  have hns₃ := ns_ch Ca hns
  have p₃ : Pt cx g A env [] k N₁ { s₁ with heap := h₃ } := Pt.bare w₃ ⟨m, hns₃⟩ p.locX p.locB p.locG (Ca.old o) hkc
  refine wpAny_storeName_local (kindOf_of hE hnm) hns₃ (fun h₄ hn₄ hs₄ => ?_) (by rw [hE.kind]; rfl)
  obtain ⟨S₄, p₄⟩ := bare_store (tk := s₁.toks + 1) p₃ hkc hns₃ hn₄ hs₄
  have F₄ := fly_same F₃ hns₃ hn₄ hs₄ (by simp [Ne.symm hne])
  exact h e N₁ _ _ ((S.ch (tk := s₁.toks) Ca).trans S₄) p₄.mark hn₄ (by simp) F₄

theorem raiseNew_same {α : Type} {M : Model} {E : Value → Shared → Prop} {Q : α → Shared → Prop} (hh : A.handled = some (.ref e)) (h : E (.ref e) s) : wpAny M A (raiseNew (.ref e) : Sem α) Q E s := by
  unfold raiseNew
  refine wpAny_bind (wpAny_handled ?_)
  rw [hh]
  simp only [bne_self_eq_false, Bool.false_eq_true, if_false]
  exact wpAny_bind (wpAny_pure (wpAny_throw h))
end
end Mine
set_option maxRecDepth 100000
namespace Mine
open PySem PySem.W PyProof.Rows PySem.Calls PySem.Spec

section
variable {M : Model} {A : Around} {E : Value → Shared → Prop} {env : Env} {e : Addr}
variable {nm q : Str} {C N : Addr} {bs bm : List Value} {hdct : Bool} {sn : List Str} {sub : List Value} {ab : Bool} {col : Option Bool} {dd : Option Addr} {k0 k1 k2 k3 k5 : Option Value} {newId : String}
theorem raiseStmt_same {s : Shared} {x : Sem Value} {Q : Flow → Shared → Prop} (hbase : bm.contains (.type "BaseException") = true) (hh : A.handled = some (.ref e))
    (h : wpAny M A x (fun v s₁ => ∃ ox, v = .ref e ∧ s₁.heap.get? C = some (excClassObj nm q C N bs bm hdct sn sub ab col dd k0 k1 k2 k3 k5 newId) ∧ s₁.heap.get? e = some ox ∧ ox.cls = .ref C ∧ ∃ vs, ox.data = .fields vs ∧ ∃ T, vs[1]? = some (.ref T) ∧ wpAny M A (setField (.ref T) 3 .none) (fun _ s' => E (.ref e) s') E s₁) E s) :
    wpAny M A (raiseStmt env (some x) none) Q E s := by
  have hcB : (Value.ref C :: bm).contains (.type "BaseException") = true := by rw [List.contains_cons, hbase, Bool.or_true]
  unfold raiseStmt
  refine wpAny_bind (wpAny_mono h (fun v s₁ h₁ => ?_) fun _ _ x => x)
  obtain ⟨ox, rfl, hC, he, hc, vs, hd, T, h1, hE⟩ := h₁
  obtain ⟨hp, g, d, tk, os⟩ := s₁
  obtain ⟨oc, od, odt, osl⟩ := ox
  dsimp only at hc hd
  subst hc hd
  repeat (first | with_reducible refine wpAny_loadPart_at he ?_ | with_reducible refine wpAny_loadPart_at hC ?_ | (with_reducible refine wpAny_isSubtype_exc hC ?_; rw [hcB]) | wp_step)
  rw [h1]
  refine wpAny_pure ?_
  rw [if_pos (by simp)]
  exact wpAny_mono hE (fun _ _ q => raiseNew_same hh q) fun _ _ q => q
end

section
variable {cx : Cx} {n : Nat} {sc : Nms} {Γ Γ' : Gam} {k k' k₁ k₂ : Int} {X : Exc cx} {g : Heap} {A : Around} {env : Env} {N : Ledg} {s : Shared} {e : Addr} {tb : Bool}
theorem pass_fly {what : String} {E : Value → Shared → Prop} (F : Fly cx X g s.heap e true) (h : ∀ h', Ch cx g s.heap h' → Fly cx X g h' e true → E (.ref e) { s with heap := h' }) : wpAny (model cx.prog cx.w) A (PySem.passOn what (.ref e) env : Sem Flow) (fun _ _ => False) E s := by
  obtain ⟨ox, vs, dx, m, tk, e1, e2, e3, e4, e5, e6, e7, e8, e9⟩ := id F.obj
  rcases e9 with ⟨q, _⟩ | ⟨T, oT, ts, t1, t2, t3, t4, t5, t6, t7, t8⟩
  · cases q
  unfold PySem.passOn
  refine wpAny_bind (wpAny_field e1 e4 t1 ?_)
  rw [if_neg (by simp)]
  exact wpAny_bind (set_fly F fun h' C F' => wpAny_throw (h h' C F'))
theorem StepW.refl (p : Pt cx g A env Γ k N s) : StepW cx g N s N s := p.reflL.toW

theorem rsd_fly {nm : Str} {pos : Pos} {E : Value → Shared → Prop} {e' : Value} (hE : EnvOk sc env) (p : Pt cx g A env [] k N s) (hfm : Frm A env) (hnc : ∀ x, env.kindOf x ≠ some .cell) (hnm : sc.lookup nm = some .local) (hne : nm ≠ "kind")
    (F : Fly cx X g s.heap e tb) (h : ∀ s', StepW cx g N s N s' → Pt cx g A env [] k N s' → Fly cx X g s'.heap e true → E (.ref e) s') : Rsd (model cx.prog cx.w) A e' env nm pos E (.ref e) s := by
  obtain ⟨outer, L, hfr, hL⟩ := hfm
  have hfr' : (A.mark (some e')).frames = some (env :: outer) := hfr
  refine note_fly p.toWd.mark hfr' hL p.old F fun h₁ C₁ F₁ => ?_
  have p₁ := p.ch0 (tk := s.toks) hnc C₁
  have S₁ := (StepW.refl p).ch (tk := s.toks) C₁
  obtain ⟨m, hn⟩ := p₁.hasNs
  refine name_goes (X := X) hE p₁.mark hnc hnm hne hn fun s₂ S₂ P₂ k₂ => ?_
  have F₂ := k₂ _ _ F₁
  refine pass_fly F₂ fun h₃ C₃ F₃ => ?_
  have p₃ := P₂.unmark.ch0 (tk := s₂.toks) hnc C₃
  have S₃ := (StepW.refl P₂).ch (tk := s₂.toks) C₃
  refine note_fly p₃.toWd.mark hfr' hL p₃.old F₃ fun h₄ C₄ F₄ => ?_
  have p₄ := p₃.ch0 (tk := s₂.toks) hnc C₄
  have S₄ := (StepW.refl p₃).ch (tk := s₂.toks) C₄
  refine back_fly F₄ fun h₅ C₅ F₅ => ?_
  exact h _ ((((S₁.trans S₂).trans S₃).trans S₄).trans ((StepW.refl p₄).ch (tk := s₂.toks) C₅)) (p₄.ch0 (tk := s₂.toks) hnc C₅) F₅

/-- if e.kind != 'limit': raise e -/
theorem sx_try_again {body : List Stmt} {np pos pos2 p1 p2 p3 p4 p5 p6 p7 : Pos} {c : Nat} (hC : sc.lookup ("CasFail" : Str) = some .globalImplicit) (hnm : sc.lookup ("e" : Str) = some .local) (hnc : ∀ x, sc.lookup x ≠ some .cell) (hb : ExecsX cx X n sc Γ k body) :
    ExecX cx X n sc Γ k (.Try body [.ExceptHandler (some (.Name "CasFail" np)) (some "e") [.If (.Compare (.Attribute (.Name "e" p1) "kind" p2) [.NotEq] [.Constant (.str "limit") c p3] p4) [.Raise (some (.Name "e" p5)) none p6] [] p7] pos] [] [] pos2) := by
  refine ⟨fun g A env N s hA hE p hfm Q E hQ => ?_⟩
  have hkc := nocell hE hnc
  refine catch_own hE p hfm hC hnm (by decide) hnc (fun Q E hQ => hb.run g A env N s hA hE p hfm Q E hQ) fun e N₁ s₁ m S₁ p₁ hn hm F => ?_
  obtain ⟨ox, vs, dx, mx, tk, e1, e2, e3, e4, e5, e6, e7, e8, e9⟩ := id F.obj
  have Hm : Holds cx g env s₁.heap "e" (.ref e) := .loc (kindOf_of hE hnm) hn hm
  refine wpAny_execs_cons (wpAny_If (wpAny_isTrue_Compare1 (Attribute_name (load_holds hE Hm rfl rfl ?_)) rfl))
  refine own_attr (p₁.stays _ _ X.obj) (X.ns.keeps p₁.stays) X.quiet.2.2.2.1 X.quiet.2.2.2.2 X.quiet.2.1 no_kind e1 e2 e4 e3 e7 e8 rfl ?_
  refine Calls.Constant_str ?_
  refine PyProof.Rows.ne_str ?_
  refine wpAny_truthy_bool ?_
  show wpAny _ _ (execs [.Raise (some (.Name "e" p5)) none p6] env) _ _ _
  refine wpAny_execs_cons ?_
  rw [arm_exec_Raise]
  refine wpAny_bind (wpAny_standAt (raiseStmt_same (C := X.C) (nm := X.nm) (q := X.q) (N := X.N) (bs := X.bs) (bm := excBm) (hdct := true) (sn := X.sn) (sub := X.sub) (ab := X.ab) (col := X.col) (dd := X.dd) (k0 := X.k0) (k1 := X.k1) (k2 := X.k2) (k3 := X.k3) (k5 := X.k5) (newId := "Exception.__new__") (by decide +kernel) rfl ?_))
  refine wpAny_bind (load_holds hE Hm rfl rfl (wpAny_bind (wpAny_standAt (wpAny_pure ?_))))
  rcases e9 with ⟨q, _⟩ | ⟨T, oT, ts, t1, t2, t3, t4, t5, t6, t7, t8⟩
  · cases q
  refine ⟨ox, rfl, p₁.stays _ _ X.obj, e1, e2, vs, e4, T, t1, ?_⟩
  refine set_tb (s := { s₁ with toks := s₁.toks + 1 + 1 }) F e1 e4 t1 fun h₂ C₂ F₂ => ?_
  have p₂ := p₁.unmark.ch0 (tk := s₁.toks + 1 + 1) hkc C₂
  have S₂ := (StepW.refl p₁).ch (tk := s₁.toks + 1 + 1) C₂
  exact rsd_fly hE p₂ hfm hkc hnm (by decide) F₂ fun s₃ S₃ P₃ F₃ => hQ e true N₁ s₃ ((S₁.trans S₂).trans S₃) P₃.toWd P₃.old P₃.hasNs F₃

theorem noCell {sc : Nms} (h : sc.all (fun y => y.2 != .cell) = true) : ∀ x, sc.lookup x ≠ some .cell := fun x e => by
  have := List.all_eq_true.mp h _ (mem_of_lookup' e)
  cases this
theorem sx_while {test : Expr} {body orelse : List Stmt} {pos : Pos} (ht : TestTo cx n sc Γ k test true k) (hb : ExecsX cx X n sc Γ k body) (hnc : ∀ x, sc.lookup x ≠ some .cell) : ExecX cx X n sc Γ k (.While test body orelse pos) := by
  refine ⟨fun g A env N s hA hE p hfm Q E hQ => ?_⟩
  have hkc := nocell hE hnc
  obtain ⟨outer, L, hfr, hL⟩ := id hfm
  refine wpAny_While (codeAny_whileLoop (fun _ s' => s' = s) (fun _ s' q => ?_) 0 rfl)
  subst q
  refine anyF (ht.run g A env N _ hA hE p _ fun N₁ s₁ S₁ p₁ => ?_)
  rw [if_pos rfl]
  refine hb.run g A env N₁ s₁ hA hE p₁ hfm _ _ fun e tb N₂ s₂ S₂ w o hn F => ?_
  have p₂ := Pt.bare w hn p.locX p.locB p.locG o hkc
  refine note_fly w hfr hL o F fun h₃ C₃ F₃ => ?_
  have p₃ := p₂.ch0 (tk := s₂.toks) hkc C₃
  refine back_fly F₃ fun h₄ C₄ F₄ => ?_
  have p₄ := p₃.ch0 (tk := s₂.toks) hkc C₄
  exact hQ e true N₂ _ ((((S₁.toL p).toW.trans S₂).ch (tk := s₂.toks) C₃).ch (tk := s₂.toks) C₄) p₄.toWd p₄.old p₄.hasNs F₄
end
noncomputable def laurentX (t : Tm) (e : Int) : Bool := okZ e && termX ((if 1 > e then 1 else e).toNat + 2) t
noncomputable def seriesX (t : Tm) (e : Nat) : Bool := laurentX t e || (match laurent? t e with | some r => lcutX r | none => false)
end Mine
set_option linter.unusedSimpArgs false
set_option maxRecDepth 10000
set_option maxHeartbeats 1000000
namespace Mine
open PySem PySem.W PyProof.Rows PySem.Calls PySem.Spec

theorem laurent_of_x {cx : Cx} {X : Exc cx} (H : Mods cx) {k : Int} {t : Tm} {e : Int} (h : laurentX t e = true) : CallX cx X (lev t + 1) (Str.ofString "laurent_of") [.val (dT t), .val dLt, .val (.int e)] k := by
  unfold laurentX at h
  obtain ⟨hz, h⟩ := Bool.and_eq_true_iff.mp h
  have hz := okZ_lt hz
  have hlev := lev_ge t
  have iht := of_term_x (k := k) (X := X) H (by omega) h
  rw [show (((if 1 > e then (1 : Int) else e).toNat + 2 : Nat) : Int) = (if 1 > e then 1 else e) + 2 from by split <;> omega] at iht
  refine modx3 (x1 := "t") (x2 := "letter") (x3 := "end") (sc := [("t", .local), ("letter", .local), ("end", .local), ("more", .local), ("found", .local), ("e", .local), ("MOST_MORE", .globalImplicit), ("of_term", .globalImplicit), ("max", .globalImplicit), ("len", .globalImplicit), ("CasFail", .globalImplicit)]) H (by decide) rfl rfl (fun _ _ _ _ _ _ _ _ _ _ _ => rfl) ⟨rfl, rfl, rfl⟩ (.inl rfl) (.inl rfl) (.inl rfl) (by decide) ?_
  refine xx_next (sn_assign (.inl rfl) (ev_int _)) (xx_raise (sx_while (te_eq (te_cmp (ev_name rfl) (ev_global rfl H.MM) (cmp_le _ _)) (by decide)) (xx_raise (sx_try_again rfl rfl (noCell rfl) ?_)) (noCell rfl)))
  exact (xx_raise (sx_assign (ex_call rfl (ar_cons (ev_name rfl) (ar_cons (ev_bin (ev_callb rfl (H.no "max" (by decide)) rfl (ea_cons (ev_name rfl) (ea_cons (ev_int _) ea_nil)) (cb_max _ _)) (ev_name rfl) (bin_add _ _)) (ar_cons (ev_name rfl) ar_nil))) (iht.up (by first | omega | exact Nat.le_refl _)))))
theorem series_of_x {cx : Cx} {X : Exc cx} (H : Mods cx) {k : Int} {t : Tm} {e : Nat} (h : seriesX t e = true) {j : Int} (hj : j = (e : Int)) : CallX cx X (lev t + 2) (Str.ofString "series_of") [.val (dT t), .val (.str "x"), .val (.tuple [.int 0, .int 1]), .val (.int j)] k := by
  subst hj
  unfold seriesX at h
  have hlev := lev_ge t
  refine modx4 (x1 := "t") (x2 := "name") (x3 := "at") (x4 := "order") (sc := [("t", .local), ("name", .local), ("at", .local), ("order", .local), ("found", .local), ("lcut", .globalImplicit), ("laurent_of", .globalImplicit), ("R1", .globalImplicit), ("CasFail", .globalImplicit)]) H (by decide) rfl rfl (fun _ _ _ _ _ _ _ _ _ _ _ _ => rfl) ⟨rfl, rfl, rfl⟩ (.inl rfl) (.inl rfl) (.inl rfl) (.inl rfl) (by decide) ?_
  rcases Bool.or_eq_true_iff.mp h with h | h
  · exact (xx_raise (sx_assign (ex_arg rfl (H.fn "lcut" (by decide)) (ex_call rfl (ar_cons (ev_name rfl) (ar_cons (ev_tuple (ea_cons (ev_name rfl) (ea_cons (ev_tuple (ea_cons (ev_int _) (ea_cons (ev_own (eo_list (ea_cons (ev_name rfl) (ea_cons (ev_global rfl H.R1) ea_nil)) (by first | decide | (simp; done)))) ea_nil)) (by first | decide | (simp; done))) ea_nil)) (by first | decide | (simp; done))) (ar_cons (ev_name rfl) ar_nil))) ((laurent_of_x (X := X) H h).up (by first | decide | omega | (simp [lev, inner, poly]; done)))))))
  · split at h
    case h_2 => cases h
    rename_i u hu
    exact (xx_raise (sx_assign (ex_call rfl (ar_cons (ev_call rfl (ar_cons (ev_name rfl) (ar_cons (ev_tuple (ea_cons (ev_name rfl) (ea_cons (ev_tuple (ea_cons (ev_int _) (ea_cons (ev_own (eo_list (ea_cons (ev_name rfl) (ea_cons (ev_global rfl H.R1) ea_nil)) (by first | decide | (simp; done)))) ea_nil)) (by first | decide | (simp; done))) ea_nil)) (by first | decide | (simp; done))) (ar_cons (ev_name rfl) ar_nil))) ((laurent_of_ok H hu).up (by first | decide | omega | (simp [lev, inner, poly]; done)))) (ar_cons (ev_name rfl) ar_nil)) ((lcut_x (X := X) H h).up (by first | decide | omega | (simp [lev, inner, poly]; done))))))
end Mine
set_option maxRecDepth 100000
namespace Mine
open PySem PySem.W PyProof.Rows PySem.Calls PySem.Spec

section
variable {cx : Cx} {n : Nat} {sc : Nms} {Γ Γ' : Gam} {k k' k₁ k₂ : Int} {X : Exc cx} {g : Heap} {A : Around} {env : Env} {N : Ledg} {s : Shared} {e : Addr} {tb : Bool}

/-- a function object that raises when it is called with nothing -/
structure Deed (cx : Cx) (X : Exc cx) (n : Nat) (f : Addr) (k : Int) (N₀ : Ledg) (s : Shared) : Prop where
  notX : f ∉ cx.X
  obj : ∃ o fd, s.heap.get? f = some o ∧ o.data = .func fd
  run : ∀ A N s', Room n A → Wd cx A k N s' → KpP (· ∉ cx.X) s.heap s'.heap → (∀ p ∈ N₀, p ∈ N) → ∀ (Q E : Value → Shared → Prop),
    (∀ e N' s'', KpP (· ∉ cx.X) s'.heap s''.heap → Wd cx A k N' s'' → s''.gens = s'.gens → s''.os = s'.os → (∀ p ∈ N, p ∈ N') → (∀ p ∈ N', p ∈ N ∨ s'.heap.get? p.1 = none) → Fly cx X s'.heap s''.heap e true → E (.ref e) s'') →
    wpAny (model cx.prog cx.w) A (call (.ref f) []) Q E s'

theorem law_kind_ok (H : Mods cx) : ∃ a, FnAt cx "_law_kind" a ∧ ∀ A N s f, Room (n + 1) A → Wd cx A k N s → Deed cx X n f k N s → ∀ (Q E : Value → Shared → Prop),
    (∀ tk N' s', Step cx N s N' s' → Wd cx A k N' s' → Q (.str "domain" tk) s') → wpAny (model cx.prog cx.w) A (call (.ref a) [.ref f]) Q E s := by
  obtain ⟨a, o, name, qual, doc, pm, an, cdv, ct, h1, h2, h3, h4⟩ := H.fn "_law_kind" (by decide)
  refine ⟨a, ⟨h1, o, _, h2, h3⟩, fun A N s f hA p D Q E hQ => ?_⟩
  refine call_core_raw (n := n) (x0 := "deed") (xs := []) (as := []) (vs := []) s.heap (fun _ _ e => e) hA p .nil h2 h3 h4 rfl rfl (by decide) (fun x hx => ?_) (by decide +kernel) rfl rfl rfl fun env s₁ hA' hE p₁ Hd hkeep hgs hos hL0 => ?_
  · rcases List.mem_cons.mp hx with rfl | hx
    · rfl
    · cases hx
  obtain ⟨frs, hfrs, _, _⟩ := p.frs
  obtain ⟨frs', hf1, hf2, _⟩ := p₁.frs
  rw [Around.frames_deeper hfrs] at hf1; cases hf1
  obtain ⟨_, ⟨L, _, hL, _⟩, _⟩ := hf2
  have hfm : Frm (A.deeper env) env := ⟨_, L, Around.frames_deeper hfrs, hL⟩
  have hnc : ∀ x, (fn "_law_kind").2.2.names.lookup x ≠ some .cell := noCell (by decide +kernel)
  have kp0 : KpP (· ∉ cx.X) s.heap s₁.heap := .of_keeps fun b o _ e => hkeep b o e
  obtain ⟨fo, ff, fd, hff, hfd⟩ : ∃ (o : Obj) (ff : Unit) (fd : FuncData), s.heap.get? f = some o ∧ o.data = .func fd := let ⟨o, fd, q, r⟩ := D.obj; ⟨o, (), fd, q, r⟩
  refine wpAny_execs_cons (catch_own (X := X) (Γ := []) hE p₁ hfm rfl rfl (by decide) hnc (fun Q E hQ => ?_) fun e N₂ s₂ m S₂ p₂ hn hm F => ?_)
  · refine wpAny_execs_cons (wpAny_Expr ?_ (by unfold interactive; rw [hE.kind]; rfl) rfl)
    refine call_expand (call_name ..) (load_holds hE Hd rfl rfl ?_)
    refine Calls.callWith_function (o := fo) (fd := fd) (PySem.evalArgs_none ⟨⟨hkeep _ _ hff, hfd⟩, ?_⟩)
    refine D.run _ N s₁ (hA'.mono (Nat.le_refl _)) p₁.toWd kp0 (fun _ h => h) _ _ fun e N₂ s₂ kp W gg oo sub new F => ?_
    have S : Step cx N s₁ N₂ s₂ := ⟨kp, W.stays, fun a ha _ => W.xs a ha, gg, oo, W.led, sub, new⟩
    refine hQ e true N₂ s₂ (S.toL p₁).toW W (fun b o hb e' => ?_) (p₁.hasNs.imp fun m hn => kp.ns p₁.locX hn) (F.weak fun b o hb e' => p₁.old b o hb e')
    obtain ⟨o', e''⟩ := p₁.old b o hb e'
    obtain ⟨sl, e3, _⟩ := kp b o' hb e''
    exact ⟨_, e3⟩
  · obtain ⟨ox, vs, dx, mx, tk, e1, e2, e3, e4, e5, e6, e7, e8, e9⟩ := id F.obj
    have Hm : Holds cx s.heap env s₂.heap "wrong" (.ref e) := .loc (kindOf_of hE rfl) hn hm
    refine wpAny_execs_cons (wpAny_Return_some (Attribute_name (load_holds hE Hm rfl rfl ?_)))
    refine own_attr (p₂.stays _ _ X.obj) (X.ns.keeps p₂.stays) X.quiet.2.2.2.1 X.quiet.2.2.2.2 X.quiet.2.1 no_kind e1 e2 e4 e3 e7 e8 rfl ?_
    have P2 := (p₂.toks (s₂.toks + 1)).2
    refine name_goes (X := X) hE P2.unmark (nocell hE hnc) rfl (by decide) hn fun s₃ S₃ p₃ _ => ?_
    have S23 := S₂.trans ((((p₂.toks (s₂.toks + 1)).1.toL p₂).toW).trans S₃)
    refine hQ tk N₂ s₃ ⟨fun b o hb e' => S23.kp b o ⟨hb, o, e'⟩ (hkeep b o e'), S23.stays, fun a ha h => p₃.xs a ha, S23.gens.trans hgs, S23.os.trans hos, p₃.led, S23.sub, S23.new⟩ (Wd.out hfrs p₃.toWd)
end
end Mine
set_option maxRecDepth 100000
namespace Mine
open PySem PySem.W PyProof.Rows PySem.Calls PySem.Spec

noncomputable def Cx.more (cx : Cx) (P : Addr) : Cx := { cx with X := P :: cx.X }

section
variable {cx : Cx} {n : Nat} {sc : Nms} {Γ Γb Γ' Γ₁ : Gam} {k k' k₁ k₂ : Int} {X : Exc cx} {g : Heap} {A : Around} {env : Env} {N : Ledg} {s : Shared} {e P : Addr} {tb : Bool}

theorem Wd.lam {h' : Heap} {tk : Nat} {oP : Obj} {ps : Array Value} (p : Wd cx A k N s) (hP : s.heap.get? P = some oP) (hd : oP.data = .fields ps) (hb : cx.base.get? P = none)
    (hk : ∀ b o, b ≠ P → s.heap.get? b = some o → h'.get? b = some o) (hP' : ∃ o, h'.get? P = some o) : Wd cx A k N { s with heap := h', toks := tk } ∧ Step (cx.more P) N s N { s with heap := h', toks := tk } := by
  have hN : ∀ q ∈ N, q.1 ≠ P := fun q hq e => by
    obtain ⟨e1, ⟨xs, m, e2⟩, _⟩ := p.led q hq
    rw [e, hP] at e1; cases e1; rw [hd] at e2; cases e2
  obtain ⟨ol, hl⟩ := p.lin
  obtain ⟨⟨tk₀, m₀, eb⟩, vl, ml, el, il⟩ := p.box
  have hbA : cx.bA ≠ P := fun q => by rw [q, hP] at eb; cases eb; cases hd
  obtain ⟨frs, h1, h2, h3⟩ := p.frs
  have hF : ∀ e ∈ frs, ∀ a, e.frame = some a → a ≠ P := fun e he a ha q => by
    obtain ⟨_, o, es, m, e1, e2⟩ := h3 e he a ha
    rw [q, hP] at e1; cases e1; rw [hd] at e2; cases e2
  have st : cx.base.StaysIn h' := fun b o e => hk b o (fun q => by rw [q, hb] at e; cases e) (p.stays b o e)
  have hxs : ∀ a ∈ (cx.more P).X, ∃ o, h'.get? a = some o := fun a ha => by
    by_cases q : a = P
    · exact q ▸ hP'
    · rcases List.mem_cons.mp ha with h | h
      · exact absurd h q
      · obtain ⟨o, e⟩ := p.xs a h
        exact ⟨o, hk a o q e⟩
  have hled : Led (cx.more P).X h' N := fun q hq => ⟨hk _ _ (hN q hq) (p.led q hq).1, (p.led q hq).2.1, fun hx => by
    rcases List.mem_cons.mp hx with h | h
    · exact hN q hq h
    · exact (p.led q hq).2.2 h⟩
  refine ⟨⟨p.ok, st, fun a ha => hxs a (.tail _ ha), fun q hq => ⟨(hled q hq).1, (hled q hq).2.1, (p.led q hq).2.2⟩, p.led₀, p.lin, ⟨⟨tk₀, m₀, hk _ _ hbA eb⟩, vl, ml, hk _ _ (hN _ hl) el, il⟩,
    frs, h1, FunFrames.kpP (P := fun a => a ≠ P) (.of_keeps fun b o hb e => hk b o hb e) hF h2, fun e he a ha => ⟨(h3 e he a ha).1, ?_⟩⟩,
    ⟨.of_keeps fun b o hb e => hk b o (fun q => hb (q ▸ .head _)) e, st, fun a ha _ => hxs a ha, rfl, rfl, hled, fun _ h => h, fun _ h => .inl h⟩⟩
  obtain ⟨o, es, m, e1, e2⟩ := (h3 e he a ha).2
  exact ⟨o, es, m, hk a o (hF e he a ha) e1, e2⟩
theorem Step.more {N' : Ledg} {s' : Shared} {ps : Array Value} (hPX : P ∉ cx.X) (hP : s.heap.get? P = some (tabObj ps)) (S : Step cx N s N' s') : Step (cx.more P) N s N' s' ∧ s'.heap.get? P = some (tabObj ps) := by
  have hP' : s'.heap.get? P = some (tabObj ps) := S.kp.get hPX hP (by intro _ _ q; cases q)
  refine ⟨⟨S.kp.mono fun b hb h => hb (.tail _ h), S.stays, fun a ha h => ?_, S.gens, S.os, fun q hq => ⟨(S.led q hq).1, (S.led q hq).2.1, fun hx => ?_⟩, S.sub, S.new⟩, hP'⟩
  · rcases List.mem_cons.mp ha with rfl | ha
    · exact ⟨_, hP'⟩
    · exact S.xs a ha h
  · rcases List.mem_cons.mp hx with h | h
    · obtain ⟨e1, ⟨xs, m, e2⟩, _⟩ := S.led q hq
      rw [h, hP'] at e1; injection e1 with e1; rw [← e1] at e2; cases e2
    · exact (S.led q hq).2.2 h

/-- a lambda whose body raises -/
theorem deed_of {f c' : Addr} {name qual : Str} {params : Arguments} {body : Expr} {scope : Scope} {clos : List (Str × Addr)} {pm ctv : Value} {oc : Obj} {vc : Array Value} {tq : Tok}
    (hf : s.heap.get? f = some (kla_obj name qual params body scope clos pm c' ctv)) (hfX : f ∉ cx.X) (hc : s.heap.get? c' = some oc) (hcd : oc.data = .fields vc) (hcq : vc[1]? = some (.str qual tq)) (hcX : c' ∉ cx.X)
    (hbind : bindArgs (kla_fn name qual params body scope clos pm (.ref c') ctv) ⟨[], []⟩ = pure []) (hk : scope.kind = .function) (hco : scope.isCoroutine = false) (hgen : scope.isGenerator = false) (hcell : ∀ x ∈ scope.names, x.2 ≠ .cell)
    (hap : ∀ x y c, clos.lookup x = some c → clos.lookup y = some c → x = y)
    (hsee : ∀ x sl, Γ.lookup x = some sl → ∃ d, sl = .val d ∧ scope.names.lookup x = some .free ∧ ∃ c v, clos.lookup x = some c ∧ c ∉ cx.X ∧ s.heap.IsCell c (some v) ∧ DatIn N v d)
    (h : EvalX cx X n scope.names Γ k body) : Deed cx X (n + 1) f k N s := by
  refine ⟨hfX, ⟨_, _, hf, rfl⟩, fun A N₁ s₁ hA p kp hN Q E hQ => ?_⟩
  have hf₁ := kp.get hfX hf (by intro _ _ q; cases q)
  have hc₁ := kp.get hcX hc (fields_nd hcd)
  refine PySem.wpAny_call (kla_callFunE (fd := kla_fn name qual params body scope clos pm (.ref c') ctv) (body := body) (Nat.lt_of_lt_of_le (by have := hA.2.1; omega : A.depth < 600) (by decide)) hf₁ rfl hco hgen rfl ⟨c', oc, vc, tq, rfl, hc₁, hcd, hcq⟩ ?_)
  rw [hbind]
  refine wpAny_pure (wpAny_newFunctionEnv hcell (by intro y hy; cases hy) (fun h₁ hns hsb => ⟨(p.ok.nolimit.keeps p.stays).fresh _ hsb, ?_⟩) hk)
  have hkeep : ∀ b o, s₁.heap.get? b = some o → h₁.get? b = some o := fun b o e => hsb.extBut b o (Nat.ne_of_lt (Heap.lt_size e)) (Heap.get?_push_of_some _ e)
  have hnx : ∀ b, s₁.heap.get? b = none → b ∉ cx.X := fun b hb hx => by
    obtain ⟨o, e⟩ := p.xs b hx
    rw [hb] at e; cases e
  have hnb : ∀ b, s₁.heap.get? b = none → cx.base.get? b = none := fun b hb => by
    cases e : cx.base.get? b with
    | none => rfl
    | some o => have := p.stays b o e; rw [hb] at this; cases this
  obtain ⟨oL, es, ep, hL, hLd, hLr⟩ := id hns
  refine kla_codeExpr ?_
  generalize hen : (newEnv scope s₁.heap.objs.size (kla_fn name qual params body scope clos pm (Value.ref c') ctv).globals (kla_fn name qual params body scope clos pm (Value.ref c') ctv).closure _ _ _ _ _ : Env) = env
  have hE : EnvOk scope.names env := by subst hen; exact ⟨rfl, hk, rfl, rfl, hap⟩
  have hloc : env.locals = s₁.heap.objs.size := by subst hen; rfl
  have hfr0 : env.frame = some s₁.heap.objs.size := by subst hen; rfl
  have hcl : env.cells = clos := by subst hen; rfl
  obtain ⟨frs, hfrs, hff, hf3⟩ := p.frs
  have P₁ : Pt cx s₁.heap (A.deeper env) env Γ k N₁ { s₁ with heap := h₁, toks := s₁.toks + ([] : List (Str × Value)).length } := by
    refine { ok := p.ok, stays := fun b o e => hkeep b o (p.stays b o e), xs := fun b hb => let ⟨o, e⟩ := p.xs b hb; ⟨o, hkeep b o e⟩, led := fun q hq => ⟨hkeep _ _ (p.led q hq).1, (p.led q hq).2⟩, led₀ := p.led₀, lin := p.lin, box := p.box.of_keeps hkeep, frs := ?_,
             hasNs := ⟨_, hloc ▸ hns⟩, locX := hloc ▸ hnx _ (get_size _), locB := hloc ▸ hnb _ (get_size _), locG := hloc ▸ get_size _, old := fun b o _ e => ⟨o, hkeep b o e⟩, cells := fun x hx => ?_, see := fun x sl hx => ?_, one := fun x y vx vy lx ly hx hy _ _ _ => ?_ }
    · refine ⟨env :: frs, Around.frames_deeper hfrs, ⟨fun q => ?_, ⟨_, oL, hfr0, hnb _ (get_size _), hL, fun vs q => by rw [hLd] at q; cases q⟩, hff.of_keeps fun b o e _ => ⟨o, hkeep b o e, rfl⟩⟩, fun e he => ?_⟩
      · rw [hE.kind] at q; cases q
      rcases List.mem_cons.mp he with rfl | he
      · intro b hb
        rw [hfr0] at hb; cases hb
        exact ⟨hnx _ (get_size _), oL, es, ep, hL, hLd⟩
      · intro b hb
        obtain ⟨o, es, m, e1, e2⟩ := (hf3 e he b hb).2
        exact ⟨(hf3 e he b hb).1, o, es, m, hkeep b o e1, e2⟩
    · have hx' : scope.names.lookup x = some .cell := by rw [← hE.names]; exact hx
      exact absurd rfl (hcell _ (mem_of_lookup' hx'))
    · obtain ⟨d, rfl, hfree, c, v, h1, h2, h3, h4⟩ := hsee x sl hx
      obtain ⟨oc', ec', dc'⟩ := h3
      have hkf := kindOf_of hE hfree
      exact ⟨v, .cell (.inr hkf) (hcl ▸ h1) h2 (fun q => by rw [hkf] at q; cases q) ⟨oc', hkeep _ _ (kp.get h2 ec' (by rw [dc']; intro _ _ q; cases q)), dc'⟩, .val (h4.mono hN)⟩
    · obtain ⟨d, q, _⟩ := hsee x _ hx
      cases q
  have hA' : Room n (A.deeper env) := ⟨hA.1, by have := hA.2.1; show A.depth + 1 + n < 600; omega, by have := hA.2.2; show A.units + 3 + 20 * n < 9000; omega⟩
  refine h.run s₁.heap _ env N₁ _ hA' hE P₁ ⟨_, _, Around.frames_deeper hfrs, hfr0⟩ _ _ fun e tb N' s' S W old hns F => ?_
  refine leave_fly W (Around.frames_deeper hfrs) hfr0 old F fun h' C F' => ?_
  refine hQ e N' { s' with heap := h' } (fun b o hb e' => ?_) ((Wd.out hfrs W).ch (tk := s'.toks) C) S.gens S.os S.sub S.new F'
  obtain ⟨sl1, a1, b1⟩ := S.kp b o ⟨hb, o, e'⟩ (hkeep b o e')
  by_cases hd : ∃ vs, o.data = .fields vs
  · obtain ⟨vs, hd⟩ := hd
    exact ⟨sl1, C.flds b _ vs a1 hd (.inr (.inl ⟨o, e'⟩)), b1⟩
  · obtain ⟨sl2, a2, b2⟩ := C.keep b _ a1 fun vs q => hd ⟨vs, q⟩
    exact ⟨sl2, a2, fun q => (b2 q).trans (b1 q)⟩
end
end Mine
set_option maxRecDepth 100000
namespace Mine
open PySem PySem.W PyProof.Rows PySem.Calls PySem.Spec

/-- a run of statements as far as what is left -/
structure ExecsTo (cx : Cx) (n : Nat) (sc : Nms) (Γ : Gam) (k : Int) (sts : List Stmt) (Γ' : Gam) (k' : Int) (rest : List Stmt) : Prop where
  run : ∀ g A env N s, Room n A → EnvOk sc env → Pt cx g A env Γ k N s → ∀ (Q : Flow → Shared → Prop) (E : Value → Shared → Prop),
    (∀ N' s', StepL cx g N s N' s' → Pt cx g A env Γ' k' N' s' → wpAny (model cx.prog cx.w) A (execs rest env) Q E s') → wpAny (model cx.prog cx.w) A (execs sts env) Q E s
section
variable {cx : Cx} {n : Nat} {sc : Nms} {Γ Γb Γ' Γ₁ : Gam} {k k' k₁ k₂ : Int} {X : Exc cx} {g : Heap} {A : Around} {env : Env} {N : Ledg} {s : Shared} {e P : Addr} {tb : Bool} {st : Stmt} {sts rest : List Stmt}
theorem xt_done : ExecsTo cx n sc Γ k rest Γ k rest := ⟨fun g A env N s hA hE p Q E hQ => hQ N s p.reflL p⟩
theorem xt_next (h : ExecN cx n sc Γ k st Γ₁ k₁) (h2 : ExecsTo cx n sc Γ₁ k₁ sts Γ' k' rest) : ExecsTo cx n sc Γ k (st :: sts) Γ' k' rest :=
  ⟨fun g A env N s hA hE p Q E hQ => wpAny_execs_cons (anyF (h.run g A env N s hA hE p _ fun N₁ s₁ S₁ p₁ => h2.run g A env N₁ s₁ hA hE p₁ Q E fun N₂ s₂ S₂ p₂ => hQ N₂ s₂ (S₁.trans S₂) p₂))⟩
theorem xt_weak (hs : Sub Γ Γ₁) (h : ExecsTo cx n sc Γ₁ k sts Γ' k' rest) : ExecsTo cx n sc Γ k sts Γ' k' rest :=
  ⟨fun g A env N s hA hE p Q E hQ => h.run g A env N s hA hE (p.weak hs) Q E hQ⟩
theorem xt_freeze {x : Str} {l : List Dat} (hx : Γ.lookup x = some (.own l)) (h : ExecsTo cx n sc ((x, .val (.list l)) :: Γ) k sts Γ' k' rest) : ExecsTo cx n sc Γ k sts Γ' k' rest := by
  refine ⟨fun g A env N s hA hE p Q E hQ => ?_⟩
  obtain ⟨q, S, p'⟩ := p.freeze hx
  exact h.run g A env _ s hA hE p' Q E fun N₁ s₁ S₁ p₁ => hQ N₁ s₁ (S.trans S₁) p₁

/-- return _law_kind(lambda: ..) == 'domain' -/
theorem ret_lambda (H : Mods cx) {c : Addr} {params : Arguments} {body : Expr} {scope : Scope} {p1 p2 p3 p4 p5 p6 : Pos} {cc : Nat} (hA : Room (n + 2) A) (hE : EnvOk sc env) (p : Pt cx g A env Γ k N s)
    (hcode : env.code = .ref c) (C : CodeHd cx.base c P) (hbt : cx.base.BuiltinsAt cx.mg P) (hne : mainGlobals ≠ P) (hP : s.heap.get? P = some (tabObj #[])) (hbP : cx.base.get? P = none)
    (hlk : sc.lookup ("_law_kind" : Str) = some .globalImplicit) (hfree : ∀ y ∈ scope.names, y.2 = .free → ∃ d, Γ.lookup y.1 = some (.val d) ∧ sc.lookup y.1 = some .cell)
    (hΓb : ∀ x sl, Γb.lookup x = some sl → ∃ d, sl = .val d ∧ Γ.lookup x = some (.val d) ∧ scope.names.lookup x = some .free)
    (hk : scope.kind = .function) (hco : scope.isCoroutine = false) (hgen : scope.isGenerator = false) (hcell : ∀ x ∈ scope.names, x.2 ≠ .cell) (hdef : defaultsOf params env = ([], []))
    (hbind : ∀ (qual : Str) (clos : List (Str × Addr)) (pm ctv : Value) (c' : Addr), bindArgs (kla_fn "<lambda>" qual params body scope clos pm (.ref c') ctv) ⟨[], []⟩ = pure [])
    (hPX : P ∉ cx.X) (hX : EvalX cx X n scope.names Γb k body) {Q : Flow → Shared → Prop}
    (hQ : ∀ N' s' ps, Step (cx.more P) N s N' s' → Wd cx A k N' s' → s'.heap.get? P = some (tabObj ps) → Q (.ret (.bool true)) s') :
    wpAny (model cx.prog cx.w) A (exec (.Return (some (.Compare (.Call (.Name "_law_kind" p1) [.Lambda params body scope p2] [] p3) [.Eq] [.Constant (.str "domain") cc p4] p5)) p6) env) Q (fun _ _ => False) s := by
  obtain ⟨a, ⟨h1, o, fd, h2, h3⟩, hc⟩ := law_kind_ok (X := X) (k := k) (n := n + 1) H
  refine wpAny_Return_some (wpAny_Compare1 (call_expand (call_name ..) (load_global p.toWd hE hlk h1 rfl ?_)) rfl)
  obtain ⟨cl, hcl, hcl1, hcl2⟩ := closure_ok scope env (fun y hy hf => by
    obtain ⟨d, hd, hkd⟩ := hfree y hy hf
    obtain ⟨v, H, _⟩ := p.see _ _ hd
    obtain ⟨c, hc, _⟩ := H.inCell hE (.inl hkd)
    exact ⟨c, hc⟩)
  rw [starE_cons (by intro _ _ h; cases h)]
  refine Calls.callWith_function (o := o) (fd := fd) (Calls.evalArgs_plain (spliced_cons (kla_eval hdef ?_)))
  obtain ⟨bm, ob, b1, b2, b3, b4, b5, b6, b7, b8⟩ := hbt
  refine kla_makeFunction (mg := cx.mg) (ps := #[]) hcl hE.globals p.mg hcode (C.keeps p.stays) hP trivial rfl hne ⟨bm, ob, b1, b2, b3, b4, p.stays _ _ b5, b6, b7, b8⟩ fun c' ctv h' tk hx hge hlt hrec htb => spliced_nil ?_
  obtain ⟨W, S⟩ := p.toWd.lam (h' := h'.push (kla_obj "<lambda>" (env.qual ++ "<lambda>") params body scope cl ((cx.mg "__name__").getD .none) c' ctv)) (tk := tk) hP rfl hbP (fun b o hb e => Heap.get?_push_of_some _ (hx b o hb e)) ⟨_, Heap.get?_push_of_some _ htb⟩
  refine ⟨⟨W.stays _ _ h2, h3⟩, ?_⟩
  obtain ⟨c₂, oc, vs, t, e2, hoc, hd, hv⟩ := hrec
  cases e2
  have exX : ∀ b ∈ cx.X, ∃ o, s.heap.get? b = some o := fun b hb => p.xs b hb
  have exX' : ∀ b ∈ cx.X, ∃ o, h'.get? b = some o := fun b hb => by
    obtain ⟨o, e⟩ := exX b hb
    by_cases q : b = P
    · exact ⟨_, q ▸ htb⟩
    · exact ⟨o, hx b o q e⟩
  refine hc A N _ _ hA W (deed_of (Γ := Γb) (X := X) (f := h'.objs.size) (Heap.get?_push_size _ rfl) (fun hb => ?_) (Heap.get?_push_of_some _ hoc) hd hv (fun hb => ?_) (hbind ..) hk hco hgen hcell (fun x y c hx hy => hE.apart x y c (hcl1 _ _ hx) (hcl1 _ _ hy)) (fun x sl hx' => ?_) hX) _ _ fun tk' N₃ s₃ S₃ w₃ => ?_
  · obtain ⟨o, e⟩ := exX' _ hb
    rw [get_size] at e; cases e
  · obtain ⟨o, e⟩ := exX _ hb
    exact absurd (Heap.lt_size e) (Nat.not_lt.mpr hge)
  · obtain ⟨d, rfl, hd, hfr⟩ := hΓb x sl hx'
    obtain ⟨v, Hv, Hs⟩ := p.see _ _ hd
    obtain ⟨d', hd', hkd⟩ := hfree _ (mem_of_lookup' hfr) rfl
    obtain ⟨c, hc, hcX, oc', ec', dc'⟩ := Hv.inCell hE (.inl hkd)
    cases Hs with
    | val hdat =>
    obtain ⟨c₁, hc₁⟩ := hcl2 _ (mem_of_lookup' hfr) rfl
    have := hcl1 _ _ hc₁
    dsimp only at this hc
    rw [hc] at this; cases this
    have hcP : c ≠ P := fun q => by rw [q, hP] at ec'; cases ec'; cases dc'
    exact ⟨d, rfl, hfr, c, v, hc₁, hcX, ⟨oc', Heap.get?_push_of_some _ (hx _ _ hcP ec'), dc'⟩, hdat⟩
  · refine Calls.Constant_str ?_
    refine PyProof.Rows.eq_str ?_
    rw [show (("domain" : Str) == ("domain" : Str)) = true from by decide +kernel]
    have w₄ := w₃.step (k' := k) (w₃.toks (s₃.toks + 1)) w₃.box
    obtain ⟨S₄, hP₄⟩ := Step.more (s := { s with heap := h'.push (kla_obj "<lambda>" (env.qual ++ "<lambda>") params body scope cl ((cx.mg "__name__").getD .none) c' ctv), toks := tk }) hPX (Heap.get?_push_of_some _ htb) (S₃.trans (w₃.toks (s₃.toks + 1)))
    exact hQ N₃ _ _ (S.trans S₄) w₄ hP₄
end
end Mine
set_option maxRecDepth 100000
namespace Mine
open PySem PySem.W PyProof.Rows PySem.Calls PySem.Spec

/-- a function of the file that makes a lambda; P: the table of its code objects -/
structure LamAt (cx : Cx) (f : String) (P : Addr) : Prop where
  fn : ∃ a o name qual doc pm an c ct, cx.mg (Str.ofString f) = some (.ref a) ∧ cx.base.get? a = some o ∧ o.data = .func (fnOf name qual (fn (Str.ofString f)).1 (fn (Str.ofString f)).2.1 (fn (Str.ofString f)).2.2 .none .none doc pm an (.ref c) ct) ∧ cx.base.CodeRec (.ref c) qual ∧ CodeHd cx.base c P
  bt : cx.base.BuiltinsAt cx.mg P
  ne : mainGlobals ≠ P
  fresh : cx.base.get? P = none
  notX : P ∉ cx.X
/-- a call of a function of the box that makes a lambda -/
noncomputable def CallP (cx : Cx) (P : Addr) (n : Nat) (f : Str) (k k' : Int) : Prop :=
  ∃ a, FnAt cx f a ∧ ∀ A N s, Room n A → Wd cx A k N s → s.heap.get? P = some (tabObj #[]) → ∀ Q : Value → Shared → Prop,
    (∀ N' s' ps, Step (cx.more P) N s N' s' → Wd cx A k' N' s' → s'.heap.get? P = some (tabObj ps) → Q (.bool true) s') → wpAny (model cx.prog cx.w) A (call (.ref a) [.ref cx.bA]) Q (fun _ _ => False) s

section
variable {cx : Cx} {n : Nat} {sc : Nms} {Γ Γb Γ' Γ₁ : Gam} {k k' k₁ k₂ : Int} {X : Exc cx} {P : Addr}
theorem CallP.of {f : Str} (H : CallTo cx n f [.box] k (.bool true) k') (hPX : P ∉ cx.X) : CallP cx P n f k k' := by
  obtain ⟨a, ⟨h1, o, fd, h2, h3⟩, hc⟩ := H
  refine ⟨a, ⟨h1, o, fd, h2, h3⟩, fun A N s hA p hs Q hQ => ?_⟩
  refine hc A N _ _ hA p (.cons .box .nil) Q fun v N' s' S' hb hv => ?_
  cases hv
  obtain ⟨S, hP⟩ := S'.more hPX hs
  exact hQ N' s' _ S (p.step S' hb) hP

theorem free_ok {scn : Nms} (h : scn.all (fun y => y.2 != .free || ((match Γ.lookup y.1 with | some (.val _) => true | _ => false) && sc.lookup y.1 == some .cell)) = true) : ∀ y ∈ scn, y.2 = .free → ∃ d, Γ.lookup y.1 = some (.val d) ∧ sc.lookup y.1 = some .cell := fun y hy hf => by
  have := List.all_eq_true.mp h y hy
  simp only [hf, bne_self_eq_false, Bool.false_or, Bool.and_eq_true, beq_iff_eq] at this
  obtain ⟨h1, h2⟩ := this
  split at h1
  · rename_i d e
    exact ⟨d, e, h2⟩
  · cases h1
theorem gb_nil {scn : Nms} : ∀ x sl, ([] : Gam).lookup x = some sl → ∃ d, sl = .val d ∧ Γ.lookup x = some (.val d) ∧ scn.lookup x = some .free := fun x sl h => by cases h
theorem gb_cons {scn : Nms} {x0 : Str} {d : Dat} (h1 : Γ.lookup x0 = some (.val d)) (h2 : scn.lookup x0 = some .free) (h : ∀ x sl, Γb.lookup x = some sl → ∃ d, sl = .val d ∧ Γ.lookup x = some (.val d) ∧ scn.lookup x = some .free) :
    ∀ x sl, ((x0, Sl.val d) :: Γb).lookup x = some sl → ∃ d, sl = .val d ∧ Γ.lookup x = some (.val d) ∧ scn.lookup x = some .free := fun x sl hx => by
  rw [List.lookup_cons] at hx
  cases hb : x == x0 with
  | true =>
    rw [hb] at hx; cases hx
    rw [eq_of_beq hb]
    exact ⟨d, rfl, h1, h2⟩
  | false => rw [hb] at hx; exact h x sl hx
theorem noCell' {scn : Nms} (h : scn.all (fun y => y.2 != .cell) = true) : ∀ x ∈ scn, x.2 ≠ .cell := fun x hx q => by
  have := List.all_eq_true.mp h _ hx
  rw [q] at this; cases this

theorem callP_if (H : Mods cx) {f : String} (Lm : LamAt cx f P) {bodyf orelse rest : List Stmt} {test : Expr} {params : Arguments} {body : Expr} {scope : Scope} {p1 p2 p3 p4 p5 p6 p7 : Pos} {cc : Nat} (hB : (fn (Str.ofString f)).2.1 = bodyf) (hs : (fn (Str.ofString f)).2.2.names = sc)
    (hb : ∀ (name qual : Str) (body : List Stmt) (doc pm cdv ct : Value) (an : Option Addr) (v1 : Value), bindArgs (fnOf name qual (fn (Str.ofString f)).1 body (fn (Str.ofString f)).2.2 .none .none doc pm an cdv ct) ⟨[v1], []⟩ = pure [((("box" : Str)), v1)])
    (hkf : (fn (Str.ofString f)).2.2.kind = .function ∧ (fn (Str.ofString f)).2.2.isCoroutine = false ∧ (fn (Str.ofString f)).2.2.isGenerator = false)
    (h1 : sc.lookup ("box" : Str) = some .local ∨ sc.lookup ("box" : Str) = some .cell)
    (hpre : ExecsTo cx (n + 2) sc [("box", .box)] k bodyf Γ k' (.If test [.Return (some (.Compare (.Call (.Name "_law_kind" p1) [.Lambda params body scope p2] [] p3) [.Eq] [.Constant (.str "domain") cc p4] p5)) p6] orelse p7 :: rest))
    (ht : TestTo cx (n + 2) sc Γ k' test true k')
    (hlk : sc.lookup ("_law_kind" : Str) = some .globalImplicit) (hfree : ∀ y ∈ scope.names, y.2 = .free → ∃ d, Γ.lookup y.1 = some (.val d) ∧ sc.lookup y.1 = some .cell)
    (hΓb : ∀ x sl, Γb.lookup x = some sl → ∃ d, sl = .val d ∧ Γ.lookup x = some (.val d) ∧ scope.names.lookup x = some .free)
    (hk : scope.kind = .function) (hco : scope.isCoroutine = false) (hgen : scope.isGenerator = false) (hcell : ∀ x ∈ scope.names, x.2 ≠ .cell) (hdef : ∀ env, defaultsOf params env = ([], []))
    (hbind : ∀ (qual : Str) (clos : List (Str × Addr)) (pm ctv : Value) (c' : Addr), bindArgs (kla_fn "<lambda>" qual params body scope clos pm (.ref c') ctv) ⟨[], []⟩ = pure [])
    (hX : EvalX cx X n scope.names Γb k' body) : CallP cx P (n + 3) (Str.ofString f) k k' := by
  subst hs hB
  obtain ⟨a, o, name, qual, doc, pm, an, c, ct, e1, e2, e3, e4, e5⟩ := Lm.fn
  refine ⟨a, ⟨e1, o, _, e2, e3⟩, fun A N s hA p hs Q hQ => ?_⟩
  refine call_core' (n := n + 2) (xs := ["box"]) (as := [.box]) hA p (.cons .box .nil) e2 e3 e4 (hb ..) rfl (by simp) (fun x hx => ?_) hkf.1 hkf.2.1 hkf.2.2 fun env s₁ hA' hE p₁ hkeep hg ho hcode => ?_
  · rcases List.mem_cons.mp hx with rfl | hx
    · exact h1
    · cases hx
  obtain ⟨frs, hfrs, _, _⟩ := p.frs
  refine hpre.run s.heap _ env N s₁ hA' hE p₁ _ _ fun N₂ s₂ S₂ p₂ => ?_
  have hPX := Lm.notX
  have hP₂ : s₂.heap.get? P = some (tabObj #[]) := S₂.kp.get ⟨hPX, _, hs⟩ (hkeep _ _ hs) (by intro _ _ q; cases q)
  refine wpAny_execs_cons (wpAny_If (anyF (ht.run s.heap _ env N₂ s₂ hA' hE p₂ _ fun N₃ s₃ S₃ p₃ => ?_)))
  have hP₃ : s₃.heap.get? P = some (tabObj #[]) := S₃.kp.get hPX hP₂ (by intro _ _ q; cases q)
  rw [if_pos rfl]
  refine wpAny_execs_cons (anyF (ret_lambda (Γb := Γb) H hA' hE p₃ hcode e5 Lm.bt Lm.ne hP₃ Lm.fresh hlk hfree hΓb hk hco hgen hcell (hdef _) hbind hPX hX fun N₄ s₄ ps S₄ w₄ hP₄ => ?_))
  have S : StepL cx s.heap N s₁ N₃ s₃ := S₂.trans (S₃.toL p₂)
  refine hQ N₄ s₄ ps ⟨fun b o hb e' => ?_, S₄.stays, fun a ha _ => ?_, (S₄.gens.trans S.gens).trans hg, (S₄.os.trans S.os).trans ho, S₄.led, fun q hq => S₄.sub q (S.sub q hq), fun q hq => ?_⟩ (Wd.out hfrs w₄) hP₄
  · obtain ⟨sl1, a1, b1⟩ := S.kp b o ⟨fun h => hb (.tail _ h), o, e'⟩ (hkeep b o e')
    obtain ⟨sl2, a2, b2⟩ := S₄.kp b _ hb a1
    exact ⟨sl2, a2, fun q => (b2 q).trans (b1 q)⟩
  · rcases List.mem_cons.mp ha with rfl | ha
    · exact ⟨_, hP₄⟩
    · exact w₄.xs a ha
  · rcases S₄.new q hq with h | h
    · exact S.new q h
    · refine .inr ?_
      cases e' : s.heap.get? q.1 with
      | none => rfl
      | some o =>
        obtain ⟨o', e''⟩ := p₃.old q.1 o (fun hx => (S₄.led q hq).2.2 (.tail _ hx)) e'
        rw [h] at e''; cases e''
end
end Mine
set_option linter.unusedSimpArgs false
set_option maxRecDepth 10000
namespace Mine
open PySem PySem.W PyProof.Rows PySem.Calls PySem.Spec





set_option maxHeartbeats 1000000
theorem sn_if_c {cx : Cx} {n : Nat} {sc : Nms} {Γ Γ₂ : Gam} {k k₁ k₂ : Int} {t : Expr} {b o : List Stmt} {pos : Pos} {c : Bool} (ht : TestTo cx n sc Γ k t c k₁) (h1 : c = true → ExecsN cx n sc Γ k₁ b Γ₂ k₂) (h2 : c = false → ExecsN cx n sc Γ k₁ o Γ₂ k₂) : ExecN cx n sc Γ k (.If t b o pos) Γ₂ k₂ := by
  cases c with
  | true => exact sn_if_t ht (h1 rfl)
  | false => exact sn_if_f ht (h2 rfl)
noncomputable def noOwn (Γ : Gam) : Bool := Γ.all fun y => match y.2 with | .own _ => false | _ => true
theorem no_own {Γ : Gam} (h : noOwn Γ = true) : ∀ x l, Γ.lookup x ≠ some (.own l) := fun x l e => by
  have := List.all_eq_true.mp h _ (mem_of_lookup' e)
  cases this
theorem drawV_lt (ns : List Int) (k m : Nat) (h : 0 < m) : drawV ns k m < m := by
  unfold drawV; split <;> exact Nat.mod_lt _ h
theorem pick5 {i : Nat} (h : i < 5) : ([.tuple [.int 1, .int 2], .tuple [.int (-1), .int 2], .tuple [.int 3, .int 2], .tuple [.int 1, .int 3], .tuple [.int (-2), .int 3]] : List Dat)[((i : Nat) : Int).toNat]? = some (dQ (qOf i)) :=
  match i, h with
  | 0, _ => rfl | 1, _ => rfl | 2, _ => rfl | 3, _ => rfl | 4, _ => rfl
theorem pick9 {i : Nat} (h : i < 9) : ([.int 0, .int 1, .int 2, .int 3, .int 4, .int (-1), .int (-2), .int (-3), .int (-4)] : List Dat)[((i : Nat) : Int).toNat]? = some (.int (pOf i)) :=
  match i, h with
  | 0, _ => rfl | 1, _ => rfl | 2, _ => rfl | 3, _ => rfl | 4, _ => rfl | 5, _ => rfl | 6, _ => rfl | 7, _ => rfl | 8, _ => rfl
theorem pick3 {i : Nat} (h : i < 3) : ([.tuple [.int 1, .int 1], .tuple [.int 2, .int 1], .tuple [.int 1, .int 2]] : List Dat)[((i : Nat) : Int).toNat]? = some (dQ (fOf i)) :=
  match i, h with
  | 0, _ => rfl | 1, _ => rfl | 2, _ => rfl
theorem q_facts {i : Nat} (h : i < 5) : 0 < (qOf i).2 ∧ (qOf i).2 < 4 ∧ (qOf i).1.natAbs < 4 :=
  match i, h with
  | 0, _ => by decide | 1, _ => by decide | 2, _ => by decide | 3, _ => by decide | 4, _ => by decide
theorem p_facts {i : Nat} (h : i < 9) : (pOf i).natAbs < 5 :=
  match i, h with
  | 0, _ => by decide | 1, _ => by decide | 2, _ => by decide | 3, _ => by decide | 4, _ => by decide | 5, _ => by decide | 6, _ => by decide | 7, _ => by decide | 8, _ => by decide
theorem f_facts {i : Nat} (h : i < 3) : (fOf i).1.natAbs < 3 ∧ (fOf i).2.natAbs < 3 :=
  match i, h with
  | 0, _ => by decide | 1, _ => by decide | 2, _ => by decide
theorem lev_term5 (q : Q) (pl : Int) (fs : Q) (a b : Int) : lev (term5 q pl fs a b) ≤ 18 := by
  unfold term5
  split <;> simp [lev, poly]
theorem law_root_right_pos {cx : Cx} (H : Mods cx) {k : Int} {kn i j l : Nat} {a b : Int} (hk : k = (kn : Int)) (hk2 : kn ≤ 50) (ei : drawV cx.ns kn 5 = i) (ej : drawV cx.ns (kn + 1) 9 = j) (el : drawV cx.ns (kn + 2) 3 = l)
    (ea : ((drawV cx.ns (kn + 3) 4 : Nat) : Int) - 1 = a) (eb : ((drawV cx.ns (kn + 4) 3 : Nat) : Int) = b) (hc : ((pOf j * (qOf i).1).fmod (qOf i).2 == 0) = true) (h : rootPos? (qOf i) (pOf j) (fOf l) a b = some true) : CallTo cx 24 (Str.ofString "_law_root_right") [.box] k (.bool true) (k + 1 + 1 + 1 + 1 + 1) := by
  have hi : i < 5 := ei ▸ drawV_lt _ _ _ (by decide)
  have hj : j < 9 := ej ▸ drawV_lt _ _ _ (by decide)
  have hl : l < 3 := el ▸ drawV_lt _ _ _ (by decide)
  have ha : drawV cx.ns (kn + 3) 4 < 4 := drawV_lt _ _ _ (by decide)
  have hb : drawV cx.ns (kn + 4) 3 < 3 := drawV_lt _ _ _ (by decide)
  obtain ⟨q1, q2, q3⟩ := q_facts hi
  have p1 := p_facts hj
  obtain ⟨f1, f2⟩ := f_facts hl
  have t1 := law_take_ok (k := k) H hk (by omega) (m := 5) (by decide) (by decide) (j := 5) rfl
  have t2 := law_take_ok (k := k + 1) H (kn := kn + 1) (by omega) (by omega) (m := 9) (by decide) (by decide) (j := 9) rfl
  have t3 := law_take_ok (k := k + 1 + 1) H (kn := kn + 2) (by omega) (by omega) (m := 3) (by decide) (by decide) (j := 3) rfl
  have t4 := law_take_ok (k := k + 1 + 1 + 1) H (kn := kn + 3) (by omega) (by omega) (m := 4) (by decide) (by decide) (j := 4) rfl
  have t5 := law_take_ok (k := k + 1 + 1 + 1 + 1) H (kn := kn + 4) (by omega) (by omega) (m := 3) (by decide) (by decide) (j := 3) rfl
  rw [ei] at t1
  rw [ej] at t2
  rw [el] at t3
  rw [eb] at t5
  have hab : a.natAbs < 5 ∧ b.natAbs < 5 := by omega
  have hlev := lev_term5 (qOf i) (pOf j) (fOf l) a b
  have m0 : 0 ≤ (qOf i).2 := by omega
  have m1 : (qOf i).2 ≤ 1000 := by omega
  have m2 : (qOf i).2 ≠ 0 := by omega
  have m3 : (qOf i).2.natAbs < big := Nat.lt_of_lt_of_le (by omega : (qOf i).2.natAbs < 100) (by decide)
  have pk5 := pick5 hi
  have pk9 := pick9 hj
  have pk3 := pick3 hl
  generalize hQ : qOf i = q at *
  generalize hP : pOf j = pl at *
  generalize hF : fOf l = fs at *
  have hi := hi
  refine mod1 (x1 := "box") (sc := [("box", .local), ("top", .local), ("bottom", .local), ("place", .local), ("first", .local), ("numbers", .local), ("lead", .cell), ("base", .local), ("low", .local), ("found", .local), ("begin", .local), ("power", .local), ("plain", .local), ("turn", .local), ("due", .local), ("term", .cell), ("_law_take", .globalImplicit), ("_law_x", .globalImplicit), ("_law_poly", .globalImplicit), ("_law_kind", .globalImplicit), ("laurent_of", .globalImplicit), ("len", .globalImplicit), ("abs", .globalImplicit), ("range", .globalImplicit), ("_law_times", .globalImplicit)]) H (by decide) rfl rfl (fun _ _ _ _ _ _ _ _ _ => rfl) ⟨rfl, rfl, rfl⟩ (.inl rfl) ?_
  have f3 : fs.1.natAbs < 2 ^ 64 := by omega
  have f4 : fs.2.natAbs < 2 ^ 64 := by omega
  have p2 : pl.natAbs < 2 ^ 64 := by omega
  have hk5 : fs.1 ^ q.2.toNat = fs.1 ^ q.2.toNat := rfl
  rw [← ea] at hlev
  refine (xr_next (sn_unpack2 (.inl rfl) (.inl rfl) (ev_item (ev_own (eo_list (ea_cons (ev_tuple (ea_cons (ev_int _) (ea_cons (ev_int _) ea_nil)) (by first | decide | (simp; done))) (ea_cons (ev_tuple (ea_cons (ev_neg (ev_int _)) (ea_cons (ev_int _) ea_nil)) (by first | decide | (simp; done))) (ea_cons (ev_tuple (ea_cons (ev_int _) (ea_cons (ev_int _) ea_nil)) (by first | decide | (simp; done))) (ea_cons (ev_tuple (ea_cons (ev_int _) (ea_cons (ev_int _) ea_nil)) (by first | decide | (simp; done))) (ea_cons (ev_tuple (ea_cons (ev_neg (ev_int _)) (ea_cons (ev_int _) ea_nil)) (by first | decide | (simp; done))) ea_nil))))) (by first | decide | (simp; done)))) rfl (ev_call rfl (ar_box rfl (ar_cons (ev_int _) ar_nil)) (t1.up (by first | omega | exact Nat.le_refl _))) (by first | omega | assumption | decide | (simp; done) | (simp; omega)) (by first | omega | assumption | decide | (simp; done) | (simp; omega)) (by first | exact pk5 | exact pk9 | exact pk3 | rfl | exact hx | exact at_q hx (by omega) | exact at_q hy (by omega) | exact at_q hx (by simp) | exact at_q hy (by simp; omega)))) (xr_next (sn_swap2 rfl rfl (ev_item (ev_own (eo_list (ea_cons (ev_int _) (ea_cons (ev_int _) (ea_cons (ev_int _) (ea_cons (ev_int _) (ea_cons (ev_int _) (ea_cons (ev_neg (ev_int _)) (ea_cons (ev_neg (ev_int _)) (ea_cons (ev_neg (ev_int _)) (ea_cons (ev_neg (ev_int _)) ea_nil))))))))) (by first | decide | (simp; done)))) rfl (ev_call rfl (ar_box rfl (ar_cons (ev_int _) ar_nil)) (t2.up (by first | omega | exact Nat.le_refl _))) (by first | omega | assumption | decide | (simp; done) | (simp; omega)) (by first | omega | assumption | decide | (simp; done) | (simp; omega)) (by first | exact pk5 | exact pk9 | exact pk3 | rfl | exact hx | exact at_q hx (by omega) | exact at_q hy (by omega) | exact at_q hx (by simp) | exact at_q hy (by simp; omega))) (ev_item (ev_own (eo_list (ea_cons (ev_tuple (ea_cons (ev_int _) (ea_cons (ev_int _) ea_nil)) (by first | decide | (simp; done))) (ea_cons (ev_tuple (ea_cons (ev_int _) (ea_cons (ev_int _) ea_nil)) (by first | decide | (simp; done))) (ea_cons (ev_tuple (ea_cons (ev_int _) (ea_cons (ev_int _) ea_nil)) (by first | decide | (simp; done))) ea_nil))) (by first | decide | (simp; done)))) rfl (ev_call rfl (ar_box rfl (ar_cons (ev_int _) ar_nil)) (t3.up (by first | omega | exact Nat.le_refl _))) (by first | omega | assumption | decide | (simp; done) | (simp; omega)) (by first | omega | assumption | decide | (simp; done) | (simp; omega)) (by first | exact pk5 | exact pk9 | exact pk3 | rfl | exact hx | exact at_q hx (by omega) | exact at_q hy (by omega) | exact at_q hx (by simp) | exact at_q hy (by simp; omega)))) (xr_next (sn_assign (.inl rfl) (ev_tuple (ea_cons (ev_bin (ev_call rfl (ar_box rfl (ar_cons (ev_int _) ar_nil)) (t4.up (by first | omega | exact Nat.le_refl _))) (ev_int _) (bin_sub _ _)) (ea_cons (ev_call rfl (ar_box rfl (ar_cons (ev_int _) ar_nil)) (t5.up (by first | omega | exact Nat.le_refl _))) ea_nil)) (by first | decide | (simp; done)))) (xr_next (sn_assign (.inr rfl) (ev_tuple (ea_cons (ev_str _) (ea_cons (ev_bin (ev_item (ev_name rfl) rfl (ev_int _) (by decide) (by decide) rfl) (ev_name rfl) (bin_pow _ _ (by first | omega | assumption | decide | (simp; done) | (simp; omega)) (by first | omega | assumption | decide | (simp; done) | (simp; omega)) (by first | omega | assumption | decide | (simp; done) | (simp; omega)))) (ea_cons (ev_bin (ev_item (ev_name rfl) rfl (ev_int _) (by decide) (by decide) rfl) (ev_name rfl) (bin_pow _ _ (by first | omega | assumption | decide | (simp; done) | (simp; omega)) (by first | omega | assumption | decide | (simp; done) | (simp; omega)) (by first | omega | assumption | decide | (simp; done) | (simp; omega)))) ea_nil))) (by first | decide | (simp; done)))) ?_))))
  rw [ea] at hlev ⊢
  refine (xr_next (sn_assign (.inl rfl) (ev_tuple (ea_cons (ev_str _) (ea_cons (ev_tuple (ea_cons (ev_name rfl) (ea_cons (ev_tuple (ea_cons (ev_str _) (ea_cons (ev_global rfl H.X) (ea_cons (ev_tuple (ea_cons (ev_str _) (ea_cons (ev_name rfl) (ea_cons (ev_int _) ea_nil))) (by first | decide | (simp; done))) ea_nil))) (by first | decide | (simp; done))) (ea_cons (ev_call rfl (ar_cons (ev_name rfl) ar_nil) ((law_poly_ok H _ _).up (by first | decide | omega | (simp [lev, inner, poly]; done)))) ea_nil))) (by first | decide | (simp; done))) ea_nil)) (by first | decide | (simp; done)))) ?_)
  refine xr_next (sn_if_c (k₂ := k + 1 + 1 + 1 + 1 + 1) (Γ₂ := [("base", .val (dT (if pl == 0 then .prod2 (.num (fs.1 ^ q.2.toNat) (fs.2 ^ q.2.toNat)) (poly a b) else .prod3 (.num (fs.1 ^ q.2.toNat) (fs.2 ^ q.2.toNat)) (.pow .x (.num pl 1)) (poly a b)))), ("lead", .val (.tuple [.str "num", .int (fs.1 ^ q.2.toNat), .int (fs.2 ^ q.2.toNat)])), ("numbers", .val (.tuple [.int a, .int b])), ("first", .val (dQ fs)), ("place", .val (.int pl)), ("top", .val (.int q.1)), ("bottom", .val (.int q.2))]) (c := pl == 0) (te_cmp (ev_name rfl) (ev_int _) (cmp_eq _ _)) (fun hc => ?_) (fun hc => ?_)) ?_
  · refine xs_weak (xs_next (sn_assign (.inl rfl) (ev_tuple (ea_cons (ev_str _) (ea_cons (ev_tuple (ea_cons (ev_name rfl) (ea_cons (ev_call rfl (ar_cons (ev_name rfl) ar_nil) ((law_poly_ok H _ _).up (by first | decide | omega | (simp [lev, inner, poly]; done)))) ea_nil)) (by first | decide | (simp; done))) ea_nil)) (by first | decide | (simp; done)))) xs_nil) ?_
    rw [if_pos hc]; exact (by repeat (first | exact sub_nil | refine sub_cons rfl ?_))
  · refine xs_weak xs_nil ?_
    rw [hc, if_neg (by decide)]; exact (by repeat (first | exact sub_nil | refine sub_cons rfl ?_))
  refine (xr_next (sn_assign (.inr rfl) (ev_tuple (ea_cons (ev_str _) (ea_cons (ev_name rfl) (ea_cons (ev_tuple (ea_cons (ev_str _) (ea_cons (ev_name rfl) (ea_cons (ev_name rfl) ea_nil))) (by first | decide | (simp; done))) ea_nil))) (by first | decide | (simp; done)))) (xr_next (sn_assign (.inl rfl) (ev_bin (ev_bin (ev_name rfl) (ev_name rfl) (bin_mul _ _ (by first | omega | assumption | decide | (simp; done) | (simp; omega)))) (ev_name rfl) (bin_floordiv _ _ (by first | omega | assumption | decide | (simp; done) | (simp; omega)) (by first | omega | assumption | decide | (simp; done) | (simp; omega))))) ?_))
  refine xr_weak (Γ' := [("low", .val (.int ((pl * q.1).fdiv q.2))), ("term", .val (dT (term5 q pl fs a b))), ("lead", .val (.tuple [.str "num", .int (fs.1 ^ q.2.toNat), .int (fs.2 ^ q.2.toNat)])), ("numbers", .val (.tuple [.int a, .int b])), ("first", .val (dQ fs)), ("place", .val (.int pl)), ("top", .val (.int q.1)), ("bottom", .val (.int q.2))]) (by repeat (first | exact sub_nil | refine sub_cons rfl ?_)) ?_
  have hc0 : ((pl * q.1).fmod q.2 != 0) = false := by simp at hc ⊢; exact hc
  unfold rootPos? at h
  obtain ⟨r, hr, h⟩ := Option.bind_eq_some_iff.mp h
  split at h
  · cases h
  rename_i hc1
  simp only [Bool.or_eq_true, bne_iff_ne, ne_eq, decide_eq_true_eq, Bool.not_eq_true', not_or, Decidable.not_not, Bool.not_eq_false] at hc1
  obtain ⟨⟨hc1, hc2⟩, hc3⟩ := hc1
  have hc3 := okL_lt hc3
  obtain ⟨hh, hx, h⟩ := Option.bind_eq_some_iff.mp h
  dsimp only at h
  have eab : (if q.1 < 0 then -q.1 else q.1) = (q.1.natAbs : Int) := by split <;> omega
  have ea0 : 0 ≤ (if q.1 < 0 then -q.1 else q.1) := by split <;> omega
  have ea1 : (if q.1 < 0 then -q.1 else q.1) ≤ 1000 := by split <;> omega
  have et : (if q.1 < 0 then -q.1 else q.1).toNat = q.1.natAbs := by rw [eab]; rfl
  have hx2 : (r.2.map dQ)[0]? = some (dQ hh) := by simp [hx]
  rcases Decidable.em (0 < q.1) with hpos | hpos
  · simp only [if_pos hpos] at h
    split at h
    · cases h
    rename_i hc4
    obtain ⟨⟨hc4, hc4'⟩, hc5⟩ : (hh.1 = fs.1 ^ q.1.natAbs ∧ hh.2 = fs.2 ^ q.1.natAbs) ∧ okI (fs.1 ^ q.2.toNat) = true := by simpa using hc4
    have hc5 := okI_lt hc5
    obtain ⟨plain, hpl, h⟩ := Option.bind_eq_some_iff.mp h
    obtain ⟨pw, hpw, h⟩ := Option.bind_eq_some_iff.mp h
    obtain ⟨du, hdu, h⟩ := Option.bind_eq_some_iff.mp h
    split at h
    case isFalse => cases h
    rename_i hc6
    have hp0 : decide (0 < q.1) = true := by simp; omega
    refine xr_next (sn_if_f (te_eq (b := false) (te_cmp (ev_bin (ev_bin (ev_name rfl) (ev_name rfl) (bin_mul _ _ (by first | omega | assumption | decide | (simp; done) | (simp; omega)))) (ev_name rfl) (bin_mod _ _ (by first | omega | assumption | decide | (simp; done) | (simp; omega)))) (ev_int _) (cmp_ne _ _)) (by first | rfl | (simp [kqdP, kqdPs, PyData.eqv, PyData.eqvAll, *]; done) | assumption | decide | (simp [*]; done) | (simp; omega))) xs_nil) ?_
    refine (xr_next (sn_assign (.inl rfl) (ev_call rfl (ar_cons (ev_name rfl) (ar_cons (ev_tuple (ea_cons (ev_str _) (ea_cons (ev_tuple (ea_cons (ev_int _) (ea_cons (ev_own (eo_list (ea_cons (ev_tuple (ea_cons (ev_int _) (ea_cons (ev_int _) ea_nil)) (by first | decide | (simp; done))) (ea_cons (ev_tuple (ea_cons (ev_int _) (ea_cons (ev_int _) ea_nil)) (by first | decide | (simp; done))) ea_nil)) (by first | decide | (simp; done)))) ea_nil)) (by first | decide | (simp; done))) ea_nil)) (by first | decide | (simp; done))) (ar_cons (ev_bin (ev_name rfl) (ev_int _) (bin_add _ _)) ar_nil))) ((laurent_of_ok H hr).up (by first | decide | omega | (simp [lev, inner, poly]; done))))) (xr_next (sn_if_f (te_or_f (te_eq (b := false) (te_cmp (ev_item (ev_name rfl) rfl (ev_int _) (by decide) (by decide) rfl) (ev_name rfl) (cmp_ne _ _)) (by first | rfl | (simp [kqdP, kqdPs, PyData.eqv, PyData.eqvAll, *]; done) | assumption | decide | (simp [*]; done) | (simp; omega))) (te_or_f (te_eq (b := false) (te_cmp (ev_callb rfl (H.no "len" (by decide)) rfl (ea_cons (ev_item (ev_name rfl) rfl (ev_int _) (by decide) (by decide) rfl) ea_nil) (cb_len_list _ (by first | omega | assumption | decide | (simp; done) | (simp; omega)))) (ev_int _) (cmp_lt _ _)) (by first | rfl | (simp [kqdP, kqdPs, PyData.eqv, PyData.eqvAll, *]; done) | assumption | decide | (simp [*]; done) | (simp; omega))) te_or_nil)) xs_nil) (xr_next (sn_assign (.inl rfl) (ev_tuple (ea_cons (ev_bin (ev_item (ev_name rfl) rfl (ev_int _) (by decide) (by decide) rfl) (ev_callb rfl (H.no "abs" (by decide)) rfl (ea_cons (ev_name rfl) ea_nil) (cb_abs _)) (bin_pow _ _ (by first | omega | assumption | decide | (simp; done) | (simp; omega)) (by first | omega | assumption | decide | (simp; done) | (simp; omega)) (by first | omega | assumption | decide | (simp; done) | (simp; omega)))) (ea_cons (ev_bin (ev_item (ev_name rfl) rfl (ev_int _) (by decide) (by decide) rfl) (ev_callb rfl (H.no "abs" (by decide)) rfl (ea_cons (ev_name rfl) ea_nil) (cb_abs _)) (bin_pow _ _ (by first | omega | assumption | decide | (simp; done) | (simp; omega)) (by first | omega | assumption | decide | (simp; done) | (simp; omega)) (by first | omega | assumption | decide | (simp; done) | (simp; omega)))) ea_nil)) (by first | decide | (simp; done)))) (xr_next (sn_if_f (te_eq (b := false) (te_cmp (ev_item (ev_item (ev_name rfl) rfl (ev_int _) (by decide) (by decide) rfl) rfl (ev_int _) (by first | omega | assumption | decide | (simp; done) | (simp; omega)) (by first | omega | assumption | decide | (simp; done) | (simp; omega)) (by first | exact pk5 | exact pk9 | exact pk3 | rfl | exact hx | exact at_q hx (by omega) | exact at_q hy (by omega) | exact at_q hx (by simp) | exact at_q hy (by simp; omega))) (ev_ife_t (te_eq (b := true) (te_cmp (ev_name rfl) (ev_int _) (cmp_gt _ _)) (by first | rfl | (simp [kqdP, kqdPs, PyData.eqv, PyData.eqvAll, *]; done) | assumption | decide | (simp [*]; done) | (simp; omega))) (ev_name rfl)) (cmp_ne_dat _ _ (by first | rfl | decide +kernel) (by first | rfl | decide +kernel))) (by first | rfl | (simp [kqdP, kqdPs, PyData.eqv, PyData.eqvAll, *]; done) | assumption | decide | (simp [*]; done) | (simp; omega))) xs_nil) ?_))))
    refine xr_next (sn_swap2_own rfl rfl (no_own rfl) (eo_list (ea_cons (ev_tuple (ea_cons (ev_int _) (ea_cons (ev_int _) ea_nil)) (by decide)) ea_nil) (by decide)) (eo_mapO hpl Dat.int dQ rfl (compSc_of rfl) (it_seq (ev_tuple (ea_cons (ev_int _) (ea_cons (ev_item (ev_name rfl) rfl (ev_int _) (by decide) (by decide) rfl) (ea_cons (ev_item (ev_name rfl) rfl (ev_int _) (by decide) (by decide) rfl) ea_nil))) (by first | decide | (simp; done))) rfl (by first | omega | assumption | decide | (simp; done) | (simp; omega))) (by simp) ?_)) ?_
    · intro i j q' hj' hq'
      exact (ev_call rfl (ar_cons (ev_bin (ev_item (ev_name rfl) rfl (ev_int _) (by decide) (by decide) rfl) (ev_name rfl) (bin_mul _ _ (by first | omega | assumption | decide | (simp; done) | (simp; omega)))) (ar_cons (ev_item (ev_name rfl) rfl (ev_int _) (by decide) (by decide) rfl) ar_nil)) ((law_low_ok H hq').up (by first | decide | omega | (simp [lev, inner, poly]; done))))
    refine xr_freeze (x := "power") rfl (xr_freeze (x := "plain") rfl ?_)
    refine xr_next (sn_for_iter (s0 := [(1, 1)]) (sN := pw) _ (fun s : List Q => [("power", .val (dS s)), ("plain", .val (dS plain)), ("found", .val (dL r)), ("top", .val (.int q.1)), ("bottom", .val (.int q.2))]) (items := rangeD 0 q.2.toNat) (by rw [rangeD_len]; exact hpw) (.inl rfl) (it_range1 rfl (H.no "range" (by decide)) rfl (ev_name rfl) (by first | omega | assumption | decide | (simp; done) | (simp; omega)) (by first | omega | assumption | decide | (simp; done) | (simp; omega)) (by first | rfl | (split <;> omega) | (simp; done) | (simp; omega) | omega)) (by repeat (first | exact sub_nil | refine sub_cons rfl ?_)) ?_) ?_
    · intro i d s s' hj' _ hs
      exact ⟨_, (xs_next (sn_assign (.inl rfl) (ev_call rfl (ar_cons (ev_name rfl) (ar_cons (ev_item (ev_name rfl) rfl (ev_int _) (by decide) (by decide) rfl) (ar_cons (ev_int _) ar_nil))) ((law_times_ok H hs rfl).up (by first | decide | omega | (simp [lev, inner, poly]; done))))) xs_nil), by repeat (first | exact sub_nil | refine sub_cons rfl ?_)⟩
    refine (xr_next (sn_assign (.inl rfl) (ev_own (eo_list (ea_cons (ev_tuple (ea_cons (ev_int _) (ea_cons (ev_int _) ea_nil)) (by first | decide | (simp; done))) (ea_cons (ev_tuple (ea_cons (ev_int _) (ea_cons (ev_int _) ea_nil)) (by first | decide | (simp; done))) (ea_cons (ev_tuple (ea_cons (ev_int _) (ea_cons (ev_int _) ea_nil)) (by first | decide | (simp; done))) ea_nil))) (by first | decide | (simp; done))))) ?_)
    refine xr_next (sn_for_iter (s0 := [(1, 1), (0, 1), (0, 1)]) (sN := du) _ (fun s : List Q => [("due", .val (dS s)), ("power", .val (dS pw)), ("plain", .val (dS plain)), ("top", .val (.int q.1))]) (items := rangeD 0 q.1.natAbs) (by rw [rangeD_len]; exact hdu) (.inl rfl) (it_range1 rfl (H.no "range" (by decide)) rfl (ev_callb rfl (H.no "abs" (by decide)) rfl (ea_cons (ev_name rfl) ea_nil) (cb_abs _)) (by first | omega | assumption | decide | (simp; done) | (simp; omega)) (by first | omega | assumption | decide | (simp; done) | (simp; omega)) (by first | rfl | (split <;> omega) | (simp; done) | (simp; omega) | omega)) (by repeat (first | exact sub_nil | refine sub_cons rfl ?_)) ?_) ?_
    · intro i d s s' hj' _ hs
      exact ⟨_, (xs_next (sn_if_t (te_eq (b := true) (te_cmp (ev_name rfl) (ev_int _) (cmp_gt _ _)) (by first | rfl | (simp [kqdP, kqdPs, PyData.eqv, PyData.eqvAll, *]; done) | assumption | decide | (simp [*]; done) | (simp; omega))) (xs_next (sn_assign (.inl rfl) (ev_call rfl (ar_cons (ev_name rfl) (ar_cons (ev_name rfl) (ar_cons (ev_int _) ar_nil))) ((law_times_ok H hs rfl).up (by first | decide | omega | (simp [lev, inner, poly]; done))))) xs_nil)) xs_nil), by repeat (first | exact sub_nil | refine sub_cons rfl ?_)⟩
    exact xr_eq (xr_ret (sr_return (ev_cmp (ev_name rfl) (ev_name rfl) (cmp_eq_s pw du rfl rfl)))) (by rw [hc6])
  · simp only [if_neg hpos] at h
    split at h
    · cases h
    rename_i hc4
    obtain ⟨⟨hc4, hc4'⟩, hc5⟩ : (hh.1 = fs.2 ^ q.1.natAbs ∧ hh.2 = fs.1 ^ q.1.natAbs) ∧ okI (fs.1 ^ q.2.toNat) = true := by simpa using hc4
    have hc5 := okI_lt hc5
    obtain ⟨plain, hpl, h⟩ := Option.bind_eq_some_iff.mp h
    obtain ⟨pw, hpw, h⟩ := Option.bind_eq_some_iff.mp h
    obtain ⟨du, hdu, h⟩ := Option.bind_eq_some_iff.mp h
    split at h
    case isFalse => cases h
    rename_i hc6
    have hp0 : decide (0 < q.1) = false := by simp; omega
    refine xr_next (sn_if_f (te_eq (b := false) (te_cmp (ev_bin (ev_bin (ev_name rfl) (ev_name rfl) (bin_mul _ _ (by first | omega | assumption | decide | (simp; done) | (simp; omega)))) (ev_name rfl) (bin_mod _ _ (by first | omega | assumption | decide | (simp; done) | (simp; omega)))) (ev_int _) (cmp_ne _ _)) (by first | rfl | (simp [kqdP, kqdPs, PyData.eqv, PyData.eqvAll, *]; done) | assumption | decide | (simp [*]; done) | (simp; omega))) xs_nil) ?_
    refine (xr_next (sn_assign (.inl rfl) (ev_call rfl (ar_cons (ev_name rfl) (ar_cons (ev_tuple (ea_cons (ev_str _) (ea_cons (ev_tuple (ea_cons (ev_int _) (ea_cons (ev_own (eo_list (ea_cons (ev_tuple (ea_cons (ev_int _) (ea_cons (ev_int _) ea_nil)) (by first | decide | (simp; done))) (ea_cons (ev_tuple (ea_cons (ev_int _) (ea_cons (ev_int _) ea_nil)) (by first | decide | (simp; done))) ea_nil)) (by first | decide | (simp; done)))) ea_nil)) (by first | decide | (simp; done))) ea_nil)) (by first | decide | (simp; done))) (ar_cons (ev_bin (ev_name rfl) (ev_int _) (bin_add _ _)) ar_nil))) ((laurent_of_ok H hr).up (by first | decide | omega | (simp [lev, inner, poly]; done))))) (xr_next (sn_if_f (te_or_f (te_eq (b := false) (te_cmp (ev_item (ev_name rfl) rfl (ev_int _) (by decide) (by decide) rfl) (ev_name rfl) (cmp_ne _ _)) (by first | rfl | (simp [kqdP, kqdPs, PyData.eqv, PyData.eqvAll, *]; done) | assumption | decide | (simp [*]; done) | (simp; omega))) (te_or_f (te_eq (b := false) (te_cmp (ev_callb rfl (H.no "len" (by decide)) rfl (ea_cons (ev_item (ev_name rfl) rfl (ev_int _) (by decide) (by decide) rfl) ea_nil) (cb_len_list _ (by first | omega | assumption | decide | (simp; done) | (simp; omega)))) (ev_int _) (cmp_lt _ _)) (by first | rfl | (simp [kqdP, kqdPs, PyData.eqv, PyData.eqvAll, *]; done) | assumption | decide | (simp [*]; done) | (simp; omega))) te_or_nil)) xs_nil) (xr_next (sn_assign (.inl rfl) (ev_tuple (ea_cons (ev_bin (ev_item (ev_name rfl) rfl (ev_int _) (by decide) (by decide) rfl) (ev_callb rfl (H.no "abs" (by decide)) rfl (ea_cons (ev_name rfl) ea_nil) (cb_abs _)) (bin_pow _ _ (by first | omega | assumption | decide | (simp; done) | (simp; omega)) (by first | omega | assumption | decide | (simp; done) | (simp; omega)) (by first | omega | assumption | decide | (simp; done) | (simp; omega)))) (ea_cons (ev_bin (ev_item (ev_name rfl) rfl (ev_int _) (by decide) (by decide) rfl) (ev_callb rfl (H.no "abs" (by decide)) rfl (ea_cons (ev_name rfl) ea_nil) (cb_abs _)) (bin_pow _ _ (by first | omega | assumption | decide | (simp; done) | (simp; omega)) (by first | omega | assumption | decide | (simp; done) | (simp; omega)) (by first | omega | assumption | decide | (simp; done) | (simp; omega)))) ea_nil)) (by first | decide | (simp; done)))) (xr_next (sn_if_f (te_eq (b := false) (te_cmp (ev_item (ev_item (ev_name rfl) rfl (ev_int _) (by decide) (by decide) rfl) rfl (ev_int _) (by first | omega | assumption | decide | (simp; done) | (simp; omega)) (by first | omega | assumption | decide | (simp; done) | (simp; omega)) (by first | exact pk5 | exact pk9 | exact pk3 | rfl | exact hx | exact at_q hx (by omega) | exact at_q hy (by omega) | exact at_q hx (by simp) | exact at_q hy (by simp; omega))) (ev_ife_f (te_eq (b := false) (te_cmp (ev_name rfl) (ev_int _) (cmp_gt _ _)) (by first | rfl | (simp [kqdP, kqdPs, PyData.eqv, PyData.eqvAll, *]; done) | assumption | decide | (simp [*]; done) | (simp; omega))) (ev_tuple (ea_cons (ev_item (ev_name rfl) rfl (ev_int _) (by decide) (by decide) rfl) (ea_cons (ev_item (ev_name rfl) rfl (ev_int _) (by decide) (by decide) rfl) ea_nil)) (by first | decide | (simp; done)))) (cmp_ne_dat _ _ (by first | rfl | decide +kernel) (by first | rfl | decide +kernel))) (by first | rfl | (simp [kqdP, kqdPs, PyData.eqv, PyData.eqvAll, *]; done) | assumption | decide | (simp [*]; done) | (simp; omega))) xs_nil) ?_))))
    refine xr_next (sn_swap2_own rfl rfl (no_own rfl) (eo_list (ea_cons (ev_tuple (ea_cons (ev_int _) (ea_cons (ev_int _) ea_nil)) (by decide)) ea_nil) (by decide)) (eo_mapO hpl Dat.int dQ rfl (compSc_of rfl) (it_seq (ev_tuple (ea_cons (ev_int _) (ea_cons (ev_item (ev_name rfl) rfl (ev_int _) (by decide) (by decide) rfl) (ea_cons (ev_item (ev_name rfl) rfl (ev_int _) (by decide) (by decide) rfl) ea_nil))) (by first | decide | (simp; done))) rfl (by first | omega | assumption | decide | (simp; done) | (simp; omega))) (by simp) ?_)) ?_
    · intro i j q' hj' hq'
      exact (ev_call rfl (ar_cons (ev_bin (ev_item (ev_name rfl) rfl (ev_int _) (by decide) (by decide) rfl) (ev_name rfl) (bin_mul _ _ (by first | omega | assumption | decide | (simp; done) | (simp; omega)))) (ar_cons (ev_item (ev_name rfl) rfl (ev_int _) (by decide) (by decide) rfl) ar_nil)) ((law_low_ok H hq').up (by first | decide | omega | (simp [lev, inner, poly]; done))))
    refine xr_freeze (x := "power") rfl (xr_freeze (x := "plain") rfl ?_)
    refine xr_next (sn_for_iter (s0 := [(1, 1)]) (sN := pw) _ (fun s : List Q => [("power", .val (dS s)), ("plain", .val (dS plain)), ("found", .val (dL r)), ("top", .val (.int q.1)), ("bottom", .val (.int q.2))]) (items := rangeD 0 q.2.toNat) (by rw [rangeD_len]; exact hpw) (.inl rfl) (it_range1 rfl (H.no "range" (by decide)) rfl (ev_name rfl) (by first | omega | assumption | decide | (simp; done) | (simp; omega)) (by first | omega | assumption | decide | (simp; done) | (simp; omega)) (by first | rfl | (split <;> omega) | (simp; done) | (simp; omega) | omega)) (by repeat (first | exact sub_nil | refine sub_cons rfl ?_)) ?_) ?_
    · intro i d s s' hj' _ hs
      exact ⟨_, (xs_next (sn_assign (.inl rfl) (ev_call rfl (ar_cons (ev_name rfl) (ar_cons (ev_item (ev_name rfl) rfl (ev_int _) (by decide) (by decide) rfl) (ar_cons (ev_int _) ar_nil))) ((law_times_ok H hs rfl).up (by first | decide | omega | (simp [lev, inner, poly]; done))))) xs_nil), by repeat (first | exact sub_nil | refine sub_cons rfl ?_)⟩
    refine (xr_next (sn_assign (.inl rfl) (ev_own (eo_list (ea_cons (ev_tuple (ea_cons (ev_int _) (ea_cons (ev_int _) ea_nil)) (by first | decide | (simp; done))) (ea_cons (ev_tuple (ea_cons (ev_int _) (ea_cons (ev_int _) ea_nil)) (by first | decide | (simp; done))) (ea_cons (ev_tuple (ea_cons (ev_int _) (ea_cons (ev_int _) ea_nil)) (by first | decide | (simp; done))) ea_nil))) (by first | decide | (simp; done))))) ?_)
    refine xr_next (sn_for_iter (s0 := pw) (sN := du) _ (fun s : List Q => [("power", .val (dS s)), ("due", .val (dS [(1, 1), (0, 1), (0, 1)])), ("plain", .val (dS plain)), ("top", .val (.int q.1))]) (items := rangeD 0 q.1.natAbs) (by rw [rangeD_len]; exact hdu) (.inl rfl) (it_range1 rfl (H.no "range" (by decide)) rfl (ev_callb rfl (H.no "abs" (by decide)) rfl (ea_cons (ev_name rfl) ea_nil) (cb_abs _)) (by first | omega | assumption | decide | (simp; done) | (simp; omega)) (by first | omega | assumption | decide | (simp; done) | (simp; omega)) (by first | rfl | (split <;> omega) | (simp; done) | (simp; omega) | omega)) (by repeat (first | exact sub_nil | refine sub_cons rfl ?_)) ?_) ?_
    · intro i d s s' hj' _ hs
      exact ⟨_, (xs_next (sn_if_f (te_eq (b := false) (te_cmp (ev_name rfl) (ev_int _) (cmp_gt _ _)) (by first | rfl | (simp [kqdP, kqdPs, PyData.eqv, PyData.eqvAll, *]; done) | assumption | decide | (simp [*]; done) | (simp; omega))) (xs_next (sn_assign (.inl rfl) (ev_call rfl (ar_cons (ev_name rfl) (ar_cons (ev_name rfl) (ar_cons (ev_int _) ar_nil))) ((law_times_ok H hs rfl).up (by first | decide | omega | (simp [lev, inner, poly]; done))))) xs_nil)) xs_nil), by repeat (first | exact sub_nil | refine sub_cons rfl ?_)⟩
    exact xr_eq (xr_ret (sr_return (ev_cmp (ev_name rfl) (ev_name rfl) (cmp_eq_s du [(1, 1), (0, 1), (0, 1)] rfl rfl)))) (by rw [hc6])
theorem law_root_right_neg {cx : Cx} (H : Mods cx) (X : Exc cx) {P : Addr} (Lm : LamAt cx "_law_root_right" P) {k : Int} {kn i j l : Nat} {a b : Int} (hk : k = (kn : Int)) (hk2 : kn ≤ 50) (ei : drawV cx.ns kn 5 = i) (ej : drawV cx.ns (kn + 1) 9 = j) (el : drawV cx.ns (kn + 2) 3 = l)
    (ea : ((drawV cx.ns (kn + 3) 4 : Nat) : Int) - 1 = a) (eb : ((drawV cx.ns (kn + 4) 3 : Nat) : Int) = b) (hc : ((pOf j * (qOf i).1).fmod (qOf i).2 == 0) = false) (h : rootNeg (qOf i) (pOf j) (fOf l) a b = true) : CallP cx P 24 (Str.ofString "_law_root_right") k (k + 1 + 1 + 1 + 1 + 1) := by
  have hi : i < 5 := ei ▸ drawV_lt _ _ _ (by decide)
  have hj : j < 9 := ej ▸ drawV_lt _ _ _ (by decide)
  have hl : l < 3 := el ▸ drawV_lt _ _ _ (by decide)
  have ha : drawV cx.ns (kn + 3) 4 < 4 := drawV_lt _ _ _ (by decide)
  have hb : drawV cx.ns (kn + 4) 3 < 3 := drawV_lt _ _ _ (by decide)
  obtain ⟨q1, q2, q3⟩ := q_facts hi
  have p1 := p_facts hj
  obtain ⟨f1, f2⟩ := f_facts hl
  have t1 := law_take_ok (k := k) H hk (by omega) (m := 5) (by decide) (by decide) (j := 5) rfl
  have t2 := law_take_ok (k := k + 1) H (kn := kn + 1) (by omega) (by omega) (m := 9) (by decide) (by decide) (j := 9) rfl
  have t3 := law_take_ok (k := k + 1 + 1) H (kn := kn + 2) (by omega) (by omega) (m := 3) (by decide) (by decide) (j := 3) rfl
  have t4 := law_take_ok (k := k + 1 + 1 + 1) H (kn := kn + 3) (by omega) (by omega) (m := 4) (by decide) (by decide) (j := 4) rfl
  have t5 := law_take_ok (k := k + 1 + 1 + 1 + 1) H (kn := kn + 4) (by omega) (by omega) (m := 3) (by decide) (by decide) (j := 3) rfl
  rw [ei] at t1
  rw [ej] at t2
  rw [el] at t3
  rw [eb] at t5
  have hab : a.natAbs < 5 ∧ b.natAbs < 5 := by omega
  have hlev := lev_term5 (qOf i) (pOf j) (fOf l) a b
  have m0 : 0 ≤ (qOf i).2 := by omega
  have m1 : (qOf i).2 ≤ 1000 := by omega
  have m2 : (qOf i).2 ≠ 0 := by omega
  have m3 : (qOf i).2.natAbs < big := Nat.lt_of_lt_of_le (by omega : (qOf i).2.natAbs < 100) (by decide)
  have pk5 := pick5 hi
  have pk9 := pick9 hj
  have pk3 := pick3 hl
  generalize hQ : qOf i = q at *
  generalize hP : pOf j = pl at *
  generalize hF : fOf l = fs at *
  have hi := hi
  obtain ⟨y, hy⟩ : ∃ y, term5 q pl fs a b = .pow y (.num q.1 q.2) := ⟨_, rfl⟩
  have hX : laurentX (term5 q pl fs a b) 4 = true := by
    unfold rootNeg at h
    rw [hy] at h ⊢
    dsimp only at h
    have hq1 : (q.2 == 1) = false := by
      cases hq : (q.2 == 1) with
      | false => rfl
      | true =>
        rw [eq_of_beq hq] at hc
        simp [Int.fmod_eq_emod_of_nonneg] at hc
    simp only [laurentX, termX, hq1]
    exact h
  have ihx : CallX cx X 21 (Str.ofString "laurent_of") [.val (dT (term5 q pl fs a b)), .val dLt, .val (.int 4)] (k + 1 + 1 + 1 + 1 + 1) := (laurent_of_x H hX).up (by omega)
  have hc0 : ((pl * q.1).fmod q.2 != 0) = true := by simp at hc ⊢; exact hc
  have f3 : fs.1.natAbs < 2 ^ 64 := by omega
  have f4 : fs.2.natAbs < 2 ^ 64 := by omega
  have p2 : pl.natAbs < 2 ^ 64 := by omega
  have hk5 : fs.1 ^ q.2.toNat = fs.1 ^ q.2.toNat := rfl
  rw [← ea] at hlev
  refine' callP_if (n := 21) (X := X) (sc := [("box", .local), ("top", .local), ("bottom", .local), ("place", .local), ("first", .local), ("numbers", .local), ("lead", .cell), ("base", .local), ("low", .local), ("found", .local), ("begin", .local), ("power", .local), ("plain", .local), ("turn", .local), ("due", .local), ("term", .cell), ("_law_take", .globalImplicit), ("_law_x", .globalImplicit), ("_law_poly", .globalImplicit), ("_law_kind", .globalImplicit), ("laurent_of", .globalImplicit), ("len", .globalImplicit), ("abs", .globalImplicit), ("range", .globalImplicit), ("_law_times", .globalImplicit)]) H Lm rfl rfl (fun _ _ _ _ _ _ _ _ _ => rfl) ⟨rfl, rfl, rfl⟩ (.inl rfl) (Γ := [("low", .val (.int ((pl * q.1).fdiv q.2))), ("term", .val (dT (term5 q pl fs a b))), ("place", .val (.int pl)), ("top", .val (.int q.1)), ("bottom", .val (.int q.2))]) (Γb := [("term", .val (dT (term5 q pl fs a b)))]) ?pre ?test rfl ?fr ?gb ?h1 ?h2 ?h3 ?h4 ?h5 ?h6 ?lam
  case pre =>
    refine (xt_next (sn_unpack2 (.inl rfl) (.inl rfl) (ev_item (ev_own (eo_list (ea_cons (ev_tuple (ea_cons (ev_int _) (ea_cons (ev_int _) ea_nil)) (by first | decide | (simp; done))) (ea_cons (ev_tuple (ea_cons (ev_neg (ev_int _)) (ea_cons (ev_int _) ea_nil)) (by first | decide | (simp; done))) (ea_cons (ev_tuple (ea_cons (ev_int _) (ea_cons (ev_int _) ea_nil)) (by first | decide | (simp; done))) (ea_cons (ev_tuple (ea_cons (ev_int _) (ea_cons (ev_int _) ea_nil)) (by first | decide | (simp; done))) (ea_cons (ev_tuple (ea_cons (ev_neg (ev_int _)) (ea_cons (ev_int _) ea_nil)) (by first | decide | (simp; done))) ea_nil))))) (by first | decide | (simp; done)))) rfl (ev_call rfl (ar_box rfl (ar_cons (ev_int _) ar_nil)) (t1.up (by first | omega | exact Nat.le_refl _))) (by first | omega | assumption | decide | (simp; done) | (simp; omega)) (by first | omega | assumption | decide | (simp; done) | (simp; omega)) (by first | exact pk5 | exact pk9 | exact pk3 | rfl | exact hx | exact at_q hx (by omega) | exact at_q hy (by omega) | exact at_q hx (by simp) | exact at_q hy (by simp; omega)))) (xt_next (sn_swap2 rfl rfl (ev_item (ev_own (eo_list (ea_cons (ev_int _) (ea_cons (ev_int _) (ea_cons (ev_int _) (ea_cons (ev_int _) (ea_cons (ev_int _) (ea_cons (ev_neg (ev_int _)) (ea_cons (ev_neg (ev_int _)) (ea_cons (ev_neg (ev_int _)) (ea_cons (ev_neg (ev_int _)) ea_nil))))))))) (by first | decide | (simp; done)))) rfl (ev_call rfl (ar_box rfl (ar_cons (ev_int _) ar_nil)) (t2.up (by first | omega | exact Nat.le_refl _))) (by first | omega | assumption | decide | (simp; done) | (simp; omega)) (by first | omega | assumption | decide | (simp; done) | (simp; omega)) (by first | exact pk5 | exact pk9 | exact pk3 | rfl | exact hx | exact at_q hx (by omega) | exact at_q hy (by omega) | exact at_q hx (by simp) | exact at_q hy (by simp; omega))) (ev_item (ev_own (eo_list (ea_cons (ev_tuple (ea_cons (ev_int _) (ea_cons (ev_int _) ea_nil)) (by first | decide | (simp; done))) (ea_cons (ev_tuple (ea_cons (ev_int _) (ea_cons (ev_int _) ea_nil)) (by first | decide | (simp; done))) (ea_cons (ev_tuple (ea_cons (ev_int _) (ea_cons (ev_int _) ea_nil)) (by first | decide | (simp; done))) ea_nil))) (by first | decide | (simp; done)))) rfl (ev_call rfl (ar_box rfl (ar_cons (ev_int _) ar_nil)) (t3.up (by first | omega | exact Nat.le_refl _))) (by first | omega | assumption | decide | (simp; done) | (simp; omega)) (by first | omega | assumption | decide | (simp; done) | (simp; omega)) (by first | exact pk5 | exact pk9 | exact pk3 | rfl | exact hx | exact at_q hx (by omega) | exact at_q hy (by omega) | exact at_q hx (by simp) | exact at_q hy (by simp; omega)))) (xt_next (sn_assign (.inl rfl) (ev_tuple (ea_cons (ev_bin (ev_call rfl (ar_box rfl (ar_cons (ev_int _) ar_nil)) (t4.up (by first | omega | exact Nat.le_refl _))) (ev_int _) (bin_sub _ _)) (ea_cons (ev_call rfl (ar_box rfl (ar_cons (ev_int _) ar_nil)) (t5.up (by first | omega | exact Nat.le_refl _))) ea_nil)) (by first | decide | (simp; done)))) (xt_next (sn_assign (.inr rfl) (ev_tuple (ea_cons (ev_str _) (ea_cons (ev_bin (ev_item (ev_name rfl) rfl (ev_int _) (by decide) (by decide) rfl) (ev_name rfl) (bin_pow _ _ (by first | omega | assumption | decide | (simp; done) | (simp; omega)) (by first | omega | assumption | decide | (simp; done) | (simp; omega)) (by first | omega | assumption | decide | (simp; done) | (simp; omega)))) (ea_cons (ev_bin (ev_item (ev_name rfl) rfl (ev_int _) (by decide) (by decide) rfl) (ev_name rfl) (bin_pow _ _ (by first | omega | assumption | decide | (simp; done) | (simp; omega)) (by first | omega | assumption | decide | (simp; done) | (simp; omega)) (by first | omega | assumption | decide | (simp; done) | (simp; omega)))) ea_nil))) (by first | decide | (simp; done)))) ?_))))
    rw [ea] at hlev ⊢
    refine (xt_next (sn_assign (.inl rfl) (ev_tuple (ea_cons (ev_str _) (ea_cons (ev_tuple (ea_cons (ev_name rfl) (ea_cons (ev_tuple (ea_cons (ev_str _) (ea_cons (ev_global rfl H.X) (ea_cons (ev_tuple (ea_cons (ev_str _) (ea_cons (ev_name rfl) (ea_cons (ev_int _) ea_nil))) (by first | decide | (simp; done))) ea_nil))) (by first | decide | (simp; done))) (ea_cons (ev_call rfl (ar_cons (ev_name rfl) ar_nil) ((law_poly_ok H _ _).up (by first | decide | omega | (simp [lev, inner, poly]; done)))) ea_nil))) (by first | decide | (simp; done))) ea_nil)) (by first | decide | (simp; done)))) ?_)
    refine xt_next (sn_if_c (k₂ := k + 1 + 1 + 1 + 1 + 1) (Γ₂ := [("base", .val (dT (if pl == 0 then .prod2 (.num (fs.1 ^ q.2.toNat) (fs.2 ^ q.2.toNat)) (poly a b) else .prod3 (.num (fs.1 ^ q.2.toNat) (fs.2 ^ q.2.toNat)) (.pow .x (.num pl 1)) (poly a b)))), ("lead", .val (.tuple [.str "num", .int (fs.1 ^ q.2.toNat), .int (fs.2 ^ q.2.toNat)])), ("numbers", .val (.tuple [.int a, .int b])), ("first", .val (dQ fs)), ("place", .val (.int pl)), ("top", .val (.int q.1)), ("bottom", .val (.int q.2))]) (c := pl == 0) (te_cmp (ev_name rfl) (ev_int _) (cmp_eq _ _)) (fun hc => ?_) (fun hc => ?_)) ?_
    · refine xs_weak (xs_next (sn_assign (.inl rfl) (ev_tuple (ea_cons (ev_str _) (ea_cons (ev_tuple (ea_cons (ev_name rfl) (ea_cons (ev_call rfl (ar_cons (ev_name rfl) ar_nil) ((law_poly_ok H _ _).up (by first | decide | omega | (simp [lev, inner, poly]; done)))) ea_nil)) (by first | decide | (simp; done))) ea_nil)) (by first | decide | (simp; done)))) xs_nil) ?_
      rw [if_pos hc]; exact (by repeat (first | exact sub_nil | refine sub_cons rfl ?_))
    · refine xs_weak xs_nil ?_
      rw [hc, if_neg (by decide)]; exact (by repeat (first | exact sub_nil | refine sub_cons rfl ?_))
    refine (xt_next (sn_assign (.inr rfl) (ev_tuple (ea_cons (ev_str _) (ea_cons (ev_name rfl) (ea_cons (ev_tuple (ea_cons (ev_str _) (ea_cons (ev_name rfl) (ea_cons (ev_name rfl) ea_nil))) (by first | decide | (simp; done))) ea_nil))) (by first | decide | (simp; done)))) (xt_next (sn_assign (.inl rfl) (ev_bin (ev_bin (ev_name rfl) (ev_name rfl) (bin_mul _ _ (by first | omega | assumption | decide | (simp; done) | (simp; omega)))) (ev_name rfl) (bin_floordiv _ _ (by first | omega | assumption | decide | (simp; done) | (simp; omega)) (by first | omega | assumption | decide | (simp; done) | (simp; omega))))) ?_))
    refine xt_weak (Γ₁ := [("low", .val (.int ((pl * q.1).fdiv q.2))), ("term", .val (dT (term5 q pl fs a b))), ("lead", .val (.tuple [.str "num", .int (fs.1 ^ q.2.toNat), .int (fs.2 ^ q.2.toNat)])), ("numbers", .val (.tuple [.int a, .int b])), ("first", .val (dQ fs)), ("place", .val (.int pl)), ("top", .val (.int q.1)), ("bottom", .val (.int q.2))]) (by repeat (first | exact sub_nil | refine sub_cons rfl ?_)) ?_
    exact xt_weak (by repeat (first | exact sub_nil | refine sub_cons rfl ?_)) xt_done
  case test => exact (te_eq (b := true) (te_cmp (ev_bin (ev_bin (ev_name rfl) (ev_name rfl) (bin_mul _ _ (by first | omega | assumption | decide | (simp; done) | (simp; omega)))) (ev_name rfl) (bin_mod _ _ (by first | omega | assumption | decide | (simp; done) | (simp; omega)))) (ev_int _) (cmp_ne _ _)) (by first | rfl | (simp [kqdP, kqdPs, PyData.eqv, PyData.eqvAll, *]; done) | assumption | decide | (simp [*]; done) | (simp; omega)))
  case lam => exact (ex_call rfl (ar_cons (ev_name rfl) (ar_cons (ev_tuple (ea_cons (ev_str _) (ea_cons (ev_tuple (ea_cons (ev_int _) (ea_cons (ev_own (eo_list (ea_cons (ev_tuple (ea_cons (ev_int _) (ea_cons (ev_int _) ea_nil)) (by first | decide | (simp; done))) (ea_cons (ev_tuple (ea_cons (ev_int _) (ea_cons (ev_int _) ea_nil)) (by first | decide | (simp; done))) ea_nil)) (by first | decide | (simp; done)))) ea_nil)) (by first | decide | (simp; done))) ea_nil)) (by first | decide | (simp; done))) (ar_cons (ev_int _) ar_nil))) (ihx.up (by first | omega | exact Nat.le_refl _)))
  case fr => exact free_ok rfl
  case gb => exact gb_cons rfl rfl gb_nil
  case h1 => rfl
  case h2 => rfl
  case h3 => rfl
  case h4 => exact noCell' rfl
  case h5 => intro _; rfl
  case h6 => intro _ _ _ _ _; rfl
end Mine
set_option linter.unusedSimpArgs false
set_option maxRecDepth 10000
set_option maxHeartbeats 1000000
namespace Mine
open PySem PySem.W PyProof.Rows PySem.Calls PySem.Spec

noncomputable def poleT : Tm := .pow .x (.num (-1) 1)
noncomputable def rowT : Nat → Tm
  | 0 => .pow (.num (-4) 1) (.num 1 2)
  | 1 => .pow (.num 2 1) (.num 1 2)
  | 2 => .pow (.num 0 1) (.num 1 2)
  | 3 => .pow .x .x
  | 4 => .y
  | 5 => .call .exp poleT
  | 6 => .call .atan poleT
  | 7 => .call .gamma .x
  | 8 => .call .log .x
  | 9 => .call .sin (.num 1 1)
  | 10 => .call2 .exp .x .x
  | 11 => poleT
  | 12 => .pow (.num 8 27) (.num 2 3)
  | _ => .pow (.num 9 4) (.num (-1) 2)
noncomputable def rowD : List Dat := ((List.range 14).map rowT).map dT
noncomputable def dueR : Nat → Q
  | 12 => (4, 9)
  | _ => (2, 3)
noncomputable def refusedX (i : Nat) : Bool := seriesX (rowT i) 2
noncomputable def refusedV (i : Nat) : Bool := match series? (rowT i) 2 with
  | some r => r == [dueR i, (0, 1)]
  | none => false
noncomputable def refused (i : Nat) : Bool := if i < 12 then refusedX i else refusedV i
theorem row_at : ∀ {i : Nat}, i < 14 → rowD[((i : Nat) : Int).toNat]? = some (dT (rowT i))
  | 0, _ => rfl | 1, _ => rfl | 2, _ => rfl | 3, _ => rfl | 4, _ => rfl | 5, _ => rfl | 6, _ => rfl | 7, _ => rfl | 8, _ => rfl | 9, _ => rfl | 10, _ => rfl | 11, _ => rfl | 12, _ => rfl | 13, _ => rfl
theorem row_lev : ∀ {i : Nat}, i < 14 → lev (rowT i) ≤ 13
  | 0, _ => by decide | 1, _ => by decide | 2, _ => by decide | 3, _ => by decide | 4, _ => by decide | 5, _ => by decide | 6, _ => by decide | 7, _ => by decide | 8, _ => by decide | 9, _ => by decide | 10, _ => by decide | 11, _ => by decide | 12, _ => by decide | 13, _ => by decide
theorem due_at : ∀ {i : Nat}, i < 14 → ¬ i < 12 → ([.tuple [.int 4, .int 9], .tuple [.int 2, .int 3]] : List Dat)[((i : Nat) : Int).toNat - 12]? = some (dQ (dueR i))
  | 12, _, _ => rfl | 13, _, _ => rfl
  | 0, _, h => absurd (by decide) h | 1, _, h => absurd (by decide) h | 2, _, h => absurd (by decide) h | 3, _, h => absurd (by decide) h | 4, _, h => absurd (by decide) h | 5, _, h => absurd (by decide) h
  | 6, _, h => absurd (by decide) h | 7, _, h => absurd (by decide) h | 8, _, h => absurd (by decide) h | 9, _, h => absurd (by decide) h | 10, _, h => absurd (by decide) h | 11, _, h => absurd (by decide) h
theorem law_refused_neg {cx : Cx} (H : Mods cx) (X : Exc cx) {P : Addr} (Lm : LamAt cx "_law_refused_right" P) {k : Int} {kn i : Nat} (hk : k = (kn : Int)) (hk2 : kn ≤ 50) (ei : drawV cx.ns kn 14 = i) (hlt : i < 12) (h : refusedX i = true) :
    CallP cx P 18 (Str.ofString "_law_refused_right") k (k + 1) := by
  have hi : i < 14 := by omega
  have t1 := law_take_ok (k := k) H hk (by omega) (m := 14) (by decide) (by decide) (j := 14) rfl
  rw [ei] at t1
  have hrow := row_at hi
  have hlen : rowD.length = 14 := rfl
  have hlev := row_lev hi
  have ihx : CallX cx X 15 (Str.ofString "series_of") [.val (dT (rowT i)), .val (.str "x"), .val (.tuple [.int 0, .int 1]), .val (.int 2)] (k + 1) := (series_of_x H h (j := 2) rfl).up (by omega)
  refine' callP_if (n := 15) (X := X) (sc := [("box", .local), ("half", .local), ("pole", .local), ("at", .cell), ("rows", .cell), ("_law_x", .globalImplicit), ("_law_take", .globalImplicit), ("_law_kind", .globalImplicit), ("series_of", .globalImplicit)]) H Lm rfl rfl (fun _ _ _ _ _ _ _ _ _ => rfl) ⟨rfl, rfl, rfl⟩ (.inl rfl) (Γ := [("at", .val (.int i)), ("rows", .val (.list rowD))]) (Γb := [("rows", .val (.list rowD)), ("at", .val (.int i))]) ?pre ?test rfl ?fr ?gb ?h1 ?h2 ?h3 ?h4 ?h5 ?h6 ?lam
  case pre =>
    refine (xt_next (sn_swap2 rfl rfl (ev_tuple (ea_cons (ev_str _) (ea_cons (ev_int _) (ea_cons (ev_int _) ea_nil))) (by first | decide | (simp; done))) (ev_tuple (ea_cons (ev_str _) (ea_cons (ev_global rfl H.X) (ea_cons (ev_tuple (ea_cons (ev_str _) (ea_cons (ev_neg (ev_int _)) (ea_cons (ev_int _) ea_nil))) (by first | decide | (simp; done))) ea_nil))) (by first | decide | (simp; done)))) (xt_next (sn_assign (.inr rfl) (ev_own (eo_list (ea_cons (ev_tuple (ea_cons (ev_str _) (ea_cons (ev_tuple (ea_cons (ev_str _) (ea_cons (ev_neg (ev_int _)) (ea_cons (ev_int _) ea_nil))) (by first | decide | (simp; done))) (ea_cons (ev_name rfl) ea_nil))) (by first | decide | (simp; done))) (ea_cons (ev_tuple (ea_cons (ev_str _) (ea_cons (ev_tuple (ea_cons (ev_str _) (ea_cons (ev_int _) (ea_cons (ev_int _) ea_nil))) (by first | decide | (simp; done))) (ea_cons (ev_name rfl) ea_nil))) (by first | decide | (simp; done))) (ea_cons (ev_tuple (ea_cons (ev_str _) (ea_cons (ev_tuple (ea_cons (ev_str _) (ea_cons (ev_int _) (ea_cons (ev_int _) ea_nil))) (by first | decide | (simp; done))) (ea_cons (ev_name rfl) ea_nil))) (by first | decide | (simp; done))) ea_nil))) (by first | decide | (simp; done))))) (xt_next (sn_assign (.inr rfl) (ev_own (eo_add (ev_name rfl) (ev_own (eo_list (ea_cons (ev_tuple (ea_cons (ev_str _) (ea_cons (ev_global rfl H.X) (ea_cons (ev_global rfl H.X) ea_nil))) (by first | decide | (simp; done))) ea_nil) (by first | decide | (simp; done)))) (by first | omega | assumption | decide | (simp; done) | (simp; omega))))) (xt_next (sn_assign (.inr rfl) (ev_own (eo_add (ev_name rfl) (ev_own (eo_list (ea_cons (ev_tuple (ea_cons (ev_str _) (ea_cons (ev_str _) ea_nil)) (by first | decide | (simp; done))) (ea_cons (ev_tuple (ea_cons (ev_str _) (ea_cons (ev_str _) (ea_cons (ev_tuple (ea_cons (ev_name rfl) ea_nil) (by first | decide | (simp; done))) ea_nil))) (by first | decide | (simp; done))) (ea_cons (ev_tuple (ea_cons (ev_str _) (ea_cons (ev_str _) (ea_cons (ev_tuple (ea_cons (ev_name rfl) ea_nil) (by first | decide | (simp; done))) ea_nil))) (by first | decide | (simp; done))) (ea_cons (ev_tuple (ea_cons (ev_str _) (ea_cons (ev_str _) (ea_cons (ev_tuple (ea_cons (ev_global rfl H.X) ea_nil) (by first | decide | (simp; done))) ea_nil))) (by first | decide | (simp; done))) ea_nil)))) (by first | decide | (simp; done)))) (by first | omega | assumption | decide | (simp; done) | (simp; omega))))) (xt_next (sn_assign (.inr rfl) (ev_own (eo_add (ev_name rfl) (ev_own (eo_list (ea_cons (ev_tuple (ea_cons (ev_str _) (ea_cons (ev_str _) (ea_cons (ev_tuple (ea_cons (ev_global rfl H.X) ea_nil) (by first | decide | (simp; done))) ea_nil))) (by first | decide | (simp; done))) (ea_cons (ev_tuple (ea_cons (ev_str _) (ea_cons (ev_str _) (ea_cons (ev_tuple (ea_cons (ev_tuple (ea_cons (ev_str _) (ea_cons (ev_int _) (ea_cons (ev_int _) ea_nil))) (by first | decide | (simp; done))) ea_nil) (by first | decide | (simp; done))) ea_nil))) (by first | decide | (simp; done))) (ea_cons (ev_tuple (ea_cons (ev_str _) (ea_cons (ev_str _) (ea_cons (ev_tuple (ea_cons (ev_global rfl H.X) (ea_cons (ev_global rfl H.X) ea_nil)) (by first | decide | (simp; done))) ea_nil))) (by first | decide | (simp; done))) ea_nil))) (by first | decide | (simp; done)))) (by first | omega | assumption | decide | (simp; done) | (simp; omega))))) (xt_next (sn_assign (.inr rfl) (ev_own (eo_add (ev_name rfl) (ev_own (eo_list (ea_cons (ev_name rfl) ea_nil) (by first | decide | (simp; done)))) (by first | omega | assumption | decide | (simp; done) | (simp; omega))))) (xt_next (sn_assign (.inr rfl) (ev_own (eo_add (ev_name rfl) (ev_own (eo_list (ea_cons (ev_tuple (ea_cons (ev_str _) (ea_cons (ev_tuple (ea_cons (ev_str _) (ea_cons (ev_int _) (ea_cons (ev_int _) ea_nil))) (by first | decide | (simp; done))) (ea_cons (ev_tuple (ea_cons (ev_str _) (ea_cons (ev_int _) (ea_cons (ev_int _) ea_nil))) (by first | decide | (simp; done))) ea_nil))) (by first | decide | (simp; done))) (ea_cons (ev_tuple (ea_cons (ev_str _) (ea_cons (ev_tuple (ea_cons (ev_str _) (ea_cons (ev_int _) (ea_cons (ev_int _) ea_nil))) (by first | decide | (simp; done))) (ea_cons (ev_tuple (ea_cons (ev_str _) (ea_cons (ev_neg (ev_int _)) (ea_cons (ev_int _) ea_nil))) (by first | decide | (simp; done))) ea_nil))) (by first | decide | (simp; done))) ea_nil)) (by first | decide | (simp; done)))) (by first | omega | assumption | decide | (simp; done) | (simp; omega))))) (xt_next (sn_assign (.inr rfl) (ev_call rfl (ar_box rfl (ar_cons (ev_int _) ar_nil)) (t1.up (by first | omega | exact Nat.le_refl _)))) ?_))))))))
    exact xt_weak (sub_cons rfl (sub_cons rfl sub_nil)) xt_done
  case test => exact (te_eq (b := true) (te_cmp (ev_name rfl) (ev_int _) (cmp_lt _ _)) (by first | rfl | (simp [kqdP, kqdPs, PyData.eqv, PyData.eqvAll, *]; done) | assumption | decide | (simp [*]; done) | (simp; omega)))
  case lam => exact (ex_call rfl (ar_cons (ev_item (ev_name rfl) rfl (ev_name rfl) (by first | omega | assumption | decide | (simp; done) | (simp; omega)) (by first | omega | assumption | decide | (simp; done) | (simp; omega)) (by first | exact hrow | exact hdue | rfl | exact hx | exact at_q hx (by omega) | exact at_q hy (by omega) | exact at_q hx (by simp) | exact at_q hy (by simp; omega))) (ar_cons (ev_str _) (ar_cons (ev_tuple (ea_cons (ev_int _) (ea_cons (ev_int _) ea_nil)) (by first | decide | (simp; done))) (ar_cons (ev_int _) ar_nil)))) (ihx.up (by first | omega | exact Nat.le_refl _)))
  case fr => exact free_ok rfl
  case gb => exact gb_cons rfl rfl (gb_cons rfl rfl gb_nil)
  case h1 => rfl
  case h2 => rfl
  case h3 => rfl
  case h4 => exact noCell' rfl
  case h5 => intro _; rfl
  case h6 => intro _ _ _ _ _; rfl
theorem law_refused_pos {cx : Cx} (H : Mods cx) {k : Int} {kn i : Nat} (hk : k = (kn : Int)) (hk2 : kn ≤ 50) (ei : drawV cx.ns kn 14 = i) (hlt : ¬ i < 12) (h : refusedV i = true) :
    CallTo cx 18 (Str.ofString "_law_refused_right") [.box] k (.bool true) (k + 1) := by
  have hi : i < 14 := ei ▸ drawV_lt _ _ _ (by decide)
  have t1 := law_take_ok (k := k) H hk (by omega) (m := 14) (by decide) (by decide) (j := 14) rfl
  rw [ei] at t1
  have hrow := row_at hi
  have hlen : rowD.length = 14 := rfl
  have hlev := row_lev hi
  unfold refusedV at h
  split at h
  case h_2 => cases h
  rename_i r hr
  have hdue : ([.tuple [.int 4, .int 9], .tuple [.int 2, .int 3]] : List Dat)[((i : Int) - 12).toNat]? = some (dQ (dueR i)) := by
    rw [show ((i : Int) - 12).toNat = ((i : Nat) : Int).toNat - 12 from by omega]
    exact due_at hi hlt
  refine mod1 (x1 := "box") (sc := [("box", .local), ("half", .local), ("pole", .local), ("at", .cell), ("rows", .cell), ("_law_x", .globalImplicit), ("_law_take", .globalImplicit), ("_law_kind", .globalImplicit), ("series_of", .globalImplicit)]) H (by decide) rfl rfl (fun _ _ _ _ _ _ _ _ _ => rfl) ⟨rfl, rfl, rfl⟩ (.inl rfl) ?_
  refine (xr_next (sn_swap2 rfl rfl (ev_tuple (ea_cons (ev_str _) (ea_cons (ev_int _) (ea_cons (ev_int _) ea_nil))) (by first | decide | (simp; done))) (ev_tuple (ea_cons (ev_str _) (ea_cons (ev_global rfl H.X) (ea_cons (ev_tuple (ea_cons (ev_str _) (ea_cons (ev_neg (ev_int _)) (ea_cons (ev_int _) ea_nil))) (by first | decide | (simp; done))) ea_nil))) (by first | decide | (simp; done)))) (xr_next (sn_assign (.inr rfl) (ev_own (eo_list (ea_cons (ev_tuple (ea_cons (ev_str _) (ea_cons (ev_tuple (ea_cons (ev_str _) (ea_cons (ev_neg (ev_int _)) (ea_cons (ev_int _) ea_nil))) (by first | decide | (simp; done))) (ea_cons (ev_name rfl) ea_nil))) (by first | decide | (simp; done))) (ea_cons (ev_tuple (ea_cons (ev_str _) (ea_cons (ev_tuple (ea_cons (ev_str _) (ea_cons (ev_int _) (ea_cons (ev_int _) ea_nil))) (by first | decide | (simp; done))) (ea_cons (ev_name rfl) ea_nil))) (by first | decide | (simp; done))) (ea_cons (ev_tuple (ea_cons (ev_str _) (ea_cons (ev_tuple (ea_cons (ev_str _) (ea_cons (ev_int _) (ea_cons (ev_int _) ea_nil))) (by first | decide | (simp; done))) (ea_cons (ev_name rfl) ea_nil))) (by first | decide | (simp; done))) ea_nil))) (by first | decide | (simp; done))))) (xr_next (sn_assign (.inr rfl) (ev_own (eo_add (ev_name rfl) (ev_own (eo_list (ea_cons (ev_tuple (ea_cons (ev_str _) (ea_cons (ev_global rfl H.X) (ea_cons (ev_global rfl H.X) ea_nil))) (by first | decide | (simp; done))) ea_nil) (by first | decide | (simp; done)))) (by first | omega | assumption | decide | (simp; done) | (simp; omega))))) (xr_next (sn_assign (.inr rfl) (ev_own (eo_add (ev_name rfl) (ev_own (eo_list (ea_cons (ev_tuple (ea_cons (ev_str _) (ea_cons (ev_str _) ea_nil)) (by first | decide | (simp; done))) (ea_cons (ev_tuple (ea_cons (ev_str _) (ea_cons (ev_str _) (ea_cons (ev_tuple (ea_cons (ev_name rfl) ea_nil) (by first | decide | (simp; done))) ea_nil))) (by first | decide | (simp; done))) (ea_cons (ev_tuple (ea_cons (ev_str _) (ea_cons (ev_str _) (ea_cons (ev_tuple (ea_cons (ev_name rfl) ea_nil) (by first | decide | (simp; done))) ea_nil))) (by first | decide | (simp; done))) (ea_cons (ev_tuple (ea_cons (ev_str _) (ea_cons (ev_str _) (ea_cons (ev_tuple (ea_cons (ev_global rfl H.X) ea_nil) (by first | decide | (simp; done))) ea_nil))) (by first | decide | (simp; done))) ea_nil)))) (by first | decide | (simp; done)))) (by first | omega | assumption | decide | (simp; done) | (simp; omega))))) (xr_next (sn_assign (.inr rfl) (ev_own (eo_add (ev_name rfl) (ev_own (eo_list (ea_cons (ev_tuple (ea_cons (ev_str _) (ea_cons (ev_str _) (ea_cons (ev_tuple (ea_cons (ev_global rfl H.X) ea_nil) (by first | decide | (simp; done))) ea_nil))) (by first | decide | (simp; done))) (ea_cons (ev_tuple (ea_cons (ev_str _) (ea_cons (ev_str _) (ea_cons (ev_tuple (ea_cons (ev_tuple (ea_cons (ev_str _) (ea_cons (ev_int _) (ea_cons (ev_int _) ea_nil))) (by first | decide | (simp; done))) ea_nil) (by first | decide | (simp; done))) ea_nil))) (by first | decide | (simp; done))) (ea_cons (ev_tuple (ea_cons (ev_str _) (ea_cons (ev_str _) (ea_cons (ev_tuple (ea_cons (ev_global rfl H.X) (ea_cons (ev_global rfl H.X) ea_nil)) (by first | decide | (simp; done))) ea_nil))) (by first | decide | (simp; done))) ea_nil))) (by first | decide | (simp; done)))) (by first | omega | assumption | decide | (simp; done) | (simp; omega))))) (xr_next (sn_assign (.inr rfl) (ev_own (eo_add (ev_name rfl) (ev_own (eo_list (ea_cons (ev_name rfl) ea_nil) (by first | decide | (simp; done)))) (by first | omega | assumption | decide | (simp; done) | (simp; omega))))) (xr_next (sn_assign (.inr rfl) (ev_own (eo_add (ev_name rfl) (ev_own (eo_list (ea_cons (ev_tuple (ea_cons (ev_str _) (ea_cons (ev_tuple (ea_cons (ev_str _) (ea_cons (ev_int _) (ea_cons (ev_int _) ea_nil))) (by first | decide | (simp; done))) (ea_cons (ev_tuple (ea_cons (ev_str _) (ea_cons (ev_int _) (ea_cons (ev_int _) ea_nil))) (by first | decide | (simp; done))) ea_nil))) (by first | decide | (simp; done))) (ea_cons (ev_tuple (ea_cons (ev_str _) (ea_cons (ev_tuple (ea_cons (ev_str _) (ea_cons (ev_int _) (ea_cons (ev_int _) ea_nil))) (by first | decide | (simp; done))) (ea_cons (ev_tuple (ea_cons (ev_str _) (ea_cons (ev_neg (ev_int _)) (ea_cons (ev_int _) ea_nil))) (by first | decide | (simp; done))) ea_nil))) (by first | decide | (simp; done))) ea_nil)) (by first | decide | (simp; done)))) (by first | omega | assumption | decide | (simp; done) | (simp; omega))))) (xr_next (sn_assign (.inr rfl) (ev_call rfl (ar_box rfl (ar_cons (ev_int _) ar_nil)) (t1.up (by first | omega | exact Nat.le_refl _)))) ?_))))))))
  refine xr_weak (Γ' := [("at", .val (.int i)), ("rows", .val (.list rowD))]) (sub_cons rfl (sub_cons rfl sub_nil)) ?_
  exact xr_eq (xr_next (sn_if_f (te_eq (b := false) (te_cmp (ev_name rfl) (ev_int _) (cmp_lt _ _)) (by first | rfl | (simp [kqdP, kqdPs, PyData.eqv, PyData.eqvAll, *]; done) | assumption | decide | (simp [*]; done) | (simp; omega))) xs_nil) (xr_ret (sr_return (ev_cmp (ev_call rfl (ar_cons (ev_item (ev_name rfl) rfl (ev_name rfl) (by first | omega | assumption | decide | (simp; done) | (simp; omega)) (by first | omega | assumption | decide | (simp; done) | (simp; omega)) (by first | exact hrow | exact hdue | rfl | exact hx | exact at_q hx (by omega) | exact at_q hy (by omega) | exact at_q hx (by simp) | exact at_q hy (by simp; omega))) (ar_cons (ev_str _) (ar_cons (ev_tuple (ea_cons (ev_int _) (ea_cons (ev_int _) ea_nil)) (by first | decide | (simp; done))) (ar_cons (ev_int _) ar_nil)))) ((series_of_ok H hr rfl).up (by first | decide | omega | (simp [lev, inner, poly]; done)))) (ev_own (eo_list (ea_cons (ev_item (ev_own (eo_list (ea_cons (ev_tuple (ea_cons (ev_int _) (ea_cons (ev_int _) ea_nil)) (by first | decide | (simp; done))) (ea_cons (ev_tuple (ea_cons (ev_int _) (ea_cons (ev_int _) ea_nil)) (by first | decide | (simp; done))) ea_nil)) (by first | decide | (simp; done)))) rfl (ev_bin (ev_name rfl) (ev_int _) (bin_sub _ _)) (by first | omega | assumption | decide | (simp; done) | (simp; omega)) (by first | omega | assumption | decide | (simp; done) | (simp; omega)) (by first | exact hrow | exact hdue | rfl | exact hx | exact at_q hx (by omega) | exact at_q hy (by omega) | exact at_q hx (by simp) | exact at_q hy (by simp; omega))) (ea_cons (ev_tuple (ea_cons (ev_int _) (ea_cons (ev_int _) ea_nil)) (by first | decide | (simp; done))) ea_nil)) (by first | decide | (simp; done)))) (cmp_eq_s r [dueR i, (0, 1)] rfl rfl))))) (by rw [h])
theorem law_refused_ok {cx : Cx} (H : Mods cx) (X : Exc cx) {P : Addr} (Lm : LamAt cx "_law_refused_right" P) {k : Int} {kn i : Nat} (hk : k = (kn : Int)) (hk2 : kn ≤ 50) (ei : drawV cx.ns kn 14 = i) (h : refused i = true) :
    CallP cx P 18 (Str.ofString "_law_refused_right") k (k + 1) := by
  unfold refused at h
  split at h
  · rename_i hlt
    exact law_refused_neg H X Lm hk hk2 ei hlt h
  · rename_i hlt
    exact CallP.of (law_refused_pos H hk hk2 ei hlt h) Lm.notX
theorem law_root_right_ok {cx : Cx} (H : Mods cx) (X : Exc cx) {P : Addr} (Lm : LamAt cx "_law_root_right" P) {k : Int} {kn i j l : Nat} {a b : Int} (hk : k = (kn : Int)) (hk2 : kn ≤ 50) (ei : drawV cx.ns kn 5 = i) (ej : drawV cx.ns (kn + 1) 9 = j) (el : drawV cx.ns (kn + 2) 3 = l)
    (ea : ((drawV cx.ns (kn + 3) 4 : Nat) : Int) - 1 = a) (eb : ((drawV cx.ns (kn + 4) 3 : Nat) : Int) = b) (h : rootRight (qOf i) (pOf j) (fOf l) a b = true) : CallP cx P 24 (Str.ofString "_law_root_right") k (k + 1 + 1 + 1 + 1 + 1) := by
  unfold rootRight at h
  split at h
  · rename_i hc
    exact CallP.of (law_root_right_pos H hk hk2 ei ej el ea eb hc (by simpa using h)) Lm.notX
  · rename_i hc
    exact law_root_right_neg H X Lm hk hk2 ei ej el ea eb (by simpa using hc) h
end Mine
set_option maxRecDepth 100000
namespace Mine
open PySem PySem.W PyProof.Rows PySem.Calls PySem.Spec

noncomputable abbrev tupO (vs : List Value) : Obj := { cls := .type "tuple", data := .seq vs.toArray }
noncomputable abbrev kT (a b : Int) (ca cb ct : Nat) (pa pb pt : Pos) : Expr := .Tuple [.Constant (.int a) ca pa, .Constant (.int b) cb pb] ct pt

section
variable {prog : Program} {w : World} {A : Around} {E : Value → Shared → Prop} {s : Shared} {env : Env}
theorem tup_raw {a b : Int} {ca cb ct : Nat} {pa pb pt : Pos} {Q : Value → Shared → Prop}
    (h : ∀ x t₁ t₂ h' tk, (∀ b o, s.heap.get? b = some o → h'.get? b = some o) → h'.get? x = some (tupO [.int a t₁, .int b t₂]) → s.heap.get? x = none → Q (.ref x) { s with heap := h', toks := tk }) :
    wpAny (model prog w) A (eval (kT a b ca cb ct pa pb pt) env) Q E s := by
  refine Tuple_ (spliced_more (wpAny_Constant_int (spliced_more (wpAny_Constant_int (spliced_none ?_)) rfl)) rfl)
  refine wpAny_newObj_type ?_ (by show 2 ≤ sizeLine; decide)
  exact h _ _ _ _ _ (fun b o e => Heap.get?_push_of_some _ e) (Heap.get?_push_size _ rfl) (get_size _)
theorem pair_raw {a b c d : Int} {ca cb ct cc cd ct' : Nat} {pa pb pt pc pd pt' pos : Pos} {rest : List (Sem Value × Sem Value)} {Q : List (Value × Value) → Shared → Prop}
    (h : ∀ x y t₁ t₂ t₃ t₄ h' tk, (∀ b o, s.heap.get? b = some o → h'.get? b = some o) → h'.get? x = some (tupO [.int a t₁, .int b t₂]) → h'.get? y = some (tupO [.int c t₃, .int d t₄]) → s.heap.get? y = none →
      wpAny (model prog w) A (evalPairs rest) (fun r s₂ => Q ((.ref x, .ref y) :: r) s₂) E { s with heap := h', toks := tk }) :
    wpAny (model prog w) A (evalPairs ((eval (kT a b ca cb ct pa pb pt) env, (do let x ← eval (kT c d cc cd ct' pc pd pt') env; standAt pos; pure x)) :: rest)) Q E s := by
  unfold evalPairs
  refine wpAny_bind (tup_raw fun x t₁ t₂ h₁ tk₁ k₁ g₁ n₁ => wpAny_bind (wpAny_holding (wpAny_bind (tup_raw fun y t₃ t₄ h₂ tk₂ k₂ g₂ n₂ => wpAny_bind (wpAny_standAt (wpAny_pure ?_))))))
  refine wpAny_bind (wpAny_holding ?_)
  refine wpAny_mono (h x y t₁ t₂ t₃ t₄ h₂ tk₂ (fun b o e => k₂ _ _ (k₁ _ _ e)) (k₂ _ _ g₁) g₂ ?_) (fun r s₂ q => wpAny_pure q) fun _ _ q => q
  cases e : s.heap.get? y with
  | none => rfl
  | some o => have := k₁ _ _ e; have n₂' : h₁.get? y = none := n₂; rw [n₂'] at this; cases this
theorem store_raw {d x : Addr} {v : Value} {a b : Int} {t₁ t₂ : Tok} {xs : List (List Int × Addr × Value)} {vs : List (Value × Value)} {Q : PUnit → Shared → Prop} (hu : A.units < cLine) (hx : s.heap.get? x = some (tupO [.int a t₁, .int b t₂])) (hm : s.heap.DictOfH (tupleKind (intKind prog w)) d xs) (hsz : xs.length ≤ 100)
    (h : ∀ h' tk, h'.DictOfH (tupleKind (intKind prog w)) d (storedH xs [a, b] x v) → Heap.SameBut d s.heap h' → wpAny (model prog w) A (storeAll d vs) Q E { s with heap := h', toks := tk }) :
    wpAny (model prog w) A (storeAll d ((.ref x, v) :: vs)) Q E s := by
  have hk : IsTupleKey (intKind prog w) s.heap [a, b] x := ⟨_, _, _, hx, rfl, rfl, .cons (by simp [intKind, Value.isInt]) (.cons (by simp [intKind, Value.isInt]) .nil)⟩
  unfold storeAll
  rw [List.forIn_cons]
  refine wpAny_bind (wpAny_bind (wpAny_dictSet_heap (knd := tupleKind (intKind prog w)) (hsz := Nat.le_trans hsz (by decide)) hu hk hm fun h' hm' hs => wpAny_pure ?_))
  exact h h' _ hm' hs
theorem store_end {d : Addr} {Q : PUnit → Shared → Prop} (h : Q PUnit.unit s) : wpAny (model prog w) A (storeAll d []) Q E s := by
  unfold storeAll
  rw [List.forIn_nil]
  exact wpAny_pure h
end

noncomputable def methTree (o : Expr) (name : Str) (apos : Pos) (args : List Expr) (pos : Pos) (env : Env) (pl : Sem Bool) : Sem Value := do
  let ov ← eval o env
  standAt apos.atName
  let (f, first) ← holding [ov] (getMethod ov name pl)
  callWith pos f first (backTo pos (starEach args env)) []
theorem meth_tree {M : Model} {A : Around} {E : Value → Shared → Prop} {s : Shared} {env : Env} {o : Expr} {name : Str} {apos pos : Pos} {args : List Expr} {pl : Sem Bool} {Q : Value → Shared → Prop}
    (h : wpAny M A (eval o env) (fun ov s₁ => wpAny M A (getMethod ov name pl) (fun fx s₂ => wpAny M A (callWith pos fx.1 fx.2 (backTo pos (starEach args env)) []) Q E s₂) E s₁) E s) :
    wpAny M A (methTree o name apos args pos env pl) Q E s := by
  unfold methTree
  refine wpAny_bind (wpAny_mono h (fun ov s₁ h₁ => wpAny_bind (wpAny_standAt (wpAny_bind (wpAny_holding (wpAny_mono h₁ (fun fx s₂ h₂ => ?_) fun _ _ x => x))))) fun _ _ x => x)
  exact h₂

theorem disp_gen {prog : Program} {w : World} {A : Around} {E : Value → Shared → Prop} {s : Shared} {env : Env} {D : Expr} {keys : List (Option Expr)} {values : List Expr} {pos : Pos} {Q : Value → Shared → Prop}
    (hD : D = .Dict keys values pos) (hall : keys.all (·.isSome) = true) (hl : keys.length = values.length) (h0 : keys ≠ []) (hlen : keys.length ≤ 15)
    (h : wpAny (model prog w) A (evalPairs (pairTrees keys values env pos)) (fun vs s₁ => wpAny (model prog w) A (storeAll s.heap.objs.size vs) (fun _ s₂ => Q (.ref s.heap.objs.size) s₂) E s₁) E
      { s with heap := s.heap.push { cls := .type "dict", data := .dict #[] } }) :
    wpAny (model prog w) A (eval D env) Q E s := by
  subst hD
  exact wpAny_Dict_any hall hl h0 hlen h

noncomputable def dueD (q : Q) : Option Q := if [q.1, q.2] = [4, 9] then some (2, 3) else if [q.1, q.2] = [1, 1] then some (1, 1) else if [q.1, q.2] = [16, 81] then some (4, 9) else none

section
variable {cx : Cx} {n : Nat} {sc : Nms} {Γ : Gam} {k : Int}
set_option maxHeartbeats 1000000 in
theorem ev_due {D : Expr} {x : Str} {xp p1 p2 p3 : Pos} {q : Q} {c1 c2 c3 c4 c5 c6 c7 c8 c9 d1 d2 d3 d4 d5 d6 d7 d8 d9 : Nat} {r1 r2 r3 r4 r5 r6 r7 r8 r9 s1 s2 s3 s4 s5 s6 s7 s8 s9 : Pos} (hD : D = .Dict [some (kT 4 9 c1 c2 c3 r1 r2 r3), some (kT 1 1 c4 c5 c6 r4 r5 r6), some (kT 16 81 c7 c8 c9 r7 r8 r9)] [kT 2 3 d1 d2 d3 s1 s2 s3, kT 1 1 d4 d5 d6 s4 s5 s6, kT 4 9 d7 d8 d9 s7 s8 s9] p1) (hx : Γ.lookup x = some (.val (dQ q)))
    (hm : ∀ env, ∃ pl, eval (.Call (.Attribute D "get" p2) [.Name x xp] [] p3) env = methTree D "get" p2 [.Name x xp] p3 env pl)
    (hd : (x == ("__debug__" : Str)) = false := by rfl) (hd2 : (x == ("__classdict__" : Str)) = false := by rfl) :
    EvalTo cx n sc Γ k (.Call (.Attribute D "get" p2) [.Name x xp] [] p3) (dO (dueD q)) k := by
  refine ⟨fun g A env N s hA hE p Q hQ => ?_⟩
  have hu : A.units + 1 < cLine := by have := room_units hA; omega
  obtain ⟨pl, hm⟩ := hm env
  rw [hm]
  refine meth_tree ?_
  refine disp_gen hD rfl rfl (by simp) (by simp) ?_
  have k₀ : ∀ b o, s.heap.get? b = some o → (s.heap.push { cls := .type "dict", data := .dict #[] }).get? b = some o := fun b o e => Heap.get?_push_of_some _ e
  have hD0 : (s.heap.push { cls := .type "dict", data := .dict #[] }).DictOfH (tupleKind (intKind cx.prog cx.w)) s.heap.objs.size [] := Heap.DictOfH.new s.heap
  obtain ⟨oD, esD, epD, gD, dD⟩ := hD0
  refine pair_raw fun x1 y1 t1 t2 t3 t4 h₁ tk₁ k₁ gx1 gy1 n1 => ?_
  refine pair_raw fun x2 y2 t5 t6 t7 t8 h₂ tk₂ k₂ gx2 gy2 n2 => ?_
  refine pair_raw fun x3 y3 t9 ta tb tc h₃ tk₃ k₃ gx3 gy3 n3 => ?_
  dsimp only at k₁ k₂ k₃ n1 n2 n3
  unfold evalPairs
  refine wpAny_pure ?_
  have kD : ∀ b o, s.heap.get? b = some o → h₃.get? b = some o := fun b o e => k₃ _ _ (k₂ _ _ (k₁ _ _ (k₀ _ _ e)))
  have nD : s.heap.get? s.heap.objs.size = none := get_size _
  have hD : h₃.DictOfH (tupleKind (intKind cx.prog cx.w)) s.heap.objs.size [] := ⟨oD, esD, epD, k₃ _ _ (k₂ _ _ (k₁ _ _ gD)), dD.1, dD.2.1, dD.2.2.1, (by intro _ h; cases h), dD.2.2.2.2⟩
  have neD : ∀ {y : Addr} {vs : List Value}, h₃.get? y = some (tupO vs) → y ≠ s.heap.objs.size := fun e q => by
    obtain ⟨o, _, _, e', _, hd', _⟩ := hD
    rw [q, e'] at e; cases e; cases hd'
  have gx1' := k₃ _ _ (k₂ _ _ gx1); have gy1' := k₃ _ _ (k₂ _ _ gy1); have gx2' := k₃ _ _ gx2; have gy2' := k₃ _ _ gy2
  refine store_raw (by omega) gx1' hD (by simp) fun h₄ tk₄ hD₄ sb₄ => ?_
  refine store_raw (by omega) ((sb₄.2 _ (neD gx2')).trans gx2') hD₄ (by simp [storedH, atKey]) fun h₅ tk₅ hD₅ sb₅ => ?_
  refine store_raw (by omega) ((sb₅.2 _ (neD gx3)).trans ((sb₄.2 _ (neD gx3)).trans gx3)) hD₅ (by simp [storedH, atKey]) fun h₆ tk₆ hD₆ sb₆ => ?_
  refine store_end ?_
  have sb : ∀ b, b ≠ s.heap.objs.size → h₆.get? b = h₃.get? b := fun b hb => (sb₆.2 b hb).trans ((sb₅.2 b hb).trans (sb₄.2 b hb))
  have kk : ∀ b o, s.heap.get? b = some o → h₆.get? b = some o := fun b o e => (sb b (fun q => by rw [q, nD] at e; cases e)).trans (kD b o e)
  have fr : ∀ {y : Addr} {h : Heap}, h.get? y = none → (∀ b o, s.heap.get? b = some o → h.get? b = some o) → s.heap.get? y = none := fun {y h} e hk => by
    cases q : s.heap.get? y with
    | none => rfl
    | some o => have := hk _ _ q; rw [e] at this; cases this
  have hxs : storedH (storedH (storedH ([] : List (List Int × Addr × Value)) [4, 9] x1 (.ref y1)) [1, 1] x2 (.ref y2)) [16, 81] x3 (.ref y3) = [([4, 9], x1, .ref y1), ([1, 1], x2, .ref y2), ([16, 81], x3, .ref y3)] := by
    simp [storedH, atKey]
  rw [hxs] at hD₆
  have S := Step.grown (N' := [(y1, tupO [.int 2 t3, .int 3 t4]), (y2, tupO [.int 1 t7, .int 1 t8]), (y3, tupO [.int 4 tb, .int 9 tc])]) (tk := tk₆) p.toWd kk (fun q hq => by
    rcases List.mem_cons.mp hq with rfl | hq
    · exact ⟨(sb _ (neD gy1')).trans gy1', ⟨_, _, rfl⟩, fr n1 k₀⟩
    · rcases List.mem_cons.mp hq with rfl | hq
      · exact ⟨(sb _ (neD gy2')).trans gy2', ⟨_, _, rfl⟩, fr n2 fun b o e => k₁ _ _ (k₀ _ _ e)⟩
      · rcases List.mem_cons.mp hq with rfl | hq
        · exact ⟨(sb _ (neD gy3)).trans gy3, ⟨_, _, rfl⟩, fr n3 fun b o e => k₂ _ _ (k₁ _ _ (k₀ _ _ e))⟩
        · cases hq)
  have P := p.step S (p.box.of_keeps kk)
  refine getMethod_builtin hD₆.typeIs PySem.F.plainAttrs_dict PySem.F.slot_dict_get PySem.F.type_dict_get (dictOfH_noDict hD₆) ?_
  obtain ⟨v, Hv, Sv⟩ := P.see x _ hx
  cases Sv with
  | val hv =>
  rw [starE_cons (by intro _ _ h; cases h)]
  refine Calls.callWith_builtin rfl (Calls.evalArgs_plain (spliced_cons (load_holds hE Hv hd hd2 (spliced_nil ?_))))
  cases hv with
  | @tuple b vs m _ hm hds =>
  cases hds with
  | cons h1 hds =>
  cases hds with
  | cons h2 hds =>
  cases hds
  cases h1
  cases h2
  rename_i ta' tb'
  have hkey : IsTupleKey (intKind cx.prog cx.w) h₆ [q.1, q.2] b := ⟨_, _, _, (P.led _ hm).1, rfl, rfl, .cons (by simp [intKind, Value.isInt]) (.cons (by simp [intKind, Value.isInt]) .nil)⟩
  have lo : (s.heap.objs.size == sysModules) = false := beq_eq_false_iff_ne.mpr (Nat.ne_of_gt (modules_low (p.ok.nolimit.keeps p.stays)))
  refine call_meetsIn PySem.F.slot_dict_get hD₆.typeIs PySem.F.entry_dict_get (PySem.F.args_dict_get_2 _ _) (meetsH_dict_get (tupleKind (intKind cx.prog cx.w)) s.heap.objs.size b lo) ⟨hu, [q.1, q.2], _, hkey, hD₆, ?_⟩
  show Q _ _
  have fin : ∀ tk v, DatIn ([(y1, tupO [.int 2 t3, .int 3 t4]), (y2, tupO [.int 1 t7, .int 1 t8]), (y3, tupO [.int 4 tb, .int 9 tc])] ++ N) v (dO (dueD q)) → Q v { s with heap := h₆, toks := tk } := fun tk v hv =>
    hQ v _ _ (S.trans (P.toks tk).1) (P.toks tk).2 hv
  refine fin _ _ ?_
  unfold dueD
  by_cases q1 : [q.1, q.2] = [4, 9]
  · rw [if_pos q1, q1]
    exact .tuple (.head _) (.cons (.int _ _) (.cons (.int _ _) .nil))
  · rw [if_neg q1]
    by_cases q2 : [q.1, q.2] = [1, 1]
    · rw [if_pos q2, q2]
      exact .tuple (.tail _ (.head _)) (.cons (.int _ _) (.cons (.int _ _) .nil))
    · rw [if_neg q2]
      by_cases q3 : [q.1, q.2] = [16, 81]
      · rw [if_pos q3, q3]
        exact .tuple (.tail _ (.tail _ (.head _))) (.cons (.int _ _) (.cons (.int _ _) .nil))
      · rw [if_neg q3]
        have : atKey [([4, 9], x1, Value.ref y1), ([1, 1], x2, .ref y2), ([16, 81], x3, .ref y3)] [q.1, q.2] = none := by
          have z1 : ¬ [4, 9] = [q.1, q.2] := fun e => q1 e.symm
          have z2 : ¬ [1, 1] = [q.1, q.2] := fun e => q2 e.symm
          have z3 : ¬ [16, 81] = [q.1, q.2] := fun e => q3 e.symm
          simp only [atKey, List.find?, decide_eq_false z1, decide_eq_false z2, decide_eq_false z3]
          try rfl
        rw [this]
        exact .none
end
end Mine
set_option maxRecDepth 100000
namespace Mine
open PySem PySem.W PyProof.Rows PySem.Calls PySem.Spec

section
variable {prog : Program} {w : World} {A : Around} {E : Value → Shared → Prop} {s : Shared} {env : Env}
/-- box = [list(script[:16]), 0], from the bare state -/
theorem law_first {mg mb m : Str → Option Value} {wl : Addr} {vs : List Value} {c1 c2 : Nat} {p1 p2 p3 p4 p5 p6 p7 p8 p9 p10 : Pos} {Q : Flow → Shared → Prop}
    (hk : env.scope.kind = .function) (hkl : env.kindOf ("list" : Str) = some .globalImplicit) (hks : env.kindOf ("script" : Str) = some .local) (hg : env.globals = mainGlobals) (hbn : env.builtins = builtinsNs)
    (hns : s.heap.Ns env.locals m) (hm : m ("script" : Str) = some (.ref wl)) (hl : s.heap.IsList wl vs.toArray) (hlen : vs.length ≤ 63) (mgN : s.heap.Ns mainGlobals mg) (mbN : s.heap.Ns builtinsNs mb) (hno : mg ("list" : Str) = none) (hb : mb ("list" : Str) = bootBuiltins ("list" : Str))
    (h : ∀ h' tk lA bA c t, (∀ b o, s.heap.get? b = some o → h'.get? b = some o) → h'.get? lA = some (listOf (vs.take 16).toArray c) → h'.get? bA = some (listOf #[.ref lA, .int 0 t] 0) → s.heap.get? lA = none → s.heap.get? bA = none → lA ≠ bA →
      wpAny (model prog w) A (storeName env ("box" : Str) (.ref bA)) (fun _ s₂ => Q .next s₂) E { s with heap := h', toks := tk }) :
    wpAny (model prog w) A (exec (.Assign [.Name "box" p1] (.List [.Call (.Name "list" p2) [.Subscript (.Name "script" p3) (.Slice none (some (.Constant (.int 16) c1 p4)) none p5) p6] [] p7, .Constant (.int 0) c2 p8] p9) p10) env) Q E s := by
  refine wpAny_Assign_Name (List_ (spliced_more (call_expand (call_name ..) ?_) rfl)) rfl
  refine Calls.Name_function_global hk hkl (Calls.loadGlobal_builtin (by rw [hg]; exact mgN) hno (by rw [hbn]; exact mbN) (hb.trans rfl) ?_) rfl
  rw [starE_cons (by intro _ _ h; cases h)]
  refine PySem.callWith_type rfl (Calls.evalArgs_plain (spliced_cons ?_))
  refine Subscript_ (wpAny_Name (wpAny_loadName_local hk hks hns hm ?_) rfl)
  refine wpAny_Slice ?_
  rw [evalPart_none]
  refine wpAny_pure ?_
  rw [evalPart_some]
  refine wpAny_Constant_int ?_
  refine wpAny_pure ?_
  refine tail_any (ops := [.ref s.heap.objs.size, .ref wl]) (Heap.IsList.typeIs (s := { s with heap := s.heap.push { cls := .type "slice", data := .fields #[.none, .int 16 s.toks, .none] } }) (hl.push _)) list_getitem_lookup
    (wpAny_getItem_list_slice (hl.push _) (Heap.IsSliceOf.new ..) .none (.int _ _) .none (by simp) ?_ (by simp only [List.size_toArray]; exact Nat.le_trans hlen (by decide))) (by rfl)
  have e : slicePick vs.toArray none (some 16) none = (vs.take 16).toArray := by
    have := slicePick_upto' vs.toArray 16
    simpa using this
  rw [e]
  refine spliced_nil ?_
  have k1 : ∀ b o, s.heap.get? b = some o → ((s.heap.push { cls := .type "slice", data := .fields #[.none, .int 16 s.toks, .none] }).push { cls := .type "list", data := .seq (vs.take 16).toArray }).get? b = some o := fun b o e => Heap.get?_push_of_some _ (Heap.get?_push_of_some _ e)
  refine call_list_seq _ (.inl rfl) (Heap.get?_push_size _ rfl) rfl rfl (fun h' c' hk' hD => ?_) (by simp only [List.size_toArray, List.length_take]; exact Nat.le_trans (Nat.min_le_left _ _) (by decide))
  refine spliced_more (wpAny_Constant_int (spliced_none ?_)) rfl
  refine wpAny_newObj_type ?_ (by show 2 ≤ sizeLine; decide)
  have kl : ∀ b o, s.heap.get? b = some o → h'.get? b = some o := fun b o e => hk' b o (k1 b o e)
  refine h _ _ _ _ c' _ (fun b o e => Heap.get?_push_of_some _ (kl b o e)) (Heap.get?_push_of_some _ hD) (Heap.get?_push_size _ rfl) ?_ ?_ (fun q => ?_)
  · cases q : s.heap.get? ((s.heap.push { cls := .type "slice", data := .fields #[.none, .int 16 s.toks, .none] }).push { cls := .type "list", data := .seq (vs.take 16).toArray }).objs.size with
    | none => rfl
    | some o => have := Heap.lt_size q; rw [Heap.size_push, Heap.size_push] at this; exact absurd this (Nat.not_lt.mpr (Nat.le_trans (Nat.le_succ _) (Nat.le_succ _)))
  · cases q : s.heap.get? h'.objs.size with
    | none => rfl
    | some o => have := kl _ _ q; rw [get_size] at this; cases this
  · exact absurd (Heap.lt_size hD) (by rw [q]; exact Nat.lt_irrefl _)
end
end Mine
set_option linter.unusedSimpArgs false
set_option maxRecDepth 10000
set_option maxHeartbeats 1000000
namespace Mine
open PySem PySem.W PyProof.Rows PySem.Calls PySem.Spec

noncomputable def numQ : Nat → Q
  | 0 => (4, 9)
  | 1 => (8, 9)
  | 2 => (1, 1)
  | 3 => (27, 8)
  | 4 => (2, 1)
  | _ => (16, 81)
theorem num_at : ∀ {i : Nat}, i < 6 → ([dQ (4, 9), dQ (8, 9), dQ (1, 1), dQ (27, 8), dQ (2, 1), dQ (16, 81)] : List Dat)[((i : Nat) : Int).toNat]? = some (dQ (numQ i))
  | 0, _ => rfl | 1, _ => rfl | 2, _ => rfl | 3, _ => rfl | 4, _ => rfl | 5, _ => rfl
theorem kq_dO : ∀ o : Option Q, kqdOk 8 (dO o) = true
  | none => rfl
  | some _ => rfl
theorem ne_self : ∀ o : Option Q, (!(kqdP (dO o)).eqv (kqdP (dO o))) = false
  | none => rfl
  | some q => by simp [dO, kqdP, kqdPs, PyData.eqv, PyData.eqvAll]
theorem law_mid {cx : Cx} (H : Mods cx) {i : Nat} (hi : i < 6) (ei : drawV cx.ns 0 6 = i) (h : exactRoot? (numQ i) 2 = some (dueD (numQ i))) :
    ExecsTo cx 25 [("script", .local), ("box", .local), ("number", .local), ("due", .local), ("list", .globalImplicit), ("_law_take", .globalImplicit), ("exact_root", .globalImplicit), ("_law_root_right", .globalImplicit), ("_law_calls_right", .globalImplicit), ("_law_refused_right", .globalImplicit)] [("box", .box)] 0 ((fn (Str.ofString "law")).2.1.drop 1) [("box", .box)] (0 + 1) ((fn (Str.ofString "law")).2.1.drop 4) := by
  have t1 := law_take_ok (k := 0) H (kn := 0) rfl (by omega) (m := 6) (by decide) (by decide) (j := 6) rfl
  rw [ei] at t1
  refine (xt_next (sn_assign (.inl rfl) (ev_item (ev_own (eo_list (ea_cons (ev_tuple (ea_cons (ev_int _) (ea_cons (ev_int _) ea_nil)) (by first | decide | (simp; done))) (ea_cons (ev_tuple (ea_cons (ev_int _) (ea_cons (ev_int _) ea_nil)) (by first | decide | (simp; done))) (ea_cons (ev_tuple (ea_cons (ev_int _) (ea_cons (ev_int _) ea_nil)) (by first | decide | (simp; done))) (ea_cons (ev_tuple (ea_cons (ev_int _) (ea_cons (ev_int _) ea_nil)) (by first | decide | (simp; done))) (ea_cons (ev_tuple (ea_cons (ev_int _) (ea_cons (ev_int _) ea_nil)) (by first | decide | (simp; done))) (ea_cons (ev_tuple (ea_cons (ev_int _) (ea_cons (ev_int _) ea_nil)) (by first | decide | (simp; done))) ea_nil)))))) (by first | decide | (simp; done)))) rfl (ev_call rfl (ar_box rfl (ar_cons (ev_int _) ar_nil)) (t1.up (by first | omega | exact Nat.le_refl _))) (by first | omega | assumption | decide | (simp; done) | (simp; omega)) (by first | omega | assumption | decide | (simp; done) | (simp; omega)) (by first | exact num_at hi | rfl))) (xt_next (sn_assign (.inl rfl) (ev_due rfl rfl (fun _ => ⟨_, rfl⟩))) (xt_next (sn_if_f (te_eq (b := false) (te_cmp (ev_call rfl (ar_cons (ev_name rfl) (ar_cons (ev_int _) ar_nil)) ((exact_root_ok H h (by decide) (j := 2) rfl).up (by first | decide | omega | (simp [lev, inner, poly]; done)))) (ev_name rfl) (cmp_ne_dat _ _ (by first | exact kq_dO _ | rfl | decide +kernel) (by first | exact kq_dO _ | rfl | decide +kernel))) (by first | exact ne_self _ | rfl)) xs_nil) ?_)))
  exact xt_weak (sub_cons rfl sub_nil) xt_done
end Mine
set_option maxRecDepth 100000
namespace Mine
open PySem PySem.W PyProof.Rows PySem.Calls PySem.Spec

section
variable {cx : Cx} {n : Nat} {sc : Nms} {Γ : Gam} {k k' : Int} {g : Heap} {A : Around} {env : Env} {N N' : Ledg} {s s' : Shared} {P : Addr}
/-- after a call that makes a lambda: what the law's frame still knows -/
theorem Pt.more {ps : Array Value} (p : Pt cx g A env [("box", .box)] k N s) (S : Step (cx.more P) N s N' s') (w : Wd cx A k' N' s') (hP : s'.heap.get? P = some (tabObj ps)) (hne : env.locals ≠ P)
    (hnc : ∀ x, env.kindOf x ≠ some .cell ∧ env.kindOf x ≠ some .free) : Pt cx g A env [("box", .box)] k' N' s' := by
  have hL : env.locals ∉ (cx.more P).X := fun h => by
    rcases List.mem_cons.mp h with h | h
    · exact hne h
    · exact p.locX h
  obtain ⟨m, hm⟩ := p.hasNs
  refine { w with hasNs := ⟨m, S.kp.ns hL hm⟩, locX := p.locX, locB := p.locB, locG := p.locG, old := fun b o hb e => ?_, cells := fun x hx => absurd hx (hnc x).1, see := fun x sl hx => ?_, one := fun x y vx vy lx ly hx => ?_ }
  · by_cases q : b = P
    · exact ⟨_, q ▸ hP⟩
    · obtain ⟨o', e'⟩ := p.old b o hb e
      obtain ⟨sl, e2, _⟩ := S.kp b o' (fun h => by
        rcases List.mem_cons.mp h with h | h
        · exact q h
        · exact hb h) e'
      exact ⟨_, e2⟩
  · obtain ⟨v, H, Hs⟩ := p.see x sl hx
    have hsl : sl = .box := by
      rw [List.lookup_cons] at hx
      split at hx
      · exact (Option.some.inj hx).symm
      · cases hx
    subst hsl
    cases Hs with
    | box =>
      refine ⟨_, ?_, .box⟩
      cases H with
      | loc hk hn hv => exact .loc hk (S.kp.ns hL hn) hv
      | cell hk _ _ _ _ => exact absurd hk (fun h => h.elim (hnc x).1 (hnc x).2)
  · rw [List.lookup_cons] at hx
    split at hx
    · cases hx
    · cases hx
theorem callP_ev {f : Str} (Lc : CallP cx P n f k k') {fp bp pos : Pos} (hf : sc.lookup f = some .globalImplicit) (hd : (f == ("__debug__" : Str)) = false) (hbox : Γ.lookup ("box" : Str) = some .box)
    (hA : Room n A) (hE : EnvOk sc env) (p : Pt cx g A env Γ k N s) (hP : s.heap.get? P = some (tabObj #[])) {Q : Value → Shared → Prop}
    (hQ : ∀ N' s' ps, Step (cx.more P) N s N' s' → Wd cx A k' N' s' → s'.heap.get? P = some (tabObj ps) → Q (.bool true) s') :
    wpAny (model cx.prog cx.w) A (eval (.Call (.Name f fp) [.Name "box" bp] [] pos) env) Q (fun _ _ => False) s := by
  obtain ⟨a, ⟨hm, o, fd, ho, hfd⟩, hcall⟩ := Lc
  refine call_expand (call_name ..) (load_global p.toWd hE hf hm hd ?_)
  rw [starE_cons (by intro _ _ h; cases h)]
  obtain ⟨v, H, Hs⟩ := p.see _ _ hbox
  cases Hs with
  | box =>
    refine Calls.callWith_function (o := o) (fd := fd) (Calls.evalArgs_plain (spliced_cons (load_holds hE H rfl rfl (spliced_nil ?_))))
    exact ⟨⟨p.stays _ _ ho, hfd⟩, hcall A N s hA p.toWd hP Q hQ⟩
/-- return A and B and C -/
theorem law_end {P1 P2 : Addr} {k1 k2 k3 : Int} {q1 q2 q3 q4 q5 q6 q7 q8 q9 qa qb : Pos} (h1 : CallP cx P1 n (Str.ofString "_law_root_right") k k1) (h2 : CallTo cx n (Str.ofString "_law_calls_right") [.box] k1 (.bool true) k2) (h3 : CallP cx P2 n (Str.ofString "_law_refused_right") k2 k3)
    (l1 : sc.lookup ("_law_root_right" : Str) = some .globalImplicit) (l2 : sc.lookup ("_law_calls_right" : Str) = some .globalImplicit) (l3 : sc.lookup ("_law_refused_right" : Str) = some .globalImplicit)
    (hnc : ∀ x, env.kindOf x ≠ some .cell ∧ env.kindOf x ≠ some .free) (hA : Room n A) (hE : EnvOk sc env) (p : Pt cx g A env [("box", .box)] k N s)
    (hP1 : s.heap.get? P1 = some (tabObj #[])) (hP2 : s.heap.get? P2 = some (tabObj #[])) (hne : P1 ≠ P2) (n1 : env.locals ≠ P1) (n2 : env.locals ≠ P2) (x1 : P1 ∉ cx.X) (x2 : P2 ∉ cx.X) {Q : Flow → Shared → Prop}
    (hQ : ∀ s' p1 p2, cx.base.StaysIn s'.heap → s'.gens = s.gens → s'.os = s.os → s'.heap.get? P1 = some (tabObj p1) → s'.heap.get? P2 = some (tabObj p2) → Q (.ret (.bool true)) s') :
    wpAny (model cx.prog cx.w) A (execs [.Return (some (.BoolOp .And [.Call (.Name "_law_root_right" q1) [.Name "box" q2] [] q3, .Call (.Name "_law_calls_right" q4) [.Name "box" q5] [] q6, .Call (.Name "_law_refused_right" q7) [.Name "box" q8] [] q9] qa)) qb] env) Q (fun _ _ => False) s := by
  refine wpAny_execs_cons (wpAny_Return_some (BoolOp_and (callP_ev h1 l1 rfl rfl hA hE p hP1 fun N₁ s₁ ps S₁ w₁ e₁ => wpAny_truthy_bool ?_)))
  rw [if_pos rfl]
  have p₁ := p.more S₁ w₁ e₁ n1 hnc
  have hP2' : s₁.heap.get? P2 = some (tabObj #[]) := S₁.kp.get (fun h => by
    rcases List.mem_cons.mp h with h | h
    · exact hne h.symm
    · exact x2 h) hP2 (by intro _ _ q; cases q)
  refine BoolOp_and ((ev_call (es := []) l2 (ar_box rfl ar_nil) h2).run g A env N₁ s₁ hA hE p₁ _ fun v N₂ s₂ S₂ p₂ hv => ?_)
  cases hv
  refine wpAny_truthy_bool ?_
  rw [if_pos rfl]
  refine BoolOp_one (callP_ev h3 l3 rfl rfl hA hE p₂ (S₂.kp.get x2 hP2' (by intro _ _ q; cases q)) fun N₃ s₃ ps₃ S₃ w₃ e₃ => ?_)
  refine hQ s₃ ps ps₃ w₃.stays ((S₃.gens.trans S₂.gens).trans S₁.gens) ((S₃.os.trans S₂.os).trans S₁.os) (S₃.kp.get (fun h => ?_) (S₂.kp.get x1 e₁ (by intro _ _ q; cases q)) (by intro _ _ q; cases q)) e₃
  rcases List.mem_cons.mp h with h | h
  · exact hne h
  · exact x1 h
end
theorem CallP.up {cx : Cx} {P : Addr} {n n' : Nat} {f : Str} {k k' : Int} (H : CallP cx P n f k k') (h : n ≤ n') : CallP cx P n' f k k' := by
  obtain ⟨a, h1, h2⟩ := H
  exact ⟨a, h1, fun A N s hA => h2 A N s (hA.mono h)⟩
theorem ints_take : ∀ {vs : List Value} {ns : List Int} (j : Nat), IntsAre vs ns → IntsAre (vs.take j) (ns.take j)
  | _, _, 0, _ => by simpa using IntsAre.nil
  | _, _, j + 1, .nil => .nil
  | _, _, j + 1, .cons _ _ h => .cons _ _ (ints_take j h)

/-- what a law's draws must bear out -/
noncomputable def drawsOk (ns : List Int) : Bool :=
  (exactRoot? (numQ (drawV ns 0 6)) 2 == some (dueD (numQ (drawV ns 0 6)))) &&
  rootRight (qOf (drawV ns 1 5)) (pOf (drawV ns 2 9)) (fOf (drawV ns 3 3)) (((drawV ns 4 4 : Nat) : Int) - 1) ((drawV ns 5 3 : Nat) : Int) &&
  (callsRight? ((drawV ns 6 3 : Nat) : Int) ((drawV ns 7 3 : Nat) : Int) == some true) && refused (drawV ns 8 14)

noncomputable def lawCx (prog : Program) (w : World) (base : Heap) (mg mb : Str → Option Value) (N₀ : Ledg) (ns : List Int) (bA lA : Addr) : Cx := ⟨prog, w, base, [bA], bA, lA, ns.take 16, mg, mb, N₀⟩

theorem noCellFree {sc : Nms} (h : sc.all (fun y => y.2 != .cell && y.2 != .free) = true) : ∀ x, sc.lookup x ≠ some .cell ∧ sc.lookup x ≠ some .free := fun x => by
  constructor <;> (intro e; have := List.all_eq_true.mp h _ (mem_of_lookup' e); revert this; simp)

/-- the whole body of the law -/
theorem law_walk {prog : Program} {w : World} {base : Heap} {mg mb m : Str → Option Value} {N₀ : Ledg} {g : Heap} {s : Shared} {vs : List Value} {ns : List Int} {wl L P1 P2 : Addr} {A : Around} {env : Env}
    (hg : base.Ns mainGlobals mg) (hb : base.Ns builtinsNs mb) (hno : base.NoLimit) (hbu : ∀ x : Str, x ≠ "__name__" → mb x = bootBuiltins x) (hN₀ : ∀ p ∈ N₀, base.get? p.1 = some p.2 ∧ isSeq p.2)
    (hM : ∀ bA lA, Mods (lawCx prog w base mg mb N₀ ns bA lA)) (hX : ∀ bA lA, Nonempty (Exc (lawCx prog w base mg mb N₀ ns bA lA)))
    (hL1 : ∀ bA lA, P1 ≠ bA → LamAt (lawCx prog w base mg mb N₀ ns bA lA) "_law_root_right" P1) (hL2 : ∀ bA lA, P2 ≠ bA → LamAt (lawCx prog w base mg mb N₀ ns bA lA) "_law_refused_right" P2)
    (hE : EnvOk (fn (Str.ofString "law")).2.2.names env) (hloc : env.locals = L) (hfrm : env.frame = some L) (hfr : A.frames = some [env]) (hFF : s.heap.FunFrames base [env]) (hA : Room 25 A)
    (F : Fr base L s.heap m) (hm : m ("script" : Str) = some (.ref wl)) (hl : s.heap.IsList wl vs.toArray) (hi : IntsAre vs ns) (hlen : ns.length ≤ 63)
    (hgL : g.get? L = none) (hgo : ∀ b o, g.get? b = some o → ∃ o', s.heap.get? b = some o') (hP1 : s.heap.get? P1 = some (tabObj #[])) (hP2 : s.heap.get? P2 = some (tabObj #[])) (hne : P1 ≠ P2) (n1 : L ≠ P1) (n2 : L ≠ P2)
    (hd : drawsOk (ns.take 16) = true) {Q : Flow → Shared → Prop} {E : Value → Shared → Prop}
    (hQ : ∀ s' p1 p2, base.StaysIn s'.heap → s'.gens = s.gens → s'.os = s.os → s'.heap.get? P1 = some (tabObj p1) → s'.heap.get? P2 = some (tabObj p2) → Q (.ret (.bool true)) s') :
    wpAny (model prog w) A (execs (fn (Str.ofString "law")).2.1 env) Q E s := by
  refine anyF ?_
  have hbody : (fn (Str.ofString "law")).2.1 = (fn (Str.ofString "law")).2.1.head! :: (fn (Str.ofString "law")).2.1.drop 1 := rfl
  rw [hbody]
  refine wpAny_execs_cons ?_
  have hvl : vs.length = ns.length := hi.length
  have hns : s.heap.Ns env.locals m := hloc ▸ F.ns
  refine law_first (mg := mg) (mb := mb) hE.kind (kindOf_of hE rfl) (kindOf_of hE rfl) hE.globals hE.builtins hns hm hl (by omega) (hg.keeps F.keep) (hb.keeps F.keep) ((hM 0 0).no "list" (by decide)) (hbu _ (by decide)) fun h' tk lA bA c t kk eL eB nL nB neq => ?_
  have stay : base.StaysIn h' := fun b o e => kk _ _ (F.keep b o e)
  have bfresh : ∀ {a : Addr}, s.heap.get? a = none → base.get? a = none := fun {a} h => by
    cases e : base.get? a with
    | none => rfl
    | some o => have := F.keep _ _ e; rw [h] at this; cases this
  have hLs : ∃ o es m, s.heap.get? L = some o ∧ o.data = .dict es m := by
    obtain ⟨o, es, ep, e1, e2, _⟩ := F.ns
    exact ⟨o, es, ep, e1, e2⟩
  have LbA : L ≠ bA := fun q => by obtain ⟨o, _, _, e, _⟩ := hLs; rw [q, nB] at e; cases e
  have P1b : P1 ≠ bA := fun q => by rw [q, nB] at hP1; cases hP1
  have P2b : P2 ≠ bA := fun q => by rw [q, nB] at hP2; cases hP2
  let cx := lawCx prog w base mg mb N₀ ns bA lA
  have M : Mods cx := hM bA lA
  obtain ⟨X⟩ := hX bA lA
  have bAX : bA ∈ cx.X := .head _
  have nX : ∀ {a : Addr}, a ≠ bA → a ∉ cx.X := fun h q => by
    rcases List.mem_cons.mp q with q | q
    · exact h q
    · cases q
  have xb : ∀ a ∈ cx.X, base.get? a = none := fun a ha => by
    rcases List.mem_cons.mp ha with rfl | ha
    · exact bfresh nB
    · cases ha
  have cok : CxOk cx := ⟨hg, hb, hno, hbu, xb, bAX, nX neq, hN₀⟩
  have wd : Wd cx A 0 ((lA, listOf (vs.take 16).toArray c) :: N₀) { s with heap := h', toks := tk } := by
    refine ⟨cok, stay, fun a ha => ?_, fun q hq => ?_, fun q hq => .tail _ hq, ⟨_, .head _⟩, ⟨⟨t, 0, eB⟩, _, c, eL, ints_take 16 hi⟩, ⟨[env], hfr, ?_, fun e he a ha => ?_⟩⟩
    · rcases List.mem_cons.mp ha with rfl | ha
      · exact ⟨_, eB⟩
      · cases ha
    · rcases List.mem_cons.mp hq with rfl | hq
      · exact ⟨eL, ⟨_, _, rfl⟩, nX neq⟩
      · refine ⟨stay _ _ (hN₀ q hq).1, (hN₀ q hq).2, nX fun e => ?_⟩
        have := (hN₀ q hq).1
        rw [e, bfresh nB] at this; cases this
    · exact FunFrames.kpP (P := fun _ => True) (.of_keeps fun b o _ e => kk b o e) (fun _ _ _ _ => trivial) hFF
    · rcases List.mem_cons.mp he with rfl | he
      · obtain ⟨o, es, ep, e1, e2⟩ := hLs
        rw [hfrm] at ha; cases ha
        exact ⟨nX LbA, o, es, ep, kk _ _ e1, e2⟩
      · cases he
  have hnc : ∀ x, env.kindOf x ≠ some .cell ∧ env.kindOf x ≠ some .free := fun x => by
    have := noCellFree (sc := (fn (Str.ofString "law")).2.2.names) rfl x
    unfold Env.kindOf; rw [hE.names]; exact this
  have hBL : base.get? env.locals = none := by
    rw [hloc]
    cases e : base.get? L with
    | none => rfl
    | some o => exact absurd (Heap.lt_size e) (Nat.not_lt.mpr F.above)
  have p0 : Pt cx g A env [] 0 ((lA, listOf (vs.take 16).toArray c) :: N₀) { s with heap := h', toks := tk } :=
    Pt.bare wd ⟨m, hns.keeps kk⟩ (hloc ▸ nX LbA) hBL (hloc ▸ hgL) (fun b o _ e => let ⟨o', e'⟩ := hgo b o e; ⟨o', kk _ _ e'⟩) fun x => (hnc x).1
  unfold drawsOk at hd
  simp only [Bool.and_eq_true, beq_iff_eq] at hd
  obtain ⟨⟨⟨d1, d2⟩, d3⟩, d4⟩ := hd
  have C1 : CallP cx P1 25 (Str.ofString "_law_root_right") (0 + 1) _ := (law_root_right_ok M X (hL1 bA lA P1b) (k := 0 + 1) (kn := 1) rfl (by decide) rfl rfl rfl rfl rfl d2).up (by decide)
  have C2 : CallTo cx 25 (Str.ofString "_law_calls_right") [.box] (0 + 1 + 1 + 1 + 1 + 1 + 1) (.bool true) _ := (law_calls_right_ok M (kn := 6) rfl (by decide) d3).up (by decide)
  have C3 : CallP cx P2 25 (Str.ofString "_law_refused_right") (0 + 1 + 1 + 1 + 1 + 1 + 1 + 1 + 1) _ := (law_refused_ok M X (hL2 bA lA P2b) (kn := 8) (i := drawV cx.ns 8 14) rfl (by decide) rfl d4).up (by decide)
  have hmid := law_mid M (i := drawV cx.ns 0 6) (drawV_lt _ _ _ (by decide)) rfl d1
  generalize hs1 : (fn (Str.ofString "law")).2.1.drop 1 = sts1 at hmid ⊢
  generalize hs4 : (fn (Str.ofString "law")).2.1.drop 4 = sts4 at hmid
  refine store_pt (sl := .box) (k := 0) hE p0 (.inl rfl) .box (fun l q => by cases q) fun s₂ S₂ p₂ _ _ => ?_
  refine hmid.run g _ env _ s₂ hA hE p₂ _ _ fun N₃ s₃ S₃ p₃ => ?_
  have kP : ∀ {P : Addr}, P ≠ bA → s.heap.get? P = some (tabObj #[]) → s₃.heap.get? P = some (tabObj #[]) := fun hb e =>
    S₃.flds _ _ #[] (nX hb) (S₂.flds _ _ #[] (nX hb) (kk _ _ e) rfl) rfl
  have hbody' : (fn (Str.ofString "law")).2.1.drop 4 = [.Return (some (.BoolOp .And [_, _, _] _)) _] := rfl
  rw [← hs4, hbody']
  refine law_end C1 C2 C3 rfl rfl rfl hnc hA hE p₃ (kP P1b hP1) (kP P2b hP2) hne (hloc ▸ n1) (hloc ▸ n2) (nX P1b) (nX P2b) fun s' p1 p2 a1 a2 a3 a4 a5 => ?_
  exact hQ s' p1 p2 a1 ((a2.trans S₃.gens).trans S₂.gens) ((a3.trans S₃.os).trans S₂.os) a4 a5
end Mine
set_option maxRecDepth 100000
set_option maxHeartbeats 0
namespace Mine
open PySem PySem.W PyProof.Rows PySem.Calls PySem.Spec

noncomputable abbrev theRow : OpenRow := PySem.Challenge.rw_pf0052_01.row
noncomputable def viewQ : Program := view PySem.Challenge.pw_pf0052_01 [42, 58, 60, 61]
noncomputable def looseQ : List Str := (["CasFail", "gcd", "root_of", "R0", "R1", "rat", "radd", "rsub", "rmul", "rdiv", "rcompare", "cut", "sadd", "sscale", "mixed", "smul", "sinverse", "sderive", "sintegrate", "need_begin", "sexp", "slog", "ssin_cos", "ssin", "scos", "satan", "spower", "swhole_power", "lplain", "lmoved", "ladd", "lmul", "ltrim", "linverse", "lpower", "lcut", "exact_root", "from_zero", "of_call", "of_root", "of_power", "of_term", "laurent_of", "series_of", "_law_x", "_law_take", "_law_low", "_law_times", "_law_kind", "_law_poly", "_law_calls_right"] : List String).map Str.ofString
noncomputable abbrev xtQ (s : Shared) : Bool := xlAt viewQ [] s && recOk theRow.toRowW.records s

/-! ### what the top has left, looked up -/
noncomputable def asDict (o : Obj) : Option (Array DictEntry) := match o.data with | .dict es _ => some es | _ => none
noncomputable def asFn (o : Obj) : Option FuncData := match o.data with | .func fd => some fd | _ => none
noncomputable def asFields (o : Obj) : Option (Array Value) := match o.data with | .fields vs => some vs | _ => none
noncomputable def asRef : Value → Option Addr | .ref a => some a | _ => none
noncomputable def asStr : Value → Option Str | .str x _ => some x | _ => none
noncomputable def refAt (h : Heap) (x : Str) : Option Addr := (h.get? mainGlobals).bind fun o => (asDict o).bind fun es => (nsFind es x).bind asRef
noncomputable def tabAt (h : Heap) (x : Str) : Option Addr := (refAt h x).bind fun a => (h.get? a).bind fun o => (asFn o).bind fun fd => (asRef fd.code).bind fun c => (h.get? c).bind fun oc => (asFields oc).bind fun vs => (vs[11]?).bind asRef
theorem refAt_keeps {h h' : Heap} (k : ∀ b o, h.get? b = some o → h'.get? b = some o) {x : Str} {a : Addr} (e : refAt h x = some a) : refAt h' x = some a := by
  unfold refAt at *
  obtain ⟨o, e1, e2⟩ := Option.bind_eq_some_iff.mp e
  rw [k _ _ e1]
  exact e2
theorem tabAt_keeps {h h' : Heap} (k : ∀ b o, h.get? b = some o → h'.get? b = some o) {x : Str} {a : Addr} (e : tabAt h x = some a) : tabAt h' x = some a := by
  unfold tabAt at *
  obtain ⟨b, e1, e⟩ := Option.bind_eq_some_iff.mp e
  obtain ⟨o, e2, e⟩ := Option.bind_eq_some_iff.mp e
  obtain ⟨fd, e3, e⟩ := Option.bind_eq_some_iff.mp e
  obtain ⟨c, e4, e⟩ := Option.bind_eq_some_iff.mp e
  obtain ⟨oc, e5, e⟩ := Option.bind_eq_some_iff.mp e
  rw [refAt_keeps k e1]
  refine Option.bind_eq_some_iff.mpr ⟨b, rfl, ?_⟩
  rw [k _ _ e2]
  refine Option.bind_eq_some_iff.mpr ⟨o, rfl, Option.bind_eq_some_iff.mpr ⟨fd, e3, Option.bind_eq_some_iff.mpr ⟨c, e4, ?_⟩⟩⟩
  rw [k _ _ e5]
  exact e
noncomputable def codeOk (h : Heap) (fd : FuncData) : Bool := ((asRef fd.code).bind fun c => (h.get? c).bind fun oc => (asFields oc).bind fun vs => (vs[1]?).bind asStr) == some fd.qualname
noncomputable def blank (fd : FuncData) : FuncData := { fd with name := "", qualname := "", doc := .none, pyModule := .none, annotations := none, code := .none, closureTuple := .none }
noncomputable def fnAt (h : Heap) (x : Str) : Option (FuncData × Bool) := (refAt h x).bind fun a => (h.get? a).bind fun o => (asFn o).map fun fd => (blank fd, codeOk h fd)
noncomputable def fnWant (f : Str) : FuncData × Bool := (fnOf "" "" (fn f).1 (fn f).2.1 (fn f).2.2 .none .none .none .none none .none .none, true)
theorem asRef_eq {v : Value} {a : Addr} (e : asRef v = some a) : v = .ref a := by unfold asRef at e; split at e <;> cases e; rfl
theorem asStr_eq {v : Value} {x : Str} (e : asStr v = some x) : ∃ t, v = .str x t := by unfold asStr at e; split at e <;> cases e; exact ⟨_, rfl⟩
theorem asFields_eq {o : Obj} {vs : Array Value} (e : asFields o = some vs) : o.data = .fields vs := by unfold asFields at e; split at e <;> cases e; assumption
theorem asFn_eq {o : Obj} {fd : FuncData} (e : asFn o = some fd) : o.data = .func fd := by unfold asFn at e; split at e <;> cases e; assumption
theorem codeOk_rec {h : Heap} {fd : FuncData} (e : codeOk h fd = true) : h.CodeRec fd.code fd.qualname := by
  unfold codeOk at e
  have e := eq_of_beq e
  obtain ⟨c, e1, e⟩ := Option.bind_eq_some_iff.mp e
  obtain ⟨oc, e2, e⟩ := Option.bind_eq_some_iff.mp e
  obtain ⟨vs, e3, e⟩ := Option.bind_eq_some_iff.mp e
  obtain ⟨v, e4, e⟩ := Option.bind_eq_some_iff.mp e
  obtain ⟨t, rfl⟩ := asStr_eq e
  exact ⟨c, oc, vs, t, asRef_eq e1, e2, asFields_eq e3, e4⟩
theorem rec_codeOk {h : Heap} {fd : FuncData} (e : h.CodeRec fd.code fd.qualname) : codeOk h fd = true := by
  obtain ⟨c, oc, vs, t, e1, e2, e3, e4⟩ := e
  unfold codeOk
  rw [e1]
  refine beq_iff_eq.mpr (Option.bind_eq_some_iff.mpr ⟨c, rfl, Option.bind_eq_some_iff.mpr ⟨oc, e2, Option.bind_eq_some_iff.mpr ⟨vs, ?_, Option.bind_eq_some_iff.mpr ⟨_, e4, rfl⟩⟩⟩⟩)
  unfold asFields
  rw [e3]
theorem unblank {fd f : FuncData} (e : blank fd = f) : fd = { f with name := fd.name, qualname := fd.qualname, doc := fd.doc, pyModule := fd.pyModule, annotations := fd.annotations, code := fd.code, closureTuple := fd.closureTuple } := by
  subst e; rfl
theorem fnAt_has {h : Heap} {x f : Str} (e : fnAt h x = some (fnWant f)) : ∃ a o name qual doc pm an cdv ct, refAt h x = some a ∧ h.get? a = some o ∧ o.data = .func (fnOf name qual (fn f).1 (fn f).2.1 (fn f).2.2 .none .none doc pm an cdv ct) ∧ h.CodeRec cdv qual := by
  obtain ⟨a, e1, e⟩ := Option.bind_eq_some_iff.mp e
  obtain ⟨o, e2, e⟩ := Option.bind_eq_some_iff.mp e
  obtain ⟨fd, e3, e⟩ := Option.map_eq_some_iff.mp e
  exact ⟨a, o, fd.name, fd.qualname, fd.doc, fd.pyModule, fd.annotations, fd.code, fd.closureTuple, e1, e2, (asFn_eq e3).trans (congrArg Data.func (unblank (congrArg Prod.fst e))), codeOk_rec (congrArg Prod.snd e)⟩
theorem fnAt_keeps {h h' : Heap} (k : ∀ b o, h.get? b = some o → h'.get? b = some o) {x f : Str} (e : fnAt h x = some (fnWant f)) : fnAt h' x = some (fnWant f) := by
  obtain ⟨a, e1, e⟩ := Option.bind_eq_some_iff.mp e
  obtain ⟨o, e2, e⟩ := Option.bind_eq_some_iff.mp e
  obtain ⟨fd, e3, e⟩ := Option.map_eq_some_iff.mp e
  refine Option.bind_eq_some_iff.mpr ⟨a, refAt_keeps k e1, Option.bind_eq_some_iff.mpr ⟨o, k _ _ e2, Option.map_eq_some_iff.mpr ⟨fd, e3, ?_⟩⟩⟩
  rw [← e, rec_codeOk ((codeOk_rec (congrArg Prod.snd e)).keeps k), show codeOk h fd = true from congrArg Prod.snd e]
theorem refAt_mg {h : Heap} {mg : Str → Option Value} (g : h.Ns mainGlobals mg) {x : Str} {a : Addr} (e : refAt h x = some a) : mg x = some (.ref a) := by
  obtain ⟨o, es, ep, e1, e2, _, e3⟩ := g
  unfold refAt at e
  rw [e1] at e
  simp only [Option.bind_some, asDict, e2] at e
  rw [e3] at e
  obtain ⟨v, e4, e5⟩ := Option.bind_eq_some_iff.mp e
  rw [e4, asRef_eq e5]
theorem mg_refAt {h : Heap} {mg : Str → Option Value} (g : h.Ns mainGlobals mg) {x : Str} {a : Addr} (e : mg x = some (.ref a)) : refAt h x = some a := by
  obtain ⟨o, es, ep, e1, e2, _, e3⟩ := g
  unfold refAt
  rw [e1]
  simp only [Option.bind_some, asDict, e2]
  rw [e3, e]
  rfl

/-- the objects of the top that the proof reads -/
noncomputable def oInit (P : Params) : Obj := { cls := .type "function", data := .func (fnOf "__init__" "CasFail.__init__" initFn.1 initFn.2.1 initFn.2.2 .none .none .none (.str "cas.errors" 187) none (.ref 27) .none) }
noncomputable def oR0 : Obj := { cls := .type "tuple", data := .seq ([.int 0 243, .int 1 244] : List Value).toArray 0 }
noncomputable def oR1 : Obj := { cls := .type "tuple", data := .seq ([.int 1 246, .int 1 247] : List Value).toArray 0 }
noncomputable def oX : Obj := { cls := .type "tuple", data := .seq ([.str "sym" 612, .str "x" 613] : List Value).toArray 0 }
noncomputable def cVals : Array Value := #[.str "__init__" 201, .str "CasFail.__init__" 202, .str "/claim/cut.py" 203, .int 4 0, .int 3 0, .int 0 0, .int 0 0, .int 3 0, .ref 22, .bool true, .int 181 0, .ref 23, .none, .ref 24, .ref 25, .ref 26, .int 207 0, .int 4 0, .str "/claim/cut.py" 208]
noncomputable def nsVals (P : Params) : Array DictEntry := #[{ hash := PyData.keyHash P ("__module__" : Str), key := .str "__module__" 196, val := .str "cas.errors" 187 }, { hash := PyData.keyHash P ("__firstlineno__" : Str), key := .str "__firstlineno__" 200, val := .int 2 199 },
  { hash := PyData.keyHash P ("__init__" : Str), key := .str "__init__" 209, val := .ref 28 }, { hash := PyData.keyHash P ("__static_attributes__" : Str), key := .str "__static_attributes__" 212, val := .ref 29 },
  { hash := PyData.keyHash P ("__weakref__" : Str), key := .str "__weakref__" 214, val := .ref 32 }, { hash := PyData.keyHash P ("__doc__" : Str), key := .str "__doc__" 215, val := .none }]
noncomputable def oCls : Obj := excClassObj "CasFail" "CasFail" 31 30 [.type "Exception"] excBm true [] [] false none none (some (.ref 15)) none (some (.str "CasFail" 189)) (some (.str "CasFail" 197)) (some (.bool true)) "Exception.__new__"
noncomputable def theK (P : Params) : Frag := [(27, { cls := .type "code", data := .fields cVals }), (28, oInit P), (30, { cls := .type "dict", data := .dict (nsVals P) 3 }), (31, oCls), (49, oR0), (50, oR1), (314, oX)]
noncomputable def theRefs : List (String × Addr) := [("CasFail", 31), ("R0", 49), ("R1", 50), ("_law_x", 314)]
structure SaysH (P : Params) (h : Heap) : Prop where
  K : (theK P).In h
  fns : ∀ f ∈ fnNames, fnAt h (Str.ofString f) = some (fnWant (Str.ofString f))
  refs : (theRefs.map fun r => refAt h (Str.ofString r.1)) = theRefs.map fun r => some r.2
  t1 : tabAt h (Str.ofString "_law_root_right") = some 351
  t2 : tabAt h (Str.ofString "_law_refused_right") = some 361
noncomputable def theHook : Hook where
  α := List (Option Obj) × List (Option (FuncData × Bool)) × List (Option Addr) × Option Addr × Option Addr
  obs := fun s => ([27, 28, 30, 31, 49, 50, 314].map s.heap.get?, fnNames.map (fun f => fnAt s.heap (Str.ofString f)), theRefs.map fun r => refAt s.heap (Str.ofString r.1), tabAt s.heap (Str.ofString "_law_root_right"), tabAt s.heap (Str.ofString "_law_refused_right"))
  val := fun w => ((theK w.params).map (fun p => some p.2), fnNames.map (fun f => some (fnWant (Str.ofString f))), theRefs.map fun r => some r.2, some 351, some 361)
  says := fun w h => SaysH w.params h
  of := fun w s e => ⟨Frag.in_of rfl (congrArg (·.1) e), List.map_inj_left.mp (congrArg (·.2.1) e), congrArg (·.2.2.1) e, congrArg (·.2.2.2.1) e, congrArg (·.2.2.2.2) e⟩
  keeps := fun w h h' x k => ⟨x.K.keeps k, fun f hf => fnAt_keeps k (x.fns f hf), by
    have e := x.refs
    simp only [theRefs, List.map_cons, List.map_nil, List.cons.injEq, and_true] at e ⊢
    exact ⟨refAt_keeps k e.1, refAt_keeps k e.2.1, refAt_keeps k e.2.2.1, refAt_keeps k e.2.2.2⟩, tabAt_keeps k x.t1, tabAt_keeps k x.t2⟩
end Mine
set_option maxRecDepth 100000
set_option maxHeartbeats 0
namespace Mine
open PySem PySem.W PyProof.Rows PySem.Calls PySem.Spec
/-- the top, run once by the kernel -/
theorem left_head : LeftO theRow.prog viewQ looseQ xtQ theHook.obs theHook.val 3890 := by
  intro w
  unfold openEnds fencedOpening topFrom
  rw [PySem.W.Fast.te14082659384304107361, PySem.W.Fast.te14364793385576792824, PySem.W.Fast.te10274390034422433532, PySem.W.Fast.te1435165496053646825, PySem.W.Fast.te14289696077712309145, PySem.W.Fast.te4187177175401517315]
  kernel_rfl
end Mine
set_option maxRecDepth 100000
set_option maxHeartbeats 0
namespace Mine
open PySem PySem.W PyProof.Rows PySem.Calls PySem.Spec

theorem recs_at : (["_law_root_right", "_law_refused_right"].map fun f => ((recsOf viewQ).find? (fun d => d.name == Str.ofString f)).map fun d => (d.params, d.body, d.scope)) = ["_law_root_right", "_law_refused_right"].map fun f => some (fn (Str.ofString f)) := by kernel_rfl
theorem free_at : (("Exception" :: bNames).all fun f => !(startupNames ++ looseW viewQ looseQ ++ (recsOf viewQ).map (·.name) ++ (litsOf viewQ).map (·.1) ++ (clssOf viewQ (looseW viewQ looseQ)).map (·.name)).contains (Str.ofString f)) = true := by kernel_rfl
theorem mm_at : valOf viewQ (Str.ofString "MOST_MORE") = some (.int 24) := by kernel_rfl
theorem law_def : defOf viewQ theRow.name = some (⟨theRow.name, (fn (Str.ofString "law")).1, (fn (Str.ofString "law")).2.1, (fn (Str.ofString "law")).2.2, ((recsOf viewQ).find? (fun d => d.name == Str.ofString "law")).elim default (·.pos)⟩, []) := by kernel_rfl
end Mine
set_option maxRecDepth 100000
set_option maxHeartbeats 400000
namespace Mine
open PySem PySem.W PyProof.Rows PySem.Calls PySem.Spec

noncomputable def N0 : Ledg := [(49, oR0), (50, oR1), (314, oX)]
section
variable {P : Params} {h : Heap} {mg mb : Str → Option Value} {mean : ExcName → Option Value} {prog : Program} {w : World} {ns : List Int} {bA lA : Addr} {tabs : List (Addr × Addr)}

theorem rec_of {f : String} (hf : f ∈ ["_law_root_right", "_law_refused_right"]) : ∃ d ∈ recsOf viewQ, d.name = Str.ofString f ∧ d.params = (fn (Str.ofString f)).1 ∧ d.body = (fn (Str.ofString f)).2.1 ∧ d.scope = (fn (Str.ofString f)).2.2 := by
  have e := List.map_inj_left.mp recs_at f hf
  obtain ⟨d, e1, e2⟩ := Option.map_eq_some_iff.mp e
  have e3 := beq_iff_eq.mp (List.find?_some (p := fun d : DefRec => d.name == Str.ofString f) e1)
  generalize fn (Str.ofString f) = q at e2
  subst e2
  exact ⟨d, List.mem_of_find?_eq_some e1, e3, rfl, rfl, rfl⟩
theorem K_get (Y : SaysH P h) {a : Addr} {o : Obj} (e : (theK P).lookup a = some o) : h.get? a = some o := Y.K a o e

theorem tab_mg (T : Top viewQ (looseW viewQ looseQ) mean mg mb h) {f : String} (hf : f ∈ ["_law_root_right", "_law_refused_right"]) : ∃ a o pm c Pt doc, mg (Str.ofString f) = some (.ref a) ∧ h.get? a = some o ∧
    o.data = .func (docDef (Str.ofString f) (fn (Str.ofString f)).1 (fn (Str.ofString f)).2.1 (fn (Str.ofString f)).2.2 pm (.ref c) doc) ∧ h.CodeRec (.ref c) (Str.ofString f) ∧ CodeHd h c Pt ∧ h.get? Pt = some (tabObj #[]) ∧ tabAt h (Str.ofString f) = some Pt := by
  obtain ⟨d, hd, e1, e2, e3, e4⟩ := rec_of hf
  obtain ⟨a, o, pm, code, doc, f1, f2, f3, f4⟩ := T.fn d hd
  obtain ⟨a', o', fd, c, Pt, g1, g2, g3, g4, g5, g6⟩ := T.tab d hd
  rw [f1] at g1; cases g1
  rw [f2] at g2; cases g2
  rw [f3] at g3; cases g3
  have hc : code = .ref c := g4
  subst hc
  rw [e1, e2, e3, e4] at f3
  rw [e1] at f1 f4
  refine ⟨a, o, pm, c, Pt, doc, f1, f2, f3, f4, CodeHd.of g5 g6, g6.2, ?_⟩
  obtain ⟨⟨oc, vs, h1, h2, h3, h4⟩, h5⟩ := g6
  unfold tabAt
  rw [mg_refAt T.g f1]
  simp only [Option.bind_some, f2, asFn, f3, docDef, asRef, h1, asFields, h3, h4]

theorem mods_of (T : Top viewQ (looseW viewQ looseQ) mean mg mb h) (Y : SaysH P h) (hT : TabsAt tabs h) (hlen : ns.length ≤ 63) : Mods (lawCx prog w (ghostOf h tabs) mg mb N0 ns bA lA) where
  fn := fun f hf => by
    obtain ⟨a, o, name, qual, doc, pm, an, cdv, ct, e1, e2, e3, c', oc, vs, t, q1, q2, q3, q4⟩ := fnAt_has (Y.fns f hf)
    exact ⟨a, o, name, qual, doc, pm, an, cdv, ct, refAt_mg T.g e1, ghost_get hT e2 (fun q => by rw [q] at e3; cases e3), e3, c', oc, vs, t, q1, ghost_get hT q2 (fun q => by rw [q] at q3; cases q3; cases q4), q3, q4⟩
  no := fun f hf => by
    have e := List.all_eq_true.mp free_at f (.tail _ hf)
    simp only [Bool.not_eq_true', List.contains_eq_mem, decide_eq_false_iff_not, List.mem_append, not_or] at e
    obtain ⟨⟨⟨⟨a1, a2⟩, a3⟩, a4⟩, a5⟩ := e
    exact T.free _ a1 a2 a3 a4 a5
  R0 := by
    have e := Y.refs
    simp only [theRefs, List.map_cons, List.map_nil, List.cons.injEq, and_true] at e
    exact ⟨_, refAt_mg T.g e.2.1, .tuple (n := 0) (.head _) (.cons (.int _ _) (.cons (.int _ _) .nil))⟩
  R1 := by
    have e := Y.refs
    simp only [theRefs, List.map_cons, List.map_nil, List.cons.injEq, and_true] at e
    exact ⟨_, refAt_mg T.g e.2.2.1, .tuple (n := 0) (.tail _ (.head _)) (.cons (.int _ _) (.cons (.int _ _) .nil))⟩
  MM := by
    obtain ⟨v, e1, e2⟩ := T.const _ _ mm_at
    have e3 := e2 h
    cases e3
    exact ⟨_, e1, .int _ _⟩
  short := by
    show (ns.take 16).length ≤ 16
    rw [List.length_take]; exact Nat.min_le_left _ _
  X := by
    have e := Y.refs
    simp only [theRefs, List.map_cons, List.map_nil, List.cons.injEq, and_true] at e
    exact ⟨_, refAt_mg T.g e.2.2.2, .tuple (n := 0) (.tail _ (.tail _ (.head _))) (.cons (.str _ _) (.cons (.str _ _) .nil))⟩
end
end Mine
set_option maxRecDepth 100000
set_option maxHeartbeats 400000
namespace Mine
open PySem PySem.W PyProof.Rows PySem.Calls PySem.Spec
section
variable {h : Heap} {mg mb : Str → Option Value} {mean : ExcName → Option Value} {prog : Program} {w : World} {ns : List Int} {bA lA : Addr} {tabs : List (Addr × Addr)}
theorem ns_str {P : Params} : StrKeys (nsVals P) := by
  intro e he
  simp only [nsVals, Array.mem_def, List.mem_cons, List.not_mem_nil, or_false] at he
  rcases he with rfl | rfl | rfl | rfl | rfl | rfl <;> exact ⟨_, _, rfl⟩
theorem ns_init {P : Params} : nsFind (nsVals P) "__init__" = some (.ref 28) := by kernel_rfl
theorem ns_none {P : Params} : nsFind (nsVals P) "__setattr__" = none ∧ nsFind (nsVals P) "kind" = none ∧ nsFind (nsVals P) "text" = none ∧ nsFind (nsVals P) "__getattribute__" = none ∧ nsFind (nsVals P) "__getattr__" = none :=
  ⟨by kernel_rfl, by kernel_rfl, by kernel_rfl, by kernel_rfl, by kernel_rfl⟩
theorem exc_of (T : Top viewQ (looseW viewQ looseQ) mean mg mb h) (Y : SaysH w.params h) (hT : TabsAt tabs h) : Nonempty (Exc (lawCx prog w (ghostOf h tabs) mg mb N0 ns bA lA)) := by
  have e := Y.refs
  simp only [theRefs, List.map_cons, List.map_nil, List.cons.injEq, and_true] at e
  have e31 : h.get? 31 = some oCls := K_get Y rfl
  have e30 : h.get? 30 = some { cls := .type "dict", data := .dict (nsVals w.params) 3 } := K_get Y rfl
  have e28 : h.get? 28 = some (oInit w.params) := K_get Y rfl
  have e27 : h.get? 27 = some { cls := .type "code", data := .fields cVals } := K_get Y rfl
  have fr := List.all_eq_true.mp free_at "Exception" (.head _)
  simp only [Bool.not_eq_true', List.contains_eq_mem, decide_eq_false_iff_not, List.mem_append, not_or] at fr
  obtain ⟨⟨⟨⟨a1, a2⟩, a3⟩, a4⟩, a5⟩ := fr
  exact ⟨{ C := 31, N := 30, fI := 28, nm := "CasFail", q := "CasFail", bs := [.type "Exception"], sn := [], sub := [], ab := false, col := none, dd := none, k0 := some (.ref 15), k1 := none, k2 := some (.str "CasFail" 189), k3 := some (.str "CasFail" 197), k5 := some (.bool true), mN := nsFind (nsVals w.params), obj := ghost_get hT e31 (fun q => by cases q), ns := ⟨_, _, _, ghost_get hT e30 (fun q => by cases q), rfl, ns_str, fun _ => rfl⟩, init := ns_init, quiet := ns_none, bound := refAt_mg T.g e.1, noexc := T.free _ a1 a2 a3 a4 a5, fn := ⟨oInit w.params, "__init__", "CasFail.__init__", .none, .str "cas.errors" 187, none, .ref 27, .none, ghost_get hT e28 (fun q => by cases q), rfl, rfl, 27, _, cVals, 202, rfl, ghost_get hT e27 (fun q => by cases q), rfl, rfl⟩}⟩

theorem lam_of (T : Top viewQ (looseW viewQ looseQ) mean mg mb h) (hT : TabsAt tabs h) {f : String} {a Pt c : Addr} {o : Obj} {pm doc : Value} (e1 : mg (Str.ofString f) = some (.ref a)) (e2 : h.get? a = some o)
    (e3 : o.data = .func (docDef (Str.ofString f) (fn (Str.ofString f)).1 (fn (Str.ofString f)).2.1 (fn (Str.ofString f)).2.2 pm (.ref c) doc)) (e4 : h.CodeRec (.ref c) (Str.ofString f)) (hm : (c, Pt) ∈ tabs) (hne : Pt ≠ bA) :
    LamAt (lawCx prog w (ghostOf h tabs) mg mb N0 ns bA lA) f Pt := by
  have hd := (hT _ hm).1
  have hP := (hT _ hm).2
  obtain ⟨bm, ob, b1, b2, b3, b4, b5, b6⟩ := T.bmain
  obtain ⟨og, es, ep, g1, g2, g3⟩ := T.g
  obtain ⟨c', oc, vs, t, q1, q2, q3, q4⟩ := e4
  refine ⟨⟨a, o, _, _, doc, pm, none, c, .none, e1, ghost_get hT e2 (fun q => by rw [q] at e3; cases e3), e3, ⟨c', oc, vs, t, q1, ghost_get hT q2 (fun q => by rw [q] at q3; cases q3; cases q4), q3, q4⟩, ?_⟩,
    ⟨bm, ob, b1, b2, fun q => ?_, fun q => ?_, ghost_get hT b3 (fun q => by rw [q] at b6; cases b6), b4, b5, b6⟩, fun q => ?_, hideAll_none _ (List.mem_map_of_mem (f := (·.2)) hm), fun q => ?_⟩
  · obtain ⟨o, vs, file, tf, flags, tg, inF, text, tt, e1, r1, r⟩ := hd
    exact ⟨o, vs, file, tf, flags, tg, inF, text, tt, ghost_get hT e1 (fun q => by rw [q] at r1; cases r1), r1, r⟩
  · rw [q, g1] at b3; cases b3; rw [g2] at b6; cases b6
  · have hP' : h.get? Pt = some (tabObj #[]) := hP
    rw [q, hP'] at b3; cases b3; cases b6
  · have hP' : h.get? Pt = some (tabObj #[]) := hP
    rw [← q, g1] at hP'; cases hP'; cases g2
  · rcases List.mem_cons.mp q with q | q
    · exact hne q
    · cases q
end

theorem walk_core {w : World} {s₀ s₁ : Shared} {mg mb : Str → Option Value} (T : Top viewQ (looseW viewQ looseQ) (ExcName.means s₀.heap) mg mb s₁.heap) (Y : SaysH w.params s₁.heap) {fa : Addr} {o : Obj} {pm cd doc : Value}
    (ho : s₁.heap.get? fa = some o) (hd : o.data = .func (docDef theRow.name (fn (Str.ofString "law")).1 (fn (Str.ofString "law")).2.1 (fn (Str.ofString "law")).2.2 pm cd doc)) (hcd : s₁.heap.CodeRec cd theRow.name) (hg : s₁.gens = #[])
    {ns : List Int} {wl : Addr} {vs : List Value} (hL : s₁.heap.IsList wl vs.toArray) (hI : IntsAre vs ns) (hlen : ns.length ≤ 63) (hdr : drawsOk (ns.take 16) = true) :
    codeAny (model theRow.prog w) callerA (.call (.ref fa) ⟨[.ref wl], []⟩) (GoodWG theRow.claim (classAt s₀.heap) (ExcName.means s₀.heap) [ofPy (.list (ns.map .int))] s₁) s₁ := by
  obtain ⟨a1, o1, pm1, c1, P1, doc1, x1, x2, x3, x4, x5, x6, x7⟩ := tab_mg T (f := "_law_root_right") (by decide)
  obtain ⟨a2, o2, pm2, c2, P2, doc2, y1, y2, y3, y4, y5, y6, y7⟩ := tab_mg T (f := "_law_refused_right") (by decide)
  have hne : P1 ≠ P2 := fun q => by
    rw [Y.t1] at x7; rw [Y.t2] at y7
    cases x7; cases y7; exact absurd q (by decide)
  have hT : TabsAt [(c1, P1), (c2, P2)] s₁.heap := fun q hq => by
    rcases List.mem_cons.mp hq with rfl | hq
    · exact ⟨x5, x6⟩
    · rcases List.mem_cons.mp hq with rfl | hq
      · exact ⟨y5, y6⟩
      · cases hq
  refine kn_post hT (fun _ _ => rfl) ?_
  refine call_fullW (name := theRow.name) (params := (fn (Str.ofString "law")).1) (body := (fn (Str.ofString "law")).2.1) (scope := (fn (Str.ofString "law")).2.2) (binds := [("script", .ref wl)]) (dV := .none) (kV := .none) (by decide) ho hd T.nolimit hcd (BindsTo.of_eq rfl) (locs rfl) fun h₁ F => ?_
  have F' := ghost_fr hT F
  have KB := (ghost_below hT).push (name := theRow.name) (scope := (fn (Str.ofString "law")).2.2) (a := fa) (cd := cd) F'
  have hN0 : ∀ p ∈ N0, (ghostOf s₁.heap [(c1, P1), (c2, P2)]).get? p.1 = some p.2 ∧ isSeq p.2 := fun p hp => by
    rcases List.mem_cons.mp hp with rfl | hp
    · exact ⟨ghost_get hT (K_get Y rfl) (fun q => by cases q), _, _, rfl⟩
    · rcases List.mem_cons.mp hp with rfl | hp
      · exact ⟨ghost_get hT (K_get Y rfl) (fun q => by cases q), _, _, rfl⟩
      · rcases List.mem_cons.mp hp with rfl | hp
        · exact ⟨ghost_get hT (K_get Y rfl) (fun q => by cases q), _, _, rfl⟩
        · cases hp
  have lt1 : s₁.heap.objs.size ≠ P1 := fun q => by rw [← q, get_size] at x6; cases x6
  have lt2 : s₁.heap.objs.size ≠ P2 := fun q => by rw [← q, get_size] at y6; cases y6
  have hE : EnvOk (fn (Str.ofString "law")).2.2.names (envOf theRow.name (fn (Str.ofString "law")).2.2 s₁.heap.objs.size fa cd) := ⟨rfl, rfl, rfl, rfl, fun x y c hx => by cases hx⟩
  have hfr : (callerA.deeper (envOf theRow.name (fn (Str.ofString "law")).2.2 s₁.heap.objs.size fa cd)).frames = some [envOf theRow.name (fn (Str.ofString "law")).2.2 s₁.heap.objs.size fa cd] := Around.frames_deeper rfl
  have hA : Room 25 (callerA.deeper (envOf theRow.name (fn (Str.ofString "law")).2.2 s₁.heap.objs.size fa cd)) := by
    refine ⟨rfl, ?_, ?_⟩
    · show 1 + claimMargin + 1 + 25 < 600; decide
    · exact Nat.le_of_ble_eq_true (by kernel_rfl)
  have hFF := KB.frames
  have hloc : (envOf theRow.name (fn (Str.ofString "law")).2.2 s₁.heap.objs.size fa cd).locals = s₁.heap.objs.size := rfl
  have hfrm : (envOf theRow.name (fn (Str.ofString "law")).2.2 s₁.heap.objs.size fa cd).frame = some s₁.heap.objs.size := rfl
  generalize envOf theRow.name (fn (Str.ofString "law")).2.2 s₁.heap.objs.size fa cd = env at hE hfr hA hFF hloc hfrm ⊢
  generalize callerA.deeper env = A at hfr hA ⊢
  refine law_walk (s := { s₁ with heap := h₁, toks := s₁.toks + ([(("script" : Str), Value.ref wl)] : List (Str × Value)).length }) (g := s₁.heap) (wl := wl) (N₀ := N0) (ns := ns) (ghost_ns hT T.g) (ghost_ns hT T.b) ?_ T.builtins hN0 (fun bA lA => mods_of T Y hT hlen) (fun bA lA => exc_of T Y hT) (fun bA lA q => lam_of T hT x1 x2 x3 x4 (.head _) q) (fun bA lA q => lam_of T hT y1 y2 y3 y4 (.tail _ (.head _)) q)
    hE hloc hfrm hfr hFF hA F' ?_ ?_ hI hlen (get_size _) ?_ ?_ ?_ hne lt1 lt2 hdr fun s' p1 p2 b1 b2 b3 b4 b5 => ?_
  · obtain ⟨mc, q1, q2⟩ := T.nolimit
    exact ⟨mc, ghost_ns hT q1, q2⟩
  · rfl
  · obtain ⟨o, q1, q2⟩ := hL
    exact ⟨o, F.keep _ _ q1, q2⟩
  · exact fun b o e => ⟨o, F.keep b o e⟩
  · exact F.keep _ _ x6
  · exact F.keep _ _ y6
  · refine ⟨⟨.inl ⟨_, .bool true, [], rfl, fun _ => rfl, .bool true, (by kernel_rfl), fun _ => ⟨.nil, fun _ h => by cases h⟩⟩, b1, b3, b2.trans hg⟩, ⟨p1, b4⟩, ⟨p2, b5⟩, trivial⟩
end Mine
set_option maxRecDepth 100000
set_option maxHeartbeats 400000
namespace Mine
open PySem PySem.W PyProof.Rows PySem.Calls PySem.Spec
theorem all_lt {n : Nat} {p : Nat → Bool} (h : (List.range n).all p = true) {i : Nat} (hi : i < n) : p i = true := List.all_eq_true.mp h i (List.mem_range.mpr hi)
theorem num_all : ((List.range 6).all fun i => exactRoot? (numQ i) 2 == some (dueD (numQ i))) = true := by kernel_rfl
theorem calls_all : ((List.range 3).all fun a => (List.range 3).all fun b => callsRight? ((a : Nat) : Int) ((b : Nat) : Int) == some true) = true := by kernel_rfl
theorem refused_all : ((List.range 14).all refused) = true := by kernel_rfl
theorem ck_0_0 : ((List.range 3).all fun l => chk 0 0 l) = true := by kernel_rfl
theorem ck_0_1 : ((List.range 3).all fun l => chk 0 1 l) = true := by kernel_rfl
theorem ck_0_2 : ((List.range 3).all fun l => chk 0 2 l) = true := by kernel_rfl
theorem ck_0_3 : ((List.range 3).all fun l => chk 0 3 l) = true := by kernel_rfl
theorem ck_0_4 : ((List.range 3).all fun l => chk 0 4 l) = true := by kernel_rfl
theorem ck_0_5 : ((List.range 3).all fun l => chk 0 5 l) = true := by kernel_rfl
theorem ck_0_6 : ((List.range 3).all fun l => chk 0 6 l) = true := by kernel_rfl
theorem ck_0_7 : ((List.range 3).all fun l => chk 0 7 l) = true := by kernel_rfl
theorem ck_0_8 : ((List.range 3).all fun l => chk 0 8 l) = true := by kernel_rfl
theorem ck_1_0 : ((List.range 3).all fun l => chk 1 0 l) = true := by kernel_rfl
theorem ck_1_1 : ((List.range 3).all fun l => chk 1 1 l) = true := by kernel_rfl
theorem ck_1_2 : ((List.range 3).all fun l => chk 1 2 l) = true := by kernel_rfl
theorem ck_1_3 : ((List.range 3).all fun l => chk 1 3 l) = true := by kernel_rfl
theorem ck_1_4 : ((List.range 3).all fun l => chk 1 4 l) = true := by kernel_rfl
theorem ck_1_5 : ((List.range 3).all fun l => chk 1 5 l) = true := by kernel_rfl
theorem ck_1_6 : ((List.range 3).all fun l => chk 1 6 l) = true := by kernel_rfl
theorem ck_1_7 : ((List.range 3).all fun l => chk 1 7 l) = true := by kernel_rfl
theorem ck_1_8 : ((List.range 3).all fun l => chk 1 8 l) = true := by kernel_rfl
theorem ck_2_0 : ((List.range 3).all fun l => chk 2 0 l) = true := by kernel_rfl
theorem ck_2_1 : ((List.range 3).all fun l => chk 2 1 l) = true := by kernel_rfl
theorem ck_2_2 : ((List.range 3).all fun l => chk 2 2 l) = true := by kernel_rfl
theorem ck_2_3 : ((List.range 3).all fun l => chk 2 3 l) = true := by kernel_rfl
theorem ck_2_4 : ((List.range 3).all fun l => chk 2 4 l) = true := by kernel_rfl
theorem ck_2_5 : ((List.range 3).all fun l => chk 2 5 l) = true := by kernel_rfl
theorem ck_2_6 : ((List.range 3).all fun l => chk 2 6 l) = true := by kernel_rfl
theorem ck_2_7 : ((List.range 3).all fun l => chk 2 7 l) = true := by kernel_rfl
theorem ck_2_8 : ((List.range 3).all fun l => chk 2 8 l) = true := by kernel_rfl
theorem ck_3_0 : ((List.range 3).all fun l => chk 3 0 l) = true := by kernel_rfl
theorem ck_3_1 : ((List.range 3).all fun l => chk 3 1 l) = true := by kernel_rfl
theorem ck_3_2 : ((List.range 3).all fun l => chk 3 2 l) = true := by kernel_rfl
theorem ck_3_3 : ((List.range 3).all fun l => chk 3 3 l) = true := by kernel_rfl
theorem ck_3_4 : ((List.range 3).all fun l => chk 3 4 l) = true := by kernel_rfl
theorem ck_3_5 : ((List.range 3).all fun l => chk 3 5 l) = true := by kernel_rfl
theorem ck_3_6 : ((List.range 3).all fun l => chk 3 6 l) = true := by kernel_rfl
theorem ck_3_7 : ((List.range 3).all fun l => chk 3 7 l) = true := by kernel_rfl
theorem ck_3_8 : ((List.range 3).all fun l => chk 3 8 l) = true := by kernel_rfl
theorem ck_4_0 : ((List.range 3).all fun l => chk 4 0 l) = true := by kernel_rfl
theorem ck_4_1 : ((List.range 3).all fun l => chk 4 1 l) = true := by kernel_rfl
theorem ck_4_2 : ((List.range 3).all fun l => chk 4 2 l) = true := by kernel_rfl
theorem ck_4_3 : ((List.range 3).all fun l => chk 4 3 l) = true := by kernel_rfl
theorem ck_4_4 : ((List.range 3).all fun l => chk 4 4 l) = true := by kernel_rfl
theorem ck_4_5 : ((List.range 3).all fun l => chk 4 5 l) = true := by kernel_rfl
theorem ck_4_6 : ((List.range 3).all fun l => chk 4 6 l) = true := by kernel_rfl
theorem ck_4_7 : ((List.range 3).all fun l => chk 4 7 l) = true := by kernel_rfl
theorem ck_4_8 : ((List.range 3).all fun l => chk 4 8 l) = true := by kernel_rfl
theorem ck_0 : ∀ {j : Nat}, j < 9 → ((List.range 3).all fun l => chk 0 j l) = true
  | 0, _ => ck_0_0
  | 1, _ => ck_0_1
  | 2, _ => ck_0_2
  | 3, _ => ck_0_3
  | 4, _ => ck_0_4
  | 5, _ => ck_0_5
  | 6, _ => ck_0_6
  | 7, _ => ck_0_7
  | 8, _ => ck_0_8
theorem ck_1 : ∀ {j : Nat}, j < 9 → ((List.range 3).all fun l => chk 1 j l) = true
  | 0, _ => ck_1_0
  | 1, _ => ck_1_1
  | 2, _ => ck_1_2
  | 3, _ => ck_1_3
  | 4, _ => ck_1_4
  | 5, _ => ck_1_5
  | 6, _ => ck_1_6
  | 7, _ => ck_1_7
  | 8, _ => ck_1_8
theorem ck_2 : ∀ {j : Nat}, j < 9 → ((List.range 3).all fun l => chk 2 j l) = true
  | 0, _ => ck_2_0
  | 1, _ => ck_2_1
  | 2, _ => ck_2_2
  | 3, _ => ck_2_3
  | 4, _ => ck_2_4
  | 5, _ => ck_2_5
  | 6, _ => ck_2_6
  | 7, _ => ck_2_7
  | 8, _ => ck_2_8
theorem ck_3 : ∀ {j : Nat}, j < 9 → ((List.range 3).all fun l => chk 3 j l) = true
  | 0, _ => ck_3_0
  | 1, _ => ck_3_1
  | 2, _ => ck_3_2
  | 3, _ => ck_3_3
  | 4, _ => ck_3_4
  | 5, _ => ck_3_5
  | 6, _ => ck_3_6
  | 7, _ => ck_3_7
  | 8, _ => ck_3_8
theorem ck_4 : ∀ {j : Nat}, j < 9 → ((List.range 3).all fun l => chk 4 j l) = true
  | 0, _ => ck_4_0
  | 1, _ => ck_4_1
  | 2, _ => ck_4_2
  | 3, _ => ck_4_3
  | 4, _ => ck_4_4
  | 5, _ => ck_4_5
  | 6, _ => ck_4_6
  | 7, _ => ck_4_7
  | 8, _ => ck_4_8
theorem ck_all : ∀ {i j : Nat}, i < 5 → j < 9 → ((List.range 3).all fun l => chk i j l) = true
  | 0, _, _, h => ck_0 h
  | 1, _, _, h => ck_1 h
  | 2, _, _, h => ck_2 h
  | 3, _, _, h => ck_3 h
  | 4, _, _, h => ck_4 h
theorem draws_ok (ns : List Int) : drawsOk ns = true := by
  unfold drawsOk
  have h1 : drawV ns 0 6 < 6 := drawV_lt _ _ _ (by decide)
  have h2 : drawV ns 1 5 < 5 := drawV_lt _ _ _ (by decide)
  have h3 : drawV ns 2 9 < 9 := drawV_lt _ _ _ (by decide)
  have h4 : drawV ns 3 3 < 3 := drawV_lt _ _ _ (by decide)
  have h5 : drawV ns 4 4 < 4 := drawV_lt _ _ _ (by decide)
  have h6 : drawV ns 5 3 < 3 := drawV_lt _ _ _ (by decide)
  have h7 : drawV ns 6 3 < 3 := drawV_lt _ _ _ (by decide)
  have h8 : drawV ns 7 3 < 3 := drawV_lt _ _ _ (by decide)
  have h9 : drawV ns 8 14 < 14 := drawV_lt _ _ _ (by decide)
  have e1 := all_lt num_all h1
  have e2 := all_lt (ck_all h2 h3) h4
  unfold chk at e2
  have e3 := all_lt (all_lt e2 h5) h6
  have e4 := all_lt (all_lt calls_all h7) h8
  have e5 := all_lt refused_all h9
  rw [Bool.and_eq_true, Bool.and_eq_true, Bool.and_eq_true]
  exact ⟨⟨⟨e1, e3⟩, e4⟩, e5⟩
end Mine
set_option maxRecDepth 100000
set_option maxHeartbeats 0
namespace Mine
open PySem PySem.W PyProof.Rows PySem.Calls PySem.Spec
/-! the row's own look at the text, in parts -/
theorem said_road : noRoadLSs { strict := true, foot := some PySem.Challenge.rw_pf0052_01.bound', writes := PySem.Challenge.rw_pf0052_01.writes, may := PySem.Challenge.rw_pf0052_01.may } PySem.Challenge.rw_pf0052_01.footing = true := by
  rewrite [PySem.W.Fast.te8326940854005059898]
  kernel_rfl
theorem said_resolve : namesResolve theRow.prog = true := by
  rewrite [PySem.W.Fast.te8377067652309620493]
  kernel_rfl
theorem said_body : noRoadLSs { strict := !(importedModules theRow.prog.main.body).all cThrough.contains, foot := none, bare := (["vars", "dir", "locals"] : List Str).filter (readsOut theRow.prog theRow.prog.main.body) } theRow.prog.main.body = true := by
  rewrite [PySem.W.Fast.te8326940854005059898, PySem.W.Fast.te13343964577679436407, PySem.W.Fast.te5923862056798008813]
  kernel_rfl
theorem said_meet : namesMeet theRow.prog theRow.prog.main.body (fun _ n => attrL n) = true := by
  rewrite [PySem.W.Fast.te17119622794617984870, PySem.W.Fast.te17868728402115742887]
  kernel_rfl
theorem said_row : PySem.Challenge.rw_pf0052_01.row.wellSaid = true := by
  show theRow.wellSaid = true
  unfold OpenRow.wellSaid OpenRow.partSaid looksOpen
  rewrite [said_resolve, said_body, said_meet, PySem.W.Fast.te18344453789297297638, PySem.W.Fast.te12749700546528644094, PySem.W.Fast.te14412699480532031325, PySem.W.Fast.te11788848310118352699, PySem.W.Fast.te13582783067957832011]
  kernel_rfl
theorem law_said : OpenLaw.wellSaid PySem.Challenge.rw_pf0052_01 = true := by
  unfold OpenLaw.wellSaid
  rewrite [said_row, said_road, PySem.W.Fast.te17119622794617984870, PySem.W.Fast.te8179353310426384613, PySem.W.Fast.te10501279942588096481, PySem.W.Fast.te9558739934217749035, PySem.W.Fast.te16286561074155671207, PySem.W.Fast.te6984425678791042302, PySem.W.Fast.te10792542408131684335]
  kernel_rfl
end Mine
set_option maxRecDepth 100000
set_option maxHeartbeats 400000
namespace Mine
open PySem PySem.W PyProof.Rows PySem.Calls PySem.Spec
theorem the_walk (hdr : ∀ ns, drawsOk ns = true) : WalkO viewQ looseQ (XL viewQ []) theHook.says theRow.toRowW ⟨theRow.name, (fn (Str.ofString "law")).1, (fn (Str.ofString "law")).2.1, (fn (Str.ofString "law")).2.2, ((recsOf viewQ).find? (fun d => d.name == Str.ofString "law")).elim default (·.pos)⟩ [] (fun f vs => PySem.call f vs) := by
  intro w s₀ s₁ mg mb G Y fa o pm cd doc dV kV ho hd hcd hD hmg hg args vals as hpre hlay hrd hwl hlo
  have T := G.T
  wrow_args hpre hlay hrd hwl hlo
  rename_i ns _ _ _ _ _ _ _ wl vs _ hL _ _ _ hI _ hlen _
  have he := Dflts.none hD rfl
  subst he
  have he := Dflts.noKw hD
  subst he
  exact enter_call (walk_core T Y ho hd hcd hg hL hI (by omega) (hdr _))
end Mine
open PySem PySem.W PyProof.Rows PySem.Calls PySem.Spec
set_option maxRecDepth 100000
theorem PySem.Challenge.cw_pf0052_01_holds : PySem.Challenge.rw_pf0052_01.Holds := by
  refine holds_law Mine.law_said fun said => ?_
  refine holds_open (r := Mine.theRow) (q := Mine.viewQ) (loose := Mine.looseQ) (Xt := Mine.xtQ) (XP := XL Mine.viewQ []) (Yf := Mine.theHook.obs) (Ya := Mine.theHook.val) (YP := Mine.theHook.says) (N := 3890) Mine.left_head Mine.theHook.of Mine.theHook.keeps (fun s e => xl_of s (Bool.and_eq_true_iff.mp e).1) XL.keeps Mine.law_def (by kernel_rfl) (by kernel_rfl) (fun s e => recFacts_of (Bool.and_eq_true_iff.mp e).2) (by rfl) said (by decide +kernel) ⟨rfl, rfl, rfl, rfl, rfl, by decide +kernel⟩ ?hw ?hc
  case hw => exact ⟨[ofPy (.list [])], by decide +kernel, by decide +kernel⟩
  case hc => exact Mine.the_walk Mine.draws_ok
