import PyProof.Rows.All
import Wide.All
import OpenK.AllK
import Wide.FinOn
import HandS.ForMost
import HandS.AnyAll
import HandS.GenOver
import HandS.IsInst
import KE.DataEq
import HandS.TupAny
import HandS.HeadHook4
import PySem.Challenge.RW_textstaged_k00_whole_programs
import HandS.DictComp
import HandS.HeadWalk
import HandS.Head0
import HandS.Head1
import HandS.Head2
import HandS.HeadEnd
set_option Elab.async false
set_option linter.all false
set_option maxRecDepth 100000
set_option maxHeartbeats 4000000
namespace KX
open PySem PySem.Spec PyProof.Rows L2

/-- the context of a generator expression's frame; s, H: the state in which it was made -/
abbrev gblk (X : Cx) (s : Shared) (H : Hp) (A : Around) (env : Env) (fp : List Addr) : Cx :=
  { X with A := A, s_0 := s, H_0 := H, env := env, outer := X.stack, stack := env :: X.stack, ex := fp, fn := fun _ => false, pn := [], xe := fun _ _ => False }

structure GEnv (X : Cx) (scope : Scope) (C : Addr) (env : Env) : Prop where
  sc : env.scope = scope
  lo : env.locals = C
  ce : env.cells = cloFrom X.env.cells scope.names []
  gl : env.globals = mainGlobals
  bl : env.builtins = builtinsNs
  fr : env.frame = some C

section
variable {X : Cx} {pins : List (Addr × Obj)} {σ : L2.St} {H : Hp} {s : Shared}

theorem nofr (I : Inv X pins σ H s) {b : Addr} (h : s.heap.objs.size ≤ b) : b ∉ frs X.stack := fun z => by
  have q := I.stkSub _ z
  rcases List.mem_cons.mp q with e | e
  · exact Nat.lt_irrefl _ (Nat.lt_of_lt_of_le (e ▸ I.lt) h)
  · exact I.nofs h e

theorem gen_start {scope : Scope} {own : List (Str × Nat)} {fp : List Addr} {A : Around} {env : Env} {a : Addr} {og : Obj} {s5 : Shared} {m : Str → Option Value}
    (I : Inv X pins σ H s) (ok : BlkOk X.N X.env.scope scope own) (hN : X.N.Nodup) (nc : ∀ y ∈ scope.names, y.2 ≠ .cell) (G : GEnv X scope s.heap.objs.size env)
    (hA : A.handled = none) (hF : A.frames = some (env :: X.stack)) (hfp : ∀ b ∈ fp, FpOk X pins H b ∧ b < s.heap.objs.size)
    (kp : ∀ b o, s.heap.get? b = some o → s5.heap.get? b = some o) (hn : s5.heap.Ns s.heap.objs.size m) (ha : s.heap.objs.size < a) (eo : s5.heap.get? a = some og) (nd : ∀ v, og.data ≠ .cell v)
    (os : s5.os = s.os) (bare : AllBare s5.gens) : Inv (gblk X s H A env fp) [(a, og)] (wipe σ (own.map (·.2))) H s5 := by
  have cm : ∀ {y c}, env.cells.lookup y = some c → X.env.cells.lookup y = some c ∧ scope.names.lookup y = some .free := by
    intro y c e
    rw [G.ce] at e
    have q1 := PySem.mem_of_lookup e
    rcases cloFrom_mem q1 with q | ⟨q, e2⟩
    · cases q
    · have u := ok.uniq _ q
      have : ∃ c', X.env.cells.lookup y = some c' := by
        rcases ok.free _ q rfl with k | k
        · exact I.ok.has _ (.inl k)
        · exact I.ok.has _ (.inr k)
      obtain ⟨c', ec⟩ := this
      rw [ec] at e2
      subst e2
      exact ⟨ec, u⟩
  have fr : ∀ {y}, scope.names.lookup y = some .free → ∃ c, env.cells.lookup y = some c := by
    intro y e
    have q1 := PySem.mem_of_lookup e
    obtain ⟨c, ec⟩ := mem_lookup (cloFrom_has (cells := X.env.cells) (acc := []) q1)
    exact ⟨c, by rw [G.ce]; exact ec⟩
  have lt : ∀ {b u}, s.heap.get? b = some u → b < s.heap.objs.size := fun e => Heap.lt_size e
  have okB : (gblk X s H A env fp).Ok := by
    refine { mod := I.ok.mod, kind := ?_, glob := G.gl, blt := G.bl, above := ?_, inj := ?_, has := ?_, cab := ?_, hd := fun _ => hA, frames := hF, stk := .inr ⟨rfl, ?_⟩, exf := ?_, bs := I.bs, bsz := Nat.le_trans I.ok.bsz I.sz, noex := ?_, exfs := ?_, funs := I.stack, frf := I.stkFree }
    · show env.scope.kind = _
      rw [G.sc, ok.kind]
    · show s.heap.objs.size ≤ env.locals
      rw [G.lo]
      exact Nat.le_refl _
    · intro y z c h1 h2
      exact I.ok.inj y z c (cm h1).1 (cm h2).1
    · intro y hy
      have hy : scope.names.lookup y = some .cell ∨ scope.names.lookup y = some .free := by
        rw [← G.sc]
        exact hy
      rcases hy with k | k
      · exact absurd rfl (nc _ (PySem.mem_of_lookup k))
      · exact fr k
    · intro y c z
      cases z
    · show env.frame = some env.locals
      rw [G.fr, G.lo]
    · intro b hb
      refine ⟨?_, fun y c e z => (hfp b hb).1.2.2.2.2.1 y c (cm e).1 z⟩
      show b ≠ env.locals
      rw [G.lo]
      exact Nat.ne_of_lt (hfp b hb).2
    · intro b o e hb
      rcases (hfp b hb).1.2.2.2.1 with z | z
      · exact I.ok.noex b o e z
      · exact Nat.lt_irrefl _ (Nat.lt_of_lt_of_le (Heap.lt_size e) (Nat.le_trans I.ok.bsz z))
    · intro b hb z
      rcases List.mem_cons.mp (I.stkSub b z) with z | z
      · exact (hfp b hb).1.2.1 z
      · exact (hfp b hb).1.2.2.1 z
  refine { ok := okB, os := os, bare := bare, base := Un.kept kp, loc := ⟨m, ?_, ?_⟩, cell := ?_, free := ?_, freeC := ?_, pin := ?_, hok := I.hok.kept kp, len := ?_ }
  · show s5.heap.Ns env.locals m
    rw [G.lo]
    exact hn
  · intro i y v e1 e2 e3
    obtain ⟨e2, hne⟩ := wipe_some e2
    have e3 : Vis scope y := by
      rw [← G.sc]
      exact e3
    have nl : scope.names.lookup y ≠ some .local := fun k => by
      rcases ok.own _ (PySem.mem_of_lookup k) (.inl rfl) with e' | e'
      · obtain ⟨p, hp, hpy⟩ := List.mem_map.mp e'
        have e4 := ok.ix p hp
        have hpy : p.1 = y := hpy
        rw [hpy] at e4
        exact hne (List.mem_map.mpr ⟨p, hp, nodup_ix hN e4 e1⟩)
      · exact e' (List.mem_of_getElem? e1)
    have hf : scope.names.lookup y = some .free := by
      rcases e3 with k | k | k
      · exact absurd k nl
      · exact absurd rfl (nc _ (PySem.mem_of_lookup k))
      · exact k
    obtain ⟨m0, _, hl⟩ := I.loc
    have out := ok.free _ (PySem.mem_of_lookup hf) rfl
    obtain ⟨u, r, q⟩ := hl i y v e1 e2 (.inr out)
    obtain ⟨c, hc⟩ := fr hf
    refine ⟨u, r, .inr ⟨.inr ?_, c, hc, ?_⟩⟩
    · show env.scope.names.lookup y = _
      rw [G.sc, hf]
    · rcases q with ⟨k, _⟩ | ⟨_, c', e', z⟩
      · have k : X.env.scope.names.lookup y = some .local := k
        rcases out with o | o
        · rw [k] at o
          cases o
        · rw [k] at o
          cases o
      · rw [(cm hc).1] at e'
        cases e'
        exact z.keeps kp
  · intro y c e
    obtain ⟨v, z⟩ := I.cell y c (cm e).1
    exact ⟨v, z.keeps kp⟩
  · show H env.locals = none
    rw [G.lo]
    exact I.hok.fresh (Nat.le_refl _)
  · intro y c e
    exact I.freeC y c (cm e).1
  · intro p hp
    have hp : p ∈ ([] : List (Addr × Obj)) ++ [(a, og)] := hp
    obtain rfl : p = (a, og) := by simpa using hp
    refine ⟨eo, I.hok.fresh (Nat.le_of_lt ha), ?_, nofr I (Nat.le_of_lt ha), nd⟩
    show a ≠ env.locals
    rw [G.lo]
    exact Nat.ne_of_gt ha
  · rw [wipe_length]
    exact I.len
end

/-! ### the turns of the generator -/
abbrev gcode (elt tg iter : Expr) (scope : Scope) (pos : Pos) (it : Addr) (env : Env) : Code := .compLoop (.GeneratorExp elt [⟨tg, iter, [], 0⟩] scope pos) 0 (.ref it) .none env
abbrev gstart (elt tg iter : Expr) (scope : Scope) (pos : Pos) (it : Addr) (env : Env) : Code := .compStart (.GeneratorExp elt [⟨tg, iter, [], 0⟩] scope pos) 0 (.ref it) .none env
def gR (n : Nat) (Fi : Nat → Shared → Prop) : GenEnd := fun m _ r s1 => r = .ok .next ∧ Fi (n - m) s1
def gY (n : Nat) (St : Nat → Shared → Prop) (Yd : Nat → Value → Shared → Prop) : Protocol := fun m _ v s kap => m < n ∧ Yd (n - 1 - m) v s ∧ ∀ s2, St (n - m) s2 → kap (.send .none) s2
abbrev NoX : Value → Shared → Prop := fun _ _ => False

section
variable {prog : Program} {w : World} {A : Around} {elt tg iter : Expr} {scope : Scope} {pos : Pos} {it : Addr} {env : Env} {n : Nat} {St : Nat → Shared → Prop} {Yd : Nat → Value → Shared → Prop} {Fi : Nat → Shared → Prop}
/-- what one turn does -/
def GTurn (M : Model) (B : Around) (elt tg : Expr) (it : Addr) (env : Env) (n : Nat) (St : Nat → Shared → Prop) (Yd : Nat → Value → Shared → Prop) (Fi : Nat → Shared → Prop) : Prop :=
  ∀ i s, St i s → wpAny M B (pyNext (.ref it)) (fun r s1 => match r with
    | none => Fi i s1
    | some v => i < n ∧ wpAny M B (letOwnedTupleGo tg (.ref it) v) (fun _ s2 => wpAny M B (assign tg env v) (fun _ s3 => wpAny M B (eval elt env) (Yd i) NoX s3) NoX s2) NoX s1) NoX s
theorem no_x {α : Type} {M : Model} {t : Sem α} {Q : α → Shared → Prop} {E : Value → Shared → Prop} {s : Shared} (h : wpAny M A t Q NoX s) : wpAny M A t Q E s := wpAny_mono h (fun _ _ q => q) fun _ _ z => z.elim
theorem seg_turns (hco : env.scope.isCoroutine = false) (turn : GTurn (model prog w) (A.over (gcode elt tg iter scope pos it env) []) elt tg it env n St Yd Fi) :
    ∀ (k i : Nat) (s0 s : Shared), n - i = k → i ≤ n → St i s →
      Seg (model prog w) A (gR n Fi) (gY n St Yd) k s0 (gcode elt tg iter scope pos it env) ((model prog w).den (gcode elt tg iter scope pos it env)) [] s := by
  have hy : ∀ v, yieldOut env v = yieldValue v := fun v => by
    simp only [yieldOut, hco, Bool.false_eq_true, if_false]
  intro k
  induction k with
  | zero =>
    intro i s0 s hk hi hst
    show Seg _ A _ _ 0 s0 _ ((compTurn (.GeneratorExp elt [⟨tg, iter, [], 0⟩] scope pos) 0 (.ref it) .none env).onRaise (leaving env)) [] s
    rw [compTurn_gen, Sem.onRaise_eq_wrap]
    refine seg_bind_wrap (wpAny_standAt (seg_bind_wrap (wpAny_mono (turn i s hst) (fun r s1 h1 => ?_) fun _ _ z => z.elim)))
    cases r with
    | none =>
      have e0 : n - 0 = i := by omega
      exact seg_end (.ok .next) ⟨rfl, by rw [e0]; exact h1⟩
    | some v =>
      have : i < n := h1.1
      omega
  | succ k ih =>
    intro i s0 s hk hi hst
    show Seg _ A _ _ (k + 1) s0 _ ((compTurn (.GeneratorExp elt [⟨tg, iter, [], 0⟩] scope pos) 0 (.ref it) .none env).onRaise (leaving env)) [] s
    rw [compTurn_gen, Sem.onRaise_eq_wrap]
    refine seg_bind_wrap (wpAny_standAt (seg_bind_wrap (wpAny_mono (turn i s hst) (fun r s1 h1 => ?_) fun _ _ z => z.elim)))
    cases r with
    | none =>
      have e0 : n - (k + 1) = i := by omega
      exact seg_end (.ok .next) ⟨rfl, by rw [e0]; exact h1⟩
    | some v =>
      have lt : i < n := h1.1
      refine seg_bind_wrap (wpAny_mono h1.2 (fun _ s2 h2 => ?_) fun _ _ z => z.elim)
      refine seg_bind_wrap (wpAny_mono h2 (fun _ s3 h3 => ?_) fun _ _ z => z.elim)
      refine seg_bind_wrap (wpAny_tests_nil ?_)
      simp only [if_true]
      simp only [hy]
      rw [Sem.bind_eq_wrap', Sem.bind_eq_wrap', Sem.wrap_wrap, Sem.wrap_wrap]
      refine seg_wrap (wpAny_mono h3 (fun y s4 h4 => ?_) fun _ _ z => z.elim)
      have e1 : n - 1 - k = i := by omega
      have e2 : n - k = i + 1 := by omega
      refine seg_at (seg_yield rfl rfl rfl ⟨by omega, by rw [e1]; exact h4, fun s2 hs2 => ?_⟩)
      rw [e2] at hs2
      exact seg_again rfl (ih (i + 1) s2 s2 (by omega) lt hs2)
end
end KX

set_option maxHeartbeats 4000000
namespace KX
open PySem PySem.Spec PyProof.Rows L2
section
variable {prog : Program} {w : World} {A : Around} {elt tg iter : Expr} {scope : Scope} {pos : Pos} {it : Addr} {env : Env} {n : Nat} {St : Nat → Shared → Prop} {Yd : Nat → Value → Shared → Prop} {Fi : Nat → Shared → Prop}
theorem seg_start (hco : env.scope.isCoroutine = false) (turn : GTurn (model prog w) (A.over (gcode elt tg iter scope pos it env) []) elt tg it env n St Yd Fi)
    (self : ∀ (B : Around) (s : Shared) (Q : Value → Shared → Prop) (E : Value → Shared → Prop), St 0 s → Q (.ref it) s → wpAny (model prog w) B (pyIter (.ref it)) Q E s) (s0 s : Shared) (hst : St 0 s) :
    Seg (model prog w) A (gR n Fi) (gY n St Yd) n s0 (gstart elt tg iter scope pos it env) ((model prog w).den (gstart elt tg iter scope pos it env)) [] s := by
  have loop := seg_turns (iter := iter) (scope := scope) (pos := pos) hco turn n 0 s0 s (Nat.sub_zero n) (Nat.zero_le n) hst
  show Seg _ A _ _ n s0 _ ((compStart (.GeneratorExp elt [⟨tg, iter, [], 0⟩] scope pos) 0 (.ref it) .none env).onRaise (leaving env)) [] s
  unfold compStart
  rw [Sem.onRaise_eq_wrap]
  show Seg _ A _ _ n s0 _ ((ask >>= _).wrap _ _ _ _) [] s
  refine seg_bind_wrap (wpAny_askSetting ?_)
  split
  · exact seg_again rfl loop
  · refine seg_bind_wrap (wpAny_rule ?_)
    show Seg _ A _ _ n s0 _ ((standAt iter.pos >>= _).wrap _ _ _ _) [] s
    exact seg_bind_wrap (wpAny_standAt (seg_bind_wrap (self _ s _ _ hst (seg_again rfl loop))))

/-- the generator g sleeps before its turn i -/
def GRdy (M : Model) (A : Around) (g n : Nat) (St : Nat → Shared → Prop) (Yd : Nat → Value → Shared → Prop) (Fi : Nat → Shared → Prop) (i : Nat) (s : Shared) : Prop :=
  ∃ gs, s.gens[g]? = some gs ∧ ∀ s2, St i s2 → gs.Goes M A.in1 (gR n Fi) (gY n St Yd) (n - i) (.send .none) s2

theorem next_gen {a : Addr} {g i : Nat} {s : Shared} {Q : Option Value → Shared → Prop} {E : Value → Shared → Prop} (hh : A.handled = none) (hroom : A.depth < recursionLimit) (hl : s.heap.NoLimit) (hg : s.heap.IsGen a g)
    (R : GRdy (model prog w) A g n St Yd Fi i s) (hi : i ≤ n) (hst : St i (s.setGen g .running))
    (hY : ∀ v s1 gs', i < n → gs'.bare = true → Yd i v s1 → GRdy (model prog w) A g n St Yd Fi (i + 1) (s1.setGen g gs') → Q (some v) (s1.setGen g gs'))
    (hF : ∀ s1 h', Fi i s1 → (∀ b o, s1.heap.get? b = some o → h'.get? b = some o) → Q none { s1.setGen g .finished with heap := h' }) :
    wpAny (model prog w) A (pyNext (.ref a)) Q E s := by
  obtain ⟨gs, e, go⟩ := R
  have g0 : g < s.gens.size := by
    rcases Nat.lt_or_ge g s.gens.size with h | h
    · exact h
    · rw [Array.getElem?_eq_none h] at e
      cases e
  have eF : ∀ s1, Fi (n - (n - i)) s1 → Fi i s1 := fun s1 h => by
    have e : n - (n - i) = i := by omega
    rw [e] at h
    exact h
  refine GenW.wpAny_gsz (Nat.le_refl s.gens.size) (wpAny_pyNext_genexpQ (P := fun m _ s1 => Fi (n - m) s1) (Y := gY n St Yd) (n := n - i) hh hl hroom hg e (go _ hst) (fun v s1 gs' hb hv hsz => ?_) (fun s1 hp h' hk _ => hF s1 h' (eF s1 hp) hk))
  rw [GenW.setGen_size] at hsz
  obtain ⟨h1, h2, h3⟩ := hv
  cases hn : n - i with
  | zero =>
    have : n = i := by omega
    subst this
    rw [hn] at h3
    exact (h3 _ hst).elim
  | succ m =>
    rw [hn] at h2 h3
    have e1 : n - 1 - (m + 1 - 1) = i := by omega
    have e2 : n - (m + 1 - 1) = i + 1 := by omega
    have e3 : n - (i + 1) = m := by omega
    rw [e1] at h2
    rw [e2] at h3
    refine hY v s1 gs' (by omega) hb h2 ⟨gs', ?_, fun s2 hs2 => ?_⟩
    · have : g < s1.gens.size := Nat.lt_of_lt_of_le g0 hsz
      simp [Shared.setGen, this]
    · rw [e3]
      exact h3 s2 hs2
end

theorem bare_set {gens : Array GenState} {g : Nat} {x : GenState} (h : AllBare gens) (hx : x.bare = true) : AllBare (gens.setIfInBounds g x) := by
  intro y hy
  obtain ⟨j, hj, e⟩ := Array.mem_iff_getElem.mp hy
  by_cases q : g = j
  · subst q
    rw [Array.getElem_setIfInBounds_self] at e
    exact e ▸ hx
  · have hj' : j < gens.size := by simpa using hj
    rw [Array.getElem_setIfInBounds_ne hj' q] at e
    exact e ▸ h _ (Array.getElem_mem hj')
section
variable {X : Cx} {pins : List (Addr × Obj)} {σ : L2.St} {H : Hp} {s : Shared}
theorem inv_gen {g : Nat} {x : GenState} (I : Inv X pins σ H s) (hx : x.bare = true) : Inv X pins σ H (s.setGen g x) :=
  ⟨I.ok, I.os, bare_set I.bare hx, I.base, I.loc, I.cell, I.free, I.freeC, I.pin, I.hok, I.len⟩
end

/-! ### the invariant of the turns -/
section
variable (X : Cx) (a : Addr) (og : Obj) (σ : L2.St) (tn : Nat → Heap → Prop) (fp : List Addr) (PL : Nat → List (Addr × Obj) → Prop)
def GSt (W : Nat → Hp → Prop) (i : Nat) (s : Shared) : Prop := ∃ H pl, PL i pl ∧ Inv X ((a, og) :: pl) σ H s ∧ tn i s.heap ∧ (∀ b ∈ fp, H b = none) ∧ W i H
def GYd (Po : Nat → V → Hp → Prop) (i : Nat) (v : Value) (s : Shared) : Prop := ∃ H pl y, PL i pl ∧ Inv X ((a, og) :: pl) σ H s ∧ tn (i + 1) s.heap ∧ (∀ b ∈ fp, H b = none) ∧ RelV y v ∧ Po i y H
def GFi (Qd : Nat → Hp → Prop) (i : Nat) (s : Shared) : Prop := ∃ H pl, PL i pl ∧ Inv X ((a, og) :: pl) σ H s ∧ Qd i H
end

/-- the reading of a generator expression: W ahead of turn i, Po the item, Qd the end -/
def GRead (J : It) (g : TG) (te : TE) (σ : L2.St) (vs : List Nat) (n : Nat) (W : Nat → Hp → Prop) (Po : Nat → V → Hp → Prop) (Qd : Nat → Hp → Prop) : Prop :=
  ∀ i H, W i H → (J.stop i H ∧ Qd i H) ∨ (J.go i H ∧ i < n ∧ ∀ x H', J.yld i H x H' → g x (wipe σ vs) H' fun σ2 H2 => wipe σ2 vs = wipe σ vs ∧ te σ2 H2 fun y H4 => Po i y H4)

theorem gen_turn {X : Cx} {a : Addr} {og : Obj} {σ : L2.St} {vs : List Nat} {tn : Nat → Heap → Prop} {fp : List Addr} {PL : Nat → List (Addr × Obj) → Prop} {J : It} {g : TG} {te : TE} {n : Nat} {W : Nat → Hp → Prop} {Po : Nat → V → Hp → Prop} {Qd : Nat → Hp → Prop} {tg elt : Expr} {it : Addr}
    (hc : X.calm = true) (hpn : X.pn = []) (hxe : X.xe = NoX) (hex : X.ex = fp) (T : Turn X.prog X.w X.K tg J fp it tn) (pg : PG X tg g) (pe : PE X elt te) (hpf : ∀ i pl, PL i pl → ∀ p ∈ (a, og) :: pl, p.1 ∉ fp) (rd : GRead J g te σ vs n W Po Qd) :
    GTurn (model X.prog X.w) X.A elt tg it X.env n (GSt X a og (wipe σ vs) tn fp PL W) (GYd X a og (wipe σ vs) tn fp PL Po) (GFi X a og (wipe σ vs) PL Qd) := by
  rintro i s ⟨H, pl, hpl, I, st, hf, hw⟩
  have fpo : ∀ {σ' : L2.St} {H' : Hp} {s' : Shared}, Inv X ((a, og) :: pl) σ' H' s' → (∀ b ∈ fp, H' b = none) → ∀ b ∈ fp, FpOk X ((a, og) :: pl) H' b := by
    intro σ' H' s' I' hn b hb
    have hb' : b ∈ X.ex := by
      rw [hex]
      exact hb
    refine ⟨hn b hb, (I'.ok.exf b hb').1, I'.ok.exfs b hb', .inl hb', (I'.ok.exf b hb').2, fun p hp e => ?_⟩
    rw [hpn, List.nil_append] at hp
    exact hpf i pl hpl p hp (e ▸ hb)
  rcases rd i H hw with ⟨stop, qd⟩ | ⟨go, lt, step⟩
  · refine wpAny_mono (T.done X rfl rfl rfl hc i _ s _ H NoX I (fpo I hf) st stop) (fun r s1 ⟨hr, I1⟩ => ?_) fun _ _ z => z
    subst hr
    exact ⟨H, pl, hpl, I1, qd⟩
  · refine wpAny_mono (T.item X rfl rfl rfl hc i _ s _ H NoX I (fpo I hf) st go) (fun r s1 ⟨u, hr, h1⟩ => ?_) fun _ _ z => z
    subst hr
    refine ⟨lt, wpAny_mono h1 (fun _ s2 ⟨x, H2, I2, r2, y2, st2, n2⟩ => ?_) fun _ _ z => z⟩
    have J2 := I2.pinned (fpo I2 n2) (T.obj _ _ st2)
    have q3 := pg.run _ s2 _ H2 x u _ J2 r2 (step x H2 y2)
    rw [hxe] at q3
    refine wpAny_mono q3 (fun _ s3 ⟨σ3, H3, I3, w3, q3⟩ => ?_) fun _ _ z => z
    have q4 := pe.run _ s3 σ3 H3 _ I3 q3
    rw [hxe] at q4
    refine wpAny_mono q4 (fun v s4 ⟨y, H4, I4, r4, p4⟩ => ?_) fun _ _ z => z
    have pin4 : ∀ b ∈ fp, ∀ o, s2.heap.get? b = some o → s4.heap.get? b = some o ∧ H4 b = none := fun b hb o e =>
      let z := I4.pin (b, o) (List.mem_append_right _ (List.mem_append_right _ (mem_pinsAt hb e)))
      ⟨z.1, z.2.1⟩
    have hl : (wipe σ vs).length = σ3.length := by rw [← w3, wipe_length]
    refine ⟨H4, pl, y, hpl, I4.unpinned.weak hl (fun j v e => ?_), T.keep _ _ _ st2 fun b hb o e => (pin4 b hb o e).1, fun b hb => ?_, r4, p4⟩
    · rw [← w3] at e
      exact (wipe_some e).1
    · obtain ⟨o, e, _⟩ := T.obj _ _ st2 b hb
      exact (pin4 b hb o e).2
end KX

set_option maxHeartbeats 4000000
namespace KX
open PySem PySem.Spec PyProof.Rows L2

/-- the around of the generator's frame, woken by all, any, sum that X calls -/
def gA (X : Cx) (env : Env) : Around := ⟨X.A.handled, X.A.depth + 1, X.A.frames.map (env :: ·), X.A.guards, X.A.units + 5⟩
theorem gA_over {X : Cx} {elt tg iter : Expr} {scope : Scope} {pos : Pos} {it : Addr} {env : Env} : X.A.in1.in1.over (gcode elt tg iter scope pos it env) [] = gA X env := by
  unfold gA
  generalize X.A = B
  obtain ⟨h, d, f, g, u⟩ := B
  cases f <;> cases g <;> rfl
theorem gA_room {X : Cx} {k : Nat} {env : Env} (hr : Room (k + 1) X.A) : Room k (gA X env) :=
  ⟨hr.hd, by have := hr.dp; show X.A.depth + 1 + 3 * k + 5 < _; omega, by have := hr.un; show X.A.units + 5 + 16 * k + 200 < _; omega⟩

/-- a generator expression has been made: a its generator, in the state s5 -/
structure GMade (X : Cx) (pins : List (Addr × Obj)) (σ : L2.St) (elt tg iter : Expr) (scope : Scope) (pos : Pos) (J : It) (H2 : Hp) (a : Addr) (s5 : Shared) : Prop where
  ex : ∃ (s4 : Shared) (it : Addr) (fp : List Addr) (tn : Nat → Heap → Prop) (cl : List (Str × Addr)) (code : Value) (og : Obj) (m : Str → Option Value),
    Inv X pins σ H2 s4 ∧ Turn X.prog X.w X.K tg J fp it tn ∧ tn 0 s4.heap ∧ (∀ b ∈ fp, FpOk X pins H2 b) ∧ cl = cloFrom X.env.cells scope.names [] ∧
    (∀ b o, s4.heap.get? b = some o → s5.heap.get? b = some o) ∧ s5.heap.Ns s4.heap.objs.size m ∧ s4.heap.objs.size < a ∧ s5.heap.get? a = some og ∧ (og.cls = .type "generator" ∧ (∃ nm qn, og.data = .fields #[.int s4.gens.size 0, nm, qn]) ∧ og.slots = #[]) ∧
    s5.os = s4.os ∧ s5.gens = s4.gens.push (.fresh (gstart elt tg iter scope pos it (genEnv scope cl s4.heap.objs.size code builtinsNs X.env)))

section
variable {X : Cx} {pins : List (Addr × Obj)} {σ : L2.St} {H : Hp} {s : Shared}
open GxR in
theorem gen_made {c P : Addr} {elt tg iter : Expr} {scope : Scope} {pos : Pos} {wi : TI} {k : Nat} {Q' : Value → Shared → Prop} {R : It → Hp → Prop}
    (hr : Room k X.A) (TB : TabB X.base X.mg c P) (hcode : X.env.code = .ref c) (hi : PI X tg iter wi) (hk : scope.kind = .function) (hco : scope.isCoroutine = false) (nc : ∀ y ∈ scope.names, y.2 ≠ .cell)
    (h0 : scope.names.lookup (".0" : Str) = some NameKind.local) (hfree : ∀ y ∈ scope.names, y.2 = .free → ∃ c, X.env.cells.lookup y.1 = some c) (hs : ∀ v, genFold iter X.env v = pure v)
    (I : Inv X pins σ H s) (h : wi σ H fun J H1 => TabG H1 P ∧ ∀ H2, Tabbed P H1 H2 → R J H2)
    (hQ : ∀ J H2 a s5, R J H2 → GMade X pins σ elt tg iter scope pos J H2 a s5 → Q' (.ref a) s5) :
    wpAny (model X.prog X.w) X.A (eval (.GeneratorExp elt [⟨tg, iter, [], 0⟩] scope pos) X.env) Q' X.xe s := by
  refine wpAny_GeneratorExp_make hco (closure_ok hfree) nc h0 hk (by have := hr.dp; omega) ?_ hs
  refine thn (hi.run pins s σ H _ I h) fun v s1 h1 => thn h1 fun itv s2 h2 => ?_
  obtain ⟨it, fp, tn, J, H1, e, I2, T, st2, f2, ⟨ps, hP, ht⟩, hR⟩ := h2
  subst e
  refine ⟨I2.nolimit, ?_⟩
  have hPs : s2.heap.get? P = some { cls := .none, data := .fields ps } := I2.hok P _ hP
  have cd : PySem.W.CodeHd s2.heap c P := TB.code.keeps I2.bk
  have nofp : ∀ b ∈ fp, b ≠ P := fun b hb e => by
    have := (f2 b hb).1
    rw [e, hP] at this
    cases this
  obtain ⟨bm, ob, e1, e2, e3, e4, e5, e6, e7, e8⟩ := TB.bm
  have go : ∀ (code : Value) (h3 : Heap) (tk : Nat) (more : Array Value), Heap.ExtBut P s2.heap h3 → h3.get? P = some { cls := .none, data := .fields (ps ++ more) } → TriplesOk (ps ++ more).toList →
      wpAny (model X.prog X.w) X.A (builtinsFor X.env.globals X.env.builtins) (fun bi s4 =>
        ∀ h', h'.Ns s4.heap.objs.size (fun y => if y = ".0" then some (.ref it) else none) → Heap.SameBut s4.heap.objs.size (s4.heap.push { cls := .type "frame", data := .dict #[] }) h' →
          Q' (.ref h'.objs.size) { s4 with
            gens := s4.gens.push (.fresh (.compStart (.GeneratorExp elt [⟨tg, iter, [], 0⟩] scope pos) 0 (.ref it) .none (genEnv scope (cloFrom X.env.cells scope.names []) s4.heap.objs.size code bi X.env))),
            toks := s4.toks + 1 + 1 + 1,
            heap := h'.push { cls := .type "generator", data := .fields #[.int s4.gens.size 0, .str "<genexpr>" (s4.toks + 1), .str (X.env.qual ++ "<genexpr>") (s4.toks + 1 + 1)] } }) X.xe { s2 with heap := h3, toks := tk } := by
    intro code h3 tk more hx hm htr
    have I4 : Inv X pins σ (upd H1 P (.tbl (ps ++ more))) { s2 with heap := h3, gens := s2.gens, drawn := s2.drawn, toks := tk } :=
      inv_tab I2 hP (fun b o hb e => hx b o hb e) hm I2.bare
    have g4 : h3.Ns X.env.globals X.mg := by
      rw [I2.ok.glob]
      exact I4.mod.glob.keeps I4.bk
    refine wpAny_builtinsFor g4 e1 e2 (I4.bk _ _ e5) e6 e7 e8 ?_
    intro h' hn' hs'
    have keep : ∀ b o, h3.get? b = some o → h'.get? b = some o := fun b o e => hs'.extBut b o (Nat.ne_of_lt (Heap.lt_size e)) (Heap.get?_push_of_some _ e)
    have sz : h'.objs.size = h3.objs.size + 1 := by rw [hs'.1, Heap.size_push]
    refine hQ J _ _ _ (hR _ ⟨⟨ps ++ more, upd_same, htr⟩, fun b hb => upd_ne hb⟩) ⟨_, it, fp, tn, _, code, _, _, I4, T, T.keep _ _ _ st2 fun b hb o e => hx b o (nofp b hb) e, fun b hb => ⟨?_, (f2 b hb).2⟩, rfl, fun b o e => Heap.get?_push_of_some _ (keep b o e), hn'.push _, ?_, Heap.get?_push_size _ rfl, ⟨rfl, ⟨_, _, rfl⟩, rfl⟩, rfl, rfl⟩
    · rw [upd_ne (nofp b hb)]
      exact (f2 b hb).1
    · show h3.objs.size < h'.objs.size
      omega
  cases hf : codeAmong pos ps.toList with
  | none =>
    refine wpAny_genexprCodeX hcode (cd.code hPs ht) (cd.tab hPs) hf fun c' h' tk hx _ _ hco' _ htab' _ => ?_
    obtain ⟨_, _, _, _, _, _, _, _, _, _, _, _, _, _, _, _, _, _, _, htr, _⟩ := hco'
    exact go _ h' tk _ hx htab'.2 htr
  | some cv =>
    refine wpAny_genexprCode_hit hcode (cd.code hPs ht) hf ?_
    have := go cv s2.heap s2.toks #[] (Heap.ExtBut.refl _ _) (by simpa using hPs) (by simpa using ht)
    exact this

/-- what the consumer knows at the start: the generator is ready; and how it comes back to X -/
theorem made_ready {elt tg iter : Expr} {scope : Scope} {own : List (Str × Nat)} {pos : Pos} {J : It} {H2 : Hp} {a : Addr} {s5 : Shared} {k : Nat} {g : TG} {te : TE} (hr : Room (k + 1) X.A) (hc : X.calm = true) (hN : X.N.Nodup) (ok : BlkOk X.N X.env.scope scope own) (nc : ∀ y ∈ scope.names, y.2 ≠ .cell) (hco : scope.isCoroutine = false)
    (pg : ∀ (s : Shared) (H : Hp) (C : Addr) (cl : List (Str × Addr)) (code : Value) (fp : List Addr), PG (gblk X s H (gA X (genEnv scope cl C code builtinsNs X.env)) (genEnv scope cl C code builtinsNs X.env) fp) tg g)
    (pe : ∀ (s : Shared) (H : Hp) (C : Addr) (cl : List (Str × Addr)) (code : Value) (fp : List Addr), Room k (gA X (genEnv scope cl C code builtinsNs X.env)) → PE (gblk X s H (gA X (genEnv scope cl C code builtinsNs X.env)) (genEnv scope cl C code builtinsNs X.env) fp) elt te)
    (M : GMade X pins σ elt tg iter scope pos J H2 a s5) :
    ∃ (Xg : Cx) (og : Obj) (tn : Nat → Heap → Prop) (fp : List Addr) (gn : Nat), s5.heap.IsGen a gn ∧ Inv Xg [(a, og)] (wipe σ (own.map (·.2))) H2 s5 ∧ tn 0 s5.heap ∧ (∀ b ∈ fp, H2 b = none) ∧ a ∉ fp ∧ (∀ b ∈ fp, b < a) ∧ (∀ i h h', tn i h → (∀ b ∈ fp, ∀ o, h.get? b = some o → h'.get? b = some o) → tn i h') ∧ gn < s5.gens.size ∧ (og.cls = .type "generator" ∧ (∃ nm qn, og.data = .fields #[.int gn 0, nm, qn]) ∧ og.slots = #[]) ∧ Xg.pn = [] ∧ Xg.K = X.K ∧ Xg.s_0.heap.objs.size < a ∧
      (∀ σ' H' s' pl, Inv Xg pl σ' H' s' → s'.os = s5.os → Inv X pins σ H' s') ∧
      ∀ (n : Nat) (PL : Nat → List (Addr × Obj) → Prop) (W : Nat → Hp → Prop) (Po : Nat → V → Hp → Prop) (Qd : Nat → Hp → Prop), (∀ i pl, PL i pl → ∀ p ∈ (a, og) :: pl, p.1 ∉ fp) → GRead J g te σ (own.map (·.2)) n W Po Qd →
        (∀ s, s.gens = s5.gens → GRdy (model X.prog X.w) X.A.in1 gn n (GSt Xg a og (wipe σ (own.map (·.2))) tn fp PL W) (GYd Xg a og (wipe σ (own.map (·.2))) tn fp PL Po) (GFi Xg a og (wipe σ (own.map (·.2))) PL Qd) 0 s) := by
  obtain ⟨s4, it, fp, tn, cl, code, og, m, I4, T, st4, f4, ecl, kp, hn, ha, eo, ⟨og1, ⟨nm, qn, og2⟩, og3⟩, os, gens⟩ := M.ex
  have sz : ∀ b ∈ fp, b < s4.heap.objs.size := fun b hb => by
    obtain ⟨o, e, _⟩ := T.obj _ _ st4 b hb
    exact Heap.lt_size e
  have nd : ∀ v, og.data ≠ .cell v := fun v z => by
    rw [og2] at z
    cases z
  generalize henv : genEnv scope cl s4.heap.objs.size code builtinsNs X.env = env at gens
  have G : GEnv X scope s4.heap.objs.size env := by
    subst henv
    exact ⟨rfl, rfl, ecl, I4.ok.glob, rfl, rfl⟩
  have frm : X.A.frames = some X.stack := I4.ok.frames
  have b5 : AllBare s5.gens := by
    rw [gens]
    exact I4.bare.push rfl
  have I5 := gen_start (A := gA X env) (a := a) (og := og) I4 ok hN nc G hr.hd (by show X.A.frames.map _ = _; rw [frm]; rfl) (fun b hb => ⟨f4 b hb, sz b hb⟩) kp hn ha eo nd os b5
  have af : a ∉ fp := fun z => Nat.lt_irrefl _ (Nat.lt_trans (sz a z) ha)
  refine ⟨gblk X s4 H2 (gA X env) env fp, og, tn, fp, s4.gens.size, ⟨og, nm, qn, eo, og1, og2, og3⟩, I5, T.keep _ _ _ st4 fun b _ o e => kp b o e, fun b hb => (f4 b hb).1, af, fun b hb => Nat.lt_trans (sz b hb) ha, T.keep, ?_, ⟨og1, ⟨nm, qn, og2⟩, og3⟩, rfl, rfl, ha, ?_, ?_⟩
  · rw [gens, Array.size_push]
    exact Nat.lt_succ_self _
  · intro σ' H' s' pl I' eos
    exact I4.call' (ch := fp) I'.os I'.base I'.hok I'.bare fun b hb => ⟨(f4 b hb).2.2.2.1, (f4 b hb).2.1, (f4 b hb).2.2.2.2.1, (f4 b hb).2.2.2.2.2⟩
  · intro n PL W Po Qd hpf rd s hs
    subst henv
    have tu := gen_turn (X := gblk X s4 H2 (gA X (genEnv scope cl s4.heap.objs.size code builtinsNs X.env)) (genEnv scope cl s4.heap.objs.size code builtinsNs X.env) fp) (a := a) (og := og) (PL := PL) hc rfl rfl rfl T (pg s4 H2 s4.heap.objs.size cl code fp) (pe s4 H2 s4.heap.objs.size cl code fp (gA_room hr)) hpf rd
    refine ⟨.fresh (gstart elt tg iter scope pos it (genEnv scope cl s4.heap.objs.size code builtinsNs X.env)), by rw [hs, gens]; exact Array.getElem?_push_size .., fun s2 hs2 => ⟨rfl, ?_⟩⟩
    rw [Nat.sub_zero]
    refine seg_start (A := X.A.in1.in1) (iter := iter) (scope := scope) (pos := pos) hco ?_ (fun B s Q E ⟨H3, pl, _, _, st, _⟩ q => T.self B 0 s Q E st q) s2 s2 hs2
    have eA : X.A.in1.in1.over (gcode elt tg iter scope pos it (genEnv scope cl s4.heap.objs.size code builtinsNs X.env)) [] = gA X (genEnv scope cl s4.heap.objs.size code builtinsNs X.env) := gA_over
    rw [eA]
    exact tu
end
end KX

set_option maxHeartbeats 4000000
namespace KX
open PySem PySem.Spec PyProof.Rows L2

def retIs (Q : Value → Shared → Prop) : Result → Shared → Prop := fun r s' => match r with | .ok (.ret v) => Q v s' | .ok _ => False | .error e => False
theorem gen_at {h : Heap} {a : Addr} {og : Obj} {g : Nat} (e : h.get? a = some og) (x : og.cls = .type "generator" ∧ (∃ nm qn, og.data = .fields #[.int g 0, nm, qn]) ∧ og.slots = #[]) : h.IsGen a g :=
  let ⟨x1, ⟨nm, qn, x2⟩, x3⟩ := x
  ⟨og, nm, qn, e, x1, x2, x3⟩
section
variable {X Xg : Cx} {pins : List (Addr × Obj)} {σ τ : L2.St} {a : Addr} {og : Obj} {g n k : Nat} {tn : Nat → Heap → Prop} {fp : List Addr} {W : Nat → Hp → Prop}
def noPL : Nat → List (Addr × Obj) → Prop := fun _ pl => pl = []
def PoAll (W : Nat → Hp → Prop) (Q : VK) : Nat → V → Hp → Prop := fun i y H => ∃ b, y = .bl b ∧ (b = true → W (i + 1) H) ∧ (b = false → Q (.bl false) H)
def PoAny (W : Nat → Hp → Prop) (Q : VK) : Nat → V → Hp → Prop := fun i y H => ∃ b, y = .bl b ∧ (b = false → W (i + 1) H) ∧ (b = true → Q (.bl true) H)

theorem all_loop {Q : VK} (hr : Room (k + 1) X.A) (gi : og.cls = .type "generator" ∧ (∃ nm qn, og.data = .fields #[.int g 0, nm, qn]) ∧ og.slots = #[])
    (back : ∀ σ' H' s' pl, Inv Xg pl σ' H' s' → Inv X pins σ H' s') : ∀ (j i : Nat) (s : Shared), n - i = j → i ≤ n →
      GRdy (model X.prog X.w) X.A.in1 g n (GSt Xg a og τ tn fp noPL W) (GYd Xg a og τ tn fp noPL (PoAll W Q)) (GFi Xg a og τ noPL (fun _ H => Q (.bl true) H)) i s → GSt Xg a og τ tn fp noPL W i s →
      codeAny (model X.prog X.w) X.A (.builtin "all.loop" ⟨[.ref a], []⟩) (retIs (EP X pins σ Q)) s := by
  have hroom : X.A.in1.depth < recursionLimit := hr.depth
  intro j
  induction j with
  | zero =>
    intro i s hj hi R hst
    obtain ⟨H, pl, rfl, I, st, hf, hw⟩ := id hst
    have hst2 : GSt Xg a og τ tn fp noPL W i (s.setGen g .running) := ⟨H, [], rfl, inv_gen I rfl, st, hf, hw⟩
    refine codeAny_builtin F.entry_all_loop ?_
    rw [Around.under_plainId F.plain_all_loop _]
    show wpAny _ X.A.in1 (pyNext (.ref a) >>= _) _ _ s
    refine wpAny_bind (next_gen (A := X.A.in1) hr.hd hroom I.nolimit (gen_at (I.pin (a, og) (List.mem_append_right _ List.mem_cons_self)).1 gi) R hi hst2 (fun v s1 gs' lt _ _ _ => by omega) (fun s1 h' ⟨H1, pl1, _, I1, q1⟩ hk => ?_))
    refine wpAny_bind (wpAny_rule (wpAny_pure ?_))
    exact ⟨.bl true, H1, back _ _ _ _ ((inv_gen (x := .finished) (g := g) I1 rfl).kept (h' := h') (t' := s1.toks) hk), rfl, q1⟩
  | succ j ih =>
    intro i s hj hi R hst
    obtain ⟨H, pl, rfl, I, st, hf, hw⟩ := id hst
    have hst2 : GSt Xg a og τ tn fp noPL W i (s.setGen g .running) := ⟨H, [], rfl, inv_gen I rfl, st, hf, hw⟩
    refine codeAny_builtin F.entry_all_loop ?_
    rw [Around.under_plainId F.plain_all_loop _]
    show wpAny _ X.A.in1 (pyNext (.ref a) >>= _) _ _ s
    refine wpAny_bind (next_gen (A := X.A.in1) hr.hd hroom I.nolimit (gen_at (I.pin (a, og) (List.mem_append_right _ List.mem_cons_self)).1 gi) R hi hst2 (fun v s1 gs' lt hb hy R1 => ?_) (fun s1 h' ⟨H1, pl1, _, I1, q1⟩ hk => ?_))
    · obtain ⟨H1, pl1, y, rfl, I1, st1, hf1, r1, b, rfl, q1, q2⟩ := hy
      cases r1
      refine wpAny_bind (wpAny_holding (wpAny_truthy_bool (wpAny_bind (wpAny_letGo ?_))))
      cases b with
      | true =>
        simp only [if_true]
        exact wpAny_pure ⟨plainId_quiet F.plain_all_loop _, ih (i + 1) _ (by omega) lt R1 ⟨H1, [], rfl, inv_gen I1 hb, st1, hf1, q1 rfl⟩⟩
      | false =>
        simp only [Bool.false_eq_true, if_false]
        exact wpAny_bind (wpAny_rule (wpAny_pure ⟨.bl false, H1, back _ _ _ _ (inv_gen I1 hb), rfl, q2 rfl⟩))
    · refine wpAny_bind (wpAny_rule (wpAny_pure ?_))
      exact ⟨.bl true, H1, back _ _ _ _ ((inv_gen (x := .finished) (g := g) I1 rfl).kept (h' := h') (t' := s1.toks) hk), rfl, q1⟩
theorem any_loop {Q : VK} (hr : Room (k + 1) X.A) (gi : og.cls = .type "generator" ∧ (∃ nm qn, og.data = .fields #[.int g 0, nm, qn]) ∧ og.slots = #[])
    (back : ∀ σ' H' s' pl, Inv Xg pl σ' H' s' → Inv X pins σ H' s') : ∀ (j i : Nat) (s : Shared), n - i = j → i ≤ n →
      GRdy (model X.prog X.w) X.A.in1 g n (GSt Xg a og τ tn fp noPL W) (GYd Xg a og τ tn fp noPL (PoAny W Q)) (GFi Xg a og τ noPL (fun _ H => Q (.bl false) H)) i s → GSt Xg a og τ tn fp noPL W i s →
      codeAny (model X.prog X.w) X.A (.builtin "any.loop" ⟨[.ref a], []⟩) (retIs (EP X pins σ Q)) s := by
  have hroom : X.A.in1.depth < recursionLimit := hr.depth
  intro j
  induction j with
  | zero =>
    intro i s hj hi R hst
    obtain ⟨H, pl, rfl, I, st, hf, hw⟩ := id hst
    have hst2 : GSt Xg a og τ tn fp noPL W i (s.setGen g .running) := ⟨H, [], rfl, inv_gen I rfl, st, hf, hw⟩
    refine codeAny_builtin F.entry_any_loop ?_
    rw [Around.under_plainId F.plain_any_loop _]
    show wpAny _ X.A.in1 (pyNext (.ref a) >>= _) _ _ s
    refine wpAny_bind (next_gen (A := X.A.in1) hr.hd hroom I.nolimit (gen_at (I.pin (a, og) (List.mem_append_right _ List.mem_cons_self)).1 gi) R hi hst2 (fun v s1 gs' lt _ _ _ => by omega) (fun s1 h' ⟨H1, pl1, _, I1, q1⟩ hk => ?_))
    refine wpAny_bind (wpAny_rule (wpAny_pure ?_))
    exact ⟨.bl false, H1, back _ _ _ _ ((inv_gen (x := .finished) (g := g) I1 rfl).kept (h' := h') (t' := s1.toks) hk), rfl, q1⟩
  | succ j ih =>
    intro i s hj hi R hst
    obtain ⟨H, pl, rfl, I, st, hf, hw⟩ := id hst
    have hst2 : GSt Xg a og τ tn fp noPL W i (s.setGen g .running) := ⟨H, [], rfl, inv_gen I rfl, st, hf, hw⟩
    refine codeAny_builtin F.entry_any_loop ?_
    rw [Around.under_plainId F.plain_any_loop _]
    show wpAny _ X.A.in1 (pyNext (.ref a) >>= _) _ _ s
    refine wpAny_bind (next_gen (A := X.A.in1) hr.hd hroom I.nolimit (gen_at (I.pin (a, og) (List.mem_append_right _ List.mem_cons_self)).1 gi) R hi hst2 (fun v s1 gs' lt hb hy R1 => ?_) (fun s1 h' ⟨H1, pl1, _, I1, q1⟩ hk => ?_))
    · obtain ⟨H1, pl1, y, rfl, I1, st1, hf1, r1, b, rfl, q1, q2⟩ := hy
      cases r1
      refine wpAny_bind (wpAny_holding (wpAny_truthy_bool (wpAny_bind (wpAny_letGo ?_))))
      cases b with
      | false =>
        simp only [Bool.false_eq_true, if_false]
        exact wpAny_pure ⟨plainId_quiet F.plain_any_loop _, ih (i + 1) _ (by omega) lt R1 ⟨H1, [], rfl, inv_gen I1 hb, st1, hf1, q1 rfl⟩⟩
      | true =>
        simp only [if_true]
        exact wpAny_bind (wpAny_rule (wpAny_pure ⟨.bl true, H1, back _ _ _ _ (inv_gen I1 hb), rfl, q2 rfl⟩))
    · refine wpAny_bind (wpAny_rule (wpAny_pure ?_))
      exact ⟨.bl false, H1, back _ _ _ _ ((inv_gen (x := .finished) (g := g) I1 rfl).kept (h' := h') (t' := s1.toks) hk), rfl, q1⟩
end
end KX

set_option maxHeartbeats 4000000
namespace KX
open PySem PySem.Spec PyProof.Rows L2
section
variable {X Xg : Cx} {pins : List (Addr × Obj)} {σ τ : L2.St} {a : Addr} {og : Obj} {g n k : Nat} {tn : Nat → Heap → Prop} {fp : List Addr} {W : Nat → Hp → Prop}
abbrev sumObj (z : Int) (t : Tok) (c : Nat) : Obj := { cls := .type "list", dict := none, data := .seq #[.int z t] c, slots := #[] }
def sumPL (S : Addr) (val : Nat → Int) : Nat → List (Addr × Obj) → Prop := fun i pl => ∃ t c, pl = [(S, sumObj (preSum val i) t c)]
def PoSum (W : Nat → Hp → Prop) (val : Nat → Int) : Nat → V → Hp → Prop := fun i y H => y = .int (val i) ∧ InLong (val i) ∧ InLong (preSum val (i + 1)) ∧ W (i + 1) H
theorem sum_loop {Q : VK} {S : Addr} {val : Nat → Int} (hr : Room (k + 1) X.A) (gi : og.cls = .type "generator" ∧ (∃ nm qn, og.data = .fields #[.int g 0, nm, qn]) ∧ og.slots = #[])
    (back : ∀ σ' H' s' pl, Inv Xg pl σ' H' s' → Inv X pins σ H' s') (hpn : Xg.pn = []) (hS1 : Xg.s_0.heap.objs.size ≤ S) (haS : a ≠ S) (hSf : S ∉ fp)
    (tk : ∀ i h h', tn i h → (∀ b ∈ fp, ∀ o, h.get? b = some o → h'.get? b = some o) → tn i h') : ∀ (j i : Nat) (s : Shared), n - i = j → i ≤ n →
      GRdy (model X.prog X.w) X.A.in1 g n (GSt Xg a og τ tn fp (sumPL S val) W) (GYd Xg a og τ tn fp (sumPL S val) (PoSum W val)) (GFi Xg a og τ (sumPL S val) (fun i H => Q (.int (preSum val i)) H)) i s → GSt Xg a og τ tn fp (sumPL S val) W i s →
      codeAny (model X.prog X.w) X.A (.builtin "sum.loop" ⟨[.ref a, .ref S, rawInt 0, rawInt 0], []⟩) (retIs (EP X pins σ Q)) s := by
  have hroom : X.A.in1.depth < recursionLimit := hr.depth
  have ends : ∀ {i : Nat} {s1 : Shared} {h' : Heap} {t0 : Tok}, GFi Xg a og τ (sumPL S val) (fun i H => Q (.int (preSum val i)) H) i s1 → (∀ b o, s1.heap.get? b = some o → h'.get? b = some o) →
      EP X pins σ Q (.int (preSum val i) t0) { s1.setGen g .finished with heap := h' } := by
    rintro i s1 h' t0 ⟨H1, pl1, _, I1, q1⟩ hk
    exact ⟨.int (preSum val i), H1, back _ _ _ _ ((inv_gen (x := .finished) (g := g) I1 rfl).kept (h' := h') (t' := s1.toks) hk), ⟨t0, rfl⟩, q1⟩
  have ha : ∀ {pl : List (Addr × Obj)} {H : Hp} {s : Shared}, Inv Xg ((a, og) :: pl) τ H s → s.heap.IsGen a g := fun I => gen_at (I.pin (a, og) (List.mem_append_right _ List.mem_cons_self)).1 gi
  have hS : ∀ {z : Int} {t : Tok} {c : Nat} {H : Hp} {s : Shared}, Inv Xg [(a, og), (S, sumObj z t c)] τ H s → s.heap.get? S = some (sumObj z t c) ∧ H S = none ∧ S ≠ Xg.env.locals ∧ S ∉ Xg.fs := fun I =>
    let z := I.pin (S, _) (List.mem_append_right _ (List.mem_cons_of_mem _ List.mem_cons_self))
    ⟨z.1, z.2.1, z.2.2.1, z.2.2.2.1⟩
  intro j
  induction j with
  | zero =>
    intro i s hj hi R hst
    obtain ⟨H, pl, ⟨t0, c0, rfl⟩, I, st, hf, hw⟩ := id hst
    have hst2 : GSt Xg a og τ tn fp (sumPL S val) W i (s.setGen g .running) := ⟨H, _, ⟨t0, c0, rfl⟩, inv_gen I rfl, st, hf, hw⟩
    refine codeAny_builtin F.entry_sum_loop ?_
    rw [Around.under_plainId F.plain_sum_loop _]
    show wpAny _ X.A.in1 (seqItems? (.ref S) >>= _) _ _ s
    refine wpAny_bind (wpAny_seqItems (hS I).1 rfl ?_)
    show wpAny _ X.A.in1 (tryCatch (pyNext (.ref a)) _ >>= _) _ _ s
    refine wpAny_bind (wpAny_tryCatch (next_gen (A := X.A.in1) hr.hd hroom I.nolimit (ha I) R hi hst2 (fun v s1 gs' lt _ _ _ => by omega) (fun s1 h' h1 hk => ?_)))
    exact wpAny_pure (ends h1 hk)
  | succ j ih =>
    intro i s hj hi R hst
    obtain ⟨H, pl, ⟨t0, c0, rfl⟩, I, st, hf, hw⟩ := id hst
    have hst2 : GSt Xg a og τ tn fp (sumPL S val) W i (s.setGen g .running) := ⟨H, _, ⟨t0, c0, rfl⟩, inv_gen I rfl, st, hf, hw⟩
    refine codeAny_builtin F.entry_sum_loop ?_
    rw [Around.under_plainId F.plain_sum_loop _]
    show wpAny _ X.A.in1 (seqItems? (.ref S) >>= _) _ _ s
    refine wpAny_bind (wpAny_seqItems (hS I).1 rfl ?_)
    show wpAny _ X.A.in1 (tryCatch (pyNext (.ref a)) _ >>= _) _ _ s
    refine wpAny_bind (wpAny_tryCatch (next_gen (A := X.A.in1) hr.hd hroom I.nolimit (ha I) R hi hst2 (fun v s1 gs' lt hb hy R1 => ?_) (fun s1 h' h1 hk => wpAny_pure (ends h1 hk))))
    obtain ⟨H1, pl1, y, ⟨t1, c1, rfl⟩, I1, st1, hf1, r1, rfl, f1, f2, q1⟩ := hy
    obtain ⟨t, rfl⟩ := r1
    have I2 : Inv Xg [(a, og), (S, sumObj (preSum val i) t1 c1)] τ H1 (s1.setGen g gs') := inv_gen I1 hb
    have hc : ((decide (-(2 ^ 63) ≤ val i) && decide (val i < 2 ^ 63)) && (decide (-(2 ^ 63) ≤ preSum val i + val i) && decide (preSum val i + val i < 2 ^ 63))) = true := by
      have f2 : InLong (preSum val i + val i) := f2
      simp only [Bool.and_eq_true, decide_eq_true_eq]
      exact ⟨⟨f1.1, f1.2⟩, f2.1, f2.2⟩
    show wpAny _ X.A.in1 (if (_ : Bool) = true then (mkInt (preSum val i + val i) >>= _) else _) _ _ _
    split
    · refine wpAny_bind (wpAny_mkInt ?_)
      obtain ⟨hS1', hSn, hSl, hSfs⟩ := hS I2
      have hS2 : (s1.setGen g gs').heap.get? S = some (sumObj (preSum val i) t1 c1) := hS1'
      show wpAny _ X.A.in1 (updateSeq S (fun _ => #[.int (preSum val i + val i) (s1.setGen g gs').toks]) >>= _) _ _ _
      refine wpAny_bind ?_
      refine wpAny_updateSeq hS2 rfl (wpAny_pure ⟨plainId_quiet F.plain_sum_loop _, ih (i + 1) _ (by omega) lt R1 ?_⟩)
      obtain ⟨c2, self⟩ : ∃ c2, ((s1.setGen g gs').heap.update S (Obj.mapSeq fun _ => #[.int (preSum val i + val i) (s1.setGen g gs').toks])).get? S = some (sumObj (preSum val i + val i) (s1.setGen g gs').toks c2) := ⟨_, Heap.get?_update_self _ hS2 rfl⟩
      have other : ∀ b o, b ≠ S → (s1.setGen g gs').heap.get? b = some o → ((s1.setGen g gs').heap.update S (Obj.mapSeq fun _ => #[.int (preSum val i + val i) (s1.setGen g gs').toks])).get? b = some o := fun b o hb e => (Heap.get?_update_other _ _ (Ne.symm hb)).trans e
      have I3 : Inv Xg [(a, og)] τ H1 (s1.setGen g gs') := I2.pins_of fun p hp => I2.pin p (List.mem_append_right _ (by rw [List.mem_singleton.mp hp]; exact List.mem_cons_self))
      have I4 := I3.turned (t' := (s1.setGen g gs').toks + 1) (it := S) other hSn hSl (.inr hS1) (fun x c e z => by
        obtain ⟨v, o, e1, e2⟩ := I3.cell x c e
        rw [z, hS2] at e1
        cases e1
        cases e2) fun p hp => by
          rw [hpn, List.nil_append] at hp
          rw [List.mem_singleton.mp hp]
          exact haS
      refine ⟨H1, [(S, sumObj (preSum val i + val i) (s1.setGen g gs').toks c2)], ⟨(s1.setGen g gs').toks, c2, rfl⟩, I4.pins_of fun p hp => ?_, tk _ _ _ st1 fun b hb o e => other b o (fun z => hSf (z ▸ hb)) e, hf1, q1⟩
      rcases List.mem_cons.mp hp with e | e
      · rw [e]
        exact I4.pin (a, og) (List.mem_append_right _ List.mem_cons_self)
      · rw [List.mem_singleton.mp e]
        exact ⟨self, hSn, hSl, hSfs, fun v z => by cases z⟩
    · rename_i q
      exact absurd hc q
end
end KX

set_option maxHeartbeats 4000000
namespace KX
open PySem PySem.Spec PyProof.Rows L2
/-- where a generator expression stands: c the code object of the def, P its table; the scope of the expression -/
structure GOk (X : Cx) (c P : Addr) (scope : Scope) (own : List (Str × Nat)) : Prop where
  tb : GxR.TabB X.base X.mg c P
  code : X.env.code = .ref c
  calm : X.calm = true
  nd : X.N.Nodup
  ok : BlkOk X.N X.env.scope scope own
  co : scope.isCoroutine = false
  nc : ∀ y ∈ scope.names, y.2 ≠ .cell
  dot : scope.names.lookup (".0" : Str) = some NameKind.local
def tGAll (P : Addr) (wi : TI) (g : TG) (te : TE) (vs : List Nat) : TE := fun σ H Q => wi σ H fun J H1 => GxR.TabG H1 P ∧ ∀ H2, GxR.Tabbed P H1 H2 → ∃ (n : Nat) (W : Nat → Hp → Prop), W 0 H2 ∧ GRead J g te σ vs n W (PoAll W Q) (fun _ H => Q (.bl true) H)
def tGAny (P : Addr) (wi : TI) (g : TG) (te : TE) (vs : List Nat) : TE := fun σ H Q => wi σ H fun J H1 => GxR.TabG H1 P ∧ ∀ H2, GxR.Tabbed P H1 H2 → ∃ (n : Nat) (W : Nat → Hp → Prop), W 0 H2 ∧ GRead J g te σ vs n W (PoAny W Q) (fun _ H => Q (.bl false) H)
def tGSum (P : Addr) (wi : TI) (g : TG) (te : TE) (vs : List Nat) : TE := fun σ H Q => wi σ H fun J H1 => GxR.TabG H1 P ∧ ∀ H2, GxR.Tabbed P H1 H2 → ∃ (n : Nat) (W : Nat → Hp → Prop) (val : Nat → Int), W 0 H2 ∧ GRead J g te σ vs n W (PoSum W val) (fun i H => Q (.int (preSum val i)) H)
section
variable {X : Cx} {c P : Addr} {elt tg iter : Expr} {scope : Scope} {own : List (Str × Nat)} {gpos p pos : Pos} {wi : TI} {k : Nat} {g : TG} {te : TE}
theorem GOk.free (O : GOk X c P scope own) {pins : List (Addr × Obj)} {σ : L2.St} {H : Hp} {s : Shared} (I : Inv X pins σ H s) : ∀ y ∈ scope.names, y.2 = .free → ∃ c, X.env.cells.lookup y.1 = some c := fun y hy e => by
  rcases O.ok.free y hy e with q | q
  · exact I.ok.has _ (.inl q)
  · exact I.ok.has _ (.inr q)
theorem ret_end {pins : List (Addr × Obj)} {σ : L2.St} {Q : VK} {E : Value → Shared → Prop} {id : String} {args : Args} {s : Shared} (h : codeAny (model X.prog X.w) X.A (.builtin id args) (retIs (EP X pins σ Q)) s) :
    codeAny (model X.prog X.w) X.A (.builtin id args) (fun r s' => match r with | .ok (.ret v) => EP X pins σ Q v s' | .ok _ => False | .error e => E e s') s := codeAny_mono h fun r s' q => by
  cases r with
  | error e => exact q.elim
  | ok f => cases f <;> exact q
abbrev GPG (X : Cx) (scope : Scope) (tg : Expr) (g : TG) : Prop := ∀ (s : Shared) (H : Hp) (C : Addr) (cl : List (Str × Addr)) (code : Value) (fp : List Addr), PG (gblk X s H (gA X (genEnv scope cl C code builtinsNs X.env)) (genEnv scope cl C code builtinsNs X.env) fp) tg g
abbrev GPE (X : Cx) (scope : Scope) (k : Nat) (elt : Expr) (te : TE) : Prop := ∀ (s : Shared) (H : Hp) (C : Addr) (cl : List (Str × Addr)) (code : Value) (fp : List Addr), Room k (gA X (genEnv scope cl C code builtinsNs X.env)) → PE (gblk X s H (gA X (genEnv scope cl C code builtinsNs X.env)) (genEnv scope cl C code builtinsNs X.env) fp) elt te
theorem pe_genAll (hr : Room (k + 1) X.A) (hg : Gl X "all") (hm : X.mg "all" = none) (hb : bootBuiltins "all" = some (.builtin "all")) (O : GOk X c P scope own) (hi : PI X tg iter wi) (pg : GPG X scope tg g) (pe : GPE X scope k elt te)
    (hs : ∀ v, genFold iter X.env v = pure v := by intro _; rfl)
    (he : starEach [.GeneratorExp elt [⟨tg, iter, [], 0⟩] scope gpos] X.env = (false, eval (.GeneratorExp elt [⟨tg, iter, [], 0⟩] scope gpos) X.env) :: starEach [] X.env := by rfl) :
    PE X (.Call (.Name "all" p) [.GeneratorExp elt [⟨tg, iter, [], 0⟩] scope gpos] [] pos) (tGAll P wi g te (own.map (·.2))) := by
  refine ⟨fun pins s σ H Q I h => ?_⟩
  refine wpAny_Call_Name_kw (ld_blt I hg hm hb (PyProof.Rows.callWith_builtin1 ?_ he (by rfl)))
  rw [he]
  show wpAny _ _ (spliced ((false, eval (.GeneratorExp elt [⟨tg, iter, [], 0⟩] scope gpos) X.env) :: backTo pos (starEach [] X.env))) _ _ s
  refine Calls.spliced_cons (gen_made (R := fun J H2 => ∃ (n : Nat) (W : Nat → Hp → Prop), W 0 H2 ∧ GRead J g te σ (own.map fun (q : Str × Nat) => q.2) n W (PoAll W Q) (fun _ H => Q (.bl true) H)) hr O.tb O.code hi O.ok.kind O.co O.nc O.dot (O.free I) hs I h fun J H2 a s5 hR M => Calls.spliced_nil ?_)
  obtain ⟨n, W, w0, rd⟩ := hR
  obtain ⟨Xg, og, tn, fp, gn, hgen, I5, t0, hf, af, lf, tk, gs, gi, hpn, hK, hS, back, ready⟩ := made_ready (k := k) hr O.calm O.nd O.ok O.nc O.co pg pe M
  refine call_function_tree F.kind_all F.plain_all F.entry_all (F.args_all1 _) ?_
  unfold Builtin.«all»
  refine wpAny_bind (m := oneArg "all" _) (wpAny_pure (wpAny_bind (wpAny_pyIter_gen hgen (wpAny_pure ⟨plainId_quiet F.plain_all_loop _, ret_end ?_⟩))))
  exact all_loop (k := k) hr gi (fun σ' H' s' pl I' => back σ' H' s' pl I' (I'.os.trans I5.os.symm)) n 0 s5 rfl (Nat.zero_le _) (ready n noPL W _ _ (fun i pl e p hp => by cases e; rw [List.mem_singleton.mp hp]; exact af) rd s5 rfl) ⟨H2, [], rfl, I5, t0, hf, w0⟩
theorem pe_genAny (hr : Room (k + 1) X.A) (hg : Gl X "any") (hm : X.mg "any" = none) (hb : bootBuiltins "any" = some (.builtin "any")) (O : GOk X c P scope own) (hi : PI X tg iter wi) (pg : GPG X scope tg g) (pe : GPE X scope k elt te)
    (hs : ∀ v, genFold iter X.env v = pure v := by intro _; rfl)
    (he : starEach [.GeneratorExp elt [⟨tg, iter, [], 0⟩] scope gpos] X.env = (false, eval (.GeneratorExp elt [⟨tg, iter, [], 0⟩] scope gpos) X.env) :: starEach [] X.env := by rfl) :
    PE X (.Call (.Name "any" p) [.GeneratorExp elt [⟨tg, iter, [], 0⟩] scope gpos] [] pos) (tGAny P wi g te (own.map (·.2))) := by
  refine ⟨fun pins s σ H Q I h => ?_⟩
  refine wpAny_Call_Name_kw (ld_blt I hg hm hb (PyProof.Rows.callWith_builtin1 ?_ he (by rfl)))
  rw [he]
  show wpAny _ _ (spliced ((false, eval (.GeneratorExp elt [⟨tg, iter, [], 0⟩] scope gpos) X.env) :: backTo pos (starEach [] X.env))) _ _ s
  refine Calls.spliced_cons (gen_made (R := fun J H2 => ∃ (n : Nat) (W : Nat → Hp → Prop), W 0 H2 ∧ GRead J g te σ (own.map fun (q : Str × Nat) => q.2) n W (PoAny W Q) (fun _ H => Q (.bl false) H)) hr O.tb O.code hi O.ok.kind O.co O.nc O.dot (O.free I) hs I h fun J H2 a s5 hR M => Calls.spliced_nil ?_)
  obtain ⟨n, W, w0, rd⟩ := hR
  obtain ⟨Xg, og, tn, fp, gn, hgen, I5, t0, hf, af, lf, tk, gs, gi, hpn, hK, hS, back, ready⟩ := made_ready (k := k) hr O.calm O.nd O.ok O.nc O.co pg pe M
  refine call_function_tree F.kind_any F.plain_any F.entry_any (F.args_any1 _) ?_
  unfold Builtin.«any»
  refine wpAny_bind (m := oneArg "any" _) (wpAny_pure (wpAny_bind (wpAny_pyIter_gen hgen (wpAny_pure ⟨plainId_quiet F.plain_any_loop _, ret_end ?_⟩))))
  exact any_loop (k := k) hr gi (fun σ' H' s' pl I' => back σ' H' s' pl I' (I'.os.trans I5.os.symm)) n 0 s5 rfl (Nat.zero_le _) (ready n noPL W _ _ (fun i pl e p hp => by cases e; rw [List.mem_singleton.mp hp]; exact af) rd s5 rfl) ⟨H2, [], rfl, I5, t0, hf, w0⟩
theorem pe_genSum (hr : Room (k + 1) X.A) (hg : Gl X "sum") (hm : X.mg "sum" = none) (hb : bootBuiltins "sum" = some (.builtin "sum")) (O : GOk X c P scope own) (hi : PI X tg iter wi) (pg : GPG X scope tg g) (pe : GPE X scope k elt te)
    (hs : ∀ v, genFold iter X.env v = pure v := by intro _; rfl)
    (he : starEach [.GeneratorExp elt [⟨tg, iter, [], 0⟩] scope gpos] X.env = (false, eval (.GeneratorExp elt [⟨tg, iter, [], 0⟩] scope gpos) X.env) :: starEach [] X.env := by rfl) :
    PE X (.Call (.Name "sum" p) [.GeneratorExp elt [⟨tg, iter, [], 0⟩] scope gpos] [] pos) (tGSum P wi g te (own.map (·.2))) := by
  refine ⟨fun pins s σ H Q I h => ?_⟩
  refine wpAny_Call_Name_kw (ld_blt I hg hm hb (PyProof.Rows.callWith_builtin1 ?_ he (by rfl)))
  rw [he]
  show wpAny _ _ (spliced ((false, eval (.GeneratorExp elt [⟨tg, iter, [], 0⟩] scope gpos) X.env) :: backTo pos (starEach [] X.env))) _ _ s
  refine Calls.spliced_cons (gen_made (R := fun J H2 => ∃ (n : Nat) (W : Nat → Hp → Prop) (val : Nat → Int), W 0 H2 ∧ GRead J g te σ (own.map fun (q : Str × Nat) => q.2) n W (PoSum W val) (fun i H => Q (.int (preSum val i)) H)) hr O.tb O.code hi O.ok.kind O.co O.nc O.dot (O.free I) hs I h fun J H2 a s5 hR M => Calls.spliced_nil ?_)
  obtain ⟨n, W, val, w0, rd⟩ := hR
  obtain ⟨Xg, og, tn, fp, gn, hgen, I5, t0, hf, af, lf, tk, gs, gi, hpn, hK, hS, back, ready⟩ := made_ready (k := k) hr O.calm O.nd O.ok O.nc O.co pg pe M
  have las : a < s5.heap.objs.size := by
    obtain ⟨o, _, _, e, _⟩ := hgen
    exact Heap.lt_size e
  refine call_function_tree F.kind_sum F.plain_sum F.entry_sum (F.args_sum1 _) ?_
  unfold Builtin.«sum»
  simp only [List.length_cons, List.length_nil]
  rw [if_neg (by decide)]
  refine wpAny_bind (wpAny_of_eq (show Builtin.Builtins.bindParams "sum" ["start"] 0 { } = pure [none] from rfl) (wpAny_bind (wpAny_pyIter_gen hgen (wpAny_bind (wpAny_mkInt (wpAny_bind (wpAny_pure ?_)))))))
  simp only [List.forIn_cons, List.forIn_nil]
  refine wpAny_bind (wpAny_bind (wpAny_bind (wpAny_isInstance (T := "int") (b := false) (typeIs_int _ _ _) PySem.sub_int_str ?_)))
  simp only [Bool.false_eq_true, if_false]
  refine wpAny_pure (wpAny_bind (wpAny_bind (wpAny_isInstance (T := "int") (b := false) (typeIs_int _ _ _) PySem.sub_int_bytes ?_)))
  simp only [Bool.false_eq_true, if_false]
  refine wpAny_pure (wpAny_bind (wpAny_bind (wpAny_isInstance (T := "int") (b := false) (typeIs_int _ _ _) PySem.sub_int_bytearray ?_)))
  simp only [Bool.false_eq_true, if_false]
  refine wpAny_pure (wpAny_pure (wpAny_bind (wpAny_newObj_type ?_)))
  have ne : ∀ b, b < s5.heap.objs.size → b ≠ s5.heap.objs.size := fun b h => Nat.ne_of_lt h
  have I6 := I5.kept (t' := s5.toks + 1) (h' := s5.heap.push { cls := .type "list", data := .seq #[.int 0 s5.toks] 0 }) fun b o e => Heap.get?_push_of_some _ e
  have fo := I5.fpOk (H' := H2) (Nat.le_refl s5.heap.objs.size) (I5.hok.fresh (Nat.le_refl _))
  have I7 : Inv Xg [(a, og), (s5.heap.objs.size, sumObj (preSum val 0) s5.toks 0)] (wipe σ (own.map fun (q : Str × Nat) => q.2)) H2 { s5 with heap := s5.heap.push { cls := .type "list", data := .seq #[.int 0 s5.toks] 0 }, toks := s5.toks + 1 } := I6.pins_of fun p hp => by
    rcases List.mem_cons.mp hp with q | q
    · rw [q]
      exact I6.pin (a, og) (List.mem_append_right _ List.mem_cons_self)
    · rw [List.mem_singleton.mp q]
      exact ⟨Heap.get?_push_size _ rfl, fo.1, fo.2.1, fo.2.2.1, fun v z => by cases z⟩
  have rdy := ready n (sumPL s5.heap.objs.size val) W _ _ (fun i pl ⟨t, c, e⟩ p hp => by
    rw [e] at hp
    rcases List.mem_cons.mp hp with q | q
    · rw [q]; exact af
    · rw [List.mem_singleton.mp q]
      exact fun z => Nat.lt_irrefl _ (Nat.lt_trans las (lf _ z))) rd { s5 with heap := s5.heap.push { cls := .type "list", data := .seq #[.int 0 s5.toks] 0 }, toks := s5.toks + 1 } rfl
  have lp := sum_loop (k := k) (S := s5.heap.objs.size) (val := val) hr gi (fun σ' H' s' pl I' => back σ' H' s' pl I' (I'.os.trans I5.os.symm)) hpn (Nat.le_of_lt (Nat.lt_trans hS las)) (ne _ las) (fun z => Nat.lt_irrefl _ (Nat.lt_trans las (lf _ z))) tk n 0 _ rfl (Nat.zero_le _) rdy
    ⟨H2, _, ⟨s5.toks, 0, rfl⟩, I7, tk _ _ _ t0 fun b _ o e => Heap.get?_push_of_some _ e, hf, w0⟩
  exact wpAny_pure ⟨plainId_quiet F.plain_sum_loop _, ret_end lp⟩
end
end KX

set_option maxHeartbeats 4000000
namespace KX
open PySem PySem.Spec PyProof.Rows L2

/-! ### data on the heap: None, bools, ints, short texts, tuples -/
mutual
inductive Dat (H : Hp) : V → PyData → Prop
  | non : Dat H .non .none
  | bl (b : Bool) : Dat H (.bl b) (.bool b)
  | int (i : Int) : Dat H (.int i) (.int i)
  | str (x : Str) (h : x.length ≤ 1000) : Dat H (.str x) (.str x)
  | tup {a : Addr} {xs : List V} {ds : List PyData} (h : H a = some (.tup xs)) (hs : DatL H xs ds) : Dat H (.ref a) (.tuple ds)
inductive DatL (H : Hp) : List V → List PyData → Prop
  | nil : DatL H [] []
  | cons {v : V} {vs : List V} {d : PyData} {ds : List PyData} (h : Dat H v d) (hs : DatL H vs ds) : DatL H (v :: vs) (d :: ds)
end
section
variable {H H' : Hp}
mutual
theorem Dat.mono (k : ∀ b xs, H b = some (.tup xs) → H' b = some (.tup xs)) : ∀ (d : PyData) (v : V), Dat H v d → Dat H' v d
  | .none, _, h => by cases h; exact .non
  | .bool b, _, h => by cases h; exact .bl b
  | .int i, _, h => by cases h; exact .int i
  | .str x, _, h => by
    cases h with
    | str _ q => exact .str x q
  | .tuple ds, _, h => by
    cases h with
    | tup h1 h2 => exact .tup (k _ _ h1) (DatL.mono k ds _ h2)
  | .list _, _, h => by cases h
  | .dict _, _, h => by cases h
theorem DatL.mono (k : ∀ b xs, H b = some (.tup xs) → H' b = some (.tup xs)) : ∀ (ds : List PyData) (vs : List V), DatL H vs ds → DatL H' vs ds
  | [], _, h => by cases h; exact .nil
  | d :: ds, _, h => by
    cases h with
    | cons h1 h2 => exact .cons (Dat.mono k d _ h1) (DatL.mono k ds _ h2)
end
theorem DatL.length : ∀ {vs : List V} {ds : List PyData}, DatL H vs ds → vs.length = ds.length
  | _, _, .nil => rfl
  | _, _, .cons _ h => by rw [List.length_cons, List.length_cons, h.length]
theorem DatL.get : ∀ {vs : List V} {ds : List PyData} {i : Nat} {v : V}, DatL H vs ds → vs[i]? = some v → ∃ d, ds[i]? = some d ∧ Dat H v d
  | _, _, _, _, .nil, e => by simp at e
  | _, _, 0, _, .cons h _, e => ⟨_, rfl, by cases e; exact h⟩
  | _, _, i + 1, _, .cons _ h, e => by
    obtain ⟨d, e1, h1⟩ := DatL.get (i := i) h (by simpa using e)
    exact ⟨d, by simpa using e1, h1⟩
theorem DatL.at : ∀ {vs : List V} {ds : List PyData} {i : Nat} {d : PyData}, DatL H vs ds → ds[i]? = some d → ∃ v, vs[i]? = some v ∧ Dat H v d
  | _, _, _, _, .nil, e => by simp at e
  | _, _, 0, _, .cons h _, e => ⟨_, rfl, by cases e; exact h⟩
  | _, _, i + 1, _, .cons _ h, e => by
    obtain ⟨d, e1, h1⟩ := DatL.at (i := i) h (by simpa using e)
    exact ⟨d, by simpa using e1, h1⟩
theorem DatL.drop : ∀ {vs : List V} {ds : List PyData} (n : Nat), DatL H vs ds → DatL H (vs.drop n) (ds.drop n)
  | _, _, 0, h => h
  | _, _, _ + 1, .nil => .nil
  | _, _, n + 1, .cons _ h => DatL.drop n h
theorem DatL.take : ∀ {vs : List V} {ds : List PyData} (n : Nat), DatL H vs ds → DatL H (vs.take n) (ds.take n)
  | _, _, 0, _ => .nil
  | _, _, _ + 1, .nil => .nil
  | _, _, n + 1, .cons h t => .cons h (DatL.take n t)
theorem DatL.append : ∀ {vs ws : List V} {ds es : List PyData}, DatL H vs ds → DatL H ws es → DatL H (vs ++ ws) (ds ++ es)
  | _, _, _, _, .nil, h => h
  | _, _, _, _, .cons h t, g => .cons h (DatL.append t g)
mutual
theorem Dat.dp {K : PySem.W.Frag} : ∀ (d : PyData) (v : V), Dat H v d → Dp K H v d ∧ d.plain = true
  | .none, _, h => by cases h; exact ⟨.non, rfl⟩
  | .bool b, _, h => by cases h; exact ⟨.bl b, rfl⟩
  | .int i, _, h => by cases h; exact ⟨.int i, rfl⟩
  | .str x, _, h => by
    cases h with
    | str _ q => exact ⟨.str x, rfl⟩
  | .tuple ds, _, h => by
    cases h with
    | tup h1 h2 =>
      obtain ⟨q1, q2⟩ := DatL.dp ds _ h2
      exact ⟨.tup (SqT.of h1) q1, by simp only [PyData.plain]; exact q2⟩
  | .list _, _, h => by cases h
  | .dict _, _, h => by cases h
theorem DatL.dp {K : PySem.W.Frag} : ∀ (ds : List PyData) (vs : List V), DatL H vs ds → DpAll K H vs ds ∧ PyData.plainAll ds = true
  | [], _, h => by cases h; exact ⟨.nil, rfl⟩
  | d :: ds, _, h => by
    cases h with
    | cons h1 h2 =>
      obtain ⟨q1, q2⟩ := Dat.dp d _ h1
      obtain ⟨q3, q4⟩ := DatL.dp ds _ h2
      exact ⟨.cons q1 q3, by simp only [PyData.plainAll, q2, q4]; rfl⟩
end
/-! ### dicts with texts as keys -/
inductive KvL (H : Hp) : List (Key × V) → List (Str × PyData) → Prop
  | nil : KvL H [] []
  | cons {k : Str} {v : V} {d : PyData} {vs : List (Key × V)} {es : List (Str × PyData)} (h : Dat H v d) (hs : KvL H vs es) : KvL H ((.inr k, v) :: vs) ((k, d) :: es)
def getS : List (Str × PyData) → Str → Option PyData
  | [], _ => none
  | (j, d) :: r, k => if j = k then some d else getS r k
def repS : List (Str × PyData) → Str → PyData → List (Str × PyData)
  | [], _, _ => []
  | (j, e) :: r, k, d => (if j = k then (j, d) else (j, e)) :: repS r k d
def putS (es : List (Str × PyData)) (k : Str) (d : PyData) : List (Str × PyData) := if (getS es k).isSome = true then repS es k d else es ++ [(k, d)]
theorem KvL.mono (k : ∀ b xs, H b = some (.tup xs) → H' b = some (.tup xs)) : ∀ {vs : List (Key × V)} {es : List (Str × PyData)}, KvL H vs es → KvL H' vs es
  | _, _, .nil => .nil
  | _, _, .cons h t => .cons (h.mono k) (KvL.mono k t)
theorem KvL.length : ∀ {vs : List (Key × V)} {es : List (Str × PyData)}, KvL H vs es → vs.length = es.length
  | _, _, .nil => rfl
  | _, _, .cons _ h => by rw [List.length_cons, List.length_cons, h.length]
theorem KvL.get (k : Str) : ∀ {vs : List (Key × V)} {es : List (Str × PyData)}, KvL H vs es → (valV vs (.inr k) = none ∧ getS es k = none) ∨ ∃ v d, valV vs (.inr k) = some v ∧ getS es k = some d ∧ Dat H v d
  | _, _, .nil => .inl ⟨rfl, rfl⟩
  | _, _, .cons (k := j) (v := v) (d := d) h t => by
    by_cases e : j = k
    · exact .inr ⟨v, d, valV_pos (by rw [e]), by unfold getS; rw [if_pos e], h⟩
    · have e2 : ¬ (Sum.inr j : Key) = .inr k := fun z => e (Sum.inr.inj z)
      unfold getS
      rw [if_neg e, valV_neg e2]
      exact KvL.get k t
theorem KvL.has (k : Str) {vs : List (Key × V)} {es : List (Str × PyData)} (h : KvL H vs es) : (valV vs (.inr k)).isSome = (getS es k).isSome := by
  rcases h.get k with ⟨a, b⟩ | ⟨_, _, a, b, _⟩
  · rw [a, b]; rfl
  · rw [a, b]; rfl
theorem KvL.rep (k : Str) {x : V} {e : PyData} (hx : Dat H x e) : ∀ {vs : List (Key × V)} {es : List (Str × PyData)}, KvL H vs es → KvL H (vs.map fun kv => if kv.1 = .inr k then (kv.1, x) else kv) (repS es k e)
  | _, _, .nil => .nil
  | _, _, .cons (k := j) (v := v) (d := d) h t => by
    unfold repS
    rw [List.map_cons]
    by_cases q : j = k
    · rw [if_pos (by rw [q]), if_pos q]
      exact .cons hx (KvL.rep k hx t)
    · rw [if_neg (fun z => q (Sum.inr.inj z)), if_neg q]
      exact .cons h (KvL.rep k hx t)
theorem KvL.snoc (k : Str) {x : V} {e : PyData} (hx : Dat H x e) : ∀ {vs : List (Key × V)} {es : List (Str × PyData)}, KvL H vs es → KvL H (vs ++ [(.inr k, x)]) (es ++ [(k, e)])
  | _, _, .nil => .cons hx .nil
  | _, _, .cons h t => .cons h (KvL.snoc k hx t)
theorem KvL.put (k : Str) {x : V} {e : PyData} (hx : Dat H x e) {vs : List (Key × V)} {es : List (Str × PyData)} (h : KvL H vs es) : KvL H (putK vs (.inr k) x) (putS es k e) := by
  unfold putK putS
  rw [valV_any, h.has k]
  split
  · exact h.rep k hx
  · exact h.snoc k hx
/-- the type's name -/
def tyD : PyData → String
  | .none => "NoneType"
  | .bool _ => "bool"
  | .int _ => "int"
  | .str _ => "str"
  | .list _ => "list"
  | .tuple _ => "tuple"
  | .dict _ => "dict"
theorem Dat.ty {K : PySem.W.Frag} {v : V} {d : PyData} (h : Dat H v d) : TyX K H v (.type (tyD d)) := by
  cases h with
  | non => exact .base .non
  | bl b => exact .base (.bl b)
  | int i => exact .base (.int i)
  | str x q => exact .base (.str x)
  | tup h1 h2 => exact .base (.tup h1)
end

/-! ### grown heaps -/
/-- the row of draws stands at a, over the script at sc -/
structure Row where
  a : Addr
  sc : Addr
  ns : List Int
structure RowOk (K : PySem.W.Frag) (r : Row) (H : Hp) : Prop where
  sq : SqL K H r.sc (r.ns.map V.int)
  ne : r.sc ≠ r.a ∨ ∀ H', SqL K H' r.sc (r.ns.map V.int)
  at_ : ∃ c x g : Int, H r.a = some (.lst [.ref r.sc, .int c, .int x, .int g]) ∧ 0 ≤ c
structure Gr (K : PySem.W.Frag) (row : Option Row) (Ps : List Addr) (H H' : Hp) : Prop where
  kp : ∀ b o, H b = some o → (∀ ps, o ≠ .tbl ps) → (∀ r, row = some r → r.a = b → ∀ xs, o ≠ .lst xs) → H' b = some o
  tb : ∀ P ∈ Ps, GxR.TabG H P → GxR.TabG H' P
  rw : ∀ r, row = some r → RowOk K r H → RowOk K r H'
theorem seq_of {K : PySem.W.Frag} {H H' : Hp} {a : Addr} {xs : List V} (k : ∀ o, H a = some o → (∀ ps, o ≠ .tbl ps) → H' a = some o) (h : SqL K H a xs) : SqL K H' a xs := by
  rcases h with (h | ⟨o, h⟩) | h
  · exact .inl (.inl (k _ h (fun ps z => by cases z)))
  · exact .inl (.inr ⟨o, k _ h (fun ps z => by cases z)⟩)
  · exact .inr h
theorem RowOk.of {K : PySem.W.Frag} {r : Row} {H H' : Hp} (k : ∀ b o, (b = r.a ∨ b = r.sc) → H b = some o → (∀ ps, o ≠ .tbl ps) → H' b = some o) (h : RowOk K r H) : RowOk K r H' := by
  obtain ⟨c, x, g, h1, h2⟩ := h.at_
  exact ⟨seq_of (fun o e n => k _ o (.inr rfl) e n) h.sq, h.ne, c, x, g, k _ _ (.inl rfl) h1 (fun ps z => by cases z), h2⟩
section
variable {K : PySem.W.Frag} {row : Option Row} {Ps : List Addr} {H H1 H2 : Hp}
theorem Gr.refl (H : Hp) : Gr K row Ps H H := ⟨fun _ _ e _ _ => e, fun _ _ h => h, fun _ _ h => h⟩
theorem Gr.trans (a : Gr K row Ps H H1) (b : Gr K row Ps H1 H2) : Gr K row Ps H H2 :=
  ⟨fun c o e n m => b.kp c o (a.kp c o e n m) n m, fun P hP h => b.tb P hP (a.tb P hP h), fun c e h => b.rw c e (a.rw c e h)⟩
theorem Gr.same (k : ∀ b o, H b = some o → H1 b = some o) : Gr K row Ps H H1 :=
  ⟨fun b o e _ _ => k b o e, fun P _ ⟨ps, e, t⟩ => ⟨ps, k _ _ e, t⟩, fun a _ h => h.of fun b o _ e _ => k b o e⟩
theorem Gr.laid {p : Addr} {o : HO} (h : H p = none) : Gr K row Ps H (upd H p o) := .same fun b u e => by rw [upd_ne (ne_of_none e h)]; exact e
theorem Gr.tabbed {P : Addr} (t : GxR.TabG H P) (h : GxR.Tabbed P H H1) : Gr K row Ps H H1 := by
  obtain ⟨ps, e0, _⟩ := t
  have k : ∀ b o, H b = some o → (∀ ps, o ≠ .tbl ps) → H1 b = some o := fun b o e n => by
    rw [h.2 b (fun z => by
      rw [z, e0] at e
      exact n ps (Option.some.inj e).symm)]
    exact e
  refine ⟨fun b o e n _ => k b o e n, fun P' _ ⟨qs, e, t⟩ => ?_, fun a _ r => r.of fun b o _ e n => k b o e n⟩
  by_cases q : P' = P
  · rw [q]
    exact h.1
  · exact ⟨qs, by rw [h.2 P' q]; exact e, t⟩
/-- what changes no object but tables serves where a row is drawn from -/
theorem Gr.any (g : Gr K none Ps H H1) : Gr K row Ps H H1 :=
  ⟨fun b o e n _ => g.kp b o e n (fun r z => by cases z), g.tb, fun a _ h => h.of fun b o _ e n => g.kp b o e n (fun r z => by cases z)⟩
/-- an object made since may be changed -/
theorem Gr.fresh (g : Gr K row Ps H H1) {p : Addr} {o : HO} (h : H p = none) (hr : ∀ r, row = some r → RowOk K r H) : Gr K row Ps H (upd H1 p o) := by
  have ne : ∀ b u, H b = some u → b ≠ p := fun b u e => ne_of_none e h
  refine ⟨fun b u e n m => by rw [upd_ne (ne b u e)]; exact g.kp b u e n m, fun P hP t => ?_, fun r e x => ?_⟩
  · obtain ⟨ps, e1, t1⟩ := g.tb P hP t
    obtain ⟨qs, e2, _⟩ := t
    exact ⟨ps, by rw [upd_ne (ne P _ e2)]; exact e1, t1⟩
  · obtain ⟨c, y, z, h1, _⟩ := x.at_
    have x1 := g.rw r e x
    obtain ⟨c', y', z', h1', h2'⟩ := x1.at_
    refine ⟨?_, x1.ne, c', y', z', by rw [upd_ne (ne _ _ h1)]; exact h1', h2'⟩
    rcases x.sq with (h3 | ⟨ob, h3⟩) | h3
    · refine seq_of (fun o2 e2 n2 => ?_) x1.sq
      rw [upd_ne (ne _ _ h3)]
      exact e2
    · refine seq_of (fun o2 e2 n2 => ?_) x1.sq
      rw [upd_ne (ne _ _ h3)]
      exact e2
    · exact .inr h3
theorem Gr.tup (g : Gr K row Ps H H1) {b : Addr} {xs : List V} (h : H b = some (.tup xs)) : H1 b = some (.tup xs) := g.kp b _ h (fun _ z => by cases z) (fun _ _ _ _ z => by cases z)
theorem Gr.dat (g : Gr K row Ps H H1) {v : V} {d : PyData} (h : Dat H v d) : Dat H1 v d := h.mono (fun _ _ e => g.tup e)
theorem Gr.datL (g : Gr K row Ps H H1) {v : List V} {d : List PyData} (h : DatL H v d) : DatL H1 v d := h.mono (fun _ _ e => g.tup e)
def TabsOk (Ps : List Addr) (H : Hp) : Prop := ∀ P ∈ Ps, GxR.TabG H P
theorem Gr.tabs (g : Gr K row Ps H H1) (h : TabsOk Ps H) : TabsOk Ps H1 := fun P hP => g.tb P hP (h P hP)
end

/-! ### what an expression is worth, at every grown heap -/
inductive AV where
  | vp (p : V → Prop)
  | dp (p : PyData → Prop)
  | lp (p : List PyData → Prop)
  | kp (p : List (Str × PyData) → Prop)
  /-- a list or a dict, not the one at ra -/
  | np (ra : Addr)
  /-- a list, not the one at ra -/
  | lx (ra : Addr) (p : List PyData → Prop)
  /-- a tuple of one such list -/
  | tp (ra : Addr)
abbrev AV.val (v : V) : AV := .vp (· = v)
abbrev AV.dat (d : PyData) : AV := .dp (· = d)
abbrev AV.lst (ds : List PyData) : AV := .lp (· = ds)
abbrev AV.dct (es : List (Str × PyData)) : AV := .kp (· = es)
def AV.is : AV → V → Hp → Prop
  | .vp p, x, _ => p x
  | .dp p, x, H => ∃ d, p d ∧ Dat H x d
  | .lp p, x, H => ∃ a xs ds, x = .ref a ∧ H a = some (.lst xs) ∧ p ds ∧ DatL H xs ds
  | .kp p, x, H => ∃ a vs es, x = .ref a ∧ H a = some (.dK vs) ∧ p es ∧ KvL H vs es
  | .np ra, x, H => ∃ a, x = .ref a ∧ a ≠ ra ∧ ((∃ xs, H a = some (.lst xs)) ∨ ∃ vs, H a = some (.dK vs))
  | .lx ra p, x, H => ∃ a xs ds, x = .ref a ∧ a ≠ ra ∧ H a = some (.lst xs) ∧ p ds ∧ DatL H xs ds
  | .tp ra, x, H => ∃ a b xs, x = .ref a ∧ H a = some (.tup [.ref b]) ∧ b ≠ ra ∧ H b = some (.lst xs)
def AV.ok (a : AV) (row : Option Row) : Prop := match a with
  | .lp _ => row = none
  | .np ra => ∀ r, row = some r → r.a = ra
  | .lx ra _ => ∀ r, row = some r → r.a = ra
  | .tp ra => ∀ r, row = some r → r.a = ra
  | _ => True
/-- the context of the readings: the written part, the row of draws (if any), the tables -/
structure Ct where
  K : PySem.W.Frag
  row : Option Row
  Ps : List Addr
abbrev Ct.R (c : Ct) (H H' : Hp) : Prop := Gr c.K c.row c.Ps H H'
/-- what stands at the beginning: the tables, the row -/
structure Ct.At (c : Ct) (H : Hp) : Prop where
  tabs : TabsOk c.Ps H
  row : ∀ r, c.row = some r → RowOk c.K r H
theorem Ct.At.up {c : Ct} {H H1 : Hp} (x : c.At H) (g : c.R H H1) : c.At H1 := ⟨g.tabs x.tabs, fun r e => g.rw r e (x.row r e)⟩
theorem AV.keep {c : Ct} {H H1 : Hp} {a : AV} {x : V} (o : a.ok c.row) (g : c.R H H1) (h : a.is x H) : a.is x H1 := by
  cases a with
  | vp p => exact h
  | dp p =>
    obtain ⟨d, h1, h2⟩ := h
    exact ⟨d, h1, g.dat h2⟩
  | lp p =>
    obtain ⟨b, xs, ds, e, h1, h2, h3⟩ := h
    have n : c.row = none := o
    exact ⟨b, xs, ds, e, g.kp _ _ h1 (fun _ z => by cases z) (fun r z => by rw [n] at z; cases z), h2, g.datL h3⟩
  | kp p =>
    obtain ⟨b, vs, es, e, h1, h2, h3⟩ := h
    exact ⟨b, vs, es, e, g.kp _ _ h1 (fun _ z => by cases z) (fun _ _ _ _ z => by cases z), h2, h3.mono (fun _ _ e => g.tup e)⟩
  | np ra =>
    obtain ⟨b, e, n, ⟨xs, h1⟩ | ⟨vs, h1⟩⟩ := h
    · exact ⟨b, e, n, .inl ⟨xs, g.kp _ _ h1 (fun _ z => by cases z) (fun r z w => (n (w.symm.trans (o r z))).elim)⟩⟩
    · exact ⟨b, e, n, .inr ⟨vs, g.kp _ _ h1 (fun _ z => by cases z) (fun _ _ _ _ z => by cases z)⟩⟩
  | tp ra =>
    obtain ⟨b, l, xs, e, h1, n, h2⟩ := h
    exact ⟨b, l, xs, e, g.tup h1, n, g.kp _ _ h2 (fun _ z => by cases z) (fun r z w => (n (w.symm.trans (o r z))).elim)⟩
  | lx ra p =>
    obtain ⟨b, xs, ds, e, n, h1, h2, h3⟩ := h
    exact ⟨b, xs, ds, e, n, g.kp _ _ h1 (fun _ z => by cases z) (fun r z w => (n (w.symm.trans (o r z))).elim), h2, g.datL h3⟩
def Ev (c : Ct) (te : TE) (σ : L2.St) (H0 : Hp) (a : AV) : Prop := ∀ H, c.R H0 H → ∀ Q : VK, (∀ v H', c.R H H' → a.is v H' → Q v H') → te σ H Q
def EvT (c : Ct) (t : TT) (σ : L2.St) (H0 : Hp) (b : Bool) : Prop := ∀ H, c.R H0 H → ∀ Q : Bool → Hp → Prop, (∀ H', c.R H H' → Q b H') → t σ H Q
def AVs : List AV → List V → Hp → Prop
  | [], vs, _ => vs = []
  | a :: as, vs, H => ∃ v r, vs = v :: r ∧ a.is v H ∧ AVs as r H
def EvA (c : Ct) (ta : TA) (σ : L2.St) (H0 : Hp) (as : List AV) : Prop := ∀ H, c.R H0 H → ∀ Q : List V → Hp → Prop, (∀ vs H', c.R H H' → AVs as vs H' → Q vs H') → ta σ H Q
/-- a block that returns -/
def EvS (c : Ct) (ts : TS) (σ : L2.St) (H0 : Hp) (a : AV) : Prop := ∀ H, c.R H0 H → ∀ D : Ends, (∀ v H', c.R H H' → a.is v H' → D.rt v H') → ts D σ H
/-- the slot i holds such a value -/
def Sl (σ : L2.St) (i : Nat) (a : AV) (H : Hp) : Prop := ∃ x, σ[i]? = some (some x) ∧ a.is x H
section
variable {c : Ct} {σ : L2.St} {H0 H1 : Hp} {te ta tb : TE} {tA tB' : TT} {a b : AV} {i : Nat}
theorem Ev.up (h : Ev c te σ H0 a) (g : c.R H0 H1) : Ev c te σ H1 a := fun H r => h H (g.trans r)
theorem EvT.up {k : Bool} (h : EvT c tA σ H0 k) (g : c.R H0 H1) : EvT c tA σ H1 k := fun H r => h H (g.trans r)
theorem EvS.up {ts : TS} (h : EvS c ts σ H0 a) (g : c.R H0 H1) : EvS c ts σ H1 a := fun H r => h H (g.trans r)
theorem Sl.up (o : a.ok c.row) (h : Sl σ i a H0) (g : c.R H0 H1) : Sl σ i a H1 := by
  obtain ⟨x, e, q⟩ := h
  exact ⟨x, e, AV.keep (c := c) o g q⟩
theorem Ev.wk (h : Ev c te σ H0 a) (w : ∀ x H, a.is x H → b.is x H) : Ev c te σ H0 b := fun H r Q q => h H r Q fun v H' r' x => q v H' r' (w v H' x)
theorem Ev.of_d {d : PyData} (h : Ev c te σ H0 (.dat d)) (w : ∀ x H, Dat H x d → b.is x H) : Ev c te σ H0 b := h.wk fun x H ⟨d', e, q⟩ => w x H (e ▸ q)
theorem Ev.int {n : Int} (h : Ev c te σ H0 (.dat (.int n))) : Ev c te σ H0 (.val (.int n)) := h.of_d fun x H q => by cases q; rfl
theorem Ev.str {n : Str} (h : Ev c te σ H0 (.dat (.str n))) : Ev c te σ H0 (.val (.str n)) := h.of_d fun x H q => by cases q; rfl
theorem Ev.dInt {n : Int} (h : Ev c te σ H0 (.val (.int n))) : Ev c te σ H0 (.dat (.int n)) := h.wk fun x H q => by cases q; exact ⟨_, rfl, .int n⟩
theorem Ev.dStr {n : Str} (h : Ev c te σ H0 (.val (.str n))) (l : n.length ≤ 1000) : Ev c te σ H0 (.dat (.str n)) := h.wk fun x H q => by cases q; exact ⟨_, rfl, .str n l⟩
theorem ev_var (h : Sl σ i a H0) (o : a.ok c.row := by first | trivial | assumption) : Ev c (tVar i) σ H0 a := fun H r Q q => by
  obtain ⟨x, e, z⟩ := h
  exact ⟨x, e, q x H (.refl H) (AV.keep (c := c) o r z)⟩
theorem ev_c {v : V} : Ev c (tC v) σ H0 (.val v) := fun H r Q q => q v H (.refl H) rfl
theorem evA_nil : EvA c tNil σ H0 [] := fun H r Q q => q [] H (.refl H) rfl
theorem evA_cons {ta' : TA} {as : List AV} (h : Ev c ta σ H0 a) (t : EvA c ta' σ H0 as) (o : a.ok c.row := by first | trivial | assumption) : EvA c (tCons ta ta') σ H0 (a :: as) := fun H r Q q =>
  h H r _ fun v H1 r1 x => t H1 (r.trans r1) _ fun vs H2 r2 y => q _ H2 (r1.trans r2) ⟨v, vs, rfl, AV.keep (c := c) o r2 x, y⟩
theorem evA_one (h : Ev c ta σ H0 a) : EvA c (tCons ta tNil) σ H0 [a] := fun H r Q q =>
  h H r _ fun v H1 r1 x => q [v] H1 r1 ⟨v, [], rfl, x, rfl⟩
theorem ev_op {r : R2} {e : AV} (ha : Ev c ta σ H0 a) (hb : Ev c tb σ H0 b) (hr : ∀ H x y (Q : VK), c.R H0 H → a.is x H → b.is y H → (∀ v H', c.R H H' → e.is v H' → Q v H') → r x y H Q) (o : a.ok c.row := by first | trivial | assumption) : Ev c (tOp r ta tb) σ H0 e := fun H rr Q q =>
  ha H rr _ fun x H1 r1 hx => hb H1 (rr.trans r1) _ fun y H2 r2 hy => hr H2 x y Q (rr.trans (r1.trans r2)) (AV.keep (c := c) o r2 hx) hy fun v H3 r3 hv => q v H3 (r1.trans (r2.trans r3)) hv
theorem ev_cb {r : List V → Hp → VK → Prop} {ta' : TA} {as : List AV} {e : AV} (ha : EvA c ta' σ H0 as) (hr : ∀ H vs (Q : VK), c.R H0 H → AVs as vs H → (∀ v H', c.R H H' → e.is v H' → Q v H') → r vs H Q) : Ev c (tCB r ta') σ H0 e := fun H rr Q q =>
  ha H rr _ fun vs H1 r1 hv => hr H1 vs Q (rr.trans r1) hv fun v H2 r2 h2 => q v H2 (r1.trans r2) h2
/-! ### bools -/
theorem evT_val {k : Bool} (h : Ev c te σ H0 (.val (.bl k))) : EvT c (tB te) σ H0 k := fun H r Q q => h H r _ fun v H1 r1 x => ⟨k, x, q H1 r1⟩
theorem evT_test {k : Bool} (h : Ev c te σ H0 (.val (.bl k))) : EvT c (tTest te) σ H0 k := fun H r Q q => h H r _ fun v H1 r1 x => ⟨k, x, q H1 r1⟩
theorem ev_and {k l : Bool} (ha : Ev c ta σ H0 (.val (.bl k))) (hb : k = true → Ev c tb σ H0 (.val (.bl l))) : Ev c (tAndV ta tb) σ H0 (.val (.bl (k && l))) := fun H r Q q =>
  ha H r _ fun v H1 r1 x => ⟨k, x, by
    cases k with
    | true => exact iteT (hb rfl H1 (r.trans r1) _ fun w H2 r2 y => q w H2 (r1.trans r2) (by cases l <;> exact y))
    | false => exact iteF (q _ H1 r1 rfl)⟩
theorem ev_or {k l : Bool} (ha : Ev c ta σ H0 (.val (.bl k))) (hb : k = false → Ev c tb σ H0 (.val (.bl l))) : Ev c (tOrV ta tb) σ H0 (.val (.bl (k || l))) := fun H r Q q =>
  ha H r _ fun v H1 r1 x => ⟨k, x, by
    cases k with
    | false => exact iteF (hb rfl H1 (r.trans r1) _ fun w H2 r2 y => q w H2 (r1.trans r2) (by cases l <;> exact y))
    | true => exact iteT (q _ H1 r1 rfl)⟩
theorem ev_not {k : Bool} (ha : Ev c ta σ H0 (.val (.bl k))) : Ev c (tNotV ta) σ H0 (.val (.bl (!k))) := fun H r Q q => ha H r _ fun v H1 r1 x => ⟨k, x, q _ H1 r1 rfl⟩
theorem evT_and {k l : Bool} (ha : EvT c tA σ H0 k) (hb : k = true → EvT c tB' σ H0 l) : EvT c (tAnd tA tB') σ H0 (k && l) := fun H r Q q => ha H r _ fun H1 r1 => by
  cases k with
  | true => exact iteT (hb rfl H1 (r.trans r1) _ fun H2 r2 => q H2 (r1.trans r2))
  | false => exact iteF (q H1 r1)
theorem evT_or {k l : Bool} (ha : EvT c tA σ H0 k) (hb : k = false → EvT c tB' σ H0 l) : EvT c (tOr tA tB') σ H0 (k || l) := fun H r Q q => ha H r _ fun H1 r1 => by
  cases k with
  | false => exact iteF (hb rfl H1 (r.trans r1) _ fun H2 r2 => q H2 (r1.trans r2))
  | true => exact iteT (q H1 r1)
theorem evT_not {k : Bool} (ha : EvT c tA σ H0 k) : EvT c (tNot tA) σ H0 (!k) := fun H r Q q => ha H r _ fun H1 r1 => q H1 r1
theorem EvT.to {k l : Bool} (h : EvT c tA σ H0 k) (e : k = l) : EvT c tA σ H0 l := e ▸ h
theorem Ev.to (h : Ev c te σ H0 a) (e : a = b) : Ev c te σ H0 b := e ▸ h
theorem Ev.bl {k l : Bool} (h : Ev c te σ H0 (.val (.bl k))) (e : k = l) : Ev c te σ H0 (.val (.bl l)) := e ▸ h
theorem ev_if {k : Bool} (ht : EvT c tA σ H0 k) (ha : k = true → Ev c ta σ H0 a) (hb : k = false → Ev c tb σ H0 a) : Ev c (tIf tA ta tb) σ H0 a := fun H r Q q => ht H r _ fun H1 r1 => by
  cases k with
  | true => exact iteT (ha rfl H1 (r.trans r1) _ fun v H2 r2 x => q v H2 (r1.trans r2) x)
  | false => exact iteF (hb rfl H1 (r.trans r1) _ fun v H2 r2 x => q v H2 (r1.trans r2) x)
/-! ### blocks -/
theorem evS_ret (h : Ev c te σ H0 a) : EvS c (tRet te) σ H0 a := fun H r D q => h H r _ q
theorem evS_if {t u : TS} {k : Bool} (ht : EvT c tA σ H0 k) (h1 : k = true → EvS c t σ H0 a) (h2 : k = false → EvS c u σ H0 a) : EvS c (tSeq (tIfS tA t tNext) u) σ H0 a := fun H r D q => ht H r _ fun H1 r1 => by
  cases k with
  | true => exact iteT (h1 rfl H1 (r.trans r1) _ fun v H2 r2 x => q v H2 (r1.trans r2) x)
  | false => exact iteF (h2 rfl H1 (r.trans r1) D fun v H2 r2 x => q v H2 (r1.trans r2) x)
theorem evS_set {t : TS} (h : Ev c te σ H0 b) (k : ∀ x H, c.R H0 H → b.is x H → EvS c t (σ.set i (some x)) H a) : EvS c (tSeq (tAsg te (gName i)) t) σ H0 a := fun H r D q =>
  h H r _ fun x H1 r1 hx => k x H1 (r.trans r1) hx H1 (.refl H1) D fun v H2 r2 y => q v H2 (r1.trans r2) y
end
end KX

set_option maxHeartbeats 4000000
namespace KX
open PySem PySem.Spec PyProof.Rows L2
/-! ### types -/
def isInt : PyData → Bool
  | .int _ => true
  | .bool _ => true
  | _ => false
def isBool : PyData → Bool
  | .bool _ => true
  | _ => false
def isStr : PyData → Bool
  | .str _ => true
  | _ => false
def isTup : PyData → Bool
  | .tuple _ => true
  | _ => false
def isLst : PyData → Bool
  | .list _ => true
  | _ => false
theorem kit_int : ∀ d, kitB (tyD d) "int" = some (isInt d)
  | .none => (by decide +kernel : kitB "NoneType" "int" = some false)
  | .bool _ => (by decide +kernel : kitB "bool" "int" = some true)
  | .int _ => (by decide +kernel : kitB "int" "int" = some true)
  | .str _ => (by decide +kernel : kitB "str" "int" = some false)
  | .list _ => (by decide +kernel : kitB "list" "int" = some false)
  | .tuple _ => (by decide +kernel : kitB "tuple" "int" = some false)
  | .dict _ => (by decide +kernel : kitB "dict" "int" = some false)
theorem kit_bool : ∀ d, kitB (tyD d) "bool" = some (isBool d)
  | .none => (by decide +kernel : kitB "NoneType" "bool" = some false)
  | .bool _ => (by decide +kernel : kitB "bool" "bool" = some true)
  | .int _ => (by decide +kernel : kitB "int" "bool" = some false)
  | .str _ => (by decide +kernel : kitB "str" "bool" = some false)
  | .list _ => (by decide +kernel : kitB "list" "bool" = some false)
  | .tuple _ => (by decide +kernel : kitB "tuple" "bool" = some false)
  | .dict _ => (by decide +kernel : kitB "dict" "bool" = some false)
theorem kit_str : ∀ d, kitB (tyD d) "str" = some (isStr d)
  | .none => (by decide +kernel : kitB "NoneType" "str" = some false)
  | .bool _ => (by decide +kernel : kitB "bool" "str" = some false)
  | .int _ => (by decide +kernel : kitB "int" "str" = some false)
  | .str _ => (by decide +kernel : kitB "str" "str" = some true)
  | .list _ => (by decide +kernel : kitB "list" "str" = some false)
  | .tuple _ => (by decide +kernel : kitB "tuple" "str" = some false)
  | .dict _ => (by decide +kernel : kitB "dict" "str" = some false)
theorem kit_tup : ∀ d, kitB (tyD d) "tuple" = some (isTup d)
  | .none => (by decide +kernel : kitB "NoneType" "tuple" = some false)
  | .bool _ => (by decide +kernel : kitB "bool" "tuple" = some false)
  | .int _ => (by decide +kernel : kitB "int" "tuple" = some false)
  | .str _ => (by decide +kernel : kitB "str" "tuple" = some false)
  | .list _ => (by decide +kernel : kitB "list" "tuple" = some false)
  | .tuple _ => (by decide +kernel : kitB "tuple" "tuple" = some true)
  | .dict _ => (by decide +kernel : kitB "dict" "tuple" = some false)
theorem kit_lst : ∀ d, kitB (tyD d) "list" = some (isLst d)
  | .none => (by decide +kernel : kitB "NoneType" "list" = some false)
  | .bool _ => (by decide +kernel : kitB "bool" "list" = some false)
  | .int _ => (by decide +kernel : kitB "int" "list" = some false)
  | .str _ => (by decide +kernel : kitB "str" "list" = some false)
  | .list _ => (by decide +kernel : kitB "list" "list" = some true)
  | .tuple _ => (by decide +kernel : kitB "tuple" "list" = some false)
  | .dict _ => (by decide +kernel : kitB "dict" "list" = some false)

/-! ### items of data -/
theorem DatL.atI {H : Hp} {vs : List V} {ds : List PyData} {j : Int} {d : PyData} (h : DatL H vs ds) (e : L2.atI ds j = some d) : ∃ v, L2.atI vs j = some v ∧ Dat H v d := by
  unfold L2.atI at e ⊢
  rw [h.length]
  cases q : ixN ds.length j with
  | none =>
    rw [q] at e
    cases e
  | some k =>
    rw [q] at e
    exact h.at e
def cutD (xs : List PyData) (lo hi : Option Int) : List PyData := (xs.drop (HT.sIx xs.length 0 lo)).take (HT.sIx xs.length xs.length hi - HT.sIx xs.length 0 lo)
theorem DatL.cut {H : Hp} {vs : List V} {ds : List PyData} (lo hi : Option Int) (h : DatL H vs ds) : DatL H (cutV vs lo hi) (cutD ds lo hi) := by
  unfold cutV cutD
  rw [h.length]
  exact (h.drop _).take _
theorem cutD_from (ds : List PyData) (k : Nat) (h : k ≤ ds.length) : cutD ds (some (k : Int)) none = ds.drop k := by
  unfold cutD
  rw [HT.sIx_nat, HT.sIx_none, Nat.min_eq_left h]
  exact List.take_of_length_le (by rw [List.length_drop]; exact Nat.le_refl _)
theorem cutD_to (ds : List PyData) (k : Nat) : cutD ds none (some (k : Int)) = ds.take k := by
  unfold cutD
  rw [HT.sIx_nat, HT.sIx_none, List.drop_zero, Nat.sub_zero]
  by_cases h : k ≤ ds.length
  · rw [Nat.min_eq_left h]
  · rw [Nat.min_eq_right (by omega), List.take_of_length_le (Nat.le_refl _), List.take_of_length_le (by omega)]
theorem cut_whole {xs : List PyData} {lo hi : Option Int} (h : HT.sIx xs.length 0 lo = 0 ∧ HT.sIx xs.length xs.length hi = xs.length) : cutD xs lo hi = xs := by
  unfold cutD
  rw [h.1, h.2, List.drop_zero, Nat.sub_zero]
  exact List.take_of_length_le (Nat.le_refl _)
def lenD : PyData → Option Nat
  | .str x => some x.length
  | .tuple ds => some ds.length
  | _ => none

section
variable {c : Ct} {σ : L2.St} {H0 H1 : Hp} {te ta tb tc ti : TE} {tA tB' : TT} {a b : AV} {i : Nat} {d : PyData} {ds : List PyData} {k : Bool}
theorem ev_isi {n : String} (h : Ev c te σ H0 (.dat d)) (e : kitB (tyD d) n = some k) : Ev c (tCB (rIsi c.K) (tCons te (tCons (tC (.ty n)) tNil))) σ H0 (.val (.bl k)) :=
  ev_cb (evA_cons h (evA_one ev_c)) fun H vs Q r hv q => by
    obtain ⟨x, r1, rfl, ⟨d', rfl, hd⟩, y, r2, rfl, rfl, rfl⟩ := hv
    exact ⟨x, _, _, _, k, rfl, .ty n, hd.ty, kit_ty e, q _ H (.refl H) rfl⟩
abbrev rLenK (K : PySem.W.Frag) : List V → Hp → VK → Prop := fun xs H Q => ∃ x n, xs = [x] ∧ LenV K x H n ∧ Q (.int n) H
theorem ev_len {n : Nat} (h : Ev c te σ H0 (.dat d)) (e : lenD d = some n) : Ev c (tCB (rLenK c.K) (tCons te tNil)) σ H0 (.val (.int n)) :=
  ev_cb (evA_one h) fun H vs Q r hv q => by
    obtain ⟨x, r1, rfl, ⟨d', rfl, hd⟩, rfl⟩ := hv
    refine ⟨x, n, rfl, ?_, q _ H (.refl H) rfl⟩
    cases hd with
    | str y l =>
      cases e
      exact ⟨Nat.le_trans l (by decide), rfl⟩
    | tup h1 h2 =>
      cases e
      exact .inr ⟨_, SqT.of h1, h2.length.symm⟩
    | _ => cases e
theorem ev_lenL (h : Ev c te σ H0 (.lst ds)) : Ev c (tCB (rLenK c.K) (tCons te tNil)) σ H0 (.val (.int ds.length)) :=
  ev_cb (evA_one h) fun H vs Q r hv q => by
    obtain ⟨x, r1, rfl, ⟨b, xs, _, rfl, h1, rfl, h2⟩, rfl⟩ := hv
    exact ⟨_, _, rfl, .inl ⟨xs, SqL.of h1, h2.length.symm⟩, q _ H (.refl H) rfl⟩
theorem ev_ix {j : Int} (h : Ev c ta σ H0 (.dat (.tuple ds))) (hi : Ev c ti σ H0 (.val (.int j))) (e : atI ds j = some d) : Ev c (tOp (rIxT c.K) ta ti) σ H0 (.dat d) :=
  ev_op h hi fun H x y Q r hx hy q => by
    obtain ⟨_, rfl, hd⟩ := hx
    cases hd with
    | tup h1 h2 =>
      obtain ⟨v, e2, hv⟩ := h2.atI e
      exact ⟨_, _, j, v, rfl, hy, SqT.of h1, e2, q v H (.refl H) ⟨d, rfl, hv⟩⟩
theorem ev_ixL {j : Int} (h : Ev c ta σ H0 (.lst ds)) (hi : Ev c ti σ H0 (.val (.int j))) (e : atI ds j = some d) (o : c.row = none) : Ev c (tOp (rIxL c.K) ta ti) σ H0 (.dat d) :=
  ev_op h hi (fun H x y Q r hx hy q => by
    obtain ⟨b, xs, _, rfl, h1, rfl, h2⟩ := hx
    obtain ⟨v, e2, hv⟩ := h2.atI e
    exact ⟨_, _, j, v, rfl, hy, SqL.of h1, e2, q v H (.refl H) ⟨d, rfl, hv⟩⟩) (by rw [o]; trivial)
/-- scalars -/
theorem ev_eq {x y : V} (ha : Ev c ta σ H0 (.val x)) (hb : Ev c tb σ H0 (.val y)) (e : scal x y = true) : Ev c (tOp rEq ta tb) σ H0 (.val (.bl (decide (x = y)))) :=
  ev_op ha hb fun H v w Q r hx hy q => by
    cases hx
    cases hy
    exact ⟨e, q _ H (.refl H) rfl⟩
theorem ev_ne {x y : V} (ha : Ev c ta σ H0 (.val x)) (hb : Ev c tb σ H0 (.val y)) (e : scal x y = true) : Ev c (tOp rNe ta tb) σ H0 (.val (.bl (!decide (x = y)))) :=
  ev_op ha hb fun H v w Q r hx hy q => by
    cases hx
    cases hy
    exact ⟨e, q _ H (.refl H) rfl⟩
theorem ev_i0 {i j : Int} {g : Int → Int → V} (ha : Ev c ta σ H0 (.val (.int i))) (hb : Ev c tb σ H0 (.val (.int j))) : Ev c (tOp (rI0 g) ta tb) σ H0 (.val (g i j)) :=
  ev_op ha hb fun H v w Q r hx hy q => ⟨i, j, hx, hy, q _ H (.refl H) rfl⟩
theorem ev_iC {i j : Int} {C : Int → Int → Prop} {g : Int → Int → V} (ha : Ev c ta σ H0 (.val (.int i))) (hb : Ev c tb σ H0 (.val (.int j))) (e : C i j) : Ev c (tOp (rI C g) ta tb) σ H0 (.val (g i j)) :=
  ev_op ha hb fun H v w Q r hx hy q => ⟨i, j, hx, hy, e, q _ H (.refl H) rfl⟩
abbrev rLe : R2 := rI0 fun i j => .bl (decide (i ≤ j))
theorem ev_chain {i j l : Int} (ha : Ev c ta σ H0 (.val (.int i))) (hb : Ev c tb σ H0 (.val (.int j))) (hc : Ev c tc σ H0 (.val (.int l))) :
    Ev c (tChain rLe rLe ta tb tc) σ H0 (.val (.bl (decide (i ≤ j) && decide (j ≤ l)))) := fun H r Q q =>
  ha H r _ fun x H1 r1 hx => hb H1 (r.trans r1) _ fun y H2 r2 hy => ⟨i, j, hx, hy, decide (i ≤ j), rfl, by
    cases e : decide (i ≤ j) with
    | false => exact iteF (q _ H2 (r1.trans r2) (by show V.bl false = V.bl (decide (i ≤ j) && decide (j ≤ l)); rw [e]; rfl))
    | true => exact iteT (hc H2 (r.trans (r1.trans r2)) _ fun z H3 r3 hz => ⟨j, l, hy, hz, q _ H3 (r1.trans (r2.trans r3)) (by show V.bl (decide (j ≤ l)) = V.bl (decide (i ≤ j) && decide (j ≤ l)); rw [e]; rfl)⟩)⟩
/-! ### == of data -/
def rEqP (K : PySem.W.Frag) : R2 := fun x y H Q => ∃ d e, Dp K H x d ∧ Dp K H y e ∧ d.plain = true ∧ e.plain = true ∧ min d.depth e.depth ≤ 64 ∧ Q (.bl (PyData.eqv d e)) H
def rNeP (K : PySem.W.Frag) : R2 := fun x y H Q => ∃ d e, Dp K H x d ∧ Dp K H y e ∧ d.plain = true ∧ e.plain = true ∧ min d.depth e.depth ≤ 64 ∧ Q (.bl (!PyData.eqv d e)) H
theorem op_eqP {X : Cx} (hu : X.A.units + 64 < cLine) : OpR X (compareOp .Eq) (rEqP X.K) := by
  intro pins s σ H x y v u Q I rx ry h
  obtain ⟨d, e, hd, he, sd, se, sz, q⟩ := h
  obtain ⟨as, r1⟩ := Dp.reads I d x v hd rx
  obtain ⟨bs, r2⟩ := Dp.reads I e y u he ry
  exact SeqAt.eq_plain r1 r2 sd se (by omega) ⟨.bl _, H, I, rfl, q⟩
theorem op_neP {X : Cx} (hu : X.A.units + 64 < cLine) : OpR X (compareOp .NotEq) (rNeP X.K) := by
  intro pins s σ H x y v u Q I rx ry h
  obtain ⟨d, e, hd, he, sd, se, sz, q⟩ := h
  obtain ⟨as, r1⟩ := Dp.reads I d x v hd rx
  obtain ⟨bs, r2⟩ := Dp.reads I e y u he ry
  exact SeqAt.ne_plain r1 r2 sd se (by omega) ⟨.bl _, H, I, rfl, q⟩
theorem ev_eqD {e : PyData} (ha : Ev c ta σ H0 (.dat d)) (hb : Ev c tb σ H0 (.dat e)) (z : min d.depth e.depth ≤ 64) : Ev c (tOp (rEqP c.K) ta tb) σ H0 (.val (.bl (PyData.eqv d e))) :=
  ev_op ha hb fun H x y Q r hx hy q => by
    obtain ⟨_, rfl, h1⟩ := hx
    obtain ⟨_, rfl, h2⟩ := hy
    exact ⟨_, _, (Dat.dp (K := c.K) _ _ h1).1, (Dat.dp (K := c.K) _ _ h2).1, (Dat.dp (K := c.K) _ _ h1).2, (Dat.dp (K := c.K) _ _ h2).2, z, q _ H (.refl H) rfl⟩
theorem ev_neD {e : PyData} (ha : Ev c ta σ H0 (.dat d)) (hb : Ev c tb σ H0 (.dat e)) (z : min d.depth e.depth ≤ 64) : Ev c (tOp (rNeP c.K) ta tb) σ H0 (.val (.bl (!PyData.eqv d e))) :=
  ev_op ha hb fun H x y Q r hx hy q => by
    obtain ⟨_, rfl, h1⟩ := hx
    obtain ⟨_, rfl, h2⟩ := hy
    exact ⟨_, _, (Dat.dp (K := c.K) _ _ h1).1, (Dat.dp (K := c.K) _ _ h2).1, (Dat.dp (K := c.K) _ _ h1).2, (Dat.dp (K := c.K) _ _ h2).2, z, q _ H (.refl H) rfl⟩
/-- a list against [] -/
def emp (ds : List PyData) : Bool := ds.isEmpty
theorem eqv_nil (ds : List PyData) : PyData.eqv (.list ds) (.list []) = ds.isEmpty := by
  cases ds with
  | nil => rfl
  | cons x xs => rfl
theorem eqvt_nil (ds : List PyData) : PyData.eqv (.tuple ds) (.tuple []) = ds.isEmpty := by
  cases ds with
  | nil => rfl
  | cons x xs => rfl
end
end KX

set_option maxHeartbeats 4000000
namespace KX
open PySem PySem.Spec PyProof.Rows L2
section
variable {c : Ct} {σ : L2.St} {H0 H1 : Hp} {te ta tb tc ti : TE} {tA tB' : TT} {a b : AV} {i : Nat} {d : PyData} {ds : List PyData} {k : Bool} {tl th : TO}
/-! ### slices, sums of tuples, displays -/
def EvO (c : Ct) (t : TO) (σ : L2.St) (H0 : Hp) (o : Option Int) : Prop := ∀ H, c.R H0 H → ∀ Q : Option Int → Hp → Prop, (∀ H', c.R H H' → Q o H') → t σ H Q
theorem evO_none : EvO c tNoPart σ H0 none := fun H r Q q => q H (.refl H)
theorem evO_some {j : Int} (h : Ev c te σ H0 (.val (.int j))) : EvO c (tPart te) σ H0 (some j) := fun H r Q q => h H r _ fun x H1 r1 hx => ⟨j, hx, q H1 r1⟩
theorem ev_slice {lo hi : Option Int} (h : Ev c te σ H0 (.dat (.tuple ds))) (hl : EvO c tl σ H0 lo) (hh : EvO c th σ H0 hi) : Ev c (tSl (rSlA c.K) te tl th) σ H0 (.dat (.tuple (cutD ds lo hi))) := fun H r Q q =>
  h H r _ fun x H1 r1 ⟨_, e, hd⟩ => hl H1 (r.trans r1) _ fun H2 r2 => hh H2 (r.trans (r1.trans r2)) _ fun H3 r3 => by
    subst e
    have hd3 := (r2.trans r3).dat hd
    cases hd3 with
    | tup h1 h2 =>
      have r4 := r1.trans (r2.trans r3)
      refine ⟨_, _, rfl, SqT.of h1, fun w => q _ H3 r4 ⟨_, rfl, ?_⟩, fun _ p hp => q _ _ (r4.trans (.laid hp)) ⟨_, rfl, .tup upd_same (DatL.mono (fun b xs e => by rw [upd_ne (ne_of_none e hp)]; exact e) _ _ (h2.cut lo hi))⟩⟩
      rw [h2.length] at w
      rw [cut_whole w]
      exact .tup h1 h2
theorem ev_cat {es : List PyData} (ha : Ev c ta σ H0 (.dat (.tuple ds))) (hb : Ev c tb σ H0 (.dat (.tuple es))) (z : ds.length + es.length ≤ 1000) : Ev c (tOp (rCatA c.K) ta tb) σ H0 (.dat (.tuple (ds ++ es))) :=
  ev_op ha hb fun H x y Q r ⟨_, e1, hx⟩ ⟨_, e2, hy⟩ q => by
    subst e1 e2
    cases hx with
    | tup h1 h2 =>
      cases hy with
      | tup g1 g2 =>
        refine ⟨_, _, _, _, rfl, rfl, SqT.of h1, SqT.of g1, by rw [h2.length, g2.length]; exact Nat.le_trans z (by decide), fun e => q _ H (.refl H) ⟨_, rfl, ?_⟩, fun _ e => q _ H (.refl H) ⟨_, rfl, ?_⟩, fun _ _ p hp => q _ _ (.laid hp) ⟨_, rfl, .tup upd_same (DatL.mono (fun b xs e => by rw [upd_ne (ne_of_none e hp)]; exact e) _ _ (h2.append g2))⟩⟩
        · subst e
          cases h2
          exact .tup g1 g2
        · subst e
          cases g2
          rw [List.append_nil]
          exact .tup h1 h2
/-- data that meet the wishes one by one -/
def Each : List (PyData → Prop) → List PyData → Prop
  | [], ds => ds = []
  | p :: ps, ds => ∃ d r, ds = d :: r ∧ p d ∧ Each ps r
theorem each_dat {H : Hp} : ∀ {ps : List (PyData → Prop)} {vs : List V}, AVs (ps.map AV.dp) vs H → ∃ ds, Each ps ds ∧ DatL H vs ds
  | [], _, h => ⟨[], rfl, by cases h; exact .nil⟩
  | p :: ps, _, h => by
    obtain ⟨v, r, rfl, ⟨d, h1, h2⟩, h3⟩ := h
    obtain ⟨ds, h4, h5⟩ := each_dat h3
    exact ⟨d :: ds, ⟨d, ds, rfl, h1, h4⟩, .cons h2 h5⟩
theorem each_len : ∀ {ps : List (PyData → Prop)} {ds : List PyData}, Each ps ds → ds.length = ps.length
  | [], _, h => by cases h; rfl
  | _ :: _, _, h => by
    obtain ⟨d, r, rfl, _, h2⟩ := h
    rw [List.length_cons, List.length_cons, each_len h2]
theorem ev_tup {ta' : TA} {ps : List (PyData → Prop)} (h : EvA c ta' σ H0 (ps.map AV.dp)) (z : ps.length ≤ 1000 := by decide) : Ev c (tTup ta') σ H0 (.dp fun d => ∃ ds, Each ps ds ∧ d = .tuple ds) := fun H r Q q =>
  h H r _ fun vs H1 r1 hv => by
    obtain ⟨ds, h1, h2⟩ := each_dat hv
    refine ⟨by rw [h2.length, each_len h1]; exact Nat.le_trans z (by decide), fun p hp => q _ _ (r1.trans (.laid hp)) ⟨_, ⟨ds, h1, rfl⟩, .tup upd_same (DatL.mono (fun b xs e => by rw [upd_ne (ne_of_none e hp)]; exact e) _ _ h2)⟩⟩
theorem ev_lst {ta' : TA} {ps : List (PyData → Prop)} (h : EvA c ta' σ H0 (ps.map AV.dp)) (z : ps.length ≤ 1000 := by decide) : Ev c (tLst ta') σ H0 (.lp (Each ps)) := fun H r Q q =>
  h H r _ fun vs H1 r1 hv => by
    obtain ⟨ds, h1, h2⟩ := each_dat hv
    refine ⟨by rw [h2.length, each_len h1]; exact Nat.le_trans z (by decide), fun p hp => q _ _ (r1.trans (.laid hp)) ⟨p, vs, ds, rfl, upd_same, h1, DatL.mono (fun b xs e => by rw [upd_ne (ne_of_none e hp)]; exact e) _ _ h2⟩⟩
end

/-! ### defs of the module, by their code objects -/
structure FnT (K : PySem.W.Frag) (x : Str) (st : Stmt) (f : Addr) (fd : FuncData) (cd : Addr) : Prop where
  ex : ∃ (oc : Value) (od : Option Addr) (kV doc pm : Value) (an : Option Addr) (ct : Value) (osl : Array (Option Value)),
    fd = PySem.W.fnOf x x (defArgs st) (defBody st) (defScope st) .none kV doc pm an (.ref cd) ct ∧ K.lookup f = some ⟨oc, od, .func fd, osl⟩ ∧ PySem.W.codeIn K (.ref cd) x = true
  kp : PySem.W.keepIn K (.ref f) = true
theorem FnT.binds {K : PySem.W.Frag} {x : Str} {st : Stmt} {f cd : Addr} {fd : FuncData} {ps : List Str} (F : FnT K x st f fd cd)
    (h : ∀ (kV doc pm : Value) (an : Option Addr) (cdv ct : Value) (us : List Value), us.length = ps.length → bindArgs (PySem.W.fnOf x x (defArgs st) (defBody st) (defScope st) .none kV doc pm an cdv ct) ⟨us, []⟩ = pure (ps.zip us)) : Binds K fd ps [] := by
  obtain ⟨oc, od, kV, doc, pm, an, ct, osl, rfl, lk, hcd⟩ := F.ex
  exact .all (h kV doc pm an (.ref cd) ct)
/-- the promise: from such arguments such an answer, in a grown heap -/
def spOf (c : Ct) (pre : List AV → AV → Prop) : Sp := fun vs H Q _ => ∃ as r, pre as r ∧ AVs as vs H ∧ c.At H ∧ ∀ v H', c.R H H' → r.is v H' → Q v H'
theorem avs_len {H : Hp} : ∀ {as : List AV} {vs : List V}, AVs as vs H → vs.length = as.length
  | [], _, h => by cases h; rfl
  | _ :: _, _, h => by
    obtain ⟨v, r, rfl, _, h2⟩ := h
    rw [List.length_cons, List.length_cons, avs_len h2]
section
variable {P : Program} {w : World} {K : PySem.W.Frag} {mg : Str → Option Value} {base : Heap}
theorem FnT.ok {x : Str} {st : Stmt} {f cd : Addr} {fd : FuncData} {N ps : List Str} {k : Nat} {c : Ct} {pre : List AV → AV → Prop} (F : FnT K x st f fd cd) (S : FnScope N ps (defScope st)) (len : ∀ as r, pre as r → as.length = ps.length)
    (hbody : ∀ (A : Around) (outer : List Env) (s : Shared) (H : Hp) (E : XK), Room k (A.deeper (envOfC x (defScope st) s.heap.objs.size f (.ref cd))) →
      ∃ t, PSs (cxOf CX0 P w K mg base N x (defScope st) f (.ref cd) A outer s H E).nox (defBody st) t ∧ ∀ as r vs, pre as r → AVs as vs H → c.At H → EvS c t (start N vs) H r) : FnOk P w K mg base CX0 (k + 1) f fd ps (spOf c pre) := by
  obtain ⟨oc, od, kV, doc, pm, an, ct, osl, rfl, lk, hcd⟩ := F.ex
  refine fn_of lk hcd S (fun vs H Q E h => ?_) fun A outer s H vs Q E hr h => ?_
  · obtain ⟨as, r, h1, h2, _⟩ := h
    rw [avs_len h2, len as r h1]
  · obtain ⟨as, r, h1, h2, h3, h4⟩ := h
    obtain ⟨t, ht, hq⟩ := hbody A outer s H E hr
    exact ⟨t, ht.nox, hq as r vs h1 h2 h3 H (.refl H) _ h4⟩
end
section
variable {c : Ct} {σ : L2.St} {H0 : Hp} {ta : TA} {as : List AV} {r : AV} {pre : List AV → AV → Prop} {E : XK}
theorem ev_call (h : EvA c ta σ H0 as) (hp : pre as r) (at0 : c.At H0) : Ev c (tCall (spOf c pre) [] E ta) σ H0 r := fun H rr Q q =>
  h H rr _ fun vs H1 r1 hv => by
    show spOf c pre (vs ++ []) H1 Q E
    rw [List.append_nil]
    exact ⟨as, r, hp, hv, at0.up (rr.trans r1), fun v H2 r2 x => q v H2 (r1.trans r2) x⟩
/-- a call that draws nothing -/
theorem ev_callP {K : PySem.W.Frag} {Ps : List Addr} {row : Option Row} (h : EvA ⟨K, row, Ps⟩ ta σ H0 as) (hp : pre as r) (at0 : Ct.At ⟨K, row, Ps⟩ H0) : Ev ⟨K, row, Ps⟩ (tCall (spOf ⟨K, none, Ps⟩ pre) [] E ta) σ H0 r := fun H rr Q q =>
  h H rr _ fun vs H1 r1 hv => by
    show spOf ⟨K, none, Ps⟩ pre (vs ++ []) H1 Q E
    rw [List.append_nil]
    exact ⟨as, r, hp, hv, ⟨(at0.up (rr.trans r1)).tabs, fun _ z => by cases z⟩, fun v H2 r2 x => q v H2 (r1.trans r2.any) x⟩
end

/-! ### what is walked -/
structure Items (c : Ct) (J : It) (H1 : Hp) (n : Nat) (A : Nat → V → Hp → Prop) : Prop where
  go : ∀ H j, c.R H1 H → j < n → J.go j H
  stop : ∀ H, c.R H1 H → J.stop n H
  yl : ∀ H j x H', c.R H1 H → j < n → J.yld j H x H' → H' = H ∧ A j x H
def EvI (c : Ct) (wi : TI) (σ : L2.St) (H0 : Hp) (n : Nat) (A : Nat → V → Hp → Prop) : Prop := ∀ H, c.R H0 H → ∀ R : It → Hp → Prop, (∀ J H', c.R H H' → Items c J H' n A → R J H') → wi σ H R
def dAt (ds : List PyData) : Nat → V → Hp → Prop := fun j x H => ∃ d, ds[j]? = some d ∧ Dat H x d
section
variable {c : Ct} {σ : L2.St} {H0 : Hp} {te : TE} {ds : List PyData} {s : Str}
theorem evI_tup (h : Ev c te σ H0 (.dat (.tuple ds))) : EvI c (iTup c.K te) σ H0 ds.length (dAt ds) := fun H r R q =>
  h H r _ fun x H1 r1 ⟨_, e, hd⟩ => by
    subst e
    cases hd with
    | @tup a xs _ h1 h2 =>
      refine ⟨a, rfl, ⟨xs, SqT.of h1⟩, q _ H1 r1 ⟨fun H j g lt => ?_, fun H g => ⟨xs, SqT.of (g.tup h1), by rw [h2.length]; exact Nat.le_refl _⟩, fun H j x H' g lt y => ?_⟩⟩
      · have l : j < xs.length := by rw [h2.length]; exact lt
        exact ⟨xs, xs[j], SqT.of (g.tup h1), List.getElem?_eq_getElem l⟩
      · obtain ⟨e, y⟩ := y
        have y2 := y xs (SqT.of (g.tup h1))
        exact ⟨e, (g.datL h2).get y2⟩
theorem evI_list (h : Ev c te σ H0 (.lst ds)) (o : c.row = none) : EvI c (iList c.K te) σ H0 ds.length (dAt ds) := fun H r R q =>
  h H r _ fun x H1 r1 ⟨a, xs, _, e1, h1, e2, h2⟩ => by
    subst e1 e2
    have kp : ∀ {H}, c.R H1 H → H a = some (.lst xs) := fun {H} g => g.kp _ _ h1 (fun _ z => by cases z) (fun _ z => by rw [o] at z; cases z)
    refine ⟨a, rfl, ⟨xs, SqL.of h1⟩, q _ H1 r1 ⟨fun H j g lt => ?_, fun H g => ⟨xs, SqL.of (kp g), by rw [h2.length]; exact Nat.le_refl _⟩, fun H j x H' g lt y => ?_⟩⟩
    · have l : j < xs.length := by rw [h2.length]; exact lt
      exact ⟨xs, xs[j], SqL.of (kp g), List.getElem?_eq_getElem l⟩
    · obtain ⟨e, y⟩ := y
      have y2 := y xs (SqL.of (kp g))
      exact ⟨e, (g.datL h2).get y2⟩
/-- a list of the written part -/
theorem evI_K {a : Addr} {xs : List V} (h : Ev c te σ H0 (.val (.ref a))) (hk : ∀ H, SqL c.K H a xs) : EvI c (iList c.K te) σ H0 xs.length (fun j x _ => xs[j]? = some x) := fun H r R q =>
  h H r _ fun x H1 r1 e => by
    cases e
    refine ⟨a, rfl, ⟨xs, hk H1⟩, q _ H1 r1 ⟨fun H j g lt => ⟨xs, xs[j], hk H, List.getElem?_eq_getElem lt⟩, fun H g => ⟨xs, hk H, Nat.le_refl _⟩, fun H j x H' g lt y => ⟨y.1, y.2 xs (hk H)⟩⟩⟩
theorem evI_str (h : Ev c te σ H0 (.val (.str s))) : EvI c (iStr te) σ H0 s.cps.size (fun j x _ => ∃ k, s.cps[j]? = some k ∧ x = .str ⟨#[k]⟩) := fun H r R q =>
  h H r _ fun x H1 r1 e => by
    cases e
    exact ⟨s, rfl, q _ H1 r1 ⟨fun H j g lt => lt, fun H g => Nat.le_refl _, fun H j x H' g lt y => ⟨y.1, y.2⟩⟩⟩
theorem evI_range {ta : TA} {j : Int} (h : EvA c ta σ H0 [.val (.int j)]) (b : j.natAbs ≤ 100000) : EvI c (iRng1 ta) σ H0 j.toNat (fun i x _ => x = .int i) := fun H r R q =>
  h H r _ fun vs H1 r1 hv => by
    obtain ⟨v, _, rfl, rfl, rfl⟩ := hv
    exact ⟨j, rfl, by omega, by omega, q _ H1 r1 ⟨fun H i g lt => lt, fun H g => Nat.le_refl _, fun H i x H' g lt y => ⟨y.1, by rw [y.2, Int.zero_add]⟩⟩⟩

/-! ### generator expressions -/
/-- a turn: the item is bound, the block's own names come back -/
def Bind (g : TG) (vs : List Nat) (σ : L2.St) (x : V) (H : Hp) (τ : L2.St) : Prop := (∀ Q : L2.St → Hp → Prop, Q τ H → g x (wipe σ vs) H Q) ∧ wipe τ vs = wipe σ vs
variable {n : Nat} {A : Nat → V → Hp → Prop} {wi : TI} {g : TG} {vs : List Nat} {P : Addr}
theorem bind_name {i : Nat} {x : V} {H : Hp} : Bind (gName i) [i] σ x H ((wipe σ [i]).set i (some x)) := by
  refine ⟨fun Q q => q, ?_⟩
  show (((σ.set i none).set i (some x)).set i none) = σ.set i none
  rw [List.set_set, List.set_set]
theorem ev_genAll (hi : EvI c wi σ H0 n A) (hP : P ∈ c.Ps) (at0 : c.At H0) (f : Nat → Bool) (he : ∀ j x H, j < n → c.R H0 H → A j x H → ∃ τ, Bind g vs σ x H τ ∧ Ev c te τ H (.val (.bl (f j)))) :
    Ev c (tGAll P wi g te vs) σ H0 (.val (.bl ((List.range n).all f))) := fun H r Q q => by
  refine hi H r _ fun J H1 r1 it => ⟨(at0.up (r.trans r1)).tabs P hP, fun H2 hT => ⟨n, fun j H => c.R H1 H ∧ j ≤ n ∧ (List.range j).all f = true, ⟨Gr.tabbed ((at0.up (r.trans r1)).tabs P hP) hT, Nat.zero_le _, rfl⟩, ?_⟩⟩
  rintro j H ⟨rj, hj, al⟩
  by_cases e : j = n
  · subst e
    exact .inl ⟨it.stop H rj, q _ H (r1.trans rj) (by rw [al]; rfl)⟩
  · have lt : j < n := by omega
    refine .inr ⟨it.go H j rj lt, lt, fun x H' y => ?_⟩
    obtain ⟨rfl, ha⟩ := it.yl H j x H' rj lt y
    obtain ⟨τ, ⟨b1, b2⟩, ev⟩ := he j x H' lt (r.trans (r1.trans rj)) ha
    refine b1 _ ⟨b2, ev H' (.refl H') _ fun v H3 r3 hv => ⟨f j, hv, fun t => ⟨rj.trans r3, lt, ?_⟩, fun t => q _ H3 (r1.trans (rj.trans r3)) ?_⟩⟩
    · rw [List.range_succ, List.all_append, al, List.all_cons, t]
      rfl
    · have : (List.range n).all f = false := List.all_eq_false.mpr ⟨j, List.mem_range.mpr lt, by rw [t]; exact Bool.false_ne_true⟩
      rw [this]
      rfl
theorem ev_genAny (hi : EvI c wi σ H0 n A) (hP : P ∈ c.Ps) (at0 : c.At H0) (f : Nat → Bool) (he : ∀ j x H, j < n → c.R H0 H → A j x H → ∃ τ, Bind g vs σ x H τ ∧ Ev c te τ H (.val (.bl (f j)))) :
    Ev c (tGAny P wi g te vs) σ H0 (.val (.bl ((List.range n).any f))) := fun H r Q q => by
  refine hi H r _ fun J H1 r1 it => ⟨(at0.up (r.trans r1)).tabs P hP, fun H2 hT => ⟨n, fun j H => c.R H1 H ∧ j ≤ n ∧ (List.range j).any f = false, ⟨Gr.tabbed ((at0.up (r.trans r1)).tabs P hP) hT, Nat.zero_le _, rfl⟩, ?_⟩⟩
  rintro j H ⟨rj, hj, al⟩
  by_cases e : j = n
  · subst e
    exact .inl ⟨it.stop H rj, q _ H (r1.trans rj) (by rw [al]; rfl)⟩
  · have lt : j < n := by omega
    refine .inr ⟨it.go H j rj lt, lt, fun x H' y => ?_⟩
    obtain ⟨rfl, ha⟩ := it.yl H j x H' rj lt y
    obtain ⟨τ, ⟨b1, b2⟩, ev⟩ := he j x H' lt (r.trans (r1.trans rj)) ha
    refine b1 _ ⟨b2, ev H' (.refl H') _ fun v H3 r3 hv => ⟨f j, hv, fun t => ⟨rj.trans r3, lt, ?_⟩, fun t => q _ H3 (r1.trans (rj.trans r3)) ?_⟩⟩
    · rw [List.range_succ, List.any_append, al, List.any_cons, t]
      rfl
    · have : (List.range n).any f = true := List.any_eq_true.mpr ⟨j, List.mem_range.mpr lt, t⟩
      rw [this]
      rfl
theorem ev_genSum (hi : EvI c wi σ H0 n A) (hP : P ∈ c.Ps) (at0 : c.At H0) (f : Nat → Int) (hf : ∀ j, j < n → InLong (f j) ∧ InLong (preSum f (j + 1))) (he : ∀ j x H, j < n → c.R H0 H → A j x H → ∃ τ, Bind g vs σ x H τ ∧ Ev c te τ H (.val (.int (f j)))) :
    Ev c (tGSum P wi g te vs) σ H0 (.val (.int (preSum f n))) := fun H r Q q => by
  refine hi H r _ fun J H1 r1 it => ⟨(at0.up (r.trans r1)).tabs P hP, fun H2 hT => ⟨n, fun j H => c.R H1 H ∧ j ≤ n, f, ⟨Gr.tabbed ((at0.up (r.trans r1)).tabs P hP) hT, Nat.zero_le _⟩, ?_⟩⟩
  rintro j H ⟨rj, hj⟩
  by_cases e : j = n
  · subst e
    exact .inl ⟨it.stop H rj, q _ H (r1.trans rj) rfl⟩
  · have lt : j < n := by omega
    refine .inr ⟨it.go H j rj lt, lt, fun x H' y => ?_⟩
    obtain ⟨rfl, ha⟩ := it.yl H j x H' rj lt y
    obtain ⟨τ, ⟨b1, b2⟩, ev⟩ := he j x H' lt (r.trans (r1.trans rj)) ha
    exact b1 _ ⟨b2, ev H' (.refl H') _ fun v H3 r3 hv => ⟨hv, (hf j lt).1, (hf j lt).2, rj.trans r3, lt⟩⟩
end
end KX

set_option maxHeartbeats 4000000
namespace KX
open PySem PySem.Spec PyProof.Rows L2
/-! ### the text by places -/
def top (i : Nat) : Stmt := PySem.Challenge.pw_textstaged_k00_whole_programs.main.body.getD i (.Pass ⟨0, 0, 0, 0⟩)
abbrev fA (K : PySem.W.Frag) (x : Str) : Addr := He.ga K x
def fdOf (K : PySem.W.Frag) (x : Str) : FuncData := match K.lookup (fA K x) with
  | some ⟨_, _, .func fd, _⟩ => fd
  | _ => PySem.W.fnOf x x (defArgs (.Pass ⟨0, 0, 0, 0⟩)) [] (defScope (.Pass ⟨0, 0, 0, 0⟩)) .none .none .none .none none .none .none
abbrev cdOf (K : PySem.W.Frag) (x : Str) : Addr := He.codeOf K (x, none)
abbrev tbOf (K : PySem.W.Frag) (x : Str) : Addr := He.tabOf K (cdOf K x)
abbrev Fn (K : PySem.W.Frag) (x : Str) (i : Nat) : Prop := FnT K x (top i) (fA K x) (fdOf K x) (cdOf K x)
def tabs (K : PySem.W.Frag) : List Addr := [tbOf K "is_word", tbOf K "is_expression", tbOf K "is_test", tbOf K "is_tree", tbOf K "nodes_of", tbOf K "is_program", tbOf K "node_count"]

/-- what the top has left -/
structure Tx (K : PySem.W.Frag) (mg : Str → Option Value) (base : Heap) : Prop where
  z_isinstance : mg "isinstance" = none
  z_len : mg "len" = none
  z_all : mg "all" = none
  z_any : mg "any" = none
  z_sum : mg "sum" = none
  z_tuple : mg "tuple" = none
  z_list : mg "list" = none
  z_int : mg "int" = none
  z_str : mg "str" = none
  z_bool : mg "bool" = none
  z_range : mg "range" = none
  i_MOST_NUMBER : ∃ t, mg "MOST_NUMBER" = some (.int 1000000 t)
  i_MOST_LETTERS : ∃ t, mg "MOST_LETTERS" = some (.int 8 t)
  i_MOST_PUT : ∃ t, mg "MOST_PUT" = some (.int 12 t)
  i_MOST_LATES : ∃ t, mg "MOST_LATES" = some (.int 4 t)
  i_MOST_FUNCTIONS : ∃ t, mg "MOST_FUNCTIONS" = some (.int 8 t)
  i_MOST_NODES : ∃ t, mg "MOST_NODES" = some (.int 400 t)
  i_MOST_DEEP : ∃ t, mg "MOST_DEEP" = some (.int 30 t)
  s_LETTERS : ∃ t, mg "LETTERS" = some (.str "abcdefghijklmnopqrstuvwxyz" t)
  g_SUMS : mg "SUMS" = some (.ref (fA K "SUMS"))
  l_SUMS : ∀ H : Hp, SqL K H (fA K "SUMS") [.str "plus", .str "minus", .str "times"]
  g_is_in : mg "is_in" = some (.ref (fA K "is_in"))
  f_is_in : Fn K "is_in" 14
  g_is_word : mg "is_word" = some (.ref (fA K "is_word"))
  f_is_word : Fn K "is_word" 15
  g_is_kind : mg "is_kind" = some (.ref (fA K "is_kind"))
  f_is_kind : Fn K "is_kind" 16
  g_is_expression : mg "is_expression" = some (.ref (fA K "is_expression"))
  f_is_expression : Fn K "is_expression" 17
  g_is_test : mg "is_test" = some (.ref (fA K "is_test"))
  f_is_test : Fn K "is_test" 18
  g_is_move : mg "is_move" = some (.ref (fA K "is_move"))
  f_is_move : Fn K "is_move" 19
  g_is_tree : mg "is_tree" = some (.ref (fA K "is_tree"))
  f_is_tree : Fn K "is_tree" 20
  g_parts_of : mg "parts_of" = some (.ref (fA K "parts_of"))
  f_parts_of : Fn K "parts_of" 21
  g_nodes_of : mg "nodes_of" = some (.ref (fA K "nodes_of"))
  f_nodes_of : Fn K "nodes_of" 22
  g_leaves_of : mg "leaves_of" = some (.ref (fA K "leaves_of"))
  f_leaves_of : Fn K "leaves_of" 23
  g_is_function : mg "is_function" = some (.ref (fA K "is_function"))
  f_is_function : Fn K "is_function" 24
  g_is_program : mg "is_program" = some (.ref (fA K "is_program"))
  f_is_program : Fn K "is_program" 25
  g_need_program : mg "need_program" = some (.ref (fA K "need_program"))
  f_need_program : Fn K "need_program" 26
  g_trees : mg "trees" = some (.ref (fA K "trees"))
  f_trees : Fn K "trees" 27
  g_need_name : mg "need_name" = some (.ref (fA K "need_name"))
  f_need_name : Fn K "need_name" 28
  g_functions : mg "functions" = some (.ref (fA K "functions"))
  f_functions : Fn K "functions" 29
  g_node_count : mg "node_count" = some (.ref (fA K "node_count"))
  f_node_count : Fn K "node_count" 30
  g_goes : mg "goes" = some (.ref (fA K "goes"))
  f_goes : Fn K "goes" 31
  g_law_taken : mg "_law_taken" = some (.ref (fA K "_law_taken"))
  f_law_taken : Fn K "_law_taken" 33
  g_law_pick : mg "_law_pick" = some (.ref (fA K "_law_pick"))
  f_law_pick : Fn K "_law_pick" 34
  g_law_alike : mg "_law_alike" = some (.ref (fA K "_law_alike"))
  f_law_alike : Fn K "_law_alike" 35
  g_law_worth : mg "_law_worth" = some (.ref (fA K "_law_worth"))
  f_law_worth : Fn K "_law_worth" 36
  g_law_move : mg "_law_move" = some (.ref (fA K "_law_move"))
  f_law_move : Fn K "_law_move" 37
  g_law_tree : mg "_law_tree" = some (.ref (fA K "_law_tree"))
  f_law_tree : Fn K "_law_tree" 38
  g_law_program : mg "_law_program" = some (.ref (fA K "_law_program"))
  f_law_program : Fn K "_law_program" 39
  g_law_parts : mg "_law_parts" = some (.ref (fA K "_law_parts"))
  f_law_parts : Fn K "_law_parts" 40
  g_law_nodes : mg "_law_nodes" = some (.ref (fA K "_law_nodes"))
  f_law_nodes : Fn K "_law_nodes" 41
  g_law_leaves : mg "_law_leaves" = some (.ref (fA K "_law_leaves"))
  f_law_leaves : Fn K "_law_leaves" 42
  g_law_is_int : mg "_law_is_int" = some (.ref (fA K "_law_is_int"))
  f_law_is_int : Fn K "_law_is_int" 51
  g_law_is_word : mg "_law_is_word" = some (.ref (fA K "_law_is_word"))
  f_law_is_word : Fn K "_law_is_word" 52
  g_law_is_worth : mg "_law_is_worth" = some (.ref (fA K "_law_is_worth"))
  f_law_is_worth : Fn K "_law_is_worth" 53
  g_law_is_tree : mg "_law_is_tree" = some (.ref (fA K "_law_is_tree"))
  f_law_is_tree : Fn K "_law_is_tree" 54
  g_law_is_program : mg "_law_is_program" = some (.ref (fA K "_law_is_program"))
  f_law_is_program : Fn K "_law_is_program" 55
  g_law_bent : mg "_law_bent" = some (.ref (fA K "_law_bent"))
  f_law_bent : Fn K "_law_bent" 56
  t_is_word : GxR.TabB base mg (cdOf K "is_word") (tbOf K "is_word")
  t_is_expression : GxR.TabB base mg (cdOf K "is_expression") (tbOf K "is_expression")
  t_is_test : GxR.TabB base mg (cdOf K "is_test") (tbOf K "is_test")
  t_is_tree : GxR.TabB base mg (cdOf K "is_tree") (tbOf K "is_tree")
  t_nodes_of : GxR.TabB base mg (cdOf K "nodes_of") (tbOf K "nodes_of")
  t_is_program : GxR.TabB base mg (cdOf K "is_program") (tbOf K "is_program")
  t_node_count : GxR.TabB base mg (cdOf K "node_count") (tbOf K "node_count")
end KX

set_option maxHeartbeats 4000000
namespace KX
open PySem PySem.Spec PyProof.Rows L2
/-! ### mirrors -/
def inD (d : PyData) (lo hi : Int) : Bool := match d with
  | .int i => decide (lo ≤ i) && decide (i ≤ hi)
  | _ => false
theorem inD_eq (d : PyData) (lo hi : Int) {k : Bool} (h : isInt d = true → isBool d = false → ∀ i, d = .int i → k = (decide (lo ≤ i) && decide (i ≤ hi))) : (isInt d && (!isBool d && k)) = inD d lo hi := by
  cases d with
  | int i => rw [h rfl rfl i rfl]; rfl
  | _ => rfl
theorem int_of {d : PyData} (h : isInt d = true) (h2 : (!isBool d) = true) : ∃ i, d = .int i := by
  cases d with
  | int i => exact ⟨i, rfl⟩
  | bool b => cases h2
  | _ => cases h
def isLow (k : Nat) : Bool := decide (97 ≤ k) && decide (k ≤ 122)
def wordD (d : PyData) (lo hi : Int) : Bool := match d with
  | .str s => decide (lo ≤ (s.length : Int)) && decide ((s.length : Int) ≤ hi) && s.cps.toList.all isLow
  | _ => false
theorem str_of {d : PyData} (h : isStr d = true) : ∃ s, d = .str s := by
  cases d with
  | str s => exact ⟨s, rfl⟩
  | _ => cases h
theorem tup_of {d : PyData} (h : isTup d = true) : ∃ s, d = .tuple s := by
  cases d with
  | tuple s => exact ⟨s, rfl⟩
  | _ => cases h
def kindD (d : PyData) (k : Str) (n : Int) : Bool := match d with
  | .tuple (.str x :: r) => decide (((r.length + 1 : Nat) : Int) = n) && decide (x = k)
  | _ => false
def preIn (as : List AV) (r : AV) : Prop := ∃ d lo hi, as = [.dat d, .val (.int lo), .val (.int hi)] ∧ r = .val (.bl (inD d lo hi))
def preKind (as : List AV) (r : AV) : Prop := ∃ d k n, as = [.dat d, .val (.str k), .val (.int n)] ∧ 1 ≤ n ∧ r = .val (.bl (kindD d k n))
abbrev pureC (K : PySem.W.Frag) : Ct := ⟨K, none, tabs K⟩
/-- isinstance(e, T) -/
theorem pe_isi {X : Cx} {e : Expr} {te : TE} {n : Str} {T : String} {p p2 pos : Pos} (hm : X.mg "isinstance" = none) (hm2 : X.mg n = none) (hb : bootBuiltins n = some (.type T)) (he : PE X e te) (hg : Gl X "isinstance" := by rfl) (hg2 : Gl X n := by rfl) (hn : n ≠ "__name__" := by decide) (hd : (n == ("__debug__" : Str)) = false := by decide)
    (h1 : starEach [e, .Name n p2] X.env = (false, eval e X.env) :: starEach [.Name n p2] X.env := by rfl) (h2 : (backTo pos (starEach [.Name n p2] X.env)).any (·.1) = false := by rfl) (h3 : starEach [.Name n p2] X.env = (false, eval (.Name n p2) X.env) :: starEach [] X.env := by rfl) :
    PE X (.Call (.Name "isinstance" p) [e, .Name n p2] [] pos) (tCB (rIsi X.K) (tCons te (tCons (tC (.ty T)) tNil))) :=
  pe_callB call_isi hg hm boot_isinstance (pa_cons he (pa_cons (pe_bltn (v := .ty T) hg2 hm2 hb rfl hn hd) pa_nil h3) h1) (by decide) (by decide) h1 h2
/-- len(e) -/
theorem pe_len {X : Cx} {e : Expr} {te : TE} {p pos : Pos} (hm : X.mg "len" = none) (he : PE X e te) (hg : Gl X "len" := by rfl) (h1 : starEach [e] X.env = (false, eval e X.env) :: starEach [] X.env := by rfl) (h2 : (backTo pos (starEach [] X.env)).any (·.1) = false := by rfl) :
    PE X (.Call (.Name "len" p) [e] [] pos) (tCB (rLenK X.K) (tCons te tNil)) := pe_callB call_len hg hm PySem.boot_len (pa_cons he pa_nil h1) (by decide) (by decide) h1 h2
theorem boot_all2 : bootBuiltins "all" = some (.builtin "all") := by decide +kernel
theorem boot_any2 : bootBuiltins "any" = some (.builtin "any") := by decide +kernel
theorem boot_sum2 : bootBuiltins "sum" = some (.builtin "sum") := by decide +kernel
def LETS : Str := "abcdefghijklmnopqrstuvwxyz"
theorem lets_list : LETS.cps.toList = [97, 98, 99, 100, 101, 102, 103, 104, 105, 106, 107, 108, 109, 110, 111, 112, 113, 114, 115, 116, 117, 118, 119, 120, 121, 122] := by decide +kernel
theorem in_lets (k : Nat) : decide (k ∈ LETS.cps.toList) = isLow k := by
  rw [lets_list]
  unfold isLow
  by_cases h : 97 ≤ k ∧ k ≤ 122
  · rw [decide_eq_true h.1, decide_eq_true h.2]
    refine decide_eq_true ?_
    simp only [List.mem_cons, List.not_mem_nil, or_false]
    omega
  · rw [show (decide (97 ≤ k) && decide (k ≤ 122)) = false from by
      rw [← Bool.decide_and]
      exact decide_eq_false h]
    refine decide_eq_false ?_
    simp only [List.mem_cons, List.not_mem_nil, or_false]
    omega
theorem range_all {α : Type} (l : List α) (f : Nat → Bool) (g : α → Bool) (h : ∀ j x, l[j]? = some x → f j = g x) : (List.range l.length).all f = l.all g := by
  rw [Bool.eq_iff_iff, List.all_eq_true, List.all_eq_true]
  constructor
  · intro q x hx
    obtain ⟨j, hj, e⟩ := List.getElem_of_mem hx
    have e2 : l[j]? = some x := by rw [List.getElem?_eq_getElem hj, e]
    rw [← h j x e2]
    exact q j (List.mem_range.mpr hj)
  · intro q j hj
    have hj := List.mem_range.mp hj
    rw [h j _ (List.getElem?_eq_getElem hj)]
    exact q _ (List.getElem_mem hj)
theorem range_any {α : Type} (l : List α) (f : Nat → Bool) (g : α → Bool) (h : ∀ j x, l[j]? = some x → f j = g x) : (List.range l.length).any f = l.any g := by
  have := range_all l (fun j => !f j) (fun x => !g x) fun j x e => by rw [h j x e]
  rw [← Bool.not_inj_iff, List.not_any_eq_all_not, List.not_any_eq_all_not]
  exact this
def preWord (as : List AV) (r : AV) : Prop := ∃ d lo hi, as = [.dat d, .val (.int lo), .val (.int hi)] ∧ r = .val (.bl (wordD d lo hi))
section
variable {P : Program} {w : World} {K : PySem.W.Frag} {mg : Str → Option Value} {base : Heap}
theorem sc_in : FnScope ["value", "least", "most"] ["value", "least", "most"] (defScope (top 14)) := ⟨rfl, rfl, rfl, by decide +kernel, rfl, by decide +kernel, by decide +kernel⟩
theorem ok_in (T : Tx K mg base) : FnOk P w K mg base CX0 1 (fA K "is_in") (fdOf K "is_in") ["value", "least", "most"] (spOf (pureC K) preIn) := by
  refine T.f_is_in.ok sc_in (fun as r h => ?_) fun A outer s H E hr => ?_
  · obtain ⟨d, lo, hi, rfl, _⟩ := h
    rfl
  · refine ⟨_, pss_one (ps_ret (pe_and (pe_callB call_isi (by rfl) T.z_isinstance boot_isinstance (pa_cons (pv 0) (pa_cons (pe_bltn (v := .ty "int") (by rfl) T.z_int boot_int rfl) pa_nil)))
      (pe_and (pe_not (pe_callB call_isi (by rfl) T.z_isinstance boot_isinstance (pa_cons (pv 0) (pa_cons (pe_bltn (v := .ty "bool") (by rfl) T.z_bool boot_bool rfl) pa_nil))))
        (pe_one (pe_chain op_le op_le (pv 1) (pv 0) (pv 2)))))), ?_⟩
    rintro as r vs ⟨d, lo, hi, rfl, rfl⟩ ⟨x, _, rfl, hx, y, _, rfl, hy, z, _, rfl, hz, rfl⟩ at0
    have s0 : Sl (start ["value", "least", "most"] [x, y, z]) 0 (.dat d) H := ⟨x, rfl, hx⟩
    have s1 : Sl (start ["value", "least", "most"] [x, y, z]) 1 (.val (.int lo)) H := ⟨y, rfl, hy⟩
    have s2 : Sl (start ["value", "least", "most"] [x, y, z]) 2 (.val (.int hi)) H := ⟨z, rfl, hz⟩
    rw [← inD_eq (k := inD d lo hi) d lo hi fun _ _ i e => by rw [e]; rfl]
    refine evS_ret (ev_and (ev_isi (ev_var s0) (kit_int d)) fun h1 => ev_and (ev_not (ev_isi (ev_var s0) (kit_bool d))) fun h2 => ?_)
    obtain ⟨i, rfl⟩ := int_of h1 h2
    exact ev_chain (ev_var s1) (ev_var s0).int (ev_var s2)
theorem sc_word : FnScope ["value", "least", "most", "sign"] ["value", "least", "most"] (defScope (top 15)) := ⟨rfl, rfl, rfl, by decide +kernel, rfl, by decide +kernel, by decide +kernel⟩
theorem ok_word (T : Tx K mg base) : FnOk P w K mg base CX0 2 (fA K "is_word") (fdOf K "is_word") ["value", "least", "most"] (spOf (pureC K) preWord) := by
  obtain ⟨tl, mgL⟩ := T.s_LETTERS
  refine T.f_is_word.ok sc_word (fun as r h => ?_) fun A outer s H E hr => ?_
  · obtain ⟨d, lo, hi, rfl, _⟩ := h
    rfl
  · refine ⟨_, pss_one (ps_ret (pe_and (pe_isi T.z_isinstance T.z_str boot_str (pv 0)) (pe_and (pe_chain op_le op_le (pv 1) (pe_len T.z_len (pv 0)) (pv 2))
        (pe_one (pe_genAll (k := 0) (own := [("sign", 3)]) (g := gName 3) hr (by rfl) T.z_all boot_all2 ⟨T.t_is_word, rfl, rfl, sc_word.nd, blkOk_by (own := [("sign", 3)]) (N := ["value", "least", "most", "sign"]) (sc := defScope (top 15)) (by decide +kernel), rfl, by decide +kernel, by decide +kernel⟩
          (pi_str (pv 0)) (fun _ _ _ _ _ _ => pg_name (i := 3) sc_word.nd rfl (Or.inl rfl) (Or.inr rfl)) (fun _ _ _ _ _ _ hr2 => pe_cmpR op_in_sign (pv 3) (pe_glob (v := .str LETS) (by rfl) mgL ⟨_, rfl⟩) (by rfl))))))), ?_⟩
    rintro as r vs ⟨d, lo, hi, rfl, rfl⟩ ⟨x, _, rfl, hx, y, _, rfl, hy, z, _, rfl, hz, rfl⟩ at0
    have s0 : Sl (start ["value", "least", "most", "sign"] [x, y, z]) 0 (.dat d) H := ⟨x, rfl, hx⟩
    have s1 : Sl (start ["value", "least", "most", "sign"] [x, y, z]) 1 (.val (.int lo)) H := ⟨y, rfl, hy⟩
    have s2 : Sl (start ["value", "least", "most", "sign"] [x, y, z]) 2 (.val (.int hi)) H := ⟨z, rfl, hz⟩
    have e1 : wordD d lo hi = (isStr d && wordD d lo hi) := by cases d <;> rfl
    rw [e1]
    refine evS_ret (ev_and (ev_isi (ev_var s0) (kit_str d)) fun h1 => ?_)
    obtain ⟨u, rfl⟩ := str_of h1
    have e2 : wordD (.str u) lo hi = ((decide (lo ≤ (u.length : Int)) && decide ((u.length : Int) ≤ hi)) && (List.range u.cps.toList.length).all fun j => (u.cps.toList[j]?).any isLow) := by
      rw [range_all u.cps.toList _ isLow fun j x e => by rw [e]; rfl]
      rfl
    rw [e2]
    refine ev_and (ev_chain (ev_var s1) (ev_len (ev_var s0) rfl) (ev_var s2)) fun _ => ?_
    have g := ev_genAll (P := tbOf K "is_word") (vs := [3]) (te := tOp (fun x y H Q => ∃ (c : Nat) (z : Str), x = .str ⟨#[c]⟩ ∧ y = .str z ∧ Q (.bl (decide (c ∈ z.cps.toList))) H) (tVar 3) (tC (.str LETS))) (g := gName 3) (evI_str (ev_var s0).str) (by simp [tabs]) at0 (fun j => (u.cps.toList[j]?).any isLow) fun j x H1 lt rr ⟨k, hk, e⟩ => ⟨_, bind_name, ?_⟩
    · have sz : u.cps.toList.length = u.cps.size := by simp
      rw [sz]
      exact g
    · refine ev_op (ev_var (a := .val (.str ⟨#[k]⟩)) ⟨x, rfl, e⟩) ev_c fun H2 x2 y2 Q r2 e2 e3 q => ⟨k, LETS, e2, e3, q _ H2 (.refl H2) ?_⟩
      have hk2 : u.cps.toList[j]? = some k := by rw [Array.getElem?_toList]; exact hk
      show V.bl _ = V.bl ((u.cps.toList[j]?).any isLow)
      rw [hk2, in_lets]
      rfl
end
end KX

set_option maxHeartbeats 4000000
namespace KX
open PySem PySem.Spec PyProof.Rows L2
/-! ### mirrors -/
def itemD (d : PyData) (i : Nat) : PyData := match d with
  | .tuple ds => ds.getD i .none
  | _ => .none
def fromD (d : PyData) (i : Nat) : List PyData := match d with
  | .tuple ds => ds.drop i
  | _ => []
def exprD : Nat → PyData → Int → Bool
  | 0, _, _ => false
  | n + 1, d, l =>
    if kindD d "number" 2 then inD (itemD d 1) 0 1000000
    else if kindD d "late" 2 then inD (itemD d 1) 0 (l - 1)
    else if !([("plus" : Str), "minus", "times"].any fun k => kindD d k 3) then false
    else (fromD d 1).all fun e => exprD n e l
def testD : Nat → PyData → Int → Bool
  | 0, _, _ => false
  | n + 1, d, l =>
    if kindD d "empty" 1 then true
    else if kindD d "head" 2 then wordD (itemD d 1) 1 1
    else kindD d "less" 3 && (fromD d 1).all fun e => exprD n e l
def moveD (d : PyData) : Bool :=
  if kindD d "give" 2 then wordD (itemD d 1) 0 12
  else kindD d "take" 3 && (inD (itemD d 1) 0 1 && wordD (itemD d 2) 0 12)
def treeD : Nat → PyData → Int → Bool
  | 0, _, _ => false
  | n + 1, d, l =>
    if kindD d "end" 2 then exprD n (itemD d 1) l
    else if kindD d "if" 4 then testD n (itemD d 1) l && (fromD d 2).all fun e => treeD n e l
    else if !kindD d "go" 4 || (!wordD (itemD d 1) 1 8 || !moveD (itemD d 2)) then false
    else if !isTup (itemD d 3) || decide (4 < ((fromD (itemD d 3) 0).length : Int)) then false
    else (fromD (itemD d 3) 0).all fun e => exprD n e l
theorem kind_shape {d : PyData} {k : Str} {n : Nat} (h : kindD d k (n : Int) = true) : ∃ r, d = .tuple (.str k :: r) ∧ r.length + 1 = n := by
  unfold kindD at h
  split at h
  · rename_i x r
    simp only [Bool.and_eq_true, decide_eq_true_eq] at h
    obtain ⟨h1, rfl⟩ := h
    exact ⟨r, rfl, by omega⟩
  · cases h
theorem atI_lit {ds : List PyData} {i : Nat} {d : PyData} (h : ds[i]? = some d) : atI ds (i : Int) = some d := atI_nat h
theorem cut_lit {ds : List PyData} (i : Nat) (h : i ≤ ds.length) : cutD ds (some (i : Int)) none = ds.drop i := cutD_from ds i h
theorem ev_from {c : Ct} {σ : L2.St} {H0 : Hp} {te : TE} {ds : List PyData} {j : Int} (k : Nat) (h : Ev c te σ H0 (.dat (.tuple ds))) (hl : k ≤ ds.length) (e : j = (k : Int) := by rfl) : Ev c (tSl (rSlA c.K) te (tPart (tC (.int j))) tNoPart) σ H0 (.dat (.tuple (ds.drop k))) := by
  subst e
  rw [← cutD_from ds k hl]
  exact ev_slice h (evO_some ev_c) evO_none
theorem item_at {ds : List PyData} {i : Nat} (h : i < ds.length) : ds[i]? = some (itemD (.tuple ds) i) := by
  show ds[i]? = some (ds.getD i .none)
  rw [List.getElem?_eq_getElem h, List.getD_eq_getElem?_getD, List.getElem?_eq_getElem h]
  rfl
section
variable {X : Cx} {K : PySem.W.Frag} {mg : Str → Option Value} {base : Heap}
/-- a def of the module is called -/
theorem pe_fn {f cd : Addr} {fd : FuncData} {ps : List Str} {k : Nat} {c : Ct} {pre : List AV → AV → Prop} {x : Str} {st : Stmt} {e : Expr} {es : List Expr} {t : TA} {p pos : Pos} (G : FnOk X.prog X.w X.K X.mg X.base CX0 k f fd ps (spOf c pre)) (hr : Room k X.A) (hm : X.mg x = some (.ref f)) (F : FnT X.K x st f fd cd) (hb : Binds X.K fd ps [])
    (ha : PA X (e :: es) t) (hg : Gl X x := by rfl) (hdb : (x == ("__debug__" : Str)) = false := by decide) (he : starEach (e :: es) X.env = (false, eval e X.env) :: starEach es X.env := by rfl) (hpl : (backTo pos (starEach es X.env)).any (·.1) = false := by rfl) :
    PE X (.Call (.Name x p) (e :: es) [] pos) (tCall (spOf c pre) [] E0 t) := pe_call G hr hg hm F.kp hb .nil pass0 ha hdb he hpl
end
section
variable {P : Program} {w : World} {K : PySem.W.Frag} {mg : Str → Option Value} {base : Heap}
theorem b_in (T : Tx K mg base) : Binds K (fdOf K "is_in") ["value", "least", "most"] [] := T.f_is_in.binds fun _ _ _ _ _ _ us hl => match us, hl with | [_, _, _], _ => rfl
theorem b_word (T : Tx K mg base) : Binds K (fdOf K "is_word") ["value", "least", "most"] [] := T.f_is_word.binds fun _ _ _ _ _ _ us hl => match us, hl with | [_, _, _], _ => rfl
theorem b_kind (T : Tx K mg base) : Binds K (fdOf K "is_kind") ["value", "kind", "many"] [] := T.f_is_kind.binds fun _ _ _ _ _ _ us hl => match us, hl with | [_, _, _], _ => rfl
theorem b_expr (T : Tx K mg base) : Binds K (fdOf K "is_expression") ["value", "lates", "deep"] [] := T.f_is_expression.binds fun _ _ _ _ _ _ us hl => match us, hl with | [_, _, _], _ => rfl
theorem b_test (T : Tx K mg base) : Binds K (fdOf K "is_test") ["value", "lates", "deep"] [] := T.f_is_test.binds fun _ _ _ _ _ _ us hl => match us, hl with | [_, _, _], _ => rfl
theorem b_move (T : Tx K mg base) : Binds K (fdOf K "is_move") ["value"] [] := T.f_is_move.binds fun _ _ _ _ _ _ us hl => match us, hl with | [_], _ => rfl
theorem b_tree (T : Tx K mg base) : Binds K (fdOf K "is_tree") ["value", "lates", "deep"] [] := T.f_is_tree.binds fun _ _ _ _ _ _ us hl => match us, hl with | [_, _, _], _ => rfl
/-! ### is_kind -/
theorem sc_kind : FnScope ["value", "kind", "many"] ["value", "kind", "many"] (defScope (top 16)) := ⟨rfl, rfl, rfl, by decide +kernel, rfl, by decide +kernel, by decide +kernel⟩
theorem beq_dec (a b : Int) : (a == b) = decide (a = b) := by
  rw [Bool.eq_iff_iff]
  simp
def headIs (ds : List PyData) (k : Str) : Bool := match ds with
  | .str x :: _ => decide (x = k)
  | _ => false
theorem kind_eq (ds : List PyData) (k : Str) (n : Int) (h : 1 ≤ n) : (decide (V.int (ds.length : Int) = V.int n) && (isStr (itemD (.tuple ds) 0) && headIs ds k)) = kindD (.tuple ds) k n := by
  cases ds with
  | nil =>
    show (decide (V.int (0 : Int) = V.int n) && (false && _)) = false
    rw [Bool.false_and, Bool.and_false]
  | cons x r =>
    cases x with
    | str y =>
      show (decide (V.int ((r.length + 1 : Nat) : Int) = V.int n) && (true && decide (y = k))) = (decide (((r.length + 1 : Nat) : Int) = n) && decide (y = k))
      rw [Bool.true_and, dec_int, beq_dec]
    | _ =>
      show (decide (V.int _ = V.int n) && (false && _)) = false
      rw [Bool.false_and, Bool.and_false]
theorem ok_kind (T : Tx K mg base) : FnOk P w K mg base CX0 1 (fA K "is_kind") (fdOf K "is_kind") ["value", "kind", "many"] (spOf (pureC K) preKind) := by
  refine T.f_is_kind.ok sc_kind (fun as r h => ?_) fun A outer s H E hr => ?_
  · obtain ⟨d, k, n, rfl, _⟩ := h
    rfl
  · refine ⟨_, pss_one (ps_ret (pe_and (pe_isi T.z_isinstance T.z_tuple boot_tuple (pv 0)) (pe_and (pe_cmpR op_eq (pe_len T.z_len (pv 0)) (pv 2) (nomark _))
      (pe_and (pe_isi T.z_isinstance T.z_str boot_str (pe_ix ix_tup (pv 0) pe_int (fun _ _ => rfl))) (pe_one (pe_cmpR op_eq (pe_ix ix_tup (pv 0) pe_int (fun _ _ => rfl)) (pv 1) (nomark _))))))), ?_⟩
    rintro as r vs ⟨d, k, n, rfl, hn, rfl⟩ ⟨x, _, rfl, hx, y, _, rfl, hy, z, _, rfl, hz, rfl⟩ at0
    have s0 : Sl (start ["value", "kind", "many"] [x, y, z]) 0 (.dat d) H := ⟨x, rfl, hx⟩
    have s1 : Sl (start ["value", "kind", "many"] [x, y, z]) 1 (.val (.str k)) H := ⟨y, rfl, hy⟩
    have s2 : Sl (start ["value", "kind", "many"] [x, y, z]) 2 (.val (.int n)) H := ⟨z, rfl, hz⟩
    have e1 : kindD d k n = (isTup d && kindD d k n) := by cases d <;> rfl
    rw [e1]
    refine evS_ret (ev_and (ev_isi (ev_var s0) (kit_tup d)) fun h1 => ?_)
    obtain ⟨ds, rfl⟩ := tup_of h1
    rw [← kind_eq ds k n hn]
    refine ev_and (ev_eq (ev_len (ev_var s0) rfl) (ev_var s2) rfl) fun h2 => ?_
    have h2 : (V.int (ds.length : Int)) = V.int n := of_decide_eq_true h2
    have lt : 0 < ds.length := by
      injection h2 with h2
      omega
    have i0 := ev_ix (c := pureC K) (ev_var s0) (ev_c (v := .int 0)) (atI_lit (i := 0) (item_at lt))
    refine ev_and (ev_isi i0 (kit_str _)) fun h3 => ?_
    obtain ⟨u, hu⟩ := str_of h3
    rw [hu] at i0
    refine (ev_eq i0.str (ev_var s1) rfl).bl ?_
    cases ds with
    | nil => cases hu
    | cons x2 r =>
      have : x2 = .str u := hu
      subst this
      exact dec_str.trans (Bool.beq_eq_decide_eq ..)
end
end KX

set_option maxHeartbeats 4000000
namespace KX
open PySem PySem.Spec PyProof.Rows L2
/-- a data, a number of late ones, a depth (at most n) -/
def preDeep (f : Nat → PyData → Int → Bool) (n : Nat) (as : List AV) (r : AV) : Prop := ∃ d l m, as = [.dat d, .val (.int l), .val (.int m)] ∧ m ≤ (n : Int) ∧ r = .val (.bl (f m.toNat d l))
def preMove (as : List AV) (r : AV) : Prop := ∃ d, as = [.dat d] ∧ r = .val (.bl (moveD d))
theorem toNat_succ {m : Int} (h : ¬ m ≤ 0) : ∃ k : Nat, m.toNat = k + 1 ∧ m - 1 = (k : Int) := ⟨(m - 1).toNat, by omega, by omega⟩
theorem toNat_le {m : Int} (h : m ≤ 0) : m.toNat = 0 := by omega
section
variable {P : Program} {w : World} {K : PySem.W.Frag} {mg : Str → Option Value} {base : Heap}
theorem sc_expr : FnScope ["value", "lates", "deep", "kind", "one"] ["value", "lates", "deep"] (defScope (top 17)) := ⟨rfl, rfl, rfl, by decide +kernel, rfl, by decide +kernel, by decide +kernel⟩
abbrev NE : List Str := ["value", "lates", "deep", "kind", "one"]
/-- all(f(one, lates, deep - 1) for one in value[i:]): the reading -/
theorem ev_parts {σ : L2.St} {H : Hp} {rest : List PyData} {l : Int} {k n : Nat} {f : Nat → PyData → Int → Bool} {ti : TI} {T : Addr} {i1 i2 i3 : Nat} {E : XK} (at0 : (pureC K).At H) (hT : T ∈ tabs K) (hi : EvI (pureC K) ti σ H rest.length (dAt rest)) (hk : k ≤ n)
    (s1 : ∀ {H1 : Hp} {x : V}, (pureC K).R H H1 → Sl ((wipe σ [i3]).set i3 (some x)) i1 (.val (.int l)) H1) (s2 : ∀ {H1 : Hp} {x : V}, (pureC K).R H H1 → Sl ((wipe σ [i3]).set i3 (some x)) i2 (.val (.int (k + 1))) H1) (l3 : i3 < σ.length) :
    Ev (pureC K) (tGAll T ti (gName i3) (tCall (spOf (pureC K) (preDeep f n)) [] E (tCons (tVar i3) (tCons (tVar i1) (tCons (tOp (rI0 fun i j => .int (i - j)) (tVar i2) (tC (.int 1))) tNil)))) [i3]) σ H (.val (.bl (rest.all fun e => f k e l))) := by
  have g := ev_genAll (P := T) (vs := [i3]) (g := gName i3) (te := (tCall (spOf (pureC K) (preDeep f n)) [] E (tCons (tVar i3) (tCons (tVar i1) (tCons (tOp (rI0 fun i j => .int (i - j)) (tVar i2) (tC (.int 1))) tNil))))) hi hT at0 (fun j => (rest[j]?).any fun e => f k e l) fun j x H1 lt rr ⟨d, hd, e⟩ => ⟨_, bind_name, ?_⟩
  · rw [range_all rest _ (fun e => f k e l) fun j x e => by rw [e]; rfl] at g
    exact g
  · have sx : Sl ((wipe σ [i3]).set i3 (some x)) i3 (.dat d) H1 := ⟨x, by rw [List.getElem?_set_self (by rw [wipe_length]; exact l3)], d, rfl, e⟩
    refine ev_call (evA_cons (ev_var sx) (evA_cons (ev_var (s1 rr)) (evA_one (ev_i0 (ev_var (s2 rr)) (ev_c (v := .int 1)))))) ⟨d, l, (k : Int) + 1 - 1, rfl, by omega, ?_⟩ (at0.up rr)
    rw [hd]
    show AV.val (V.bl (f k d l)) = _
    rw [show ((k : Int) + 1 - 1).toNat = k from by omega]
theorem ok_expr (T : Tx K mg base) : ∀ n : Nat, FnOk P w K mg base CX0 (2 * n + 3) (fA K "is_expression") (fdOf K "is_expression") ["value", "lates", "deep"] (spOf (pureC K) (preDeep exprD n))
  | 0 => by
    refine T.f_is_expression.ok (N := NE) sc_expr (fun as r h => ?_) fun A outer s H E hr => ?_
    · obtain ⟨d, l, m, rfl, _⟩ := h
      rfl
    · refine ⟨_, pss_cons (ps_if (pt_cmpR op_le (pv 2) pe_int (nomark _)) (pss_one (ps_ret pe_bl)) pss_nil) pss_never, ?_⟩
      rintro as r vs ⟨d, l, m, rfl, hm, rfl⟩ ⟨x, _, rfl, hx, y, _, rfl, hy, z, _, rfl, hz, rfl⟩ at0
      have s2 : Sl (start NE [x, y, z]) 2 (.val (.int m)) H := ⟨z, rfl, hz⟩
      rw [toNat_le (show m ≤ 0 from by omega)]
      refine evS_if (k := true) (evT_test ((ev_i0 (ev_var s2) ev_c).bl (decide_eq_true (show m ≤ 0 by omega)))) (fun _ => evS_ret ev_c) fun z => by cases z
  | n + 1 => by
    have G := ok_expr T n
    obtain ⟨tn, mgN⟩ := T.i_MOST_NUMBER
    refine T.f_is_expression.ok (N := NE) (k := 2 * n + 4) sc_expr (fun as r h => ?_) fun A outer s H E hr => ?_
    · obtain ⟨d, l, m, rfl, _⟩ := h
      rfl
    · have hr1 : Room 1 (A.deeper (envOfC "is_expression" (defScope (top 17)) s.heap.objs.size (fA K "is_expression") (.ref (cdOf K "is_expression")))) := hr.mono (by omega)
      have hr2 : Room 2 (A.deeper (envOfC "is_expression" (defScope (top 17)) s.heap.objs.size (fA K "is_expression") (.ref (cdOf K "is_expression")))) := hr.mono (by omega)
      refine ⟨_, pss_cons (ps_if (pt_cmpR op_le (pv 2) pe_int (nomark _)) (pss_one (ps_ret pe_bl)) pss_nil)
        (pss_cons (ps_if (pt_val (pe_fn (ok_kind T) hr1 T.g_is_kind T.f_is_kind (b_kind T) (pa_cons (pv 0) (pa_cons pe_str (pa_cons pe_int pa_nil)))))
            (pss_one (ps_ret (pe_fn (ok_in T) hr1 T.g_is_in T.f_is_in (b_in T) (pa_cons (pe_ix ix_tup (pv 0) pe_int (fun _ _ => rfl)) (pa_cons pe_int (pa_cons (pe_glob (v := .int 1000000) (by rfl) mgN ⟨_, rfl⟩) pa_nil)))))) pss_nil)
        (pss_cons (ps_if (pt_val (pe_fn (ok_kind T) hr1 T.g_is_kind T.f_is_kind (b_kind T) (pa_cons (pv 0) (pa_cons pe_str (pa_cons pe_int pa_nil)))))
            (pss_one (ps_ret (pe_fn (ok_in T) hr1 T.g_is_in T.f_is_in (b_in T) (pa_cons (pe_ix ix_tup (pv 0) pe_int (fun _ _ => rfl)) (pa_cons pe_int (pa_cons (pe_op op_sub (pv 1) pe_int) pa_nil)))))) pss_nil)
        (pss_cons (ps_if (pt_not (pt_val (pe_genAny (k := 1) (own := [("kind", 3)]) (g := gName 3) hr2 (by rfl) T.z_any boot_any2 ⟨T.t_is_expression, rfl, rfl, sc_expr.nd, blkOk_by (own := [("kind", 3)]) (N := NE) (sc := defScope (top 17)) (by decide +kernel), rfl, by decide +kernel, by decide +kernel⟩
            (pi_list (pe_glob (v := .ref (fA K "SUMS")) (by rfl) T.g_SUMS rfl)) (fun _ _ _ _ _ _ => pg_name (i := 3) sc_expr.nd rfl (Or.inl rfl) (Or.inr rfl)) (fun _ _ _ _ _ _ hr3 => pe_fn (ok_kind T) hr3 T.g_is_kind T.f_is_kind (b_kind T) (pa_cons (pv 0) (pa_cons (pv 3) (pa_cons pe_int pa_nil)))))))
            (pss_one (ps_ret pe_bl)) pss_nil)
        (pss_one (ps_ret (pe_genAll (k := 2 * n + 3) (own := [("one", 4)]) (g := gName 4) hr (by rfl) T.z_all boot_all2 ⟨T.t_is_expression, rfl, rfl, sc_expr.nd, blkOk_by (own := [("one", 4)]) (N := NE) (sc := defScope (top 17)) (by decide +kernel), rfl, by decide +kernel, by decide +kernel⟩
            (pi_tup (pe_slice sl_tupA (pv 0) (po_some pe_int) po_none)) (fun _ _ _ _ _ _ => pg_name (i := 4) sc_expr.nd rfl (Or.inl rfl) (Or.inr rfl)) (fun _ _ _ _ _ _ hr3 => pe_fn G hr3 T.g_is_expression T.f_is_expression (b_expr T) (pa_cons (pv 4) (pa_cons (pv 1) (pa_cons (pe_op op_sub (pv 2) pe_int) pa_nil)))))))))), ?_⟩
      rintro as r vs ⟨d, l, m, rfl, hm, rfl⟩ ⟨x, _, rfl, hx, y, _, rfl, hy, z, _, rfl, hz, rfl⟩ at0
      have s0 : Sl (start NE [x, y, z]) 0 (.dat d) H := ⟨x, rfl, hx⟩
      have s1 : Sl (start NE [x, y, z]) 1 (.val (.int l)) H := ⟨y, rfl, hy⟩
      have s2 : Sl (start NE [x, y, z]) 2 (.val (.int m)) H := ⟨z, rfl, hz⟩
      refine evS_if (k := decide (m ≤ 0)) (evT_test (ev_i0 (ev_var s2) ev_c)) (fun h => ?_) fun h => ?_
      · rw [toNat_le (of_decide_eq_true h)]
        exact evS_ret ev_c
      obtain ⟨k, hk, hm1⟩ := toNat_succ (of_decide_eq_false h)
      rw [hk]
      show EvS _ _ _ _ (.val (.bl (if kindD d "number" 2 then inD (itemD d 1) 0 1000000 else if kindD d "late" 2 then inD (itemD d 1) 0 (l - 1) else if !([("plus" : Str), "minus", "times"].any fun k => kindD d k 3) then false else (fromD d 1).all fun e => exprD k e l)))
      have ck : ∀ (s : Str) (n : Int), 1 ≤ n → Ev (pureC K) (tCall (spOf (pureC K) preKind) [] E0 (tCons (tVar 0) (tCons (tC (.str s)) (tCons (tC (.int n)) tNil)))) (start NE [x, y, z]) H (.val (.bl (kindD d s n))) := fun s n hn =>
        ev_call (evA_cons (ev_var s0) (evA_cons ev_c (evA_one ev_c))) ⟨d, s, n, rfl, hn, rfl⟩ at0
      refine evS_if (evT_val (ck "number" 2 (by decide))) (fun h => ?_) fun h => ?_
      · rw [if_pos h]
        obtain ⟨r, rfl, hl⟩ := kind_shape (n := 2) h
        have i1 := ev_ix (c := pureC K) (ev_var s0) (ev_c (v := .int 1)) (atI_lit (i := 1) (item_at (by rw [List.length_cons]; omega)))
        exact evS_ret (ev_call (evA_cons i1 (evA_cons ev_c (evA_one ev_c))) ⟨_, 0, 1000000, rfl, rfl⟩ at0)
      rw [if_neg (by rw [h]; exact Bool.false_ne_true)]
      refine evS_if (evT_val (ck "late" 2 (by decide))) (fun h => ?_) fun h => ?_
      · rw [if_pos h]
        obtain ⟨r, rfl, hl⟩ := kind_shape (n := 2) h
        have i1 := ev_ix (c := pureC K) (ev_var s0) (ev_c (v := .int 1)) (atI_lit (i := 1) (item_at (by rw [List.length_cons]; omega)))
        exact evS_ret (ev_call (evA_cons i1 (evA_cons ev_c (evA_one (ev_i0 (ev_var s1) ev_c)))) ⟨_, 0, l - 1, rfl, rfl⟩ at0)
      rw [if_neg (by rw [h]; exact Bool.false_ne_true)]
      have ga : Ev (pureC K) (tGAny (tbOf K "is_expression") (iList K (tC (.ref (fA K "SUMS")))) (gName 3) (tCall (spOf (pureC K) preKind) [] E0 (tCons (tVar 0) (tCons (tVar 3) (tCons (tC (.int 3)) tNil)))) [3]) (start NE [x, y, z]) H (.val (.bl ([("plus" : Str), "minus", "times"].any fun k => kindD d k 3))) := by
        have g := ev_genAny (P := tbOf K "is_expression") (vs := [3]) (te := tCall (spOf (pureC K) preKind) [] E0 (tCons (tVar 0) (tCons (tVar 3) (tCons (tC (.int 3)) tNil)))) (g := gName 3) (evI_K (c := pureC K) (te := tC (.ref (fA K "SUMS"))) (σ := start NE [x, y, z]) (H0 := H) ev_c T.l_SUMS) (by simp [tabs]) at0 (fun j => ([("plus" : Str), "minus", "times"][j]?).any fun k => kindD d k 3) fun j x2 H1 lt rr e => ⟨_, bind_name, ?_⟩
        · rw [← range_any [("plus" : Str), "minus", "times"] (fun j => ([("plus" : Str), "minus", "times"][j]?).any fun k => kindD d k 3) (fun k => kindD d k 3) fun j x e => by rw [e]; rfl]
          exact g
        · have : ∃ s : Str, [("plus" : Str), "minus", "times"][j]? = some s ∧ x2 = .str s := by
            match j, lt, e with
            | 0, _, e => exact ⟨_, rfl, (Option.some.inj e).symm⟩
            | 1, _, e => exact ⟨_, rfl, (Option.some.inj e).symm⟩
            | 2, _, e => exact ⟨_, rfl, (Option.some.inj e).symm⟩
          obtain ⟨s, e1, rfl⟩ := this
          have t0 : Sl ((wipe (start NE [x, y, z]) [3]).set 3 (some (.str s))) 0 (.dat d) H1 := Sl.up (c := pureC K) trivial ⟨x, rfl, hx⟩ rr
          have t3 : Sl ((wipe (start NE [x, y, z]) [3]).set 3 (some (.str s))) 3 (.val (.str s)) H1 := ⟨.str s, rfl, rfl⟩
          refine ev_call (evA_cons (ev_var t0) (evA_cons (ev_var t3) (evA_one ev_c))) ⟨d, s, 3, rfl, by decide, ?_⟩ (at0.up rr)
          rw [e1]
          rfl
      refine evS_if (evT_not (evT_val ga)) (fun h => ?_) fun h => ?_
      · rw [if_pos h]
        exact evS_ret ev_c
      rw [if_neg (by rw [h]; exact Bool.false_ne_true)]
      have h2 : ([("plus" : Str), "minus", "times"].any fun k => kindD d k 3) = true := by
        rw [← Bool.not_eq_false', h]
      obtain ⟨kk, _, h3⟩ := List.any_eq_true.mp h2
      obtain ⟨r, rfl, hl⟩ := kind_shape (n := 3) h3
      have sl := ev_from (c := pureC K) (j := 1) 1 (ev_var s0) (by rw [List.length_cons]; omega)
      refine evS_ret (ev_parts (f := exprD) at0 (by simp [tabs]) (evI_tup sl) (by omega) (fun rr => Sl.up (c := pureC K) trivial ⟨y, rfl, hy⟩ rr) (fun rr => Sl.up (c := pureC K) trivial ⟨z, rfl, ?_⟩ rr) (by show 4 < 5; decide))
      rw [show ((k : Int) + 1) = m by omega]
      exact hz
end
end KX

set_option maxHeartbeats 4000000
namespace KX
open PySem PySem.Spec PyProof.Rows L2
section
variable {P : Program} {w : World} {K : PySem.W.Frag} {mg : Str → Option Value} {base : Heap}
/-- is_kind(value, s, n), is_word(e, lo, hi): readings -/
theorem ev_kind {c : Ct} {σ : L2.St} {H : Hp} {te : TE} {d : PyData} {s : Str} {n : Int} {E : XK} (h0 : Ev c te σ H (.dat d)) (at0 : c.At H) (hn : 1 ≤ n) : Ev c (tCall (spOf c preKind) [] E (tCons te (tCons (tC (.str s)) (tCons (tC (.int n)) tNil)))) σ H (.val (.bl (kindD d s n))) :=
  ev_call (evA_cons h0 (evA_cons ev_c (evA_one ev_c))) ⟨d, s, n, rfl, hn, rfl⟩ at0
theorem ev_word {c : Ct} {σ : L2.St} {H : Hp} {te : TE} {d : PyData} {lo hi : Int} {E : XK} (h0 : Ev c te σ H (.dat d)) (at0 : c.At H) : Ev c (tCall (spOf c preWord) [] E (tCons te (tCons (tC (.int lo)) (tCons (tC (.int hi)) tNil)))) σ H (.val (.bl (wordD d lo hi))) :=
  ev_call (evA_cons h0 (evA_cons ev_c (evA_one ev_c))) ⟨d, lo, hi, rfl, rfl⟩ at0
theorem ev_in {c : Ct} {σ : L2.St} {H : Hp} {te : TE} {d : PyData} {lo hi : Int} {E : XK} (h0 : Ev c te σ H (.dat d)) (at0 : c.At H) : Ev c (tCall (spOf c preIn) [] E (tCons te (tCons (tC (.int lo)) (tCons (tC (.int hi)) tNil)))) σ H (.val (.bl (inD d lo hi))) :=
  ev_call (evA_cons h0 (evA_cons ev_c (evA_one ev_c))) ⟨d, lo, hi, rfl, rfl⟩ at0
theorem ev_item {c : Ct} {σ : L2.St} {H : Hp} {te : TE} {ds : List PyData} {j : Int} (i : Nat) (h : Ev c te σ H (.dat (.tuple ds))) (l : i < ds.length) (e : j = (i : Int) := by rfl) : Ev c (tOp (rIxT c.K) te (tC (.int j))) σ H (.dat (itemD (.tuple ds) i)) := by
  subst e
  exact ev_ix h ev_c (atI_lit (item_at l))
/-! ### is_test -/
abbrev NT : List Str := ["value", "lates", "deep", "one"]
theorem sc_test : FnScope NT ["value", "lates", "deep"] (defScope (top 18)) := ⟨rfl, rfl, rfl, by decide +kernel, rfl, by decide +kernel, by decide +kernel⟩
theorem ok_test (T : Tx K mg base) (n : Nat) : FnOk P w K mg base CX0 (2 * n + 5) (fA K "is_test") (fdOf K "is_test") ["value", "lates", "deep"] (spOf (pureC K) (preDeep testD (n + 1))) := by
  have G := ok_expr (P := P) (w := w) T n
  refine T.f_is_test.ok (N := NT) (k := 2 * n + 4) sc_test (fun as r h => ?_) fun A outer s H E hr => ?_
  · obtain ⟨d, l, m, rfl, _⟩ := h
    rfl
  · have hr1 : Room 1 (A.deeper (envOfC "is_test" (defScope (top 18)) s.heap.objs.size (fA K "is_test") (.ref (cdOf K "is_test")))) := hr.mono (by omega)
    have hr2 : Room 2 (A.deeper (envOfC "is_test" (defScope (top 18)) s.heap.objs.size (fA K "is_test") (.ref (cdOf K "is_test")))) := hr.mono (by omega)
    refine ⟨_, pss_cons (ps_if (pt_cmpR op_le (pv 2) pe_int (nomark _)) (pss_one (ps_ret pe_bl)) pss_nil)
      (pss_cons (ps_if (pt_val (pe_fn (ok_kind T) hr1 T.g_is_kind T.f_is_kind (b_kind T) (pa_cons (pv 0) (pa_cons pe_str (pa_cons pe_int pa_nil))))) (pss_one (ps_ret pe_bl)) pss_nil)
      (pss_cons (ps_if (pt_val (pe_fn (ok_kind T) hr1 T.g_is_kind T.f_is_kind (b_kind T) (pa_cons (pv 0) (pa_cons pe_str (pa_cons pe_int pa_nil)))))
          (pss_one (ps_ret (pe_fn (ok_word T) hr2 T.g_is_word T.f_is_word (b_word T) (pa_cons (pe_ix ix_tup (pv 0) pe_int (fun _ _ => rfl)) (pa_cons pe_int (pa_cons pe_int pa_nil)))))) pss_nil)
      (pss_one (ps_ret (pe_and (pe_fn (ok_kind T) hr1 T.g_is_kind T.f_is_kind (b_kind T) (pa_cons (pv 0) (pa_cons pe_str (pa_cons pe_int pa_nil))))
        (pe_one (pe_genAll (k := 2 * n + 3) (own := [("one", 3)]) (g := gName 3) hr (by rfl) T.z_all boot_all2 ⟨T.t_is_test, rfl, rfl, sc_test.nd, blkOk_by (own := [("one", 3)]) (N := NT) (sc := defScope (top 18)) (by decide +kernel), rfl, by decide +kernel, by decide +kernel⟩
          (pi_tup (pe_slice sl_tupA (pv 0) (po_some pe_int) po_none)) (fun _ _ _ _ _ _ => pg_name (i := 3) sc_test.nd rfl (Or.inl rfl) (Or.inr rfl)) (fun _ _ _ _ _ _ hr3 => pe_fn G hr3 T.g_is_expression T.f_is_expression (b_expr T) (pa_cons (pv 3) (pa_cons (pv 1) (pa_cons (pe_op op_sub (pv 2) pe_int) pa_nil))))))))))), ?_⟩
    rintro as r vs ⟨d, l, m, rfl, hm, rfl⟩ ⟨x, _, rfl, hx, y, _, rfl, hy, z, _, rfl, hz, rfl⟩ at0
    have s0 : Sl (start NT [x, y, z]) 0 (.dat d) H := ⟨x, rfl, hx⟩
    have s2 : Sl (start NT [x, y, z]) 2 (.val (.int m)) H := ⟨z, rfl, hz⟩
    refine evS_if (k := decide (m ≤ 0)) (evT_test (ev_i0 (ev_var s2) ev_c)) (fun h => ?_) fun h => ?_
    · rw [toNat_le (of_decide_eq_true h)]
      exact evS_ret ev_c
    obtain ⟨k, hk, hm1⟩ := toNat_succ (of_decide_eq_false h)
    rw [hk]
    show EvS _ _ _ _ (.val (.bl (if kindD d "empty" 1 then true else if kindD d "head" 2 then wordD (itemD d 1) 1 1 else kindD d "less" 3 && (fromD d 1).all fun e => exprD k e l)))
    refine evS_if (evT_val (ev_kind (ev_var s0) at0 (by decide))) (fun h => ?_) fun h => ?_
    · rw [if_pos h]
      exact evS_ret ev_c
    rw [if_neg (by rw [h]; exact Bool.false_ne_true)]
    refine evS_if (evT_val (ev_kind (ev_var s0) at0 (by decide))) (fun h => ?_) fun h => ?_
    · rw [if_pos h]
      obtain ⟨r, rfl, hl⟩ := kind_shape (n := 2) h
      exact evS_ret (ev_word (ev_item 1 (ev_var s0) (by rw [List.length_cons]; omega)) at0)
    rw [if_neg (by rw [h]; exact Bool.false_ne_true)]
    refine evS_ret (ev_and (ev_kind (ev_var s0) at0 (by decide)) fun h => ?_)
    obtain ⟨r, rfl, hl⟩ := kind_shape (n := 3) h
    refine ev_parts (f := exprD) at0 (by simp [tabs]) (evI_tup (ev_from (c := pureC K) (j := 1) 1 (ev_var s0) (by rw [List.length_cons]; omega))) (by omega) (fun rr => Sl.up (c := pureC K) trivial ⟨y, rfl, hy⟩ rr) (fun rr => Sl.up (c := pureC K) trivial ⟨z, rfl, ?_⟩ rr) (by show 3 < 4; decide)
    rw [show ((k : Int) + 1) = m by omega]
    exact hz
/-! ### is_move -/
theorem sc_move : FnScope ["value"] ["value"] (defScope (top 19)) := ⟨rfl, rfl, rfl, by decide +kernel, rfl, by decide +kernel, by decide +kernel⟩
theorem ok_move (T : Tx K mg base) : FnOk P w K mg base CX0 3 (fA K "is_move") (fdOf K "is_move") ["value"] (spOf (pureC K) preMove) := by
  obtain ⟨tn, mgN⟩ := T.i_MOST_PUT
  refine T.f_is_move.ok (N := ["value"]) sc_move (fun as r h => ?_) fun A outer s H E hr => ?_
  · obtain ⟨d, rfl, _⟩ := h
    rfl
  · have hr1 : Room 1 (A.deeper (envOfC "is_move" (defScope (top 19)) s.heap.objs.size (fA K "is_move") (.ref (cdOf K "is_move")))) := hr.mono (by omega)
    refine ⟨_, pss_cons (ps_if (pt_val (pe_fn (ok_kind T) hr1 T.g_is_kind T.f_is_kind (b_kind T) (pa_cons (pv 0) (pa_cons pe_str (pa_cons pe_int pa_nil)))))
          (pss_one (ps_ret (pe_fn (ok_word T) hr T.g_is_word T.f_is_word (b_word T) (pa_cons (pe_ix ix_tup (pv 0) pe_int (fun _ _ => rfl)) (pa_cons pe_int (pa_cons (pe_glob (v := .int 12) (by rfl) mgN ⟨_, rfl⟩) pa_nil)))))) pss_nil)
      (pss_one (ps_ret (pe_and (pe_fn (ok_kind T) hr1 T.g_is_kind T.f_is_kind (b_kind T) (pa_cons (pv 0) (pa_cons pe_str (pa_cons pe_int pa_nil))))
        (pe_and (pe_fn (ok_in T) hr1 T.g_is_in T.f_is_in (b_in T) (pa_cons (pe_ix ix_tup (pv 0) pe_int (fun _ _ => rfl)) (pa_cons pe_int (pa_cons pe_int pa_nil))))
          (pe_one (pe_fn (ok_word T) hr T.g_is_word T.f_is_word (b_word T) (pa_cons (pe_ix ix_tup (pv 0) pe_int (fun _ _ => rfl)) (pa_cons pe_int (pa_cons (pe_glob (v := .int 12) (by rfl) mgN ⟨_, rfl⟩) pa_nil))))))))), ?_⟩
    rintro as r vs ⟨d, rfl, rfl⟩ ⟨x, _, rfl, hx, rfl⟩ at0
    have s0 : Sl (start ["value"] [x]) 0 (.dat d) H := ⟨x, rfl, hx⟩
    show EvS _ _ _ _ (.val (.bl (if kindD d "give" 2 then wordD (itemD d 1) 0 12 else kindD d "take" 3 && (inD (itemD d 1) 0 1 && wordD (itemD d 2) 0 12))))
    refine evS_if (evT_val (ev_kind (ev_var s0) at0 (by decide))) (fun h => ?_) fun h => ?_
    · rw [if_pos h]
      obtain ⟨r, rfl, hl⟩ := kind_shape (n := 2) h
      exact evS_ret (ev_word (ev_item 1 (ev_var s0) (by rw [List.length_cons]; omega)) at0)
    rw [if_neg (by rw [h]; exact Bool.false_ne_true)]
    refine evS_ret (ev_and (ev_kind (ev_var s0) at0 (by decide)) fun h => ?_)
    obtain ⟨r, rfl, hl⟩ := kind_shape (n := 3) h
    exact ev_and (ev_in (ev_item 1 (ev_var s0) (by rw [List.length_cons]; omega)) at0) fun _ => ev_word (ev_item 2 (ev_var s0) (by rw [List.length_cons]; omega)) at0
end
end KX

set_option maxHeartbeats 4000000
namespace KX
open PySem PySem.Spec PyProof.Rows L2
section
variable {P : Program} {w : World} {K : PySem.W.Frag} {mg : Str → Option Value} {base : Heap}
theorem nf {b : Bool} (h : (!b) = false) : b = true := by
  cases b with
  | true => rfl
  | false => cases h
/-! ### is_tree -/
theorem sc_tree : FnScope NT ["value", "lates", "deep"] (defScope (top 20)) := ⟨rfl, rfl, rfl, by decide +kernel, rfl, by decide +kernel, by decide +kernel⟩
theorem ok_tree (T : Tx K mg base) : ∀ n : Nat, FnOk P w K mg base CX0 (2 * n + 6) (fA K "is_tree") (fdOf K "is_tree") ["value", "lates", "deep"] (spOf (pureC K) (preDeep treeD n))
  | 0 => by
    refine T.f_is_tree.ok (N := NT) (k := 5) sc_tree (fun as r h => ?_) fun A outer s H E hr => ?_
    · obtain ⟨d, l, m, rfl, _⟩ := h
      rfl
    · refine ⟨_, pss_cons (ps_if (pt_cmpR op_le (pv 2) pe_int (nomark _)) (pss_one (ps_ret pe_bl)) pss_nil) pss_never, ?_⟩
      rintro as r vs ⟨d, l, m, rfl, hm, rfl⟩ ⟨x, _, rfl, hx, y, _, rfl, hy, z, _, rfl, hz, rfl⟩ at0
      have s2 : Sl (start NT [x, y, z]) 2 (.val (.int m)) H := ⟨z, rfl, hz⟩
      rw [toNat_le (show m ≤ 0 from by omega)]
      refine evS_if (k := true) (evT_test ((ev_i0 (ev_var s2) ev_c).bl (decide_eq_true (show m ≤ 0 by omega)))) (fun _ => evS_ret ev_c) fun z => by cases z
  | n + 1 => by
    have G := ok_tree T n
    have GE := ok_expr (P := P) (w := w) T n
    have GT := ok_test (P := P) (w := w) T n
    obtain ⟨t1, mg1⟩ := T.i_MOST_LETTERS
    obtain ⟨t2, mg2⟩ := T.i_MOST_LATES
    refine T.f_is_tree.ok (N := NT) (k := 2 * n + 7) sc_tree (fun as r h => ?_) fun A outer s H E hr => ?_
    · obtain ⟨d, l, m, rfl, _⟩ := h
      rfl
    · have hrj : ∀ j, j ≤ 2 * n + 7 → Room j (A.deeper (envOfC "is_tree" (defScope (top 20)) s.heap.objs.size (fA K "is_tree") (.ref (cdOf K "is_tree")))) := fun j h => hr.mono h
      refine ⟨_, pss_cons (ps_if (pt_cmpR op_le (pv 2) pe_int (nomark _)) (pss_one (ps_ret pe_bl)) pss_nil)
        (pss_cons (ps_if (pt_val (pe_fn (ok_kind T) (hrj 1 (by omega)) T.g_is_kind T.f_is_kind (b_kind T) (pa_cons (pv 0) (pa_cons pe_str (pa_cons pe_int pa_nil)))))
            (pss_one (ps_ret (pe_fn GE (hrj (2 * n + 3) (by omega)) T.g_is_expression T.f_is_expression (b_expr T) (pa_cons (pe_ix ix_tup (pv 0) pe_int (fun _ _ => rfl)) (pa_cons (pv 1) (pa_cons (pe_op op_sub (pv 2) pe_int) pa_nil)))))) pss_nil)
        (pss_cons (ps_if (pt_val (pe_fn (ok_kind T) (hrj 1 (by omega)) T.g_is_kind T.f_is_kind (b_kind T) (pa_cons (pv 0) (pa_cons pe_str (pa_cons pe_int pa_nil)))))
            (pss_one (ps_ret (pe_and (pe_fn GT (hrj (2 * n + 5) (by omega)) T.g_is_test T.f_is_test (b_test T) (pa_cons (pe_ix ix_tup (pv 0) pe_int (fun _ _ => rfl)) (pa_cons (pv 1) (pa_cons (pe_op op_sub (pv 2) pe_int) pa_nil))))
              (pe_one (pe_genAll (k := 2 * n + 6) (own := [("one", 3)]) (g := gName 3) hr (by rfl) T.z_all boot_all2 ⟨T.t_is_tree, rfl, rfl, sc_tree.nd, blkOk_by (own := [("one", 3)]) (N := NT) (sc := defScope (top 20)) (by decide +kernel), rfl, by decide +kernel, by decide +kernel⟩
                (pi_tup (pe_slice sl_tupA (pv 0) (po_some pe_int) po_none)) (fun _ _ _ _ _ _ => pg_name (i := 3) sc_tree.nd rfl (Or.inl rfl) (Or.inr rfl)) (fun _ _ _ _ _ _ hr3 => pe_fn G hr3 T.g_is_tree T.f_is_tree (b_tree T) (pa_cons (pv 3) (pa_cons (pv 1) (pa_cons (pe_op op_sub (pv 2) pe_int) pa_nil))))))))) pss_nil)
        (pss_cons (ps_if (PW.pt (pw_or (pt_not (pt_val (pe_fn (ok_kind T) (hrj 1 (by omega)) T.g_is_kind T.f_is_kind (b_kind T) (pa_cons (pv 0) (pa_cons pe_str (pa_cons pe_int pa_nil))))))
            (pw_or (pt_not (pt_val (pe_fn (ok_word T) (hrj 2 (by omega)) T.g_is_word T.f_is_word (b_word T) (pa_cons (pe_ix ix_tup (pv 0) pe_int (fun _ _ => rfl)) (pa_cons pe_int (pa_cons (pe_glob (v := .int 8) (by rfl) mg1 ⟨_, rfl⟩) pa_nil))))))
              (pw_or1 (pt_not (pt_val (pe_fn (ok_move T) (hrj 3 (by omega)) T.g_is_move T.f_is_move (b_move T) (pa_cons (pe_ix ix_tup (pv 0) pe_int (fun _ _ => rfl)) pa_nil))))))))
            (pss_one (ps_ret pe_bl)) pss_nil)
        (pss_cons (ps_if (PW.pt (pw_or (pt_not (pt_val (pe_isi T.z_isinstance T.z_tuple boot_tuple (pe_ix ix_tup (pv 0) pe_int (fun _ _ => rfl)))))
            (pw_or1 (pt_cmpR op_gt (pe_len T.z_len (pe_ix ix_tup (pv 0) pe_int (fun _ _ => rfl))) (pe_glob (v := .int 4) (by rfl) mg2 ⟨_, rfl⟩) (nomark _)))))
            (pss_one (ps_ret pe_bl)) pss_nil)
        (pss_one (ps_ret (pe_genAll (k := 2 * n + 6) (own := [("one", 3)]) (g := gName 3) hr (by rfl) T.z_all boot_all2 ⟨T.t_is_tree, rfl, rfl, sc_tree.nd, blkOk_by (own := [("one", 3)]) (N := NT) (sc := defScope (top 20)) (by decide +kernel), rfl, by decide +kernel, by decide +kernel⟩
          (pi_tup (pe_ix ix_tup (pv 0) pe_int (fun _ _ => rfl))) (fun _ _ _ _ _ _ => pg_name (i := 3) sc_tree.nd rfl (Or.inl rfl) (Or.inr rfl)) (fun _ _ _ _ _ _ hr3 => pe_fn GE (hr3.mono (by omega)) T.g_is_expression T.f_is_expression (b_expr T) (pa_cons (pv 3) (pa_cons (pv 1) (pa_cons (pe_op op_sub (pv 2) pe_int) pa_nil))))))))))), ?_⟩
      rintro as r vs ⟨d, l, m, rfl, hm, rfl⟩ ⟨x, _, rfl, hx, y, _, rfl, hy, z, _, rfl, hz, rfl⟩ at0
      have s0 : Sl (start NT [x, y, z]) 0 (.dat d) H := ⟨x, rfl, hx⟩
      have s1 : Sl (start NT [x, y, z]) 1 (.val (.int l)) H := ⟨y, rfl, hy⟩
      have s2 : Sl (start NT [x, y, z]) 2 (.val (.int m)) H := ⟨z, rfl, hz⟩
      refine evS_if (k := decide (m ≤ 0)) (evT_test (ev_i0 (ev_var s2) ev_c)) (fun h => ?_) fun h => ?_
      · rw [toNat_le (of_decide_eq_true h)]
        exact evS_ret ev_c
      obtain ⟨k, hk, hm1⟩ := toNat_succ (of_decide_eq_false h)
      have t1 : ∀ {H1 : Hp} {x2 : V}, (pureC K).R H H1 → Sl ((wipe (start NT [x, y, z]) [3]).set 3 (some x2)) 1 (.val (.int l)) H1 := fun rr => Sl.up (c := pureC K) trivial ⟨y, rfl, hy⟩ rr
      have t2 : ∀ {H1 : Hp} {x2 : V}, (pureC K).R H H1 → Sl ((wipe (start NT [x, y, z]) [3]).set 3 (some x2)) 2 (.val (.int ((k : Int) + 1))) H1 := fun rr => Sl.up (c := pureC K) trivial ⟨z, rfl, by rw [show ((k : Int) + 1) = m by omega]; exact hz⟩ rr
      have kk : (m - 1).toNat = k := by omega
      rw [hk]
      show EvS _ _ _ _ (.val (.bl (if kindD d "end" 2 then exprD k (itemD d 1) l else if kindD d "if" 4 then testD k (itemD d 1) l && (fromD d 2).all fun e => treeD k e l
        else if !kindD d "go" 4 || (!wordD (itemD d 1) 1 8 || !moveD (itemD d 2)) then false else if !isTup (itemD d 3) || decide (4 < ((fromD (itemD d 3) 0).length : Int)) then false else (fromD (itemD d 3) 0).all fun e => exprD k e l)))
      refine evS_if (evT_val (ev_kind (ev_var s0) at0 (by decide))) (fun h => ?_) fun h => ?_
      · rw [if_pos h]
        obtain ⟨r, rfl, hl⟩ := kind_shape (n := 2) h
        exact evS_ret (ev_call (evA_cons (ev_item 1 (ev_var s0) (by rw [List.length_cons]; omega)) (evA_cons (ev_var s1) (evA_one (ev_i0 (ev_var s2) (ev_c (v := .int 1)))))) ⟨_, l, m - 1, rfl, by omega, by rw [kk]⟩ at0)
      rw [if_neg (by rw [h]; exact Bool.false_ne_true)]
      refine evS_if (evT_val (ev_kind (ev_var s0) at0 (by decide))) (fun h => ?_) fun h => ?_
      · rw [if_pos h]
        obtain ⟨r, rfl, hl⟩ := kind_shape (n := 4) h
        refine evS_ret (ev_and (ev_call (evA_cons (ev_item 1 (ev_var s0) (by rw [List.length_cons]; omega)) (evA_cons (ev_var s1) (evA_one (ev_i0 (ev_var s2) (ev_c (v := .int 1)))))) ⟨_, l, m - 1, rfl, by omega, by rw [kk]⟩ at0) fun _ => ?_)
        exact ev_parts (f := treeD) at0 (by simp [tabs]) (evI_tup (ev_from (c := pureC K) (j := 2) 2 (ev_var s0) (by rw [List.length_cons]; omega))) (by omega) t1 t2 (by show 3 < 4; decide)
      rw [if_neg (by rw [h]; exact Bool.false_ne_true)]
      have it : ∀ (r : List PyData) (i : Nat), d = .tuple (.str "go" :: r) → r.length + 1 = 4 → i < 4 → Ev (pureC K) (tOp (rIxT K) (tVar 0) (tC (.int (i : Int)))) (start NT [x, y, z]) H (.dat (itemD d i)) := fun r i e hl hi => by
        subst e
        exact ev_item i (ev_var s0) (by rw [List.length_cons]; omega)
      refine evS_if (evT_or (evT_not (evT_val (ev_kind (ev_var s0) at0 (by decide)))) fun h1 => evT_or (k := !wordD (itemD d 1) 1 8) (l := !moveD (itemD d 2)) (evT_not (evT_val ?_)) fun h2 => evT_not (evT_val ?_)) (fun h => ?_) fun h => ?_
      · obtain ⟨r, e, hl⟩ := kind_shape (n := 4) (nf h1)
        exact ev_word (it r 1 e hl (by decide)) at0
      · obtain ⟨r, e, hl⟩ := kind_shape (n := 4) (nf h1)
        exact ev_call (evA_one (it r 2 e hl (by decide))) ⟨_, rfl, rfl⟩ at0
      · rw [if_pos h]
        exact evS_ret ev_c
      rw [if_neg (by rw [h]; exact Bool.false_ne_true)]
      obtain ⟨r, e, hl⟩ := kind_shape (n := 4) (d := d) (k := "go") (by
        cases q : kindD d "go" 4 with
        | true => rfl
        | false =>
          rw [q] at h
          cases h)
      have i3 := it r 3 e hl (by decide)
      refine evS_if (evT_or (evT_not (evT_val (ev_isi i3 (kit_tup _)))) fun h1 => evT_test (k := decide (4 < ((fromD (itemD d 3) 0).length : Int))) ?_) (fun h => ?_) fun h => ?_
      · obtain ⟨ds, e3⟩ := tup_of (nf h1)
        rw [e3] at i3 ⊢
        exact ev_i0 (ev_len i3 rfl) ev_c
      · rw [if_pos h]
        exact evS_ret ev_c
      rw [if_neg (by rw [h]; exact Bool.false_ne_true)]
      obtain ⟨ds, e3⟩ := tup_of (d := itemD d 3) (by
        cases q : isTup (itemD d 3) with
        | true => rfl
        | false =>
          rw [q] at h
          cases h)
      rw [e3] at i3 ⊢
      exact evS_ret (ev_parts (f := exprD) at0 (by simp [tabs]) (evI_tup i3) (by omega) t1 t2 (by show 3 < 4; decide))
end
end KX

set_option maxHeartbeats 4000000
namespace KX
open PySem PySem.Spec PyProof.Rows L2
section
variable {c : Ct} {σ : L2.St} {H0 : Hp} {te ta tb : TE} {ds es : List PyData} {s : Str}
/-! ### lists -/
abbrev rListOf (K : PySem.W.Frag) : List V → Hp → VK → Prop := fun xs H Q => ∃ p ys, xs = [.ref p] ∧ (SqL K H p ys ∨ SqT K H p ys) ∧ ∀ l, H l = none → Q (.ref l) (upd H l (.lst ys))
abbrev rTupOf (K : PySem.W.Frag) : List V → Hp → VK → Prop := fun xs H Q => ∃ p ys, xs = [.ref p] ∧ ((SqL K H p ys ∧ ∀ l, H l = none → Q (.ref l) (upd H l (.tup ys))) ∨ (SqT K H p ys ∧ Q (.ref p) H))
theorem datL_up {H : Hp} {p : Addr} {o : HO} {xs : List V} (hp : H p = none) (h : DatL H xs ds) : DatL (upd H p o) xs ds := DatL.mono (fun b xs e => by rw [upd_ne (ne_of_none e hp)]; exact e) _ _ h
theorem ev_listT (h : Ev c te σ H0 (.dat (.tuple ds))) : Ev c (tCB (rListOf c.K) (tCons te tNil)) σ H0 (.lst ds) :=
  ev_cb (evA_one h) fun H vs Q r hv q => by
    obtain ⟨x, _, rfl, ⟨_, rfl, hd⟩, rfl⟩ := hv
    cases hd with
    | tup h1 h2 => exact ⟨_, _, rfl, .inr (SqT.of h1), fun l hl => q _ _ (.laid hl) ⟨l, _, ds, rfl, upd_same, rfl, datL_up hl h2⟩⟩
theorem ev_tupleL {p : List PyData → Prop} (h : Ev c te σ H0 (.lp p)) : Ev c (tCB (rTupOf c.K) (tCons te tNil)) σ H0 (.dp fun d => ∃ ds, p ds ∧ d = .tuple ds) :=
  ev_cb (evA_one h) fun H vs Q r hv q => by
    obtain ⟨x, _, rfl, ⟨a, xs, ds, rfl, h1, h2, h3⟩, rfl⟩ := hv
    exact ⟨_, _, rfl, .inl ⟨SqL.of h1, fun l hl => q _ _ (.laid hl) ⟨_, ⟨ds, h2, rfl⟩, .tup upd_same (datL_up hl h3)⟩⟩⟩
theorem ev_catL (ha : Ev c ta σ H0 (.lst ds)) (hb : Ev c tb σ H0 (.lst es)) (z : ds.length + es.length ≤ 1000) (o : c.row = none) : Ev c (tOp rCat ta tb) σ H0 (.lst (ds ++ es)) :=
  ev_op ha hb (fun H x y Q r hx hy q => by
    obtain ⟨a, xs, _, rfl, h1, rfl, h2⟩ := hx
    obtain ⟨b, ys, _, rfl, g1, rfl, g2⟩ := hy
    exact ⟨a, b, xs, ys, rfl, rfl, h1, g1, by rw [h2.length, g2.length]; exact Nat.le_trans z (by decide), fun p hp => q _ _ (.laid hp) ⟨p, _, _, rfl, upd_same, rfl, datL_up hp (h2.append g2)⟩⟩) (by rw [o]; trivial)
theorem ev_nil : Ev c (tLst tNil) σ H0 (.lst []) := fun H r Q q => ⟨Nat.zero_le _, fun p hp => q _ _ (.laid hp) ⟨p, [], [], rfl, upd_same, rfl, .nil⟩⟩
theorem ev_nilT : Ev c (tTup tNil) σ H0 (.dat (.tuple [])) := fun H r Q q => ⟨Nat.zero_le _, fun p hp => q _ _ (.laid hp) ⟨_, rfl, .tup upd_same .nil⟩⟩
/-- [e], one datum -/
theorem ev_lst1 {d : PyData} (h : Ev c te σ H0 (.dat d)) : Ev c (tLst (tCons te tNil)) σ H0 (.lst [d]) :=
  (ev_lst (ps := [(· = d)]) (evA_one h) (by show 1 ≤ 1000; decide)).wk fun x H ⟨a, xs, ds, e, h1, h2, h3⟩ => by
    obtain ⟨d', r, rfl, rfl, rfl⟩ := h2
    exact ⟨a, xs, _, e, h1, rfl, h3⟩
/-- a list of written texts -/
def tStrs : List Str → TA
  | [] => tNil
  | s :: r => tCons (tC (.str s)) (tStrs r)
theorem evA_strs : ∀ ss : List Str, EvA c (tStrs ss) σ H0 (ss.map fun s => .val (.str s))
  | [] => evA_nil
  | s :: r => evA_cons ev_c (evA_strs r)
theorem avs_strs {H : Hp} : ∀ {ss : List Str} {vs : List V}, AVs (ss.map fun s => .val (.str s)) vs H → vs = ss.map V.str
  | [], _, h => h
  | s :: r, _, h => by
    obtain ⟨v, q, rfl, rfl, h2⟩ := h
    rw [avs_strs h2]
    rfl
theorem in_strs (s : Str) : ∀ ss : List Str, inV (.str s) (ss.map V.str) = decide (s ∈ ss)
  | [] => rfl
  | t :: r => by
    have ih := in_strs s r
    unfold inV at ih ⊢
    rw [List.map_cons, List.any_cons, ih]
    have e : eqV (.str t) (.str s) = decide (s = t) := by
      show (t == s) = _
      rw [Bool.eq_iff_iff]
      simp only [beq_iff_eq, decide_eq_true_eq]
      exact eq_comm
    rw [e, Bool.eq_iff_iff]
    simp only [Bool.or_eq_true, decide_eq_true_eq, List.mem_cons]
theorem strs_len (ss : List Str) : (ss.map V.str).length = ss.length := List.length_map ..
theorem ev_inStrs (ss : List Str) (ha : Ev c ta σ H0 (.val (.str s))) (z : ss.length ≤ 1000 := by decide) : Ev c (tOp (rIn c.K false) ta (tLst (tStrs ss))) σ H0 (.val (.bl (decide (s ∈ ss)))) := fun H r Q q =>
  ha H r _ fun x H1 r1 hx => evA_strs ss H1 (r.trans r1) _ fun vs H2 r2 hv => by
    cases hx
    rw [avs_strs hv]
    exact ⟨by rw [strs_len]; exact Nat.le_trans z (by decide), fun p hp => ⟨p, _, rfl, .inl (SqL.of upd_same), rfl, by rw [List.all_map]; exact List.all_eq_true.mpr fun _ _ => rfl, q _ _ (r1.trans (r2.trans (.laid hp))) (by show V.bl (inV _ _) = _; rw [in_strs])⟩⟩
theorem ev_notInStrs (ss : List Str) (ha : Ev c ta σ H0 (.val (.str s))) (z : ss.length ≤ 1000 := by decide) : Ev c (tOp (rIn c.K true) ta (tLst (tStrs ss))) σ H0 (.val (.bl (!decide (s ∈ ss)))) := fun H r Q q =>
  ha H r _ fun x H1 r1 hx => evA_strs ss H1 (r.trans r1) _ fun vs H2 r2 hv => by
    cases hx
    rw [avs_strs hv]
    exact ⟨by rw [strs_len]; exact Nat.le_trans z (by decide), fun p hp => ⟨p, _, rfl, .inl (SqL.of upd_same), rfl, by rw [List.all_map]; exact List.all_eq_true.mpr fun _ _ => rfl, q _ _ (r1.trans (r2.trans (.laid hp))) (by show V.bl (!inV _ _) = _; rw [in_strs])⟩⟩
/-- sum of a list of ints -/
theorem ints_of {H : Hp} : ∀ {ns : List Int} {xs : List V}, DatL H xs (ns.map PyData.int) → xs = ns.map V.int
  | [], _, h => by cases h; rfl
  | n :: r, _, h => by
    cases h with
    | cons h1 h2 =>
      cases h1
      rw [ints_of h2]
      rfl
theorem ev_sumL {ns : List Int} (h : Ev c te σ H0 (.lst (ns.map PyData.int))) : Ev c (tCB (rSum c.K) (tCons te tNil)) σ H0 (.val (.int ns.sum)) :=
  ev_cb (evA_one h) fun H vs Q r hv q => by
    obtain ⟨x, _, rfl, ⟨a, xs, _, rfl, h1, rfl, h3⟩, rfl⟩ := hv
    have e := ints_of h3
    subst e
    exact ⟨a, ns, rfl, SqL.of h1, q _ H (.refl H) rfl⟩
end
end KX

set_option maxHeartbeats 4000000
namespace KX
open PySem PySem.Spec PyProof.Rows L2
/-! ### mirrors -/
def tagD (d : PyData) : Str := match d with
  | .tuple (.str k :: _) => k
  | _ => ""
abbrev leafTags : List Str := ["number", "late", "empty", "head"]
def partsD (d : PyData) : List PyData := if tagD d ∈ leafTags then [] else if tagD d = "go" then fromD (itemD d 3) 0 else fromD d 1
def shapeD (d : PyData) : Bool := (match d with
  | .tuple (.str _ :: _) => true
  | _ => false) && (!decide (tagD d = "go") || isTup (itemD d 3))
def wfD : Nat → PyData → Bool
  | 0, _ => false
  | n + 1, d => shapeD d && (decide ((partsD d).length ≤ 4) && (partsD d).all fun e => wfD n e)
def nodesD : Nat → PyData → Int
  | 0, _ => 0
  | n + 1, d => 1 + ((partsD d).map fun e => nodesD n e).sum
theorem four_pos : ∀ n : Nat, 1 ≤ 4 ^ n
  | 0 => Nat.le_refl _
  | n + 1 => by
    have := four_pos n
    rw [Nat.pow_succ]
    omega
theorem nodes_bound : ∀ (n : Nat) (d : PyData), wfD n d = true → 0 ≤ nodesD n d ∧ 3 * nodesD n d + 1 ≤ (4 ^ n : Nat)
  | 0, _, h => by cases h
  | n + 1, d, h => by
    unfold wfD at h
    simp only [Bool.and_eq_true, decide_eq_true_eq, List.all_eq_true] at h
    obtain ⟨_, h2, h3⟩ := h
    have key : ∀ l : List PyData, (∀ x ∈ l, wfD n x = true) → 0 ≤ (l.map fun e => nodesD n e).sum ∧ 3 * (l.map fun e => nodesD n e).sum + (l.length : Int) ≤ l.length * (4 ^ n : Nat) := by
      intro l
      induction l with
      | nil => intro _; simp
      | cons x r ih =>
        intro hx
        obtain ⟨a1, a2⟩ := ih fun y hy => hx y (List.mem_cons_of_mem _ hy)
        obtain ⟨b1, b2⟩ := nodes_bound n x (hx x List.mem_cons_self)
        rw [List.map_cons, List.sum_cons, List.length_cons]
        have e : (((r.length + 1 : Nat) : Int)) * ((4 ^ n : Nat) : Int) = r.length * ((4 ^ n : Nat) : Int) + ((4 ^ n : Nat) : Int) := by
          rw [Int.natCast_add, Int.add_mul]
          simp
        rw [e]
        constructor
        · omega
        · push_cast
          push_cast at a2 b2
          omega
    obtain ⟨k1, k2⟩ := key _ h3
    unfold nodesD
    refine ⟨by omega, ?_⟩
    have e : (4 ^ (n + 1) : Nat) = 4 * 4 ^ n := by rw [Nat.pow_succ, Nat.mul_comm]
    have pos : (1 : Nat) ≤ 4 ^ n := four_pos n
    rw [e]
    generalize hq : (4 ^ n : Nat) = q at *
    have l4 : ((partsD d).length : Int) * (q : Int) ≤ 4 * q - (4 - (partsD d).length) * 1 := by
      have : (4 - ((partsD d).length : Int)) * 1 ≤ (4 - ((partsD d).length : Int)) * q := Int.mul_le_mul_of_nonneg_left (by omega) (by omega)
      have e2 : (4 - ((partsD d).length : Int)) * q = 4 * q - (partsD d).length * q := Int.sub_mul ..
      omega
    push_cast
    omega
end KX

set_option maxHeartbeats 4000000
namespace KX
open PySem PySem.Spec PyProof.Rows L2
theorem shape_of {d : PyData} (h : shapeD d = true) : ∃ k r, d = .tuple (.str k :: r) ∧ (k = "go" → isTup (itemD d 3) = true) := by
  unfold shapeD at h
  simp only [Bool.and_eq_true] at h
  obtain ⟨h1, h2⟩ := h
  split at h1
  · rename_i k r
    refine ⟨k, r, rfl, fun e => ?_⟩
    have e2 : tagD (.tuple (.str k :: r)) = "go" := e
    rw [e2] at h2
    exact h2
  · cases h1
/-- list(e), tuple(e) -/
theorem pe_listC {X : Cx} {e : Expr} {te : TE} {p pos : Pos} (hm : X.mg "list" = none) (he : PE X e te) (hg : Gl X "list" := by rfl) (h1 : starEach [e] X.env = (false, eval e X.env) :: starEach [] X.env := by rfl) (h2 : (backTo pos (starEach [] X.env)).any (·.1) = false := by rfl) :
    PE X (.Call (.Name "list" p) [e] [] pos) (tCB (rListOf X.K) (tCons te tNil)) := pe_callTy call_list_of hg hm boot_list (pa_cons he pa_nil h1) (by decide) (by decide) h1 h2
theorem pe_tupC {X : Cx} {e : Expr} {te : TE} {p pos : Pos} (hm : X.mg "tuple" = none) (he : PE X e te) (hg : Gl X "tuple" := by rfl) (h1 : starEach [e] X.env = (false, eval e X.env) :: starEach [] X.env := by rfl) (h2 : (backTo pos (starEach [] X.env)).any (·.1) = false := by rfl) :
    PE X (.Call (.Name "tuple" p) [e] [] pos) (tCB (rTupOf X.K) (tCons te tNil)) := pe_callTy call_tuple_of hg hm boot_tuple (pa_cons he pa_nil h1) (by decide) (by decide) h1 h2
def preParts (as : List AV) (r : AV) : Prop := ∃ d, as = [.dat d] ∧ shapeD d = true ∧ r = .lst (partsD d)
def preNodes (n : Nat) (as : List AV) (r : AV) : Prop := ∃ d, as = [.dat d] ∧ wfD n d = true ∧ n ≤ 30 ∧ r = .val (.int (nodesD n d))
theorem preSum_map (F : PyData → Int) (l : List PyData) : preSum (fun j => (l[j]?).elim 0 F) l.length = (l.map F).sum := by
  have key : ∀ k, k ≤ l.length → preSum (fun j => (l[j]?).elim 0 F) k = ((l.take k).map F).sum := by
    intro k
    induction k with
    | zero => intro _; rfl
    | succ k ih =>
      intro hk
      show preSum _ k + _ = _
      have hk2 : k < l.length := by omega
      have e := List.getElem?_eq_getElem hk2
      rw [ih (by omega), List.take_add_one, List.map_append, List.sum_append, e]
      show _ + (l[k]?).elim 0 F = _
      rw [e]
      simp
  rw [key _ (Nat.le_refl _), List.take_length]
theorem preSum_nn (f : Nat → Int) (b : Int) (n : Nat) (h : ∀ j, j < n → 0 ≤ f j ∧ f j ≤ b) : ∀ k, k ≤ n → 0 ≤ preSum f k ∧ preSum f k ≤ k * b
  | 0, _ => by simp [preSum]
  | k + 1, hk => by
    obtain ⟨h1, h2⟩ := preSum_nn f b n h k (by omega)
    obtain ⟨h3, h4⟩ := h k (by omega)
    have e : (((k + 1 : Nat) : Int)) * b = k * b + b := by
      rw [Int.natCast_add, Int.add_mul]
      simp
    rw [e]
    show 0 ≤ preSum f k + f k ∧ preSum f k + f k ≤ _
    omega
theorem four_le {n m : Nat} (h : n ≤ m) : 4 ^ n ≤ 4 ^ m := Nat.pow_le_pow_right (by decide) h
section
variable {P : Program} {w : World} {K : PySem.W.Frag} {mg : Str → Option Value} {base : Heap}
theorem b_parts (T : Tx K mg base) : Binds K (fdOf K "parts_of") ["one"] [] := T.f_parts_of.binds fun _ _ _ _ _ _ us hl => match us, hl with | [_], _ => rfl
theorem b_nodes (T : Tx K mg base) : Binds K (fdOf K "nodes_of") ["one"] [] := T.f_nodes_of.binds fun _ _ _ _ _ _ us hl => match us, hl with | [_], _ => rfl
/-- what both parts_of and its law's twin do -/
theorem parts_body {σ : L2.St} {H : Hp} {d : PyData} {c : Ct} (hk : shapeD d = true) (s0 : Sl σ 0 (.dat d) H) :
    EvS c (tSeq (tIfS (tTest (tOp (rIn c.K false) (tOp (rIxT c.K) (tVar 0) (tC (.int 0))) (tLst (tStrs leafTags)))) (tRet (tLst tNil)) tNext)
      (tRet (tIf (tTest (tOp rEq (tOp (rIxT c.K) (tVar 0) (tC (.int 0))) (tC (.str "go")))) (tCB (rListOf c.K) (tCons (tOp (rIxT c.K) (tVar 0) (tC (.int 3))) tNil)) (tCB (rListOf c.K) (tCons (tSl (rSlA c.K) (tVar 0) (tPart (tC (.int 1))) tNoPart) tNil))))) σ H (.lst (partsD d)) := by
  obtain ⟨k, r, rfl, hg⟩ := shape_of hk
  have i0 : Ev c (tOp (rIxT c.K) (tVar 0) (tC (.int 0))) σ H (.val (.str k)) := (ev_item (ds := .str k :: r) 0 (ev_var s0) (by rw [List.length_cons]; omega)).str
  have e0 : partsD (.tuple (.str k :: r)) = if k ∈ leafTags then [] else if k = "go" then fromD (itemD (.tuple (.str k :: r)) 3) 0 else r := rfl
  rw [e0]
  refine evS_if (k := decide (k ∈ leafTags)) (evT_test (ev_inStrs leafTags i0)) (fun h => ?_) fun h => ?_
  · rw [if_pos (of_decide_eq_true h)]
    exact evS_ret ev_nil
  rw [if_neg (of_decide_eq_false h)]
  refine evS_ret (ev_if (k := decide (k = "go")) (evT_test ((ev_eq i0 ev_c rfl).bl (dec_str.trans (Bool.beq_eq_decide_eq ..)))) (fun h => ?_) fun h => ?_)
  · have hk := of_decide_eq_true h
    rw [if_pos hk]
    obtain ⟨ds, e3⟩ := tup_of (hg hk)
    have l3 : 3 < (PyData.str k :: r).length := by
      rcases Nat.lt_or_ge 3 (PyData.str k :: r).length with q | q
      · exact q
      · have : itemD (.tuple (.str k :: r)) 3 = .none := by
          show (PyData.str k :: r).getD 3 .none = .none
          rw [List.getD_eq_getElem?_getD, List.getElem?_eq_none q]
          rfl
        rw [this] at e3
        cases e3
    have i3 := ev_item (c := c) (j := 3) 3 (ev_var s0) l3
    rw [e3] at i3 ⊢
    exact ev_listT i3
  · rw [if_neg (of_decide_eq_false h)]
    exact ev_listT (ev_from (c := c) (j := 1) 1 (ev_var s0) (by rw [List.length_cons]; omega))
theorem sc_parts : FnScope ["one"] ["one"] (defScope (top 21)) := ⟨rfl, rfl, rfl, by decide +kernel, rfl, by decide +kernel, by decide +kernel⟩
theorem ok_parts (T : Tx K mg base) : FnOk P w K mg base CX0 1 (fA K "parts_of") (fdOf K "parts_of") ["one"] (spOf (pureC K) preParts) := by
  refine T.f_parts_of.ok sc_parts (fun as r h => ?_) fun A outer s H E hr => ?_
  · obtain ⟨d, rfl, _⟩ := h
    rfl
  · refine ⟨_, pss_cons (ps_if (pt_cmpR op_in_seq (pe_ix ix_tup (pv 0) pe_int (fun _ _ => rfl)) (pe_lst (pa_cons pe_str (pa_cons pe_str (pa_cons pe_str (pa_cons pe_str pa_nil))))) (by rfl)) (pss_one (ps_ret (pe_lst pa_nil))) pss_nil)
      (pss_one (ps_ret (pe_ifExp (pt_cmpR op_eq (pe_ix ix_tup (pv 0) pe_int (fun _ _ => rfl)) pe_str (nomark _)) (pe_listC T.z_list (pe_ix ix_tup (pv 0) pe_int (fun _ _ => rfl))) (pe_listC T.z_list (pe_slice sl_tupA (pv 0) (po_some pe_int) po_none))))), ?_⟩
    rintro as r vs ⟨d, rfl, hk, rfl⟩ ⟨x, _, rfl, hx, rfl⟩ at0
    exact parts_body hk ⟨x, rfl, hx⟩
end
end KX

set_option maxHeartbeats 4000000
namespace KX
open PySem PySem.Spec PyProof.Rows L2
/-! ### nodes_of, leaves_of -/
def leavesD : Nat → PyData → List PyData
  | 0, _ => []
  | n + 1, d => if tagD d = "if" then leavesD n (itemD d 2) ++ leavesD n (itemD d 3) else if tagD d = "go" then [d] else []
/-- what leaves_of asks -/
def lfD : Nat → PyData → Bool
  | 0, _ => false
  | n + 1, d => shapeD d && (!decide (tagD d = "if") || (kindD d "if" 4 && (lfD n (itemD d 2) && lfD n (itemD d 3))))
def preLeaves (n : Nat) (as : List AV) (r : AV) : Prop := ∃ d, as = [.dat d] ∧ lfD n d = true ∧ (leavesD n d).length ≤ 1000 ∧ r = .lst (leavesD n d)
theorem pow30 : ((4 ^ 30 : Nat) : Int) = 1152921504606846976 := by decide +kernel
section
variable {P : Program} {w : World} {K : PySem.W.Frag} {mg : Str → Option Value} {base : Heap}
theorem b_leaves (T : Tx K mg base) : Binds K (fdOf K "leaves_of") ["tree"] [] := T.f_leaves_of.binds fun _ _ _ _ _ _ us hl => match us, hl with | [_], _ => rfl
theorem wf_parts {n : Nat} {d : PyData} (h : wfD (n + 1) d = true) : shapeD d = true ∧ (partsD d).length ≤ 4 ∧ ∀ x ∈ partsD d, wfD n x = true := by
  unfold wfD at h
  simp only [Bool.and_eq_true, decide_eq_true_eq, List.all_eq_true] at h
  exact ⟨h.1, h.2.1, h.2.2⟩
theorem nodes_big {n : Nat} (hn : n ≤ 30) {d : PyData} (h : wfD n d = true) : 0 ≤ nodesD n d ∧ nodesD n d ≤ 384307168202282325 := by
  obtain ⟨q1, q2⟩ := nodes_bound n d h
  have q3 : ((4 ^ n : Nat) : Int) ≤ ((4 ^ 30 : Nat) : Int) := Int.ofNat_le.mpr (four_le hn)
  rw [pow30] at q3
  omega
theorem sums_in {f : Nat → Int} {n : Nat} (hl : n ≤ 8) (h : ∀ j, j < n → 0 ≤ f j ∧ f j ≤ 384307168202282325) : ∀ j, j < n → InLong (f j) ∧ InLong (preSum f (j + 1)) := by
  intro j hj
  obtain ⟨c1, c2⟩ := h j hj
  obtain ⟨c3, c4⟩ := preSum_nn f 384307168202282325 n h (j + 1) hj
  unfold InLong
  have : ((j + 1 : Nat) : Int) ≤ 8 := by omega
  have e : (2 : Int) ^ 63 = 9223372036854775808 := by decide +kernel
  rw [e]
  refine ⟨⟨by omega, by omega⟩, by omega, ?_⟩
  have : ((j + 1 : Nat) : Int) * 384307168202282325 ≤ 8 * 384307168202282325 := Int.mul_le_mul_of_nonneg_right this (by decide)
  omega
theorem sc_nodes : FnScope ["one", "part"] ["one"] (defScope (top 22)) := ⟨rfl, rfl, rfl, by decide +kernel, rfl, by decide +kernel, by decide +kernel⟩
theorem ok_nodes (T : Tx K mg base) : ∀ n : Nat, FnOk P w K mg base CX0 (2 * n + 2) (fA K "nodes_of") (fdOf K "nodes_of") ["one"] (spOf (pureC K) (preNodes n))
  | 0 => by
    refine T.f_nodes_of.ok (N := ["one", "part"]) (k := 1) sc_nodes (fun as r h => ?_) fun A outer s H E hr => ⟨_, pss_never, ?_⟩
    · obtain ⟨d, rfl, _⟩ := h
      rfl
    · rintro as r vs ⟨d, _, h, _⟩
      cases h
  | n + 1 => by
    have G := ok_nodes T n
    refine T.f_nodes_of.ok (N := ["one", "part"]) (k := 2 * n + 3) sc_nodes (fun as r h => ?_) fun A outer s H E hr => ?_
    · obtain ⟨d, rfl, _⟩ := h
      rfl
    · have hr1 : Room 1 (A.deeper (envOfC "nodes_of" (defScope (top 22)) s.heap.objs.size (fA K "nodes_of") (.ref (cdOf K "nodes_of")))) := hr.mono (by omega)
      refine ⟨_, pss_one (ps_ret (pe_op op_add pe_int (pe_genSum (k := 2 * n + 2) (own := [("part", 1)]) (g := gName 1) hr (by rfl) T.z_sum boot_sum2 ⟨T.t_nodes_of, rfl, rfl, sc_nodes.nd, blkOk_by (own := [("part", 1)]) (N := ["one", "part"]) (sc := defScope (top 22)) (by decide +kernel), rfl, by decide +kernel, by decide +kernel⟩
        (pi_list (pe_fn (ok_parts T) hr1 T.g_parts_of T.f_parts_of (b_parts T) (pa_cons (pv 0) pa_nil))) (fun _ _ _ _ _ _ => pg_name (i := 1) sc_nodes.nd rfl (Or.inl rfl) (Or.inr rfl)) (fun _ _ _ _ _ _ hr3 => pe_fn G hr3 T.g_nodes_of T.f_nodes_of (b_nodes T) (pa_cons (pv 1) pa_nil))))), ?_⟩
      rintro as r vs ⟨d, rfl, hw, hn, rfl⟩ ⟨x, _, rfl, hx, rfl⟩ at0
      obtain ⟨w1, w2, w3⟩ := wf_parts hw
      have s0 : Sl (start ["one", "part"] [x]) 0 (.dat d) H := ⟨x, rfl, hx⟩
      have it : Ev (pureC K) (tCall (spOf (pureC K) preParts) [] E (tCons (tVar 0) tNil)) (start ["one", "part"] [x]) H (.lst (partsD d)) := ev_call (evA_one (ev_var s0)) ⟨d, rfl, w1, rfl⟩ at0
      have g := ev_genSum (P := tbOf K "nodes_of") (vs := [1]) (g := gName 1) (te := tCall (spOf (pureC K) (preNodes n)) [] E (tCons (tVar 1) tNil)) (evI_list it rfl) (by simp [tabs]) at0 (fun j => ((partsD d)[j]?).elim 0 (nodesD n)) (sums_in (by omega) fun j hj => by
        rw [List.getElem?_eq_getElem hj]
        exact nodes_big (by omega) (w3 _ (List.getElem_mem hj))) fun j y H1 lt rr ⟨e, he, hy⟩ => ⟨_, bind_name, ?_⟩
      · rw [preSum_map] at g
        exact evS_ret (ev_i0 (ev_c (v := .int 1)) g)
      · have se : Sl ((wipe (start ["one", "part"] [x]) [1]).set 1 (some y)) 1 (.dat e) H1 := ⟨y, rfl, e, rfl, hy⟩
        have m : e ∈ partsD d := List.mem_of_getElem? he
        refine ev_call (evA_one (ev_var se)) ⟨e, rfl, w3 e m, by omega, ?_⟩ (at0.up rr)
        rw [he]
        rfl
theorem sc_leaves : FnScope ["tree"] ["tree"] (defScope (top 23)) := ⟨rfl, rfl, rfl, by decide +kernel, rfl, by decide +kernel, by decide +kernel⟩
/-- leaves_of and its law's twin -/
theorem leaves_body {σ : L2.St} {H : Hp} {d : PyData} {n : Nat} {E : XK} {c : Ct} (o : c.row = none) (at0 : c.At H) (h : lfD (n + 1) d = true) (l : (leavesD (n + 1) d).length ≤ 1000) (s0 : Sl σ 0 (.dat d) H) :
    EvS c (tSeq (tIfS (tTest (tOp rEq (tOp (rIxT c.K) (tVar 0) (tC (.int 0))) (tC (.str "if")))) (tRet (tOp rCat (tCall (spOf c (preLeaves n)) [] E (tCons (tOp (rIxT c.K) (tVar 0) (tC (.int 2))) tNil)) (tCall (spOf c (preLeaves n)) [] E (tCons (tOp (rIxT c.K) (tVar 0) (tC (.int 3))) tNil)))) tNext)
      (tRet (tIf (tTest (tOp rEq (tOp (rIxT c.K) (tVar 0) (tC (.int 0))) (tC (.str "go")))) (tLst (tCons (tVar 0) tNil)) (tLst tNil)))) σ H (.lst (leavesD (n + 1) d)) := by
  unfold lfD at h
  rw [Bool.and_eq_true] at h
  obtain ⟨hs, hi⟩ := h
  obtain ⟨k, r, rfl, _⟩ := shape_of hs
  have i0 : Ev c (tOp (rIxT c.K) (tVar 0) (tC (.int 0))) σ H (.val (.str k)) := (ev_item (ds := .str k :: r) 0 (ev_var s0) (by rw [List.length_cons]; omega)).str
  have e0 : leavesD (n + 1) (.tuple (.str k :: r)) = if k = "if" then leavesD n (itemD (.tuple (.str k :: r)) 2) ++ leavesD n (itemD (.tuple (.str k :: r)) 3) else if k = "go" then [.tuple (.str k :: r)] else [] := rfl
  rw [e0] at l ⊢
  refine evS_if (k := decide (k = "if")) (evT_test ((ev_eq i0 ev_c rfl).bl (dec_str.trans (Bool.beq_eq_decide_eq ..)))) (fun q => ?_) fun q => ?_
  · have q := of_decide_eq_true q
    rw [if_pos q] at l ⊢
    have hi2 : (kindD (.tuple (.str k :: r)) "if" 4 && (lfD n (itemD (.tuple (.str k :: r)) 2) && lfD n (itemD (.tuple (.str k :: r)) 3))) = true := by
      rcases Bool.or_eq_true _ _ ▸ hi with z | z
      · have : tagD (.tuple (.str k :: r)) = "if" := q
        rw [decide_eq_true this] at z
        cases z
      · exact z
    simp only [Bool.and_eq_true] at hi2
    obtain ⟨h1, h2, h3⟩ := hi2
    obtain ⟨r', e, hl⟩ := kind_shape (n := 4) h1
    cases e
    rw [List.length_append] at l
    refine evS_ret (ev_catL (ev_call (evA_one (ev_item 2 (ev_var s0) (by rw [List.length_cons]; omega))) ⟨_, rfl, h2, by omega, rfl⟩ at0) (ev_call (evA_one (ev_item 3 (ev_var s0) (by rw [List.length_cons]; omega))) ⟨_, rfl, h3, by omega, rfl⟩ at0) l o)
  · rw [if_neg (of_decide_eq_false q)]
    refine evS_ret (ev_if (k := decide (k = "go")) (evT_test ((ev_eq i0 ev_c rfl).bl (dec_str.trans (Bool.beq_eq_decide_eq ..)))) (fun q => ?_) fun q => ?_)
    · rw [if_pos (of_decide_eq_true q)]
      exact ev_lst1 (ev_var s0)
    · rw [if_neg (of_decide_eq_false q)]
      exact ev_nil
theorem ok_leaves (T : Tx K mg base) : ∀ n : Nat, FnOk P w K mg base CX0 (n + 1) (fA K "leaves_of") (fdOf K "leaves_of") ["tree"] (spOf (pureC K) (preLeaves n))
  | 0 => by
    refine T.f_leaves_of.ok (N := ["tree"]) (k := 0) sc_leaves (fun as r h => ?_) fun A outer s H E hr => ⟨_, pss_never, ?_⟩
    · obtain ⟨d, rfl, _⟩ := h
      rfl
    · rintro as r vs ⟨d, _, h, _⟩
      cases h
  | n + 1 => by
    have G := ok_leaves T n
    refine T.f_leaves_of.ok (N := ["tree"]) (k := n + 1) sc_leaves (fun as r h => ?_) fun A outer s H E hr => ?_
    · obtain ⟨d, rfl, _⟩ := h
      rfl
    · refine ⟨_, pss_cons (ps_if (pt_cmpR op_eq (pe_ix ix_tup (pv 0) pe_int (fun _ _ => rfl)) pe_str (nomark _)) (pss_one (ps_ret (pe_op op_cat (pe_fn G hr T.g_leaves_of T.f_leaves_of (b_leaves T) (pa_cons (pe_ix ix_tup (pv 0) pe_int (fun _ _ => rfl)) pa_nil)) (pe_fn G hr T.g_leaves_of T.f_leaves_of (b_leaves T) (pa_cons (pe_ix ix_tup (pv 0) pe_int (fun _ _ => rfl)) pa_nil))))) pss_nil)
        (pss_one (ps_ret (pe_ifExp (pt_cmpR op_eq (pe_ix ix_tup (pv 0) pe_int (fun _ _ => rfl)) pe_str (nomark _)) (pe_lst (pa_cons (pv 0) pa_nil)) (pe_lst pa_nil)))), ?_⟩
      rintro as r vs ⟨d, rfl, h, l, rfl⟩ ⟨x, _, rfl, hx, rfl⟩ at0
      exact leaves_body rfl at0 h l ⟨x, rfl, hx⟩
end
end KX

set_option maxHeartbeats 4000000
namespace KX
open PySem PySem.Spec PyProof.Rows L2
theorem size_ok {n : Nat} (h : n ≤ 1000) : n < sizeLine := by
  have hs : sizeLine = 16777216 := sizeLine_eq
  omega
section
variable {c : Ct} {σ : L2.St} {H0 H1 : Hp} {te ta tb td ty tx tk tv : TE} {a b : AV} {n : Nat} {A : Nat → V → Hp → Prop} {wi : TI} {g : TG} {vs : List Nat} {tt : TT} {es : List (Str × PyData)} {k : Str}
/-! ### dicts -/
abbrev rLenD : List V → Hp → VK → Prop := fun xs H Q => ∃ (a : Addr) (kvs : List (Key × V)), xs = [.ref a] ∧ H a = some (.dK kvs) ∧ Q (.int ((kvs.length : Nat) : Int)) H
theorem call_lenD {X : Cx} : CallR X (.builtin "len") rLenD := by
  intro pins s σ H xs us Q I r h
  obtain ⟨p, kvs, rfl, hp, q⟩ := h
  obtain ⟨u, rfl, rx⟩ := vals1 r
  obtain rfl : u = .ref p := rx
  exact d_len I (.inl hp) fun t s' I' => ⟨.int kvs.length, H, I', ⟨_, rfl⟩, q⟩
theorem pe_lenD {X : Cx} {e : Expr} {te : TE} {p pos : Pos} (hm : X.mg "len" = none) (he : PE X e te) (hg : Gl X "len" := by rfl) (h1 : starEach [e] X.env = (false, eval e X.env) :: starEach [] X.env := by rfl) (h2 : (backTo pos (starEach [] X.env)).any (·.1) = false := by rfl) :
    PE X (.Call (.Name "len" p) [e] [] pos) (tCB rLenD (tCons te tNil)) := pe_callB call_lenD hg hm PySem.boot_len (pa_cons he pa_nil h1) (by decide) (by decide) h1 h2
theorem ev_lenK (h : Ev c te σ H0 (.dct es)) : Ev c (tCB rLenD (tCons te tNil)) σ H0 (.val (.int es.length)) :=
  ev_cb (evA_one h) fun H vs Q r hv q => by
    obtain ⟨x, _, rfl, ⟨a, kvs, _, rfl, h1, rfl, h2⟩, rfl⟩ := hv
    exact ⟨a, kvs, rfl, h1, q _ H (.refl H) (by show V.int _ = _; rw [h2.length])⟩
theorem AV.keepK {p : List (Str × PyData) → Prop} {a : Addr} {kvs : List (Key × V)} (g : c.R H0 H1) (h1 : H0 a = some (.dK kvs)) : H1 a = some (.dK kvs) := g.kp _ _ h1 (fun _ z => by cases z) (fun _ _ _ _ z => by cases z)
theorem KvL.up {kvs : List (Key × V)} (g : c.R H0 H1) (h : KvL H0 kvs es) : KvL H1 kvs es := h.mono (fun _ _ e => g.tup e)
theorem ev_dget2 {e0 : PyData} (h : Ev c td σ H0 (.dct es)) (hk : Ev c ty σ H0 (.val (.str k))) (hx : Ev c tx σ H0 (.dat e0)) : Ev c (tDGet2 td ty tx) σ H0 (.dat ((getS es k).getD e0)) := fun H r Q q =>
  h H r _ fun x H1 r1 ⟨a, kvs, _, e1, h1, e2, h2⟩ => ⟨a, e1, .inl ⟨kvs, .inl h1⟩, hk H1 (r.trans r1) _ fun y H2 r2 e3 => hx H2 (r.trans (r1.trans r2)) _ fun z H3 r3 ⟨d, e4, h4⟩ => by
    subst e2 e3 e4
    have g := r2.trans r3
    refine ⟨_, DGet.k (k := .inr k) (AV.keepK (c := c) (p := fun _ => True) g h1), q _ H3 (r1.trans g) ?_⟩
    rcases (KvL.up (c := c) g h2).get k with ⟨a1, a2⟩ | ⟨v, d', a1, a2, a3⟩
    · rw [a1, a2]
      exact ⟨_, rfl, h4⟩
    · rw [a1, a2]
      exact ⟨_, rfl, a3⟩⟩
theorem ev_dget {d : PyData} (h : Ev c td σ H0 (.dct es)) (hk : Ev c ty σ H0 (.val (.str k))) (e : getS es k = some d) : Ev c (tDGet td ty) σ H0 (.dat d) := fun H r Q q =>
  h H r _ fun x H1 r1 ⟨a, kvs, _, e1, h1, e2, h2⟩ => hk H1 (r.trans r1) _ fun y H2 r2 e3 => by
    subst e2 e3
    rcases (KvL.up (c := c) r2 h2).get k with ⟨a1, a2⟩ | ⟨v, d', a1, a2, a3⟩
    · rw [e] at a2
      cases a2
    · rw [e] at a2
      cases a2
      have dg := DGet.k (k := .inr k) (AV.keepK (c := c) (p := fun _ => True) r2 h1)
      rw [a1] at dg
      exact ⟨a, v, e1, dg, q _ H2 (r1.trans r2) ⟨_, rfl, a3⟩⟩
theorem ev_dnotin (h : Ev c td σ H0 (.dct es)) (hk : Ev c ty σ H0 (.val (.str k))) : Ev c (tDNotIn ty td) σ H0 (.val (.bl (!(getS es k).isSome))) := fun H r Q q =>
  hk H r _ fun y H1 r1 e3 => h H1 (r.trans r1) _ fun x H2 r2 ⟨a, kvs, _, e1, h1, e2, h2⟩ => by
    subst e2 e3
    exact ⟨a, _, e1, DGet.k (k := .inr k) h1, q _ H2 (r1.trans r2) (by show V.bl _ = _; rw [h2.has k])⟩
theorem ev_din (h : Ev c td σ H0 (.dct es)) (hk : Ev c ty σ H0 (.val (.str k))) : Ev c (tDIn ty td) σ H0 (.val (.bl (getS es k).isSome)) := fun H r Q q =>
  hk H r _ fun y H1 r1 e3 => h H1 (r.trans r1) _ fun x H2 r2 ⟨a, kvs, _, e1, h1, e2, h2⟩ => by
    subst e2 e3
    exact ⟨a, _, e1, DGet.k (k := .inr k) h1, q _ H2 (r1.trans r2) (by show V.bl _ = _; rw [h2.has k])⟩
/-! ### comprehensions -/
theorem each_snoc {p : PyData → Prop} {d : PyData} (hd : p d) : ∀ {ps : List (PyData → Prop)} {ds : List PyData}, Each ps ds → Each (ps ++ [p]) (ds ++ [d])
  | [], _, h => by cases h; exact ⟨d, [], rfl, hd, rfl⟩
  | _ :: _, _, h => by
    obtain ⟨e, r, rfl, h1, h2⟩ := h
    exact ⟨e, r ++ [d], rfl, h1, each_snoc hd h2⟩
theorem fm_len {α : Type} (f : Nat → Option α) (n : Nat) : ((List.range n).filterMap f).length ≤ n := by
  have := List.length_filterMap_le f (List.range n)
  rw [List.length_range] at this
  exact this
theorem DatL.up {xs : List V} {ds : List PyData} {D : Addr} {o : HO} (hD : H0 D = none) (g : c.R H0 H1) (h : DatL H1 xs ds) (ht : ∀ xs, H1 D ≠ some (.tup xs)) : DatL (upd H1 D o) xs ds := DatL.mono (fun b ys e => by
  rw [upd_ne (fun z => by subst z; exact ht _ e)]
  exact e) _ _ h
theorem ev_lc (hi : EvI c wi σ H0 n A) (at0 : c.At H0) (hn : n ≤ 1000) (f : Nat → Option (PyData → Prop))
    (he : ∀ j x H, j < n → c.R H0 H → A j x H → ∃ τ, Bind g vs σ x H τ ∧ EvT c tt τ H (f j).isSome ∧ ∀ p, f j = some p → Ev c te τ H (.dp p)) :
    Ev c (tLc wi g tt te vs) σ H0 (.lp (Each ((List.range n).filterMap f))) := fun H r Q q =>
  hi H r _ fun J H1 r1 it D hD => by
    have at1 := at0.up (r.trans r1)
    have hrow : ∀ rw', c.row = some rw' → RowOk c.K rw' H1 := fun w e => at1.row w e
    have nr : ∀ rw', c.row = some rw' → rw'.a ≠ D := fun w e z => by
      obtain ⟨_, _, _, h1, _⟩ := (hrow w e).at_
      rw [z, hD] at h1
      cases h1
    have kD : ∀ {H2 H3 : Hp} {xs : List V}, c.R H2 H3 → H2 D = some (.lst xs) → H3 D = some (.lst xs) := fun g e => g.kp _ _ e (fun _ z => by cases z) (fun w e2 z => (nr w e2 z).elim)
    refine ⟨fun i m H => m = n - i ∧ i ≤ n ∧ c.R H1 H ∧ ∃ xs ds, H D = some (.lst xs) ∧ DatL H xs ds ∧ Each ((List.range i).filterMap f) ds, ⟨n, by omega, Nat.zero_le _, .laid hD, [], [], upd_same, .nil, rfl⟩, ?_⟩
    rintro i m H ⟨rfl, hi2, ri, xs, ds, hx, hd, hE⟩
    by_cases e : i = n
    · subst e
      exact .inl ⟨it.stop H ri, q _ H (r1.trans ri) ⟨D, xs, ds, rfl, hx, hE, hd⟩⟩
    · have lt : i < n := by omega
      refine .inr ⟨it.go H i ri lt, fun H' => i + 1 ≤ n ∧ c.R H1 H' ∧ ∃ xs ds, H' D = some (.lst xs) ∧ DatL H' xs ds ∧ Each ((List.range (i + 1)).filterMap f) ds, fun H' ⟨a1, a2, a3⟩ => ⟨n - (i + 1), by omega, rfl, a1, a2, a3⟩, fun x H' y => ?_⟩
      obtain ⟨rfl, ha⟩ := it.yl H i x H' ri lt y
      obtain ⟨τ, ⟨b1, b2⟩, ht, hv⟩ := he i x H' lt (r.trans (r1.trans ri)) ha
      refine b1 _ ⟨b2, ht H' (.refl H') _ fun H3 r3 => ?_⟩
      have fm : (List.range (i + 1)).filterMap f = (List.range i).filterMap f ++ (f i).toList := by
        rw [List.range_succ, List.filterMap_append]
        cases q : f i with
        | none => rw [List.filterMap_cons_none q]; rfl
        | some p => rw [List.filterMap_cons_some q]; rfl
      cases q1 : f i with
      | none =>
        refine iteF ⟨lt, ri.trans r3, xs, ds, kD r3 hx, r3.datL hd, ?_⟩
        rw [fm, q1]
        show Each (_ ++ []) ds
        rw [List.append_nil]
        exact hE
      | some p =>
        refine iteT (hv p q1 H3 r3 _ fun v H4 r4 ⟨d, hp, hdv⟩ => ?_)
        have x4 := kD r4 (kD r3 hx)
        refine ⟨xs, x4, ?_, lt, (ri.trans (r3.trans r4)).fresh hD hrow, xs ++ [v], ds ++ [d], upd_same, DatL.up (c := c) hD (ri.trans (r3.trans r4)) ((r4.datL (r3.datL hd)).append (.cons hdv .nil)) (fun ys z => by rw [x4] at z; cases z), ?_⟩
        · rw [hd.length, each_len hE]
          exact size_ok (by have := fm_len f i; omega)
        · rw [fm, q1]
          exact each_snoc hp hE
theorem each_one {α : Type} {f : α → Option PyData} : ∀ {l : List α} {ds : List PyData}, Each (l.filterMap fun j => (f j).map fun d => (· = d)) ds → ds = l.filterMap f
  | [], _, h => h
  | j :: l, ds, h => by
    cases q : f j with
    | none =>
      rw [List.filterMap_cons_none (by rw [q]; rfl)] at h
      rw [List.filterMap_cons_none q]
      exact each_one h
    | some d =>
      rw [List.filterMap_cons_some (b := (· = d)) (by rw [q]; rfl)] at h
      rw [List.filterMap_cons_some q]
      obtain ⟨e, r, rfl, rfl, h2⟩ := h
      rw [each_one h2]
theorem range_fm {α β : Type} (l : List α) (F : α → Option β) : (List.range l.length).filterMap (fun j => (l[j]?).bind F) = l.filterMap F := by
  have key : ∀ k, k ≤ l.length → (List.range k).filterMap (fun j => (l[j]?).bind F) = (l.take k).filterMap F := by
    intro k
    induction k with
    | zero => intro _; rfl
    | succ k ih =>
      intro hk
      have hk2 : k < l.length := by omega
      have e := List.getElem?_eq_getElem hk2
      rw [List.range_succ, List.filterMap_append, ih (by omega), List.take_add_one, List.filterMap_append, e]
      congr 1
      cases q : F l[k] with
      | none => rw [List.filterMap_cons_none (by rw [e]; exact q)]; simp [q]
      | some p => rw [List.filterMap_cons_some (b := p) (by rw [e]; exact q)]; simp [q]
  rw [key _ (Nat.le_refl _), List.take_length]
/-- over items, each kept or not as F says -/
theorem ev_lcD {α : Type} (l : List α) (hi : EvI c wi σ H0 l.length A) (at0 : c.At H0) (hn : l.length ≤ 1000) (F : α → Option PyData)
    (he : ∀ j x H y, l[j]? = some y → c.R H0 H → A j x H → ∃ τ, Bind g vs σ x H τ ∧ EvT c tt τ H (F y).isSome ∧ ∀ d, F y = some d → Ev c te τ H (.dat d)) :
    Ev c (tLc wi g tt te vs) σ H0 (.lst (l.filterMap F)) := by
  have h := ev_lc (te := te) (tt := tt) (g := g) (vs := vs) hi at0 hn (fun j => ((l[j]?).bind F).map fun d => (· = d)) fun j x H lt r ha => by
    have e := List.getElem?_eq_getElem lt
    obtain ⟨τ, h1, h2, h3⟩ := he j x H _ e r ha
    refine ⟨τ, h1, ?_, fun p hp => ?_⟩
    · rw [e]
      show EvT c tt τ H ((F l[j]).map _).isSome
      rw [Option.isSome_map]
      exact h2
    · rw [e] at hp
      have hp : (F l[j]).map (fun d => (· = d)) = some p := hp
      cases q : F l[j] with
      | none => rw [q] at hp; cases hp
      | some d =>
        rw [q] at hp
        cases hp
        exact h3 d q
  refine h.wk fun x H ⟨a, xs, ds, e, h1, h2, h3⟩ => ⟨a, xs, ds, e, h1, ?_, h3⟩
  rw [each_one h2, range_fm]
def foldK (kf : Nat → Str) (df : Nat → PyData) : Nat → List (Str × PyData)
  | 0 => []
  | j + 1 => putS (foldK kf df j) (kf j) (df j)
theorem repS_len (k : Str) (d : PyData) : ∀ es : List (Str × PyData), (repS es k d).length = es.length
  | [] => rfl
  | (j, e) :: r => by
    show (repS r k d).length + 1 = _
    rw [repS_len k d r]
    rfl
theorem putS_len (es : List (Str × PyData)) (k : Str) (d : PyData) : (putS es k d).length ≤ es.length + 1 := by
  unfold putS
  split
  · rw [repS_len]
    omega
  · rw [List.length_append]
    exact Nat.le_refl _
theorem foldK_len (kf : Nat → Str) (df : Nat → PyData) : ∀ n, (foldK kf df n).length ≤ n
  | 0 => Nat.le_refl _
  | n + 1 => by
    have h1 := foldK_len kf df n
    have h2 := putS_len (foldK kf df n) (kf n) (df n)
    show (putS _ _ _).length ≤ _
    omega
theorem ev_dc (hi : EvI c wi σ H0 n A) (at0 : c.At H0) (hn : n ≤ 1000) (kf : Nat → Str) (df : Nat → PyData)
    (he : ∀ j x H, j < n → c.R H0 H → A j x H → ∃ τ, Bind g vs σ x H τ ∧ Ev c tk τ H (.val (.str (kf j))) ∧ Ev c tv τ H (.dat (df j))) :
    Ev c (tDc wi g tYes tk tv vs) σ H0 (.dct (foldK kf df n)) := fun H r Q q =>
  hi H r _ fun J H1 r1 it D hD => by
    have at1 := at0.up (r.trans r1)
    refine ⟨fun i m H => m = n - i ∧ i ≤ n ∧ c.R H1 H ∧ ∃ xs, H D = some (.dK xs) ∧ KvL H xs (foldK kf df i), ⟨n, by omega, Nat.zero_le _, .laid hD, [], upd_same, .nil⟩, ?_⟩
    rintro i m H ⟨rfl, hi2, ri, xs, hx, hE⟩
    by_cases e : i = n
    · subst e
      exact .inl ⟨it.stop H ri, q _ H (r1.trans ri) ⟨D, xs, _, rfl, hx, rfl, hE⟩⟩
    · have lt : i < n := by omega
      refine .inr ⟨it.go H i ri lt, fun H' => i + 1 ≤ n ∧ c.R H1 H' ∧ ∃ xs, H' D = some (.dK xs) ∧ KvL H' xs (foldK kf df (i + 1)), fun H' ⟨a1, a2, a3⟩ => ⟨n - (i + 1), by omega, rfl, a1, a2, a3⟩, fun x H' y => ?_⟩
      obtain ⟨rfl, ha⟩ := it.yl H i x H' ri lt y
      obtain ⟨τ, ⟨b1, b2⟩, hk, hv⟩ := he i x H' lt (r.trans (r1.trans ri)) ha
      refine b1 _ ⟨b2, ?_⟩
      unfold tYes
      show (if true = true then _ else _)
      rw [if_pos rfl]
      refine hk H' (.refl H') _ fun y H3 r3 ey => hv H3 r3 _ fun z H4 r4 ⟨d, ed, hz⟩ => ?_
      subst ed ey
      have g := r3.trans r4
      have x4 := AV.keepK (c := c) (p := fun _ => True) g hx
      have nt : ∀ b ys, H4 b = some (.tup ys) → upd H4 D (.dK (putK xs (.inr (kf i)) z)) b = some (.tup ys) := fun b ys e => by
        rw [upd_ne (fun w => by subst w; rw [x4] at e; cases e)]
        exact e
      refine ⟨xs, .inr (kf i), rfl, x4, ?_, lt, (ri.trans g).fresh hD (fun w e => at1.row w e), _, upd_same, ?_⟩
      · rw [hE.length]
        exact size_ok (by have := foldK_len kf df i; omega)
      · exact ((KvL.up (c := c) g hE).put (kf i) hz).mono nt
/-! ### three names from a tuple -/
theorem gtup3 {i1 i2 i3 : Nat} {x : V} {H : Hp} {d1 d2 d3 : PyData} (hx : Dat H x (.tuple [d1, d2, d3])) :
    ∃ v1 v2 v3, Dat H v1 d1 ∧ Dat H v2 d2 ∧ Dat H v3 d3 ∧ ∀ (τ : L2.St) (Q : L2.St → Hp → Prop), Q (((τ.set i1 (some v1)).set i2 (some v2)).set i3 (some v3)) H → gTup c.K 3 (gCons (gName i1) (gCons (gName i2) (gCons (gName i3) gNil))) x τ H Q := by
  cases hx with
  | tup h1 h2 =>
    cases h2 with
    | @cons v1 _ _ _ a1 h2 =>
      cases h2 with
      | @cons v2 _ _ _ a2 h2 =>
        cases h2 with
        | @cons v3 _ _ _ a3 h2 =>
          cases h2
          exact ⟨v1, v2, v3, a1, a2, a3, fun τ Q q => ⟨_, _, rfl, SqT.of h1, rfl, v1, _, rfl, v2, _, rfl, v3, _, rfl, rfl, q⟩⟩
theorem bind_tup3 {i1 i2 i3 : Nat} {x : V} {H : Hp} {d1 d2 d3 : PyData} (hx : Dat H x (.tuple [d1, d2, d3])) (hw : ∀ v1 v2 v3 : V, wipe ((((wipe σ vs).set i1 (some v1)).set i2 (some v2)).set i3 (some v3)) vs = wipe σ vs) :
    ∃ v1 v2 v3, Dat H v1 d1 ∧ Dat H v2 d2 ∧ Dat H v3 d3 ∧ Bind (gTup c.K 3 (gCons (gName i1) (gCons (gName i2) (gCons (gName i3) gNil)))) vs σ x H ((((wipe σ vs).set i1 (some v1)).set i2 (some v2)).set i3 (some v3)) := by
  obtain ⟨v1, v2, v3, a1, a2, a3, h⟩ := gtup3 (c := c) (i1 := i1) (i2 := i2) (i3 := i3) hx
  exact ⟨v1, v2, v3, a1, a2, a3, fun Q q => h _ Q q, hw v1 v2 v3⟩
/-! ### loops -/
theorem evS_for {t u : TS} (hi : EvI c wi σ H0 n A) (I : Nat → L2.St → Hp → Prop) (h0 : ∀ H, c.R H0 H → I 0 σ H)
    (hb : ∀ j τ H x (D : Ends), j < n → c.R H0 H → I j τ H → A j x H → (∀ τ2 H2, c.R H H2 → I (j + 1) τ2 H2 → D.nx τ2 H2) → (∀ v H2, c.R H H2 → a.is v H2 → D.rt v H2) → g x τ H fun τ2 H2 => t D τ2 H2)
    (hr : ∀ τ H, c.R H0 H → I n τ H → EvS c u τ H a) : EvS c (tSeq (tFor wi g t) u) σ H0 a := fun H r D q =>
  hi H r _ fun J H1 r1 it => by
    refine ⟨fun i m τ H => m = n - i ∧ i ≤ n ∧ c.R H1 H ∧ I i τ H, ⟨n, by omega, Nat.zero_le _, .refl _, h0 _ (r.trans r1)⟩, ?_⟩
    rintro i m τ H ⟨rfl, hi2, ri, hI⟩
    by_cases e : i = n
    · subst e
      exact .inl ⟨it.stop H ri, hr τ H (r.trans (r1.trans ri)) hI H (.refl H) _ fun v H2 r2 x => q v H2 (r1.trans (ri.trans r2)) x⟩
    · have lt : i < n := by omega
      refine .inr ⟨it.go H i ri lt, fun τ' H' => i + 1 ≤ n ∧ c.R H1 H' ∧ I (i + 1) τ' H', fun τ' H' ⟨a1, a2, a3⟩ => ⟨n - (i + 1), by omega, rfl, a1, a2, a3⟩, fun x H' y => ?_⟩
      obtain ⟨rfl, ha⟩ := it.yl H i x H' ri lt y
      exact hb i τ H' x _ lt (r.trans (r1.trans ri)) hI ha (fun τ2 H2 r2 x => ⟨lt, ri.trans r2, x⟩) fun v H2 r2 x => q v H2 (r1.trans (ri.trans r2)) x
end
end KX

set_option maxHeartbeats 4000000
namespace KX
open PySem PySem.Spec PyProof.Rows L2
/-! ### is_function -/
def intOf : PyData → Int
  | .int i => i
  | _ => 0
def funcD (d : PyData) : Bool := match d with
  | .tuple [a, b, t] => wordD a 1 8 && (inD b 0 4 && treeD 30 t (intOf b))
  | _ => false
theorem in_int {d : PyData} {lo hi : Int} (h : inD d lo hi = true) : ∃ i, d = .int i ∧ lo ≤ i ∧ i ≤ hi := by
  cases d with
  | int i =>
    have h : (decide (lo ≤ i) && decide (i ≤ hi)) = true := h
    rw [Bool.and_eq_true, decide_eq_true_eq, decide_eq_true_eq] at h
    exact ⟨i, rfl, h.1, h.2⟩
  | _ => cases h
theorem func_of {d : PyData} (h : funcD d = true) : ∃ s b t, d = .tuple [.str s, .int b, t] ∧ wordD (.str s) 1 8 = true ∧ 0 ≤ b ∧ b ≤ 4 ∧ treeD 30 t b = true := by
  unfold funcD at h
  split at h
  · rename_i a b t
    simp only [Bool.and_eq_true] at h
    obtain ⟨h1, h2, h3⟩ := h
    obtain ⟨i, rfl, h4, h5⟩ := in_int h2
    cases a with
    | str s => exact ⟨s, i, t, rfl, h1, h4, h5, h3⟩
    | _ => cases h1
  · cases h
def preFunc (as : List AV) (r : AV) : Prop := (∃ d, as = [.dat d] ∧ r = .val (.bl (funcD d))) ∨ ∃ ra, as = [.np ra] ∧ r = .val (.bl false)
section
variable {P : Program} {w : World} {K : PySem.W.Frag} {mg : Str → Option Value} {base : Heap}
theorem ev_isiN {c : Ct} {σ : L2.St} {H0 : Hp} {te : TE} {ra : Addr} (h : Ev c te σ H0 (.np ra)) : Ev c (tCB (rIsi c.K) (tCons te (tCons (tC (.ty "tuple")) tNil))) σ H0 (.val (.bl false)) := fun H r Q q =>
  h H r _ fun x H1 r1 ⟨a, e, _, k⟩ => by
    rcases k with ⟨xs, k⟩ | ⟨xs, k⟩
    · exact ⟨x, _, _, _, false, rfl, .ty "tuple", by rw [e]; exact .base (.lst k), kit_ty (by decide +kernel : kitB "list" "tuple" = some false), q _ H1 r1 rfl⟩
    · exact ⟨x, _, _, _, false, rfl, .ty "tuple", by rw [e]; exact .base (.dK k), kit_ty (by decide +kernel : kitB "dict" "tuple" = some false), q _ H1 r1 rfl⟩
theorem b_func (T : Tx K mg base) : Binds K (fdOf K "is_function") ["value"] [] := T.f_is_function.binds fun _ _ _ _ _ _ us hl => match us, hl with | [_], _ => rfl
theorem sc_func : FnScope ["value"] ["value"] (defScope (top 24)) := ⟨rfl, rfl, rfl, by decide +kernel, rfl, by decide +kernel, by decide +kernel⟩
theorem ok_func (T : Tx K mg base) : FnOk P w K mg base CX0 67 (fA K "is_function") (fdOf K "is_function") ["value"] (spOf (pureC K) preFunc) := by
  obtain ⟨t1, mg1⟩ := T.i_MOST_LETTERS
  obtain ⟨t2, mg2⟩ := T.i_MOST_LATES
  obtain ⟨t3, mg3⟩ := T.i_MOST_DEEP
  have GT := ok_tree (P := P) (w := w) T 30
  refine T.f_is_function.ok (N := ["value"]) (k := 66) sc_func (fun as r h => ?_) fun A outer s H E hr => ?_
  · rcases h with ⟨d, rfl, _⟩ | ⟨ra, rfl, _⟩ <;> rfl
  · have hr1 : Room 1 (A.deeper (envOfC "is_function" (defScope (top 24)) s.heap.objs.size (fA K "is_function") (.ref (cdOf K "is_function")))) := hr.mono (by omega)
    have hr2 : Room 2 (A.deeper (envOfC "is_function" (defScope (top 24)) s.heap.objs.size (fA K "is_function") (.ref (cdOf K "is_function")))) := hr.mono (by omega)
    refine ⟨_, pss_cons (ps_if (PW.pt (pw_or (pt_not (pt_val (pe_isi T.z_isinstance T.z_tuple boot_tuple (pv 0)))) (pw_or (pt_cmpR op_ne (pe_len T.z_len (pv 0)) pe_int (nomark _)) (pw_or1 (pt_not (pt_val (pe_fn (ok_word T) hr2 T.g_is_word T.f_is_word (b_word T) (pa_cons (pe_ix ix_tup (pv 0) pe_int (fun _ _ => rfl)) (pa_cons pe_int (pa_cons (pe_glob (v := .int 8) (by rfl) mg1 ⟨_, rfl⟩) pa_nil))))))))))
        (pss_one (ps_ret pe_bl)) pss_nil)
      (pss_one (ps_ret (pe_and (pe_fn (ok_in T) hr1 T.g_is_in T.f_is_in (b_in T) (pa_cons (pe_ix ix_tup (pv 0) pe_int (fun _ _ => rfl)) (pa_cons pe_int (pa_cons (pe_glob (v := .int 4) (by rfl) mg2 ⟨_, rfl⟩) pa_nil))))
        (pe_one (pe_fn GT hr T.g_is_tree T.f_is_tree (b_tree T) (pa_cons (pe_ix ix_tup (pv 0) pe_int (fun _ _ => rfl)) (pa_cons (pe_ix ix_tup (pv 0) pe_int (fun _ _ => rfl)) (pa_cons (pe_glob (v := .int 30) (by rfl) mg3 ⟨_, rfl⟩) pa_nil)))))))), ?_⟩
    rintro as r vs (⟨d, rfl, rfl⟩ | ⟨ra, rfl, rfl⟩) ⟨x, _, rfl, hx, rfl⟩ at0
    rotate_left
    · have s0 : Sl (start ["value"] [x]) 0 (.np ra) H := ⟨x, rfl, hx⟩
      exact evS_if (k := !false || false) (evT_or (k := !false) (l := false) (evT_not (evT_val (ev_isiN (ev_var s0 (fun _ z => by cases z))))) fun z => by cases z) (fun _ => evS_ret ev_c) fun z => by cases z
    have s0 : Sl (start ["value"] [x]) 0 (.dat d) H := ⟨x, rfl, hx⟩
    have key : ∀ b : Bool, ((isTup d = true → (fromD d 0).length = 3 → wordD (itemD d 0) 1 8 = true → False) → b = false) → True := fun _ _ => trivial
    have len : isTup d = true → ∃ ds, d = .tuple ds := tup_of
    let c1 : Bool := !isTup d
    let c2 : Bool := !decide ((fromD d 0).length = 3)
    let c3 : Bool := !wordD (itemD d 0) 1 8
    refine evS_if (k := c1 || (c2 || c3)) (evT_or (evT_not (evT_val (ev_isi (ev_var s0) (kit_tup d)))) fun h1 => evT_or (evT_test ?_) fun h2 => evT_not (evT_val ?_)) (fun h => ?_) fun h => ?_
    · obtain ⟨ds, rfl⟩ := len (nf h1)
      refine (ev_ne (ev_len (ev_var s0) rfl) ev_c rfl).bl ?_
      show (!decide (V.int ((ds.length : Nat) : Int) = V.int 3)) = (!decide (ds.length = 3))
      congr 1
      rw [decide_eq_decide]
      constructor
      · intro z
        have := V.int.inj z
        omega
      · intro z
        rw [z]
        rfl
    · obtain ⟨ds, rfl⟩ := len (nf h1)
      have l : ds.length = 3 := of_decide_eq_true (nf h2)
      exact ev_word (ev_item 0 (ev_var s0) (by omega)) at0
    · have e : funcD d = false := by
        unfold funcD
        split
        · rename_i a b t
          have h : (false || (false || !wordD a 1 8)) = true := h
          cases q : wordD a 1 8 with
          | false => rfl
          | true => rw [q] at h; cases h
        · rfl
      rw [e]
      exact evS_ret ev_c
    · have h1 : c1 = false := by
        cases q : c1 with
        | false => rfl
        | true => rw [q] at h; cases h
      rw [h1] at h
      have h2 : c2 = false := by
        cases q : c2 with
        | false => rfl
        | true => rw [q] at h; cases h
      rw [h2] at h
      obtain ⟨ds, rfl⟩ := len (nf h1)
      have l : ds.length = 3 := of_decide_eq_true (nf h2)
      obtain ⟨a, b, t, rfl⟩ : ∃ a b t, ds = [a, b, t] := match ds, l with
        | [a, b, t], _ => ⟨a, b, t, rfl⟩
      have e : funcD (.tuple [a, b, t]) = (inD b 0 4 && treeD 30 t (intOf b)) := by
        show (wordD a 1 8 && _) = _
        have h3 : (false || (false || !wordD a 1 8)) = false := h
        have : wordD a 1 8 = true := nf h3
        rw [this]
        rfl
      rw [e]
      refine evS_ret (ev_and (ev_in (ev_item 1 (ev_var s0) (by show 1 < 3; omega)) at0) fun q => ?_)
      obtain ⟨i, rfl, _⟩ := in_int q
      exact ev_call (evA_cons (ev_item 2 (ev_var s0) (by show 2 < 3; omega)) (evA_cons (ev_item 1 (ev_var s0) (by show 1 < 3; omega)).int (evA_one ev_c))) ⟨t, i, 30, rfl, by decide, rfl⟩ at0
end
end KX

set_option maxHeartbeats 4000000
namespace KX
open PySem PySem.Spec PyProof.Rows L2
/-! ### the plain mathematics of trees -/
theorem wf_leaf {n : Nat} {k : Str} {r : List PyData} (h : k ∈ leafTags) (h2 : k ≠ "go") : wfD (n + 1) (.tuple (.str k :: r)) = true := by
  have e : partsD (.tuple (.str k :: r)) = [] := by
    show (if k ∈ leafTags then _ else _) = _
    rw [if_pos h]
  have s : shapeD (.tuple (.str k :: r)) = true := by
    show (true && (!decide (k = "go") || _)) = true
    rw [decide_eq_false h2]
    rfl
  show (shapeD _ && (decide ((partsD _).length ≤ 4) && (partsD _).all _)) = true
  rw [e, s]
  rfl
theorem wf_mid {n : Nat} {k : Str} {r : List PyData} (h : ¬ k ∈ leafTags) (h2 : k ≠ "go") (l : r.length ≤ 4) (a : ∀ x ∈ r, wfD n x = true) : wfD (n + 1) (.tuple (.str k :: r)) = true := by
  have e : partsD (.tuple (.str k :: r)) = r := by
    show (if k ∈ leafTags then _ else if k = "go" then _ else r) = _
    rw [if_neg h, if_neg h2]
  have s : shapeD (.tuple (.str k :: r)) = true := by
    show (true && (!decide (k = "go") || _)) = true
    rw [decide_eq_false h2]
    rfl
  show (shapeD _ && (decide ((partsD _).length ≤ 4) && (partsD _).all _)) = true
  rw [e, s, decide_eq_true l, List.all_eq_true.mpr a]
  rfl
theorem wf_go {n : Nat} {a b : PyData} {es : List PyData} (l : es.length ≤ 4) (h : ∀ x ∈ es, wfD n x = true) : wfD (n + 1) (.tuple [.str "go", a, b, .tuple es]) = true := by
  have e : partsD (.tuple [.str "go", a, b, .tuple es]) = es := rfl
  have s : shapeD (.tuple [.str "go", a, b, .tuple es]) = true := rfl
  show (shapeD _ && (decide ((partsD _).length ≤ 4) && (partsD _).all _)) = true
  rw [e, s, decide_eq_true l, List.all_eq_true.mpr h]
  rfl
theorem kinds {d : PyData} {k : Str} {n : Nat} (h : kindD d k (n : Int) = true) : ∃ r : List PyData, d = .tuple (.str k :: r) ∧ r.length + 1 = n := kind_shape h
theorem nt {b : Bool} (h : ¬ (!b) = true) : b = true := by
  cases b with
  | true => rfl
  | false => exact (h rfl).elim
theorem expr_wf : ∀ {n : Nat} {d : PyData} {l : Int}, exprD n d l = true → wfD n d = true
  | 0, _, _, h => by cases h
  | n + 1, d, l, h => by
    unfold exprD at h
    split at h
    · rename_i h1
      obtain ⟨r, rfl, _⟩ := kinds (n := 2) h1
      exact wf_leaf (by decide +kernel) (by decide +kernel)
    split at h
    · rename_i h1
      obtain ⟨r, rfl, _⟩ := kinds (n := 2) h1
      exact wf_leaf (by decide +kernel) (by decide +kernel)
    split at h
    · cases h
    · rename_i h1
      have h2 := nt h1
      rw [List.any_eq_true] at h2
      obtain ⟨k, hk, h3⟩ := h2
      obtain ⟨r, rfl, hl⟩ := kinds (n := 3) h3
      have a : ∀ x ∈ r, wfD n x = true := fun x hx => expr_wf (List.all_eq_true.mp h x hx)
      have kk : ¬ k ∈ leafTags ∧ k ≠ "go" := by
        simp only [List.mem_cons, List.not_mem_nil, or_false] at hk
        rcases hk with rfl | rfl | rfl <;> exact ⟨by decide +kernel, by decide +kernel⟩
      exact wf_mid kk.1 kk.2 (by omega) a
theorem test_wf {n : Nat} {d : PyData} {l : Int} (h : testD n d l = true) : wfD n d = true := by
  cases n with
  | zero => cases h
  | succ n =>
    have h : (if kindD d "empty" 1 then true else if kindD d "head" 2 then wordD (itemD d 1) 1 1 else kindD d "less" 3 && (fromD d 1).all fun e => exprD n e l) = true := h
    split at h
    · rename_i h1
      obtain ⟨r, rfl, _⟩ := kinds (n := 1) h1
      exact wf_leaf (by decide +kernel) (by decide +kernel)
    split at h
    · rename_i h1
      obtain ⟨r, rfl, _⟩ := kinds (n := 2) h1
      exact wf_leaf (by decide +kernel) (by decide +kernel)
    · rw [Bool.and_eq_true] at h
      obtain ⟨r, rfl, hl⟩ := kinds (n := 3) h.1
      exact wf_mid (by decide +kernel) (by decide +kernel) (by omega) fun x hx => expr_wf (List.all_eq_true.mp h.2 x hx)
/-- the three shapes of a tree -/
theorem tree_cases {n : Nat} {d : PyData} {l : Int} (h : treeD (n + 1) d l = true) :
    (∃ e, d = .tuple [.str "end", e] ∧ exprD n e l = true) ∨ (∃ t a b, d = .tuple [.str "if", t, a, b] ∧ testD n t l = true ∧ treeD n a l = true ∧ treeD n b l = true) ∨
    ∃ s m es, d = .tuple [.str "go", .str s, m, .tuple es] ∧ wordD (.str s) 1 8 = true ∧ moveD m = true ∧ es.length ≤ 4 ∧ ∀ x ∈ es, exprD n x l = true := by
  unfold treeD at h
  split at h
  · rename_i h1
    obtain ⟨r, rfl, hl⟩ := kinds (n := 2) h1
    match r, hl with
    | [e], _ => exact .inl ⟨e, rfl, h⟩
  split at h
  · rename_i h1
    obtain ⟨r, rfl, hl⟩ := kinds (n := 4) h1
    match r, hl with
    | [t, a, b], _ =>
      have h : (testD n t l && (treeD n a l && (treeD n b l && true))) = true := h
      simp only [Bool.and_eq_true] at h
      exact .inr (.inl ⟨t, a, b, rfl, h.1, h.2.1, h.2.2.1⟩)
  split at h
  · cases h
  rename_i h1
  split at h
  · cases h
  rename_i h2
  simp only [Bool.or_eq_true, not_or, Bool.not_eq_true, decide_eq_false_iff_not] at h1 h2
  obtain ⟨h3, h4, h5⟩ := h1
  obtain ⟨h6, h7⟩ := h2
  obtain ⟨r, rfl, hl⟩ := kinds (n := 4) (nf h3)
  match r, hl with
  | [s, m, t], _ =>
    obtain ⟨es, rfl⟩ := tup_of (d := t) (nf h6)
    have w : wordD s 1 8 = true := nf h4
    cases s with
    | str s =>
      have h7 : ¬ (4 : Int) < (es.length : Int) := h7
      exact .inr (.inr ⟨s, m, es, rfl, w, nf h5, by omega, fun x hx => List.all_eq_true.mp h x hx⟩)
    | _ => cases w
theorem tree_wf : ∀ {n : Nat} {d : PyData} {l : Int}, treeD n d l = true → wfD n d = true
  | 0, _, _, h => by cases h
  | n + 1, d, l, h => by
    rcases tree_cases h with ⟨e, rfl, h1⟩ | ⟨t, a, b, rfl, h1, h2, h3⟩ | ⟨s, m, es, rfl, _, _, h1, h2⟩
    · exact wf_mid (by decide +kernel) (by decide +kernel) (by show 1 ≤ 4; decide) fun x hx => by
        rw [List.mem_singleton.mp hx]
        exact expr_wf h1
    · refine wf_mid (by decide +kernel) (by decide +kernel) (by show 3 ≤ 4; decide) fun x hx => ?_
      simp only [List.mem_cons, List.not_mem_nil, or_false] at hx
      rcases hx with rfl | rfl | rfl
      · exact test_wf h1
      · exact tree_wf h2
      · exact tree_wf h3
    · exact wf_go h1 fun x hx => expr_wf (h2 x hx)
theorem tree_lf : ∀ {n : Nat} {d : PyData} {l : Int}, treeD n d l = true → lfD n d = true
  | 0, _, _, h => by cases h
  | n + 1, d, l, h => by
    rcases tree_cases h with ⟨e, rfl, h1⟩ | ⟨t, a, b, rfl, h1, h2, h3⟩ | ⟨s, m, es, rfl, _, _, h1, h2⟩
    · rfl
    · have e : lfD (n + 1) (.tuple [.str "if", t, a, b]) = (lfD n a && lfD n b) := rfl
      rw [e, tree_lf h2, tree_lf h3]
      rfl
    · rfl
theorem nodes_nn : ∀ (n : Nat) (d : PyData), 0 ≤ nodesD n d
  | 0, _ => Int.le_refl _
  | n + 1, d => by
    have key : ∀ l : List PyData, 0 ≤ (l.map fun e => nodesD n e).sum := by
      intro l
      induction l with
      | nil => exact Int.le_refl _
      | cons x r ih =>
        rw [List.map_cons, List.sum_cons]
        have := nodes_nn n x
        omega
    have := key (partsD d)
    unfold nodesD
    omega
/-- a leaf of a tree -/
def IsLeaf (d : PyData) : Prop := ∃ s m es, d = .tuple [.str "go", .str s, m, .tuple es] ∧ es.length ≤ 4
theorem leaves_if (n : Nat) (t a b : PyData) : leavesD (n + 1) (.tuple [.str "if", t, a, b]) = leavesD n a ++ leavesD n b := rfl
theorem leaves_go (n : Nat) (s m e : PyData) : leavesD (n + 1) (.tuple [.str "go", s, m, e]) = [.tuple [.str "go", s, m, e]] := rfl
theorem leaves_end (n : Nat) (e : PyData) : leavesD (n + 1) (.tuple [.str "end", e]) = [] := rfl
theorem tree_leaves : ∀ {n : Nat} {d : PyData} {l : Int}, treeD n d l = true → (∀ x ∈ leavesD n d, IsLeaf x) ∧ ((leavesD n d).length : Int) ≤ nodesD n d
  | 0, _, _, h => by cases h
  | n + 1, d, l, h => by
    rcases tree_cases h with ⟨e, rfl, h1⟩ | ⟨t, a, b, rfl, h1, h2, h3⟩ | ⟨s, m, es, rfl, _, _, h1, h2⟩
    · rw [leaves_end]
      exact ⟨fun x hx => (List.not_mem_nil hx).elim, nodes_nn _ _⟩
    · rw [leaves_if]
      obtain ⟨p1, p2⟩ := tree_leaves h2
      obtain ⟨q1, q2⟩ := tree_leaves h3
      refine ⟨fun x hx => (List.mem_append.mp hx).elim (p1 x) (q1 x), ?_⟩
      have e : nodesD (n + 1) (.tuple [.str "if", t, a, b]) = 1 + (nodesD n t + (nodesD n a + (nodesD n b + 0))) := rfl
      have := nodes_nn n t
      rw [e, List.length_append]
      push_cast
      omega
    · rw [leaves_go]
      refine ⟨fun x hx => ?_, ?_⟩
      · rw [List.mem_singleton.mp hx]
        exact ⟨s, m, es, rfl, h1⟩
      · have e : nodesD (n + 1) (.tuple [.str "go", .str s, m, .tuple es]) = 1 + (es.map fun e => nodesD n e).sum := rfl
        have key : ∀ l : List PyData, 0 ≤ (l.map fun e => nodesD n e).sum := by
          intro l
          induction l with
          | nil => exact Int.le_refl _
          | cons x r ih =>
            rw [List.map_cons, List.sum_cons]
            have := nodes_nn n x
            omega
        have := key es
        rw [e]
        show (1 : Int) ≤ _
        omega
theorem sum_each (F : PyData → Int) (hF : ∀ d, 0 ≤ F d) : ∀ (l : List PyData), 0 ≤ (l.map F).sum ∧ ∀ x ∈ l, F x ≤ (l.map F).sum
  | [] => ⟨Int.le_refl _, fun x h => (List.not_mem_nil h).elim⟩
  | y :: r => by
    obtain ⟨h1, h2⟩ := sum_each F hF r
    have := hF y
    rw [List.map_cons, List.sum_cons]
    refine ⟨by omega, fun x hx => ?_⟩
    rcases List.mem_cons.mp hx with rfl | hx
    · omega
    · have := h2 x hx
      omega
/-! ### dicts -/
theorem get_rep (k j : Str) (d : PyData) : ∀ es : List (Str × PyData), getS (repS es k d) j = if j = k then (getS es j).map fun _ => d else getS es j
  | [] => by
    show none = _
    split <;> rfl
  | (i, e) :: r => by
    have ih := get_rep k j d r
    unfold repS getS
    by_cases h1 : i = k
    · rw [if_pos h1]
      show (if i = j then _ else _) = _
      by_cases h2 : i = j
      · rw [if_pos h2, if_pos (by rw [← h2, h1]), if_pos h2]
        rfl
      · rw [if_neg h2, ih, if_neg (fun z => h2 (by rw [h1, z])), if_neg h2, if_neg (fun z => h2 (by rw [h1, z]))]
    · rw [if_neg h1]
      show (if i = j then _ else _) = _
      by_cases h2 : i = j
      · rw [if_pos h2, if_neg (fun z => h1 (by rw [h2, z])), if_pos h2]
      · rw [if_neg h2, ih, if_neg h2]
theorem get_snoc (k j : Str) (d : PyData) : ∀ es : List (Str × PyData), getS es k = none → getS (es ++ [(k, d)]) j = if j = k then some d else getS es j
  | [], _ => by
    show (if k = j then some d else none) = _
    by_cases h : k = j
    · rw [if_pos h, if_pos h.symm]
    · rw [if_neg h, if_neg (fun z => h z.symm)]
      rfl
  | (i, e) :: r, hn => by
    unfold getS at hn
    split at hn
    · cases hn
    rename_i h0
    have ih := get_snoc k j d r hn
    show (if i = j then some e else getS (r ++ [(k, d)]) j) = _
    rw [ih]
    by_cases h2 : i = j
    · rw [if_pos h2, if_neg (fun z => h0 (by rw [h2, z]))]
      unfold getS
      rw [if_pos h2]
    · rw [if_neg h2]
      have e3 : getS ((i, e) :: r) j = getS r j := by
        show (if i = j then _ else _) = _
        rw [if_neg h2]
      rw [e3]
theorem get_put (es : List (Str × PyData)) (k j : Str) (d : PyData) : getS (putS es k d) j = if j = k then some d else getS es j := by
  unfold putS
  split
  · rename_i h
    rw [get_rep]
    by_cases q : j = k
    · rw [if_pos q, if_pos q]
      rw [q]
      cases z : getS es k with
      | none => rw [z] at h; cases h
      | some e => rfl
    · rw [if_neg q, if_neg q]
  · rename_i h
    refine get_snoc k j d es ?_
    cases z : getS es k with
    | none => rfl
    | some e => rw [z] at h; exact (h rfl).elim
theorem get_fold (kf : Nat → Str) (df : Nat → PyData) (k : Str) (d : PyData) : ∀ n, getS (foldK kf df n) k = some d → ∃ j, j < n ∧ kf j = k ∧ df j = d
  | 0, h => by cases h
  | n + 1, h => by
    have h : getS (putS (foldK kf df n) (kf n) (df n)) k = some d := h
    rw [get_put] at h
    split at h
    · rename_i q
      exact ⟨n, by omega, q.symm, Option.some.inj h⟩
    · obtain ⟨j, h1, h2⟩ := get_fold kf df k d n h
      exact ⟨j, by omega, h2⟩
end KX

set_option maxHeartbeats 4000000
namespace KX
open PySem PySem.Spec PyProof.Rows L2
/-! ### is_program -/
def strOf : PyData → Str
  | .str s => s
  | _ => ""
def kAt (ds : List PyData) (j : Nat) : Str := (ds[j]?).elim "" fun d => strOf (itemD d 0)
def vAt (ds : List PyData) (j : Nat) : PyData := (ds[j]?).elim .none fun d => itemD d 1
def szD (ds : List PyData) : List (Str × PyData) := foldK (kAt ds) (vAt ds) ds.length
def leafOk (S : List (Str × PyData)) (leaf : PyData) : Bool := decide (intOf ((getS S (strOf (itemD leaf 1))).getD (.int (-1))) = ((fromD (itemD leaf 3) 0).length : Int))
def sumD (ds : List PyData) : Int := (ds.map fun d => nodesD 30 (itemD d 2)).sum
def goodD (S : List (Str × PyData)) (d : PyData) : Bool := (leavesD 30 (itemD d 2)).all (leafOk S)
def progL (ds : List PyData) : Bool :=
  if !(decide ((1 : Int) ≤ ds.length) && decide ((ds.length : Int) ≤ 8)) then false
  else if !ds.all funcD then false
  else if !decide ((szD ds).length = ds.length) || decide (400 < sumD ds) then false
  else ds.all (goodD (szD ds))
def progD (d : PyData) : Bool := match d with
  | .tuple ds => progL ds
  | _ => false
def preProg (as : List AV) (r : AV) : Prop := (∃ d, as = [.dat d] ∧ r = .val (.bl (progD d))) ∨ (∃ ra, as = [.np ra] ∧ r = .val (.bl false)) ∨ ∃ ra, as = [.tp ra] ∧ r = .val (.bl false)
section
variable {P : Program} {w : World} {K : PySem.W.Frag} {mg : Str → Option Value} {base : Heap}
/-- within a block the written part is the def's own -/
theorem ix_tupK {X : Cx} {K : PySem.W.Frag} (h : X.K = K) : IxR X (rIxT K) := h ▸ ix_tup
theorem pe_lenK {X : Cx} {K : PySem.W.Frag} (h : X.K = K) {e : Expr} {te : TE} {p pos : Pos} (hm : X.mg "len" = none) (he : PE X e te) (hg : Gl X "len" := by rfl) (h1 : starEach [e] X.env = (false, eval e X.env) :: starEach [] X.env := by rfl) (h2 : (backTo pos (starEach [] X.env)).any (·.1) = false := by rfl) :
    PE X (.Call (.Name "len" p) [e] [] pos) (tCB (rLenK K) (tCons te tNil)) := h ▸ pe_len hm he hg h1 h2
theorem room_u1 {k : Nat} {A : Around} (r : Room k A) : A.units + 1 < cLine := by have := r.un; omega
theorem ev_neg {c : Ct} {σ : L2.St} {H0 : Hp} {te : TE} {i : Int} (h : Ev c te σ H0 (.val (.int i))) : Ev c (tUn (rU fun i => .int (-i)) te) σ H0 (.val (.int (-i))) := fun H r Q q => h H r _ fun x H1 r1 e => ⟨i, e, q _ H1 r1 rfl⟩
theorem int_ne {a b : Nat} : (!decide (V.int (a : Int) = V.int (b : Int))) = !decide (a = b) := by
  congr 1
  rw [decide_eq_decide]
  constructor
  · intro z
    have := V.int.inj z
    omega
  · intro z
    rw [z]
theorem b_prog (T : Tx K mg base) : Binds K (fdOf K "is_program") ["value"] [] := T.f_is_program.binds fun _ _ _ _ _ _ us hl => match us, hl with | [_], _ => rfl
abbrev NPr : List Str := ["value", "name", "lates", "tree", "sizes", "one", "leaf"]
theorem sc_prog : FnScope NPr ["value"] (defScope (top 25)) := ⟨rfl, rfl, rfl, by decide +kernel, rfl, by decide +kernel, by decide +kernel⟩
theorem ok_prog (T : Tx K mg base) : FnOk P w K mg base CX0 69 (fA K "is_program") (fdOf K "is_program") ["value"] (spOf (pureC K) preProg) := by
  obtain ⟨t1, mg1⟩ := T.i_MOST_FUNCTIONS
  obtain ⟨t2, mg2⟩ := T.i_MOST_NODES
  have GF := ok_func (P := P) (w := w) T
  have GN := ok_nodes (P := P) (w := w) T 30
  have GL := ok_leaves (P := P) (w := w) T 30
  refine T.f_is_program.ok (N := NPr) (k := 68) sc_prog (fun as r h => ?_) fun A outer s H E hr => ?_
  · rcases h with ⟨d, rfl, _⟩ | ⟨ra, rfl, _⟩ | ⟨ra, rfl, _⟩ <;> rfl
  · have hrj : ∀ j, j ≤ 68 → Room j (A.deeper (envOfC "is_program" (defScope (top 25)) s.heap.objs.size (fA K "is_program") (.ref (cdOf K "is_program")))) := fun j h => hr.mono h
    refine ⟨_, pss_cons (ps_if (PW.pt (pw_or (pt_not (pt_val (pe_isi T.z_isinstance T.z_tuple boot_tuple (pv 0)))) (pw_or1 (pt_not (pt_chain op_le op_le pe_int (pe_len T.z_len (pv 0)) (pe_glob (v := .int 8) (by rfl) mg1 ⟨_, rfl⟩)))))) (pss_one (ps_ret pe_bl)) pss_nil)
      (pss_cons (ps_if (pt_not (pt_val (pe_genAll (k := 67) (own := [("one", 5)]) (g := gName 5) hr (by rfl) T.z_all boot_all2 ⟨T.t_is_program, rfl, rfl, sc_prog.nd, blkOk_by (own := [("one", 5)]) (N := NPr) (sc := defScope (top 25)) (by decide +kernel), rfl, by decide +kernel, by decide +kernel⟩
          (pi_tup (pv 0)) (fun _ _ _ _ _ _ => pg_name (i := 5) sc_prog.nd rfl (Or.inl rfl) (Or.inr rfl)) (fun _ _ _ _ _ _ hr3 => pe_fn GF hr3 T.g_is_function T.f_is_function (b_func T) (pa_cons (pv 5) pa_nil))))) (pss_one (ps_ret pe_bl)) pss_nil)
      (pss_cons (ps_set (i := 4) sc_prog.nd rfl (Or.inr rfl) (pe_dc (own := [("name", 1), ("lates", 2), ("tree", 3)]) (g := gTup K 3 (gCons (gName 1) (gCons (gName 2) (gCons (gName 3) gNil)))) rfl sc_prog.nd (pi_tup (pv 0)) (blkOk_by (own := [("name", 1), ("lates", 2), ("tree", 3)]) (N := NPr) (sc := defScope (top 25)) (by decide +kernel))
          (fun _ _ _ _ _ => pg_tup rfl (pgs_cons (pg_name (i := 1) sc_prog.nd rfl (Or.inl rfl) (Or.inr rfl)) (pgs_cons (pg_name (i := 2) sc_prog.nd rfl (Or.inl rfl) (Or.inr rfl)) (pgs_cons (pg_name (i := 3) sc_prog.nd rfl (Or.inl rfl) (Or.inr rfl)) pgs_nil)))) (fun _ _ _ _ _ => pts_nil) (fun _ _ _ _ _ => pv 1) (fun _ _ _ _ _ => pv 2)))
      (pss_cons (ps_if (PW.pt (pw_or (pt_cmpR op_ne (pe_lenD T.z_len (pv 4)) (pe_len T.z_len (pv 0)) (nomark _)) (pw_or1 (pt_cmpR op_gt (pe_genSum (k := 67) (own := [("name", 1), ("lates", 2), ("tree", 3)]) (g := gTup K 3 (gCons (gName 1) (gCons (gName 2) (gCons (gName 3) gNil)))) hr (by rfl) T.z_sum boot_sum2 ⟨T.t_is_program, rfl, rfl, sc_prog.nd, blkOk_by (own := [("name", 1), ("lates", 2), ("tree", 3)]) (N := NPr) (sc := defScope (top 25)) (by decide +kernel), rfl, by decide +kernel, by decide +kernel⟩
          (pi_tup (pv 0)) (fun _ _ _ _ _ _ => pg_tup rfl (pgs_cons (pg_name (i := 1) sc_prog.nd rfl (Or.inl rfl) (Or.inr rfl)) (pgs_cons (pg_name (i := 2) sc_prog.nd rfl (Or.inl rfl) (Or.inr rfl)) (pgs_cons (pg_name (i := 3) sc_prog.nd rfl (Or.inl rfl) (Or.inr rfl)) pgs_nil)))) (fun _ _ _ _ _ _ hr3 => pe_fn GN (hr3.mono (by omega)) T.g_nodes_of T.f_nodes_of (b_nodes T) (pa_cons (pv 3) pa_nil)))
          (pe_glob (v := .int 400) (by rfl) mg2 ⟨_, rfl⟩) (nomark _))))) (pss_one (ps_ret pe_bl)) pss_nil)
      (pss_cons (ps_for PassesOwn.never rfl (pi_tup (pv 0)) (pg_tup rfl (pgs_cons (pg_name (i := 1) sc_prog.nd rfl (Or.inl rfl) (Or.inr rfl)) (pgs_cons (pg_name (i := 2) sc_prog.nd rfl (Or.inl rfl) (Or.inr rfl)) (pgs_cons (pg_name (i := 3) sc_prog.nd rfl (Or.inl rfl) (Or.inr rfl)) pgs_nil))))
          (pss_one (ps_if (pt_not (pt_val (pe_genAll (k := 67) (own := [("leaf", 6)]) (g := gName 6) hr (by rfl) T.z_all boot_all2 ⟨T.t_is_program, rfl, rfl, sc_prog.nd, blkOk_by (own := [("leaf", 6)]) (N := NPr) (sc := defScope (top 25)) (by decide +kernel), rfl, by decide +kernel, by decide +kernel⟩
            (pi_list (pe_fn GL (hrj 31 (by omega)) T.g_leaves_of T.f_leaves_of (b_leaves T) (pa_cons (pv 3) pa_nil))) (fun _ _ _ _ _ _ => pg_name (i := 6) sc_prog.nd rfl (Or.inl rfl) (Or.inr rfl))
            (fun _ _ _ _ _ _ hr3 => pe_cmpR op_eq (pe_dget2 (room_u1 hr3) (pv 4) (pe_ix (ix_tupK (K := K) rfl) (pv 6) pe_int (fun _ _ => rfl)) (pe_un un_neg pe_int) ⟨rfl, by rfl, by rfl, rfl⟩) (pe_lenK (K := K) rfl T.z_len (pe_ix (ix_tupK (K := K) rfl) (pv 6) pe_int (fun _ _ => rfl))) (by rfl))))) (pss_one (ps_ret pe_bl)) pss_nil)))
      (pss_one (ps_ret pe_bl)))))), ?_⟩
    rintro as r vs hpre hav at0
    rcases hpre with ⟨d, rfl, rfl⟩ | ⟨ra, rfl, rfl⟩ | ⟨ra, rfl, rfl⟩
    rotate_left
    rotate_left
    · obtain ⟨x, _, rfl, hx, rfl⟩ := hav
      have okT : (AV.tp ra).ok (pureC K).row := fun _ z => by cases z
      have okN : (AV.np ra).ok (pureC K).row := fun _ z => by cases z
      have s0 : Sl (start NPr [x]) 0 (.tp ra) H := ⟨x, rfl, hx⟩
      have isi : Ev (pureC K) (tCB (rIsi K) (tCons (tVar 0) (tCons (tC (.ty "tuple")) tNil))) (start NPr [x]) H (.val (.bl true)) := fun H' r' Q q =>
        (ev_var s0 okT) H' r' _ fun x H1 r1 ⟨a, b, xs, e, h1, _⟩ => ⟨x, _, _, _, true, rfl, .ty "tuple", by rw [e]; exact .base (.tup h1), kit_ty (by decide +kernel : kitB "tuple" "tuple" = some true), q _ H1 r1 rfl⟩
      have len : Ev (pureC K) (tCB (rLenK K) (tCons (tVar 0) tNil)) (start NPr [x]) H (.val (.int (1 : Nat))) := fun H' r' Q q =>
        (ev_var s0 okT) H' r' _ fun x H1 r1 ⟨a, b, xs, e, h1, _⟩ => ⟨x, 1, rfl, by rw [e]; exact .inr ⟨_, SqT.of h1, rfl⟩, q _ H1 r1 rfl⟩
      refine evS_if (k := !true || !(decide ((1 : Int) ≤ (1 : Nat)) && decide (((1 : Nat) : Int) ≤ 8))) (evT_or (evT_not (evT_val isi)) fun _ => evT_not (evT_test (ev_chain ev_c len ev_c))) (fun z => by cases z) fun _ => ?_
      have it : EvI (pureC K) (iTup K (tVar 0)) (start NPr [x]) H 1 (fun _ x H => (AV.np ra).is x H) := fun H' r' R q =>
        (ev_var s0 okT) H' r' _ fun x H1 r1 ⟨a, b, xs, e, h1, n, h2⟩ => by
          subst e
          refine ⟨a, rfl, ⟨_, SqT.of h1⟩, q _ H1 r1 ⟨fun H j g lt => ?_, fun H g => ⟨_, SqT.of (g.tup h1), Nat.le_refl _⟩, fun H j y H' g lt hy => ?_⟩⟩
          · have : j = 0 := by omega
            subst this
            exact ⟨_, _, SqT.of (g.tup h1), rfl⟩
          · have : j = 0 := by omega
            subst this
            obtain ⟨e2, hy⟩ := hy
            have := hy _ (SqT.of (g.tup h1))
            cases this
            exact ⟨e2, AV.keep (c := pureC K) okN g ⟨b, rfl, n, .inl ⟨xs, h2⟩⟩⟩
      have g1 := ev_genAll (P := tbOf K "is_program") (vs := [5]) (g := gName 5) (te := tCall (spOf (pureC K) preFunc) [] E (tCons (tVar 5) tNil)) it (by simp [tabs]) at0 (fun _ => false) fun j y H1 lt rr hy => ⟨_, bind_name, ev_call (evA_one (ev_var (a := .np ra) ⟨y, rfl, hy⟩ okN)) (.inr ⟨ra, rfl, rfl⟩) (at0.up rr)⟩
      exact evS_if (k := !false) (evT_not (evT_val g1)) (fun _ => evS_ret ev_c) fun z => by cases z
    rotate_left
    · obtain ⟨x, _, rfl, hx, rfl⟩ := hav
      have s0 : Sl (start NPr [x]) 0 (.np ra) H := ⟨x, rfl, hx⟩
      exact evS_if (k := !false || false) (evT_or (k := !false) (l := false) (evT_not (evT_val (ev_isiN (ev_var s0 (fun _ z => by cases z))))) fun z => by cases z) (fun _ => evS_ret ev_c) fun z => by cases z
    obtain ⟨x, _, rfl, hx, rfl⟩ := hav
    have s0 : Sl (start NPr [x]) 0 (.dat d) H := ⟨x, rfl, hx⟩
    cases hT : isTup d with
    | false =>
      have e : progD d = false := by cases d <;> first | rfl | cases hT
      rw [e]
      exact evS_if (k := !false || false) (evT_or (k := !false) (l := false) (evT_not (evT_val ((ev_isi (ev_var s0) (kit_tup d)).bl hT))) fun z => by cases z) (fun _ => evS_ret ev_c) fun z => by cases z
    | true =>
    obtain ⟨ds, rfl⟩ := tup_of hT
    have l0 : Ev (pureC K) (tCB (rLenK K) (tCons (tVar 0) tNil)) (start NPr [x]) H (.val (.int ds.length)) := ev_len (ev_var s0) rfl
    show EvS _ _ _ _ (.val (.bl (progL ds)))
    unfold progL
    refine evS_if (evT_or (evT_not (evT_val (ev_isi (ev_var s0) (kit_tup _)))) fun _ => evT_not (evT_test (ev_chain ev_c l0 ev_c))) (fun h => ?_) fun h => ?_
    · have h : (!(decide ((1 : Int) ≤ ds.length) && decide ((ds.length : Int) ≤ 8))) = true := h
      rw [if_pos h]
      exact evS_ret ev_c
    have h : (!(decide ((1 : Int) ≤ ds.length) && decide ((ds.length : Int) ≤ 8))) = false := h
    rw [if_neg (by rw [h]; exact Bool.false_ne_true)]
    have hlen := nf h
    rw [Bool.and_eq_true, decide_eq_true_eq, decide_eq_true_eq] at hlen
    have g1 := ev_genAll (P := tbOf K "is_program") (vs := [5]) (g := gName 5) (te := tCall (spOf (pureC K) preFunc) [] E (tCons (tVar 5) tNil)) (evI_tup (ev_var s0)) (by simp [tabs]) at0 (fun j => (ds[j]?).any funcD) fun j y H1 lt rr ⟨e, he, hy⟩ => ⟨_, bind_name, ev_call (evA_one (ev_var (a := .dat e) ⟨y, rfl, e, rfl, hy⟩)) (.inl ⟨e, rfl, by rw [he]; rfl⟩) (at0.up rr)⟩
    rw [range_all ds _ funcD fun j x e => by rw [e]; rfl] at g1
    refine evS_if (evT_not (evT_val g1)) (fun h => ?_) fun h => ?_
    · rw [if_pos h]
      exact evS_ret ev_c
    rw [if_neg (by rw [h]; exact Bool.false_ne_true)]
    have hF := List.all_eq_true.mp (nf h)
    have fAt : ∀ {j : Nat} {e : PyData}, ds[j]? = some e → ∃ s b t, e = .tuple [.str s, .int b, t] ∧ kAt ds j = s ∧ vAt ds j = .int b ∧ treeD 30 t b = true := fun {j e} he => by
      obtain ⟨s, b, t, rfl, _, _, _, ht⟩ := func_of (hF e (List.mem_of_getElem? he))
      refine ⟨s, b, t, rfl, ?_, ?_, ht⟩
      · unfold kAt
        rw [he]
        rfl
      · unfold vAt
        rw [he]
        rfl
    refine evS_set (i := 4) (b := .dct (szD ds)) (ev_dc (evI_tup (ev_var s0)) at0 (by omega) (kAt ds) (vAt ds) fun j y H1 lt rr ⟨e, he, hy⟩ => ?_) fun xs H1 r1 hxs => ?_
    · obtain ⟨s, b, t, rfl, k1, k2, _⟩ := fAt he
      obtain ⟨v1, v2, v3, a1, a2, a3, hB⟩ := bind_tup3 (c := pureC K) (σ := start NPr [x]) (vs := [1, 2, 3]) (i1 := 1) (i2 := 2) (i3 := 3) hy fun _ _ _ => rfl
      exact ⟨_, hB, by rw [k1]; exact (ev_var (a := .dat (.str s)) ⟨v1, rfl, _, rfl, a1⟩).str, by rw [k2]; exact ev_var (a := .dat (.int b)) ⟨v2, rfl, _, rfl, a2⟩⟩
    have at1 := at0.up r1
    have s0 : Sl [some x, none, none, none, some xs, none, none] 0 (.dat (.tuple ds)) H1 := Sl.up (c := pureC K) trivial ⟨x, rfl, hx⟩ r1
    have s4 : Sl [some x, none, none, none, some xs, none, none] 4 (.dct (szD ds)) H1 := ⟨xs, rfl, hxs⟩
    show EvS (pureC K) _ [some x, none, none, none, some xs, none, none] H1 _
    have gS := ev_genSum (P := tbOf K "is_program") (vs := [1, 2, 3]) (te := tCall (spOf (pureC K) (preNodes 30)) [] E (tCons (tVar 3) tNil)) (evI_tup (ev_var s0)) (by simp [tabs]) at1 (fun j => (ds[j]?).elim 0 fun d => nodesD 30 (itemD d 2)) (sums_in (by omega) fun j hj => by
        rw [List.getElem?_eq_getElem hj]
        obtain ⟨s, b, t, e, _, _, ht⟩ := fAt (List.getElem?_eq_getElem hj)
        rw [e]
        exact nodes_big (by decide) (tree_wf ht)) fun j y H2 lt rr ⟨e, he, hy⟩ => by
      obtain ⟨s, b, t, rfl, _, _, ht⟩ := fAt he
      obtain ⟨v1, v2, v3, a1, a2, a3, hB⟩ := bind_tup3 (c := pureC K) (σ := [some x, none, none, none, some xs, none, none]) (vs := [1, 2, 3]) (i1 := 1) (i2 := 2) (i3 := 3) hy fun _ _ _ => rfl
      exact ⟨_, hB, ev_call (evA_one (ev_var (a := .dat t) ⟨v3, rfl, _, rfl, a3⟩)) ⟨t, rfl, tree_wf ht, by decide, by rw [he]; rfl⟩ (at1.up rr)⟩
    rw [preSum_map (fun d => nodesD 30 (itemD d 2)) ds] at gS
    refine evS_if (evT_or (k := !decide ((szD ds).length = ds.length)) (evT_test ((ev_ne (ev_lenK (ev_var s4)) (ev_len (ev_var s0) rfl) rfl).bl int_ne)) fun _ => evT_test (k := decide (400 < sumD ds)) (ev_i0 gS ev_c)) (fun h => ?_) fun h => ?_
    · rw [if_pos h]
      exact evS_ret ev_c
    rw [if_neg (by rw [h]; exact Bool.false_ne_true)]
    have small : ∀ {j : Nat} {e : PyData}, ds[j]? = some e → nodesD 30 (itemD e 2) ≤ 400 := fun {j e} he => by
      rw [Bool.or_eq_false_iff] at h
      have h2 := of_decide_eq_false h.2
      have := (sum_each (fun d => nodesD 30 (itemD d 2)) (fun d => nodes_nn 30 _) ds).2 e (List.mem_of_getElem? he)
      unfold sumD at h2
      omega
    refine evS_for (evI_tup (ev_var s0)) (fun j τ H => (∃ o1 o2 o3, τ = [some x, o1, o2, o3, some xs, none, none]) ∧ (ds.take j).all (goodD (szD ds)) = true) (fun H _ => ⟨⟨none, none, none, rfl⟩, rfl⟩) (fun j τ H2 y D lt rr hI ⟨e, he, hy⟩ hn hrt => ?_) fun τ H2 rr hI => ?_
    · obtain ⟨⟨o1, o2, o3, rfl⟩, hall⟩ := hI
      obtain ⟨s, b, t, rfl, _, _, ht⟩ := fAt he
      have at2 := at1.up rr
      obtain ⟨v1, v2, v3, a1, a2, a3, hB⟩ := gtup3 (c := pureC K) (i1 := 1) (i2 := 2) (i3 := 3) hy
      refine hB _ _ ?_
      show tIfS _ _ _ D [some x, some v1, some v2, some v3, some xs, none, none] H2
      have hlv := tree_leaves ht
      have nb := small he
      have lb : (leavesD 30 t).length ≤ 1000 := by
        have h2 := hlv.2
        have nb : nodesD 30 t ≤ 400 := nb
        omega
      have s4' : Sl [some x, some v1, some v2, some v3, some xs, none, none] 4 (.dct (szD ds)) H2 := Sl.up (c := pureC K) trivial ⟨xs, rfl, hxs⟩ rr
      have it : Ev (pureC K) (tCall (spOf (pureC K) (preLeaves 30)) [] E (tCons (tVar 3) tNil)) [some x, some v1, some v2, some v3, some xs, none, none] H2 (.lst (leavesD 30 t)) := ev_call (evA_one (ev_var (a := .dat t) ⟨v3, rfl, _, rfl, a3⟩)) ⟨t, rfl, tree_lf ht, lb, rfl⟩ at2
      have gL := ev_genAll (P := tbOf K "is_program") (vs := [6]) (g := gName 6) (te := tOp rEq (tDGet2 (tVar 4) (tOp (rIxT K) (tVar 6) (tC (.int 1))) (tUn (rU fun i => .int (-i)) (tC (.int 1)))) (tCB (rLenK K) (tCons (tOp (rIxT K) (tVar 6) (tC (.int 3))) tNil))) (evI_list it rfl) (by simp [tabs]) at2 (fun j => ((leavesD 30 t)[j]?).any (leafOk (szD ds))) fun j z H3 lt3 r3 ⟨lf, hlf, hz⟩ => ⟨_, bind_name, ?_⟩
      rotate_left
      · obtain ⟨s', m, es, rfl, hes⟩ := hlv.1 lf (List.mem_of_getElem? hlf)
        have sz : Sl ((wipe [some x, some v1, some v2, some v3, some xs, none, none] [6]).set 6 (some z)) 6 (.dat (.tuple [.str "go", .str s', m, .tuple es])) H3 := ⟨z, rfl, _, rfl, hz⟩
        have sz4 : Sl ((wipe [some x, some v1, some v2, some v3, some xs, none, none] [6]).set 6 (some z)) 4 (.dct (szD ds)) H3 := Sl.up (c := pureC K) trivial (show Sl ((wipe [some x, some v1, some v2, some v3, some xs, none, none] [6]).set 6 (some z)) 4 (.dct (szD ds)) H2 from s4') r3
        have gi : ∃ i, (getS (szD ds) s').getD (.int (-1)) = .int i := by
          cases q : getS (szD ds) s' with
          | none => exact ⟨-1, rfl⟩
          | some dd =>
            obtain ⟨j', hj', _, hv⟩ := get_fold _ _ _ _ _ q
            obtain ⟨_, b', _, _, _, hb, _⟩ := fAt (List.getElem?_eq_getElem hj')
            exact ⟨b', by rw [← hv, hb]; rfl⟩
        obtain ⟨i, hi⟩ := gi
        have dg := ev_dget2 (e0 := .int (-1)) (ev_var sz4) (ev_item (c := pureC K) (j := 1) 1 (ev_var sz) (by show 1 < 4; decide)).str (ev_neg (ev_c (v := .int 1))).dInt
        rw [hi] at dg
        have e3 : leafOk (szD ds) (.tuple [.str "go", .str s', m, .tuple es]) = decide (V.int i = V.int (es.length : Int)) := by
          show decide (intOf ((getS (szD ds) s').getD (.int (-1))) = (es.length : Int)) = _
          rw [hi, decide_eq_decide]
          exact ⟨fun z => by rw [← z]; rfl, fun z => V.int.inj z⟩
        refine (ev_eq dg.int (ev_len (ev_item (c := pureC K) (j := 3) 3 (ev_var sz) (by show 3 < 4; decide)) rfl) rfl).bl ?_
        show _ = ((leavesD 30 t)[j]?).any (leafOk (szD ds))
        rw [hlf]
        exact e3.symm
      rw [range_all (leavesD 30 t) _ (leafOk (szD ds)) fun j x e => by rw [e]; rfl] at gL
      have e4 : goodD (szD ds) (.tuple [.str s, .int b, t]) = (leavesD 30 t).all (leafOk (szD ds)) := rfl
      refine (evT_not (evT_val gL)) H2 (.refl H2) _ fun H3 r3 => ?_
      cases q : (leavesD 30 t).all (leafOk (szD ds)) with
      | true =>
        refine iteF (hn _ H3 r3 ⟨⟨some v1, some v2, some v3, rfl⟩, ?_⟩)
        rw [List.take_add_one, List.all_append, hall, he]
        show (true && (goodD (szD ds) _ && true)) = true
        rw [e4, q]
        rfl
      | false =>
        refine iteT (hrt _ H3 r3 ?_)
        have : ds.all (goodD (szD ds)) = false := List.all_eq_false.mpr ⟨_, List.mem_of_getElem? he, by rw [e4, q]; exact Bool.false_ne_true⟩
        show V.bl false = V.bl (ds.all (goodD (szD ds)))
        rw [this]
    · rw [List.take_length] at hI
      rw [hI.2]
      exact evS_ret ev_c
end
end KX

set_option maxHeartbeats 4000000
namespace KX
open PySem PySem.Spec PyProof.Rows L2
/-! ### distinct names -/
theorem getS_put_some (es : List (Str × PyData)) (k j : Str) (d : PyData) (h : (getS es j).isSome = true) : (getS (putS es k d) j).isSome = true := by
  rw [get_put]
  split
  · rfl
  · exact h
theorem fold_has (kf : Nat → Str) (df : Nat → PyData) : ∀ n i, i < n → (getS (foldK kf df n) (kf i)).isSome = true
  | 0, _, h => absurd h (Nat.not_lt_zero _)
  | n + 1, i, h => by
    show (getS (putS (foldK kf df n) (kf n) (df n)) (kf i)).isSome = true
    by_cases e : i = n
    · rw [e, get_put, if_pos rfl]
      rfl
    · exact getS_put_some _ _ _ _ (fold_has kf df n i (by omega))
theorem fold_inj (kf : Nat → Str) (df : Nat → PyData) : ∀ n, (foldK kf df n).length = n → ∀ i j, i < j → j < n → kf i ≠ kf j
  | 0, _, _, _, _, h => absurd h (Nat.not_lt_zero _)
  | n + 1, hl, i, j, hi, hj => by
    have hl : (putS (foldK kf df n) (kf n) (df n)).length = n + 1 := hl
    have l0 := foldK_len kf df n
    have l1 := putS_len (foldK kf df n) (kf n) (df n)
    by_cases e : j = n
    · subst e
      intro z
      have h1 := fold_has kf df j i hi
      rw [z] at h1
      have h2 : (putS (foldK kf df j) (kf j) (df j)).length = (foldK kf df j).length := by
        unfold putS
        rw [if_pos h1, repS_len]
      omega
    · exact fold_inj kf df n (by omega) i j hi (by omega)
theorem fold_at (kf : Nat → Str) (df : Nat → PyData) : ∀ n, (∀ i j, i < j → j < n → kf i ≠ kf j) → ∀ j, j < n → getS (foldK kf df n) (kf j) = some (df j)
  | 0, _, _, h => absurd h (Nat.not_lt_zero _)
  | n + 1, hd, j, h => by
    show getS (putS (foldK kf df n) (kf n) (df n)) (kf j) = _
    rw [get_put]
    by_cases e : j = n
    · rw [e, if_pos rfl]
    · rw [if_neg (hd j n (by omega) (by omega))]
      exact fold_at kf df n (fun i j a b => hd i j a (by omega)) j (by omega)
def tAt (ds : List PyData) (j : Nat) : PyData := (ds[j]?).elim .none fun d => itemD d 2
def trD (ds : List PyData) : List (Str × PyData) := foldK (kAt ds) (tAt ds) ds.length
/-- what a program gives -/
theorem prog_facts {ds : List PyData} (h : progL ds = true) : (1 ≤ ds.length ∧ ds.length ≤ 8) ∧ (∀ x ∈ ds, funcD x = true) ∧ (szD ds).length = ds.length ∧ sumD ds ≤ 400 := by
  unfold progL at h
  split at h
  · cases h
  rename_i h1
  split at h
  · cases h
  rename_i h2
  split at h
  · cases h
  rename_i h3
  have h1 := nt h1
  rw [Bool.and_eq_true, decide_eq_true_eq, decide_eq_true_eq] at h1
  rw [Bool.or_eq_true, not_or] at h3
  have h4 := of_decide_eq_true (nt h3.1)
  rw [decide_eq_true_eq] at h3
  exact ⟨by omega, List.all_eq_true.mp (nt h2), h4, by omega⟩
theorem tr_at {ds : List PyData} (h : progL ds = true) {j : Nat} (hj : j < ds.length) : getS (trD ds) (kAt ds j) = some (tAt ds j) :=
  fold_at _ _ _ (fold_inj _ (vAt ds) _ (prog_facts h).2.2.1) j hj
def preNeed (as : List AV) (r : AV) : Prop := ∃ ds, as = [.dat (.tuple ds)] ∧ progL ds = true ∧ r = .val .non
def preTrees (as : List AV) (r : AV) : Prop := ∃ ds, as = [.dat (.tuple ds)] ∧ progL ds = true ∧ r = .dct (trD ds)
def preNeedName (as : List AV) (r : AV) : Prop := ∃ ds s, as = [.dat (.tuple ds), .dat (.str s)] ∧ progL ds = true ∧ (getS (trD ds) s).isSome = true ∧ r = .val .non
def preFuncs (as : List AV) (r : AV) : Prop := ∃ ds, as = [.dat (.tuple ds)] ∧ progL ds = true ∧ r = .dat (.tuple (ds.map fun d => itemD d 0))
def preCount (as : List AV) (r : AV) : Prop := ∃ ds, as = [.dat (.tuple ds)] ∧ progL ds = true ∧ r = .val (.int (sumD ds))
def preGoes (as : List AV) (r : AV) : Prop := ∃ ds j, as = [.dat (.tuple ds), .dat (.str (kAt ds j))] ∧ progL ds = true ∧ j < ds.length ∧ r = .dat (.tuple (leavesD 30 (tAt ds j)))
/-- a def that may fall off its end -/
theorem FnT.okN {P : Program} {w : World} {K : PySem.W.Frag} {mg : Str → Option Value} {base : Heap} {x : Str} {st : Stmt} {f cd : Addr} {fd : FuncData} {N ps : List Str} {k : Nat} {c : Ct} {pre : List AV → AV → Prop} (F : FnT K x st f fd cd) (S : FnScope N ps (defScope st)) (len : ∀ as r, pre as r → as.length = ps.length)
    (hbody : ∀ (A : Around) (outer : List Env) (s : Shared) (H : Hp) (E : XK), Room k (A.deeper (envOfC x (defScope st) s.heap.objs.size f (.ref cd))) →
      ∃ t, PSs (cxOf CX0 P w K mg base N x (defScope st) f (.ref cd) A outer s H E).nox (defBody st) t ∧ ∀ as r vs, pre as r → AVs as vs H → c.At H → ∀ D : Ends, (∀ v H', c.R H H' → r.is v H' → D.rt v H') → (∀ τ H', c.R H H' → r.is .non H' → D.nx τ H') → t D (start N vs) H) : FnOk P w K mg base CX0 (k + 1) f fd ps (spOf c pre) := by
  obtain ⟨oc, od, kV, doc, pm, an, ct, osl, rfl, lk, hcd⟩ := F.ex
  refine fn_of lk hcd S (fun vs H Q E h => ?_) fun A outer s H vs Q E hr h => ?_
  · obtain ⟨as, r, h1, h2, _⟩ := h
    rw [avs_len h2, len as r h1]
  · obtain ⟨as, r, h1, h2, h3, h4⟩ := h
    obtain ⟨t, ht, hq⟩ := hbody A outer s H E hr
    exact ⟨t, ht.nox, hq as r vs h1 h2 h3 _ h4 fun _ H' g y => h4 .non H' g y⟩
theorem evS_drop {c : Ct} {σ : L2.St} {H0 : Hp} {te : TE} {t : TS} {a b : AV} (h : Ev c te σ H0 b) (k : EvS c t σ H0 a) : EvS c (tSeq (tDrop te) t) σ H0 a := fun H r D q =>
  h H r _ fun x H1 r1 _ => k H1 (r.trans r1) D fun v H2 r2 y => q v H2 (r1.trans r2) y
section
variable {P : Program} {w : World} {K : PySem.W.Frag} {mg : Str → Option Value} {base : Heap}
theorem b_need (T : Tx K mg base) : Binds K (fdOf K "need_program") ["program"] [] := T.f_need_program.binds fun _ _ _ _ _ _ us hl => match us, hl with | [_], _ => rfl
theorem b_trees (T : Tx K mg base) : Binds K (fdOf K "trees") ["program"] [] := T.f_trees.binds fun _ _ _ _ _ _ us hl => match us, hl with | [_], _ => rfl
theorem b_nname (T : Tx K mg base) : Binds K (fdOf K "need_name") ["program", "name"] [] := T.f_need_name.binds fun _ _ _ _ _ _ us hl => match us, hl with | [_, _], _ => rfl
theorem b_funcs (T : Tx K mg base) : Binds K (fdOf K "functions") ["program"] [] := T.f_functions.binds fun _ _ _ _ _ _ us hl => match us, hl with | [_], _ => rfl
theorem b_count (T : Tx K mg base) : Binds K (fdOf K "node_count") ["program"] [] := T.f_node_count.binds fun _ _ _ _ _ _ us hl => match us, hl with | [_], _ => rfl
theorem b_goes (T : Tx K mg base) : Binds K (fdOf K "goes") ["program", "name"] [] := T.f_goes.binds fun _ _ _ _ _ _ us hl => match us, hl with | [_, _], _ => rfl
theorem sc_need : FnScope ["program"] ["program"] (defScope (top 26)) := ⟨rfl, rfl, rfl, by decide +kernel, rfl, by decide +kernel, by decide +kernel⟩
theorem ok_need (T : Tx K mg base) : FnOk P w K mg base CX0 70 (fA K "need_program") (fdOf K "need_program") ["program"] (spOf (pureC K) preNeed) := by
  have GP := ok_prog (P := P) (w := w) T
  refine T.f_need_program.okN (N := ["program"]) (k := 69) sc_need (fun as r h => ?_) fun A outer s H E hr => ?_
  · obtain ⟨ds, rfl, _⟩ := h
    rfl
  · refine ⟨_, pss_one (ps_if (pt_not (pt_val (pe_fn GP hr T.g_is_program T.f_is_program (b_prog T) (pa_cons (pv 0) pa_nil)))) pss_never pss_nil), ?_⟩
    rintro as r vs ⟨ds, rfl, hp, rfl⟩ ⟨x, _, rfl, hx, rfl⟩ at0 D hrt hnx
    have s0 : Sl (start ["program"] [x]) 0 (.dat (.tuple ds)) H := ⟨x, rfl, hx⟩
    refine (evT_not (evT_val (ev_call (r := .val (.bl true)) (evA_one (ev_var s0)) (.inl ⟨_, rfl, by show _ = AV.val (V.bl (progL ds)); rw [hp]⟩) at0))) H (.refl H) _ fun H1 r1 => iteF (hnx _ H1 r1 rfl)
theorem sc_trees : FnScope ["program", "name", "lates", "tree"] ["program"] (defScope (top 27)) := ⟨rfl, rfl, rfl, by decide +kernel, rfl, by decide +kernel, by decide +kernel⟩
theorem ok_trees (T : Tx K mg base) : FnOk P w K mg base CX0 1 (fA K "trees") (fdOf K "trees") ["program"] (spOf (pureC K) preTrees) := by
  refine T.f_trees.ok (N := ["program", "name", "lates", "tree"]) (k := 0) sc_trees (fun as r h => ?_) fun A outer s H E hr => ?_
  · obtain ⟨ds, rfl, _⟩ := h
    rfl
  · refine ⟨_, pss_one (ps_ret (pe_dc (own := [("name", 1), ("lates", 2), ("tree", 3)]) (g := gTup K 3 (gCons (gName 1) (gCons (gName 2) (gCons (gName 3) gNil)))) rfl sc_trees.nd (pi_tup (pv 0)) (blkOk_by (own := [("name", 1), ("lates", 2), ("tree", 3)]) (N := ["program", "name", "lates", "tree"]) (sc := defScope (top 27)) (by decide +kernel))
          (fun _ _ _ _ _ => pg_tup rfl (pgs_cons (pg_name (i := 1) sc_trees.nd rfl (Or.inl rfl) (Or.inr rfl)) (pgs_cons (pg_name (i := 2) sc_trees.nd rfl (Or.inl rfl) (Or.inr rfl)) (pgs_cons (pg_name (i := 3) sc_trees.nd rfl (Or.inl rfl) (Or.inr rfl)) pgs_nil)))) (fun _ _ _ _ _ => pts_nil) (fun _ _ _ _ _ => pv 1) (fun _ _ _ _ _ => pv 3))), ?_⟩
    rintro as r vs ⟨ds, rfl, hp, rfl⟩ ⟨x, _, rfl, hx, rfl⟩ at0
    have s0 : Sl (start ["program", "name", "lates", "tree"] [x]) 0 (.dat (.tuple ds)) H := ⟨x, rfl, hx⟩
    obtain ⟨hl, hF, _⟩ := prog_facts hp
    refine evS_ret (ev_dc (evI_tup (ev_var s0)) at0 (by omega) (kAt ds) (tAt ds) fun j y H1 lt rr ⟨e, he, hy⟩ => ?_)
    obtain ⟨s', b, t, rfl, _⟩ := func_of (hF e (List.mem_of_getElem? he))
    have k1 : kAt ds j = s' := by unfold kAt; rw [he]; rfl
    have k2 : tAt ds j = t := by unfold tAt; rw [he]; rfl
    obtain ⟨v1, v2, v3, a1, a2, a3, hB⟩ := bind_tup3 (c := pureC K) (σ := start ["program", "name", "lates", "tree"] [x]) (vs := [1, 2, 3]) (i1 := 1) (i2 := 2) (i3 := 3) hy fun _ _ _ => rfl
    exact ⟨_, hB, by rw [k1]; exact (ev_var (a := .dat (.str s')) ⟨v1, rfl, _, rfl, a1⟩).str, by rw [k2]; exact ev_var (a := .dat t) ⟨v3, rfl, _, rfl, a3⟩⟩
theorem sc_nname : FnScope ["program", "name"] ["program", "name"] (defScope (top 28)) := ⟨rfl, rfl, rfl, by decide +kernel, rfl, by decide +kernel, by decide +kernel⟩
theorem ok_nname (T : Tx K mg base) : FnOk P w K mg base CX0 71 (fA K "need_name") (fdOf K "need_name") ["program", "name"] (spOf (pureC K) preNeedName) := by
  have GP := ok_need (P := P) (w := w) T
  refine T.f_need_name.okN (N := ["program", "name"]) (k := 70) sc_nname (fun as r h => ?_) fun A outer s H E hr => ?_
  · obtain ⟨ds, s, rfl, _⟩ := h
    rfl
  · have hr1 : Room 1 (A.deeper (envOfC "need_name" (defScope (top 28)) s.heap.objs.size (fA K "need_name") (.ref (cdOf K "need_name")))) := hr.mono (by omega)
    refine ⟨_, pss_cons (ps_expr (pe_fn GP hr T.g_need_program T.f_need_program (b_need T) (pa_cons (pv 0) pa_nil)))
      (pss_one (ps_if (PW.pt (pw_or (pt_not (pt_val (pe_isi T.z_isinstance T.z_str boot_str (pv 1)))) (pw_or1 (pt_cmp (pc_dnotin (room_u1 hr) (pv 1) (pe_fn (ok_trees T) hr1 T.g_trees T.f_trees (b_trees T) (pa_cons (pv 0) pa_nil)))))))
        pss_never pss_nil)), ?_⟩
    rintro as r vs ⟨ds, s', rfl, hp, hg, rfl⟩ ⟨x, _, rfl, hx, y, _, rfl, hy, rfl⟩ at0 D hrt hnx
    have s0 : Sl (start ["program", "name"] [x, y]) 0 (.dat (.tuple ds)) H := ⟨x, rfl, hx⟩
    have s1 : Sl (start ["program", "name"] [x, y]) 1 (.dat (.str s')) H := ⟨y, rfl, hy⟩
    refine (ev_call (evA_one (ev_var s0)) ⟨ds, rfl, hp, rfl⟩ at0) H (.refl H) _ fun _ H1 r1 _ => ?_
    refine (evT_or (evT_not (evT_val (ev_isi (ev_var s1) (kit_str _)))) fun _ => evT_val (ev_dnotin (ev_call (evA_one (ev_var s0)) ⟨ds, rfl, hp, rfl⟩ at0) (ev_var s1).str)) H1 r1 _ fun H2 r2 => ?_
    rw [hg]
    exact iteF (hnx _ H2 (r1.trans r2) rfl)
theorem sc_funcs : FnScope ["program", "one"] ["program"] (defScope (top 29)) := ⟨rfl, rfl, rfl, by decide +kernel, rfl, by decide +kernel, by decide +kernel⟩
theorem ok_funcs (T : Tx K mg base) : FnOk P w K mg base CX0 71 (fA K "functions") (fdOf K "functions") ["program"] (spOf (pureC K) preFuncs) := by
  have GP := ok_need (P := P) (w := w) T
  refine T.f_functions.ok (N := ["program", "one"]) (k := 70) sc_funcs (fun as r h => ?_) fun A outer s H E hr => ?_
  · obtain ⟨ds, rfl, _⟩ := h
    rfl
  · refine ⟨_, pss_cons (ps_expr (pe_fn GP hr T.g_need_program T.f_need_program (b_need T) (pa_cons (pv 0) pa_nil)))
      (pss_one (ps_ret (pe_tupC T.z_tuple (pe_lc (own := [("one", 1)]) (g := gName 1) rfl sc_funcs.nd (pi_tup (pv 0)) (blkOk_by (own := [("one", 1)]) (N := ["program", "one"]) (sc := defScope (top 29)) (by decide +kernel))
        (fun _ _ _ _ _ => pg_name (i := 1) sc_funcs.nd rfl (Or.inl rfl) (Or.inr rfl)) (fun _ _ _ _ _ => pts_nil) (fun _ _ _ _ _ => pe_ix (ix_tupK (K := K) rfl) (pv 1) pe_int (fun _ _ => rfl)))))), ?_⟩
    rintro as r vs ⟨ds, rfl, hp, rfl⟩ ⟨x, _, rfl, hx, rfl⟩ at0
    have s0 : Sl (start ["program", "one"] [x]) 0 (.dat (.tuple ds)) H := ⟨x, rfl, hx⟩
    obtain ⟨hl, hF, _⟩ := prog_facts hp
    refine evS_drop (ev_call (evA_one (ev_var s0)) ⟨ds, rfl, hp, rfl⟩ at0) (evS_ret ?_)
    have g := ev_lcD (c := pureC K) (σ := start ["program", "one"] [x]) (te := tOp (rIxT K) (tVar 1) (tC (.int 0))) (tt := tYes) (g := gName 1) (vs := [1]) ds (evI_tup (ev_var s0)) at0 (by omega) (fun d => some (itemD d 0)) fun j y H1 e he rr ⟨e', he', hy⟩ => by
      rw [he] at he'
      cases he'
      obtain ⟨s', b, t, rfl, _⟩ := func_of (hF e (List.mem_of_getElem? he))
      refine ⟨_, bind_name, fun H r Q q => q H (.refl H), fun d hd => ?_⟩
      cases hd
      exact ev_item (c := pureC K) (j := 0) 0 (ev_var (a := .dat (.tuple [.str s', .int b, t])) ⟨y, rfl, _, rfl, hy⟩) (by show 0 < 3; decide)
    refine (ev_tupleL g).wk fun v H' ⟨d, ⟨ds', e1, e2⟩, h⟩ => ⟨d, ?_, h⟩
    rw [e2, e1]
    show PyData.tuple (ds.filterMap (some ∘ fun d => itemD d 0)) = _
    rw [List.filterMap_eq_map]
theorem sc_count : FnScope ["program", "one"] ["program"] (defScope (top 30)) := ⟨rfl, rfl, rfl, by decide +kernel, rfl, by decide +kernel, by decide +kernel⟩
theorem ok_count (T : Tx K mg base) : FnOk P w K mg base CX0 71 (fA K "node_count") (fdOf K "node_count") ["program"] (spOf (pureC K) preCount) := by
  have GP := ok_need (P := P) (w := w) T
  have GN := ok_nodes (P := P) (w := w) T 30
  refine T.f_node_count.ok (N := ["program", "one"]) (k := 70) sc_count (fun as r h => ?_) fun A outer s H E hr => ?_
  · obtain ⟨ds, rfl, _⟩ := h
    rfl
  · refine ⟨_, pss_cons (ps_expr (pe_fn GP hr T.g_need_program T.f_need_program (b_need T) (pa_cons (pv 0) pa_nil)))
      (pss_one (ps_ret (pe_genSum (k := 69) (own := [("one", 1)]) (g := gName 1) hr (by rfl) T.z_sum boot_sum2 ⟨T.t_node_count, rfl, rfl, sc_count.nd, blkOk_by (own := [("one", 1)]) (N := ["program", "one"]) (sc := defScope (top 30)) (by decide +kernel), rfl, by decide +kernel, by decide +kernel⟩
        (pi_tup (pv 0)) (fun _ _ _ _ _ _ => pg_name (i := 1) sc_count.nd rfl (Or.inl rfl) (Or.inr rfl)) (fun _ _ _ _ _ _ hr3 => pe_fn GN (hr3.mono (by omega)) T.g_nodes_of T.f_nodes_of (b_nodes T) (pa_cons (pe_ix (ix_tupK (K := K) rfl) (pv 1) pe_int (fun _ _ => rfl)) pa_nil))))), ?_⟩
    rintro as r vs ⟨ds, rfl, hp, rfl⟩ ⟨x, _, rfl, hx, rfl⟩ at0
    have s0 : Sl (start ["program", "one"] [x]) 0 (.dat (.tuple ds)) H := ⟨x, rfl, hx⟩
    obtain ⟨hl, hF, _⟩ := prog_facts hp
    refine evS_drop (ev_call (evA_one (ev_var s0)) ⟨ds, rfl, hp, rfl⟩ at0) (evS_ret ?_)
    have gS := ev_genSum (P := tbOf K "node_count") (vs := [1]) (g := gName 1) (te := tCall (spOf (pureC K) (preNodes 30)) [] E (tCons (tOp (rIxT K) (tVar 1) (tC (.int 2))) tNil)) (evI_tup (ev_var s0)) (by simp [tabs]) at0 (fun j => (ds[j]?).elim 0 fun d => nodesD 30 (itemD d 2)) (sums_in (by omega) fun j hj => by
        rw [List.getElem?_eq_getElem hj]
        obtain ⟨s, b, t, e, _, _, _, ht⟩ := func_of (hF ds[j] (List.getElem_mem hj))
        rw [e]
        exact nodes_big (by decide) (tree_wf ht)) fun j y H2 lt rr ⟨e, he, hy⟩ => by
      obtain ⟨s, b, t, rfl, _, _, _, ht⟩ := func_of (hF e (List.mem_of_getElem? he))
      exact ⟨_, bind_name, ev_call (evA_one (ev_item (c := pureC K) (j := 2) 2 (ev_var (a := .dat (.tuple [.str s, .int b, t])) ⟨y, rfl, _, rfl, hy⟩) (by show 2 < 3; decide))) ⟨t, rfl, tree_wf ht, by decide, by rw [he]; rfl⟩ (at0.up rr)⟩
    rw [preSum_map (fun d => nodesD 30 (itemD d 2)) ds] at gS
    exact gS
theorem sc_goes : FnScope ["program", "name"] ["program", "name"] (defScope (top 31)) := ⟨rfl, rfl, rfl, by decide +kernel, rfl, by decide +kernel, by decide +kernel⟩
theorem ok_goes (T : Tx K mg base) : FnOk P w K mg base CX0 72 (fA K "goes") (fdOf K "goes") ["program", "name"] (spOf (pureC K) preGoes) := by
  have GP := ok_nname (P := P) (w := w) T
  have GL := ok_leaves (P := P) (w := w) T 30
  refine T.f_goes.ok (N := ["program", "name"]) (k := 71) sc_goes (fun as r h => ?_) fun A outer s H E hr => ?_
  · obtain ⟨ds, j, rfl, _⟩ := h
    rfl
  · have hrj : ∀ j, j ≤ 71 → Room j (A.deeper (envOfC "goes" (defScope (top 31)) s.heap.objs.size (fA K "goes") (.ref (cdOf K "goes")))) := fun j h => hr.mono h
    refine ⟨_, pss_cons (ps_expr (pe_fn GP hr T.g_need_name T.f_need_name (b_nname T) (pa_cons (pv 0) (pa_cons (pv 1) pa_nil))))
      (pss_one (ps_ret (pe_tupC T.z_tuple (pe_fn GL (hrj 31 (by omega)) T.g_leaves_of T.f_leaves_of (b_leaves T) (pa_cons (pe_dget (room_u1 hr) (pe_fn (ok_trees T) (hrj 1 (by omega)) T.g_trees T.f_trees (b_trees T) (pa_cons (pv 0) pa_nil)) (pv 1) (fun _ _ => rfl)) pa_nil))))), ?_⟩
    rintro as r vs ⟨ds, j, rfl, hp, hj, rfl⟩ ⟨x, _, rfl, hx, y, _, rfl, hy, rfl⟩ at0
    have s0 : Sl (start ["program", "name"] [x, y]) 0 (.dat (.tuple ds)) H := ⟨x, rfl, hx⟩
    have s1 : Sl (start ["program", "name"] [x, y]) 1 (.dat (.str (kAt ds j))) H := ⟨y, rfl, hy⟩
    obtain ⟨hl, hF, _, hs⟩ := prog_facts hp
    have e := tr_at hp hj
    obtain ⟨s, b, t, e2, _, _, _, ht⟩ := func_of (hF ds[j] (List.getElem_mem hj))
    have e3 : tAt ds j = t := by
      unfold tAt
      rw [List.getElem?_eq_getElem hj, e2]
      rfl
    have lb : (leavesD 30 t).length ≤ 1000 := by
      have h2 := (tree_leaves ht).2
      have h3 := (sum_each (fun d => nodesD 30 (itemD d 2)) (fun d => nodes_nn 30 _) ds).2 ds[j] (List.getElem_mem hj)
      rw [e2] at h3
      have h3 : nodesD 30 t ≤ sumD ds := h3
      omega
    refine evS_drop (ev_call (evA_cons (ev_var s0) (evA_one (ev_var s1))) ⟨ds, _, rfl, hp, by rw [e]; rfl, rfl⟩ at0) (evS_ret ?_)
    have g := ev_call (E := E) (pre := preLeaves 30) (evA_one (ev_dget (ev_call (E := E) (pre := preTrees) (evA_one (ev_var s0)) ⟨ds, rfl, hp, rfl⟩ at0) (ev_var s1).str e)) ⟨_, rfl, by rw [e3]; exact tree_lf ht, by rw [e3]; exact lb, rfl⟩ at0
    exact (ev_tupleL g).wk fun v H' ⟨d, ⟨ds', e1, e2⟩, h⟩ => ⟨d, by rw [e2, e1], h⟩
end
end KX

set_option maxHeartbeats 4000000
namespace KX
open PySem PySem.Spec PyProof.Rows L2
section
variable {c : Ct} {σ : L2.St} {H0 : Hp} {te ta tb : TE} {ds : List PyData}
/-- a list against [] -/
theorem ev_eqNil (h : Ev c te σ H0 (.lst ds)) (o : c.row = none) : Ev c (tOp (rEqP c.K) te (tLst tNil)) σ H0 (.val (.bl ds.isEmpty)) :=
  ev_op h ev_nil (fun H x y Q r hx hy q => by
    obtain ⟨a, xs, _, rfl, h1, rfl, h2⟩ := hx
    obtain ⟨b, ys, _, rfl, g1, rfl, g2⟩ := hy
    cases g2
    refine ⟨.list _, .list [], .lst (SqL.of h1) (DatL.dp (K := c.K) _ _ h2).1, .lst (SqL.of g1) .nil, by simp only [PyData.plain]; exact (DatL.dp (K := c.K) _ _ h2).2, rfl, Nat.le_trans (Nat.min_le_right _ _) (by decide), ?_⟩
    rw [eqv_nil]
    exact q _ H (.refl H) rfl) o
theorem ev_neNil (h : Ev c te σ H0 (.lst ds)) (o : c.row = none) : Ev c (tOp (rNeP c.K) te (tLst tNil)) σ H0 (.val (.bl (!ds.isEmpty))) :=
  ev_op h ev_nil (fun H x y Q r hx hy q => by
    obtain ⟨a, xs, _, rfl, h1, rfl, h2⟩ := hx
    obtain ⟨b, ys, _, rfl, g1, rfl, g2⟩ := hy
    cases g2
    refine ⟨.list _, .list [], .lst (SqL.of h1) (DatL.dp (K := c.K) _ _ h2).1, .lst (SqL.of g1) .nil, by simp only [PyData.plain]; exact (DatL.dp (K := c.K) _ _ h2).2, rfl, Nat.le_trans (Nat.min_le_right _ _) (by decide), ?_⟩
    rw [eqv_nil]
    exact q _ H (.refl H) rfl) o
theorem evT_yes : EvT c tYes σ H0 true := fun H r Q q => q H (.refl H)
/-- nothing kept: all are good -/
theorem fm_empty {α : Type} (l : List α) (p : α → Bool) (f : α → PyData) : (l.filterMap fun x => if p x = true then none else some (f x)).isEmpty = l.all p := by
  induction l with
  | nil => rfl
  | cons x r ih =>
    cases q : p x with
    | true => rw [List.filterMap_cons_none (by rw [q]; rfl), ih, List.all_cons, q]; rfl
    | false => rw [List.filterMap_cons_some (b := f x) (by rw [q]; rfl), List.all_cons, q]; rfl
theorem notIf {α : Type} {p : Bool} {x : α} : (if p = true then none else some x).isSome = !p := by cases p <;> rfl
end
section
variable {P : Program} {w : World} {K : PySem.W.Frag} {mg : Str → Option Value} {base : Heap}
abbrev NI : List Str := ["_law_value_here", "_law_least", "_law_most"]
theorem bl_int (T : Tx K mg base) : Binds K (fdOf K "_law_is_int") NI [] := T.f_law_is_int.binds fun _ _ _ _ _ _ us hl => match us, hl with | [_, _, _], _ => rfl
theorem bl_word (T : Tx K mg base) : Binds K (fdOf K "_law_is_word") NI [] := T.f_law_is_word.binds fun _ _ _ _ _ _ us hl => match us, hl with | [_, _, _], _ => rfl
theorem bl_parts (T : Tx K mg base) : Binds K (fdOf K "_law_parts") ["_law_one"] [] := T.f_law_parts.binds fun _ _ _ _ _ _ us hl => match us, hl with | [_], _ => rfl
theorem bl_nodes (T : Tx K mg base) : Binds K (fdOf K "_law_nodes") ["_law_one"] [] := T.f_law_nodes.binds fun _ _ _ _ _ _ us hl => match us, hl with | [_], _ => rfl
theorem bl_leaves (T : Tx K mg base) : Binds K (fdOf K "_law_leaves") ["_law_tree_here"] [] := T.f_law_leaves.binds fun _ _ _ _ _ _ us hl => match us, hl with | [_], _ => rfl
theorem scl_int : FnScope NI NI (defScope (top 51)) := ⟨rfl, rfl, rfl, by decide +kernel, rfl, by decide +kernel, by decide +kernel⟩
theorem okl_int (T : Tx K mg base) : FnOk P w K mg base CX0 1 (fA K "_law_is_int") (fdOf K "_law_is_int") NI (spOf (pureC K) preIn) := by
  refine T.f_law_is_int.ok scl_int (fun as r h => ?_) fun A outer s H E hr => ?_
  · obtain ⟨d, lo, hi, rfl, _⟩ := h
    rfl
  · refine ⟨_, pss_one (ps_ret (pe_and (pe_isi T.z_isinstance T.z_int boot_int (pv 0)) (pe_and (pe_not (pe_isi T.z_isinstance T.z_bool boot_bool (pv 0))) (pe_one (pe_chain op_le op_le (pv 1) (pv 0) (pv 2)))))), ?_⟩
    rintro as r vs ⟨d, lo, hi, rfl, rfl⟩ ⟨x, _, rfl, hx, y, _, rfl, hy, z, _, rfl, hz, rfl⟩ at0
    have s0 : Sl (start NI [x, y, z]) 0 (.dat d) H := ⟨x, rfl, hx⟩
    have s1 : Sl (start NI [x, y, z]) 1 (.val (.int lo)) H := ⟨y, rfl, hy⟩
    have s2 : Sl (start NI [x, y, z]) 2 (.val (.int hi)) H := ⟨z, rfl, hz⟩
    rw [← inD_eq (k := inD d lo hi) d lo hi fun _ _ i e => by rw [e]; rfl]
    refine evS_ret (ev_and (ev_isi (ev_var s0) (kit_int d)) fun h1 => ev_and (ev_not (ev_isi (ev_var s0) (kit_bool d))) fun h2 => ?_)
    obtain ⟨i, rfl⟩ := int_of h1 h2
    exact ev_chain (ev_var s1) (ev_var s0).int (ev_var s2)
abbrev NW : List Str := ["_law_value_here", "_law_least", "_law_most", "_law_sign"]
theorem scl_word : FnScope NW NI (defScope (top 52)) := ⟨rfl, rfl, rfl, by decide +kernel, rfl, by decide +kernel, by decide +kernel⟩
theorem okl_word (T : Tx K mg base) : FnOk P w K mg base CX0 1 (fA K "_law_is_word") (fdOf K "_law_is_word") NI (spOf (pureC K) preWord) := by
  refine T.f_law_is_word.ok scl_word (fun as r h => ?_) fun A outer s H E hr => ?_
  · obtain ⟨d, lo, hi, rfl, _⟩ := h
    rfl
  · refine ⟨_, pss_one (ps_ret (pe_and (pe_isi T.z_isinstance T.z_str boot_str (pv 0)) (pe_and (pe_chain op_le op_le (pv 1) (pe_len T.z_len (pv 0)) (pv 2))
        (pe_one (pe_cmpR (op_eqP hr.units) (pe_lc (own := [("_law_sign", 3)]) (g := gName 3) rfl scl_word.nd (pi_str (pv 0)) (blkOk_by (own := [("_law_sign", 3)]) (N := NW) (sc := defScope (top 52)) (by decide +kernel))
          (fun _ _ _ _ _ => pg_name (i := 3) scl_word.nd rfl (Or.inl rfl) (Or.inr rfl)) (fun _ _ _ _ _ => pts_one (pt_cmpR op_notIn_sign (pv 3) pe_str (by rfl))) (fun _ _ _ _ _ => pv 3)) (pe_lst pa_nil) (by rfl)))))), ?_⟩
    rintro as r vs ⟨d, lo, hi, rfl, rfl⟩ ⟨x, _, rfl, hx, y, _, rfl, hy, z, _, rfl, hz, rfl⟩ at0
    have s0 : Sl (start NW [x, y, z]) 0 (.dat d) H := ⟨x, rfl, hx⟩
    have s1 : Sl (start NW [x, y, z]) 1 (.val (.int lo)) H := ⟨y, rfl, hy⟩
    have s2 : Sl (start NW [x, y, z]) 2 (.val (.int hi)) H := ⟨z, rfl, hz⟩
    have e1 : wordD d lo hi = (isStr d && wordD d lo hi) := by cases d <;> rfl
    rw [e1]
    refine evS_ret (ev_and (ev_isi (ev_var s0) (kit_str d)) fun h1 => ?_)
    obtain ⟨u, rfl⟩ := str_of h1
    have ul : u.cps.toList.length ≤ 1000 := by
      obtain ⟨_, rfl, hd⟩ := hx
      cases hd with
      | str _ q => exact q
    have e2 : wordD (.str u) lo hi = ((decide (lo ≤ (u.length : Int)) && decide ((u.length : Int) ≤ hi)) && u.cps.toList.all isLow) := rfl
    rw [e2]
    refine ev_and (ev_chain (ev_var s1) (ev_len (ev_var s0) rfl) (ev_var s2)) fun _ => ?_
    have hi2 := evI_str (c := pureC K) (ev_var s0).str
    have sz : u.cps.size = u.cps.toList.length := by simp
    rw [sz] at hi2
    have g := ev_lcD (c := pureC K) (te := tVar 3) (tt := tTest (tOp (fun x y H Q => ∃ (c : Nat) (z : Str), x = .str ⟨#[c]⟩ ∧ y = .str z ∧ Q (.bl (!decide (c ∈ z.cps.toList))) H) (tVar 3) (tC (.str LETS)))) (g := gName 3) (vs := [3]) u.cps.toList hi2 at0 ul (fun k => if isLow k = true then none else some (.str ⟨#[k]⟩)) fun j y2 H1 k hk rr ⟨k', hk', e⟩ => by
      have hk2 : u.cps.toList[j]? = some k' := by rw [Array.getElem?_toList]; exact hk'
      rw [hk2] at hk
      cases hk
      have sv : Sl ((wipe (start NW [x, y, z]) [3]).set 3 (some y2)) 3 (.val (.str ⟨#[k]⟩)) H1 := ⟨y2, rfl, e⟩
      refine ⟨_, bind_name, ?_, fun d hd => ?_⟩
      · rw [notIf]
        refine evT_test (ev_op (ev_var sv) ev_c fun H2 x2 y2 Q r2 e2 e3 q => ⟨k, LETS, e2, e3, q _ H2 (.refl H2) ?_⟩)
        show V.bl (!decide (k ∈ LETS.cps.toList)) = _
        rw [in_lets]
      · split at hd
        · cases hd
        · cases hd
          exact (ev_var sv).dStr (by show 1 ≤ 1000; decide)
    have g2 := ev_eqNil g rfl
    rw [fm_empty] at g2
    exact g2
theorem scl_parts : FnScope ["_law_one"] ["_law_one"] (defScope (top 40)) := ⟨rfl, rfl, rfl, by decide +kernel, rfl, by decide +kernel, by decide +kernel⟩
theorem okl_parts (T : Tx K mg base) : FnOk P w K mg base CX0 1 (fA K "_law_parts") (fdOf K "_law_parts") ["_law_one"] (spOf (pureC K) preParts) := by
  refine T.f_law_parts.ok scl_parts (fun as r h => ?_) fun A outer s H E hr => ?_
  · obtain ⟨d, rfl, _⟩ := h
    rfl
  · refine ⟨_, pss_cons (ps_if (pt_cmpR op_in_seq (pe_ix ix_tup (pv 0) pe_int (fun _ _ => rfl)) (pe_lst (pa_cons pe_str (pa_cons pe_str (pa_cons pe_str (pa_cons pe_str pa_nil))))) (by rfl)) (pss_one (ps_ret (pe_lst pa_nil))) pss_nil)
      (pss_one (ps_ret (pe_ifExp (pt_cmpR op_eq (pe_ix ix_tup (pv 0) pe_int (fun _ _ => rfl)) pe_str (nomark _)) (pe_listC T.z_list (pe_ix ix_tup (pv 0) pe_int (fun _ _ => rfl))) (pe_listC T.z_list (pe_slice sl_tupA (pv 0) (po_some pe_int) po_none))))), ?_⟩
    rintro as r vs ⟨d, rfl, hk, rfl⟩ ⟨x, _, rfl, hx, rfl⟩ at0
    exact parts_body hk ⟨x, rfl, hx⟩
theorem scl_nodes : FnScope ["_law_one", "_law_part"] ["_law_one"] (defScope (top 41)) := ⟨rfl, rfl, rfl, by decide +kernel, rfl, by decide +kernel, by decide +kernel⟩
theorem okl_nodes (T : Tx K mg base) : ∀ n : Nat, FnOk P w K mg base CX0 (2 * n + 2) (fA K "_law_nodes") (fdOf K "_law_nodes") ["_law_one"] (spOf (pureC K) (preNodes n))
  | 0 => by
    refine T.f_law_nodes.ok (N := ["_law_one", "_law_part"]) (k := 1) scl_nodes (fun as r h => ?_) fun A outer s H E hr => ⟨_, pss_never, ?_⟩
    · obtain ⟨d, rfl, _⟩ := h
      rfl
    · rintro as r vs ⟨d, _, h, _⟩
      cases h
  | n + 1 => by
    have G := okl_nodes T n
    refine T.f_law_nodes.ok (N := ["_law_one", "_law_part"]) (k := 2 * n + 3) scl_nodes (fun as r h => ?_) fun A outer s H E hr => ?_
    · obtain ⟨d, rfl, _⟩ := h
      rfl
    · have hr1 : Room 1 (A.deeper (envOfC "_law_nodes" (defScope (top 41)) s.heap.objs.size (fA K "_law_nodes") (.ref (cdOf K "_law_nodes")))) := hr.mono (by omega)
      have hr2 : Room (2 * n + 2) (A.deeper (envOfC "_law_nodes" (defScope (top 41)) s.heap.objs.size (fA K "_law_nodes") (.ref (cdOf K "_law_nodes")))) := hr.mono (by omega)
      refine ⟨_, pss_one (ps_ret (pe_op op_add pe_int (pe_callB (cr_sum rfl) (by rfl) T.z_sum boot_sum2 (pa_cons (pe_lc (own := [("_law_part", 1)]) (g := gName 1) rfl scl_nodes.nd (pi_list (pe_fn (okl_parts T) hr1 T.g_law_parts T.f_law_parts (bl_parts T) (pa_cons (pv 0) pa_nil))) (blkOk_by (own := [("_law_part", 1)]) (N := ["_law_one", "_law_part"]) (sc := defScope (top 41)) (by decide +kernel))
          (fun _ _ _ _ _ => pg_name (i := 1) scl_nodes.nd rfl (Or.inl rfl) (Or.inr rfl)) (fun _ _ _ _ _ => pts_nil) (fun _ _ _ _ _ => pe_fn G hr2 T.g_law_nodes T.f_law_nodes (bl_nodes T) (pa_cons (pv 1) pa_nil))) pa_nil)))), ?_⟩
      rintro as r vs ⟨d, rfl, hw, hn, rfl⟩ ⟨x, _, rfl, hx, rfl⟩ at0
      obtain ⟨w1, w2, w3⟩ := wf_parts hw
      have s0 : Sl (start ["_law_one", "_law_part"] [x]) 0 (.dat d) H := ⟨x, rfl, hx⟩
      have it : Ev (pureC K) (tCall (spOf (pureC K) preParts) [] E (tCons (tVar 0) tNil)) (start ["_law_one", "_law_part"] [x]) H (.lst (partsD d)) := ev_call (evA_one (ev_var s0)) ⟨d, rfl, w1, rfl⟩ at0
      have g := ev_lcD (c := pureC K) (te := tCall (spOf (pureC K) (preNodes n)) [] E (tCons (tVar 1) tNil)) (tt := tYes) (g := gName 1) (vs := [1]) (partsD d) (evI_list it rfl) at0 (by omega) (fun e => some (.int (nodesD n e))) fun j y H1 e he rr ⟨e', he', hy⟩ => by
        rw [he] at he'
        cases he'
        refine ⟨_, bind_name, evT_yes, fun dd hd => ?_⟩
        cases hd
        exact (ev_call (evA_one (ev_var (a := .dat e) ⟨y, rfl, e, rfl, hy⟩)) ⟨e, rfl, w3 e (List.mem_of_getElem? he), by omega, rfl⟩ (at0.up rr)).dInt
      have e4 : ((partsD d).filterMap fun e => some (PyData.int (nodesD n e))) = ((partsD d).map (nodesD n)).map PyData.int := by
        show ((partsD d).filterMap (some ∘ fun e => PyData.int (nodesD n e))) = _
        rw [List.filterMap_eq_map, List.map_map]
        rfl
      rw [e4] at g
      exact evS_ret (ev_i0 (ev_c (v := .int 1)) (ev_sumL g))
theorem scl_leaves : FnScope ["_law_tree_here"] ["_law_tree_here"] (defScope (top 42)) := ⟨rfl, rfl, rfl, by decide +kernel, rfl, by decide +kernel, by decide +kernel⟩
theorem okl_leaves (T : Tx K mg base) : ∀ n : Nat, FnOk P w K mg base CX0 (n + 1) (fA K "_law_leaves") (fdOf K "_law_leaves") ["_law_tree_here"] (spOf (pureC K) (preLeaves n))
  | 0 => by
    refine T.f_law_leaves.ok (N := ["_law_tree_here"]) (k := 0) scl_leaves (fun as r h => ?_) fun A outer s H E hr => ⟨_, pss_never, ?_⟩
    · obtain ⟨d, rfl, _⟩ := h
      rfl
    · rintro as r vs ⟨d, _, h, _⟩
      cases h
  | n + 1 => by
    have G := okl_leaves T n
    refine T.f_law_leaves.ok (N := ["_law_tree_here"]) (k := n + 1) scl_leaves (fun as r h => ?_) fun A outer s H E hr => ?_
    · obtain ⟨d, rfl, _⟩ := h
      rfl
    · refine ⟨_, pss_cons (ps_if (pt_cmpR op_eq (pe_ix ix_tup (pv 0) pe_int (fun _ _ => rfl)) pe_str (nomark _)) (pss_one (ps_ret (pe_op op_cat (pe_fn G hr T.g_law_leaves T.f_law_leaves (bl_leaves T) (pa_cons (pe_ix ix_tup (pv 0) pe_int (fun _ _ => rfl)) pa_nil)) (pe_fn G hr T.g_law_leaves T.f_law_leaves (bl_leaves T) (pa_cons (pe_ix ix_tup (pv 0) pe_int (fun _ _ => rfl)) pa_nil))))) pss_nil)
        (pss_one (ps_ret (pe_ifExp (pt_cmpR op_eq (pe_ix ix_tup (pv 0) pe_int (fun _ _ => rfl)) pe_str (nomark _)) (pe_lst (pa_cons (pv 0) pa_nil)) (pe_lst pa_nil)))), ?_⟩
      rintro as r vs ⟨d, rfl, h, l, rfl⟩ ⟨x, _, rfl, hx, rfl⟩ at0
      exact leaves_body rfl at0 h l ⟨x, rfl, hx⟩
end
end KX

set_option maxHeartbeats 4000000
namespace KX
open PySem PySem.Spec PyProof.Rows L2
/-! ### _law_is_worth -/
def hdD (d : PyData) : Bool := match d with
  | .tuple (.str _ :: _ :: _) => true
  | _ => false
theorem hd_of {d : PyData} (h : hdD d = true) : ∃ k a r, d = .tuple (.str k :: a :: r) := by
  unfold hdD at h
  split at h
  · exact ⟨_, _, _, rfl⟩
  · cases h
theorem kind_hd {d : PyData} (h : hdD d = false) (k : Str) (n : Int) (hn : 2 ≤ n) : kindD d k n = false := by
  cases q : kindD d k n with
  | false => rfl
  | true =>
    exfalso
    unfold kindD at q
    split at q
    · rename_i x r
      rw [Bool.and_eq_true, decide_eq_true_eq] at q
      cases r with
      | nil =>
        have := q.1
        simp at this
        omega
      | cons a r => cases h
    · cases q
theorem expr_hd {d : PyData} (h : hdD d = false) (n : Nat) (l : Int) : exprD n d l = false := by
  cases n with
  | zero => rfl
  | succ n =>
    show (if kindD d "number" 2 then inD (itemD d 1) 0 1000000 else if kindD d "late" 2 then inD (itemD d 1) 0 (l - 1) else if !([("plus" : Str), "minus", "times"].any fun k => kindD d k 3) then false else (fromD d 1).all fun e => exprD n e l) = false
    rw [kind_hd h _ _ (by decide), kind_hd h _ _ (by decide)]
    have : ([("plus" : Str), "minus", "times"].any fun k => kindD d k 3) = false := List.any_eq_false.mpr fun k _ => by rw [kind_hd h _ _ (by decide)]; exact Bool.false_ne_true
    rw [this]
    rfl
abbrev numTags : List Str := ["number", "late"]
abbrev sumTags : List Str := ["plus", "minus", "times"]
theorem kind_at (k j : Str) (r : List PyData) (n : Nat) : kindD (.tuple (.str k :: r)) j (n : Int) = (decide (r.length + 1 = n) && decide (k = j)) := by
  show (decide (((r.length + 1 : Nat) : Int) = (n : Int)) && decide (k = j)) = _
  congr 1
  rw [decide_eq_decide]
  omega
theorem expr_str (n : Nat) (k : Str) (r : List PyData) (l : Int) : exprD (n + 1) (.tuple (.str k :: r)) l =
    if k ∈ numTags then (decide (r.length + 1 = 2) && inD (itemD (.tuple (.str k :: r)) 1) 0 (if k = "number" then 1000000 else l - 1))
    else if !decide (k ∈ sumTags) || !decide (r.length + 1 = 3) then false else r.all fun e => exprD n e l := by
  show (if kindD (.tuple (.str k :: r)) "number" (2 : Nat) then inD (itemD (.tuple (.str k :: r)) 1) 0 1000000 else if kindD (.tuple (.str k :: r)) "late" (2 : Nat) then inD (itemD (.tuple (.str k :: r)) 1) 0 (l - 1) else if !([("plus" : Str), "minus", "times"].any fun j => kindD (.tuple (.str k :: r)) j (3 : Nat)) then false else r.all fun e => exprD n e l) = _
  simp only [kind_at]
  have any3 : ([("plus" : Str), "minus", "times"].any fun j => (decide (r.length + 1 = 3) && decide (k = j))) = (decide (k ∈ sumTags) && decide (r.length + 1 = 3)) := by
    show ((decide (r.length + 1 = 3) && decide (k = "plus")) || ((decide (r.length + 1 = 3) && decide (k = "minus")) || ((decide (r.length + 1 = 3) && decide (k = "times")) || false))) = _
    have : decide (k ∈ sumTags) = (decide (k = "plus") || (decide (k = "minus") || decide (k = "times"))) := by
      rw [Bool.eq_iff_iff]
      simp only [List.mem_cons, List.not_mem_nil, or_false, Bool.or_eq_true, decide_eq_true_eq]
    rw [this]
    cases decide (r.length + 1 = 3) <;> cases decide (k = "plus") <;> cases decide (k = "minus") <;> cases decide (k = "times") <;> rfl
  rw [any3]
  by_cases h1 : k = "number"
  · rw [if_pos (show k ∈ numTags by rw [h1]; exact List.mem_cons_self), if_pos h1]
    have hs : ¬ k ∈ sumTags := by rw [h1]; decide +kernel
    have hl : ¬ k = "late" := by rw [h1]; decide +kernel
    rw [decide_eq_true h1, decide_eq_false hs, decide_eq_false hl]
    cases decide (r.length + 1 = 2) <;> rfl
  · by_cases h2 : k = "late"
    · rw [if_pos (show k ∈ numTags by rw [h2]; exact List.mem_cons_of_mem _ List.mem_cons_self), if_neg h1]
      have hs : ¬ k ∈ sumTags := by rw [h2]; decide +kernel
      rw [decide_eq_false h1, decide_eq_false hs, decide_eq_true h2]
      cases decide (r.length + 1 = 2) <;> rfl
    · rw [if_neg (show ¬ k ∈ numTags by
        simp only [List.mem_cons, List.not_mem_nil, or_false]
        exact fun z => z.elim h1 h2), decide_eq_false h1, decide_eq_false h2]
      cases decide (k ∈ sumTags) <;> cases decide (r.length + 1 = 3) <;> cases decide (r.length + 1 = 2) <;> rfl
section
variable {c : Ct} {σ : L2.St} {H : Hp} {d : PyData}
abbrev rLt : R2 := rI0 fun i j => .bl (decide (i < j))
theorem ev_hd (s0 : Sl σ 0 (.dat d) H) : EvT c (tOr (tNot (tB (tCB (rIsi c.K) (tCons (tVar 0) (tCons (tC (.ty "tuple")) tNil))))) (tOr (tTest (tOp rLt (tCB (rLenK c.K) (tCons (tVar 0) tNil)) (tC (.int 2)))) (tNot (tB (tCB (rIsi c.K) (tCons (tOp (rIxT c.K) (tVar 0) (tC (.int 0))) (tCons (tC (.ty "str")) tNil))))))) σ H (!hdD d) := by
  cases hT : isTup d with
  | false =>
    have e : hdD d = false := by cases d <;> first | rfl | cases hT
    rw [e]
    exact evT_or (k := !false) (l := false) (evT_not (evT_val ((ev_isi (ev_var s0) (kit_tup d)).bl hT))) fun z => by cases z
  | true =>
    obtain ⟨ds, rfl⟩ := tup_of hT
    refine evT_or (k := !true) (l := !hdD (.tuple ds)) (evT_not (evT_val (ev_isi (ev_var s0) (kit_tup (.tuple ds))))) fun _ => ?_
    have l0 : Ev c (tCB (rLenK c.K) (tCons (tVar 0) tNil)) σ H (.val (.int ds.length)) := ev_len (ev_var s0) rfl
    match ds with
    | [] => exact evT_or (k := true) (l := false) (evT_test (ev_i0 l0 ev_c)) fun z => by cases z
    | [a] =>
      have e : hdD (.tuple [a]) = false := by
        unfold hdD
        split
        · rename_i q
          cases q
        · rfl
      rw [e]
      exact evT_or (k := true) (l := false) (evT_test (ev_i0 l0 ev_c)) fun z => by cases z
    | a :: b :: r =>
      have e : hdD (.tuple (a :: b :: r)) = isStr a := by cases a <;> rfl
      rw [e]
      refine evT_or (k := false) (l := !isStr a) (evT_test ((ev_i0 l0 ev_c).bl (decide_eq_false ?_))) fun _ => evT_not (evT_val (ev_isi (ev_item (j := 0) 0 (ev_var s0) (by rw [List.length_cons]; omega)) (kit_str a)))
      rw [List.length_cons, List.length_cons]
      omega
/-- [x for x in .. if not good(x)] == [] -/
theorem ev_allL {ti : TI} {tt : TT} {rest : List PyData} {i3 : Nat} (F : PyData → Bool) (o : c.row = none) (hi : EvI c ti σ H rest.length (dAt rest)) (at0 : c.At H) (hl : rest.length ≤ 1000) (l3 : i3 < σ.length)
    (ht : ∀ H1 x d, d ∈ rest → c.R H H1 → Sl ((wipe σ [i3]).set i3 (some x)) i3 (.dat d) H1 → EvT c tt ((wipe σ [i3]).set i3 (some x)) H1 (!F d)) :
    Ev c (tOp (rEqP c.K) (tLc ti (gName i3) tt (tVar i3) [i3]) (tLst tNil)) σ H (.val (.bl (rest.all F))) := by
  have g := ev_lcD (c := c) (te := tVar i3) (tt := tt) (g := gName i3) (vs := [i3]) rest hi at0 hl (fun d => if F d = true then none else some d) fun j x H1 d hd rr ⟨d', hd', e⟩ => by
    rw [hd] at hd'
    cases hd'
    have sx : Sl ((wipe σ [i3]).set i3 (some x)) i3 (.dat d) H1 := ⟨x, by rw [List.getElem?_set_self (by rw [wipe_length]; exact l3)], d, rfl, e⟩
    refine ⟨_, bind_name, ?_, fun dd h => ?_⟩
    · rw [notIf]
      exact ht H1 x d (List.mem_of_getElem? hd) rr sx
    · split at h
      · cases h
      · cases h
        exact ev_var sx
  have g2 := ev_eqNil g o
  rw [fm_empty rest F (fun d => d)] at g2
  exact g2
end
section
variable {P : Program} {w : World} {K : PySem.W.Frag} {mg : Str → Option Value} {base : Heap}
abbrev PWo : List Str := ["_law_one", "_law_lates", "_law_deep"]
abbrev NWo : List Str := ["_law_one", "_law_lates", "_law_deep", "_law_part"]
theorem bl_worth (T : Tx K mg base) : Binds K (fdOf K "_law_is_worth") PWo [] := T.f_law_is_worth.binds fun _ _ _ _ _ _ us hl => match us, hl with | [_, _, _], _ => rfl
theorem scl_worth : FnScope NWo PWo (defScope (top 53)) := ⟨rfl, rfl, rfl, by decide +kernel, rfl, by decide +kernel, by decide +kernel⟩
theorem okl_isworth (T : Tx K mg base) : ∀ n : Nat, FnOk P w K mg base CX0 (n + 1) (fA K "_law_is_worth") (fdOf K "_law_is_worth") PWo (spOf (pureC K) (preDeep exprD n))
  | 0 => by
    refine T.f_law_is_worth.ok (N := NWo) (k := 0) scl_worth (fun as r h => ?_) fun A outer s H E hr => ?_
    · obtain ⟨d, l, m, rfl, _⟩ := h
      rfl
    · refine ⟨_, pss_cons (ps_if (PW.pt (pw_or (pt_cmpR op_lt (pv 2) pe_int (nomark _)) (pw_or (pt_not (pt_val (pe_isi T.z_isinstance T.z_tuple boot_tuple (pv 0)))) (pw_or (pt_cmpR op_lt (pe_len T.z_len (pv 0)) pe_int (nomark _)) (pw_or1 (pt_not (pt_val (pe_isi T.z_isinstance T.z_str boot_str (pe_ix ix_tup (pv 0) pe_int (fun _ _ => rfl)))))))))) (pss_one (ps_ret pe_bl)) pss_nil) pss_never, ?_⟩
      rintro as r vs ⟨d, l, m, rfl, hm, rfl⟩ ⟨x, _, rfl, hx, y, _, rfl, hy, z, _, rfl, hz, rfl⟩ at0
      have s2 : Sl (start NWo [x, y, z]) 2 (.val (.int m)) H := ⟨z, rfl, hz⟩
      rw [toNat_le (show m ≤ 0 from by omega)]
      exact evS_if (k := true || false) (evT_or (k := true) (l := false) (evT_test ((ev_i0 (ev_var s2) ev_c).bl (decide_eq_true (show m < 1 by omega)))) fun z => by cases z) (fun _ => evS_ret ev_c) fun z => by cases z
  | n + 1 => by
    have G := okl_isworth T n
    refine T.f_law_is_worth.ok (N := NWo) (k := n + 1) scl_worth (fun as r h => ?_) fun A outer s H E hr => ?_
    · obtain ⟨d, l, m, rfl, _⟩ := h
      rfl
    · have hr1 : Room 1 (A.deeper (envOfC "_law_is_worth" (defScope (top 53)) s.heap.objs.size (fA K "_law_is_worth") (.ref (cdOf K "_law_is_worth")))) := hr.mono (by omega)
      refine ⟨_, pss_cons (ps_if (PW.pt (pw_or (pt_cmpR op_lt (pv 2) pe_int (nomark _)) (pw_or (pt_not (pt_val (pe_isi T.z_isinstance T.z_tuple boot_tuple (pv 0)))) (pw_or (pt_cmpR op_lt (pe_len T.z_len (pv 0)) pe_int (nomark _)) (pw_or1 (pt_not (pt_val (pe_isi T.z_isinstance T.z_str boot_str (pe_ix ix_tup (pv 0) pe_int (fun _ _ => rfl)))))))))) (pss_one (ps_ret pe_bl)) pss_nil)
        (pss_cons (ps_if (pt_cmpR op_in_seq (pe_ix ix_tup (pv 0) pe_int (fun _ _ => rfl)) (pe_lst (pa_cons pe_str (pa_cons pe_str pa_nil))) (by rfl))
            (pss_one (ps_ret (pe_and (pe_cmpR op_eq (pe_len T.z_len (pv 0)) pe_int (nomark _)) (pe_one (pe_fn (okl_int T) hr1 T.g_law_is_int T.f_law_is_int (bl_int T) (pa_cons (pe_ix ix_tup (pv 0) pe_int (fun _ _ => rfl)) (pa_cons pe_int (pa_cons (pe_ifExp (pt_cmpR op_eq (pe_ix ix_tup (pv 0) pe_int (fun _ _ => rfl)) pe_str (nomark _)) pe_int (pe_op op_sub (pv 1) pe_int)) pa_nil)))))))) pss_nil)
        (pss_cons (ps_if (PW.pt (pw_or (pt_cmpR op_notIn_seq (pe_ix ix_tup (pv 0) pe_int (fun _ _ => rfl)) (pe_lst (pa_cons pe_str (pa_cons pe_str (pa_cons pe_str pa_nil)))) (by rfl)) (pw_or1 (pt_cmpR op_ne (pe_len T.z_len (pv 0)) pe_int (nomark _))))) (pss_one (ps_ret pe_bl)) pss_nil)
        (pss_one (ps_ret (pe_cmpR (op_eqP hr.units) (pe_lc (own := [("_law_part", 3)]) (g := gName 3) rfl scl_worth.nd (pi_tup (pe_slice sl_tupA (pv 0) (po_some pe_int) po_none)) (blkOk_by (own := [("_law_part", 3)]) (N := NWo) (sc := defScope (top 53)) (by decide +kernel))
          (fun _ _ _ _ _ => pg_name (i := 3) scl_worth.nd rfl (Or.inl rfl) (Or.inr rfl)) (fun _ _ _ _ _ => pts_one (pt_not (pt_val (pe_fn G hr T.g_law_is_worth T.f_law_is_worth (bl_worth T) (pa_cons (pv 3) (pa_cons (pv 1) (pa_cons (pe_op op_sub (pv 2) pe_int) pa_nil))))))) (fun _ _ _ _ _ => pv 3)) (pe_lst pa_nil) (by rfl)))))), ?_⟩
      rintro as r vs ⟨d, l, m, rfl, hm, rfl⟩ ⟨x, _, rfl, hx, y, _, rfl, hy, z, _, rfl, hz, rfl⟩ at0
      have s0 : Sl (start NWo [x, y, z]) 0 (.dat d) H := ⟨x, rfl, hx⟩
      have s1 : Sl (start NWo [x, y, z]) 1 (.val (.int l)) H := ⟨y, rfl, hy⟩
      have s2 : Sl (start NWo [x, y, z]) 2 (.val (.int m)) H := ⟨z, rfl, hz⟩
      refine evS_if (k := decide (m < 1) || !hdD d) (evT_or (evT_test (ev_i0 (ev_var s2) ev_c)) fun _ => ev_hd s0) (fun h => ?_) fun h => ?_
      · have e : exprD m.toNat d l = false := by
          rcases Bool.or_eq_true _ _ ▸ h with q | q
          · rw [toNat_le (by have := of_decide_eq_true q; omega)]
            rfl
          · exact expr_hd (by cases z : hdD d with | false => rfl | true => rw [z] at q; cases q) _ _
        rw [e]
        exact evS_ret ev_c
      rw [Bool.or_eq_false_iff] at h
      obtain ⟨k, hk, hm1⟩ := toNat_succ (show ¬ m ≤ 0 by have := of_decide_eq_false h.1; omega)
      obtain ⟨t, a, r, rfl⟩ := hd_of (nf h.2)
      rw [hk, expr_str]
      have i0 : Ev (pureC K) (tOp (rIxT K) (tVar 0) (tC (.int 0))) (start NWo [x, y, z]) H (.val (.str t)) := (ev_item (c := pureC K) (ds := .str t :: a :: r) 0 (ev_var s0) (by rw [List.length_cons]; omega)).str
      have l0 : Ev (pureC K) (tCB (rLenK K) (tCons (tVar 0) tNil)) (start NWo [x, y, z]) H (.val (.int ((a :: r).length + 1 : Nat))) := ev_len (ev_var s0) rfl
      have dn : ∀ j : Nat, decide (V.int (((a :: r).length + 1 : Nat) : Int) = V.int (j : Int)) = decide ((a :: r).length + 1 = j) := fun j => by
        rw [decide_eq_decide]
        exact ⟨fun z => by have := V.int.inj z; omega, fun z => by rw [z]⟩
      refine evS_if (k := decide (t ∈ numTags)) (evT_test (ev_inStrs numTags i0)) (fun h => ?_) fun h => ?_
      · rw [if_pos (of_decide_eq_true h)]
        refine evS_ret (ev_and ((ev_eq l0 ev_c rfl).bl (dn 2)) fun _ => ev_call (evA_cons (ev_item 1 (ev_var s0) (by rw [List.length_cons, List.length_cons]; omega)) (evA_cons ev_c (evA_one (a := .val (.int (if t = "number" then 1000000 else l - 1))) ?_))) ⟨_, _, _, rfl, rfl⟩ at0)
        refine ev_if (k := decide (t = "number")) (evT_test ((ev_eq i0 ev_c rfl).bl (dec_str.trans (Bool.beq_eq_decide_eq ..)))) (fun q => ?_) fun q => ?_
        · rw [if_pos (of_decide_eq_true q)]
          exact ev_c
        · rw [if_neg (of_decide_eq_false q)]
          exact ev_i0 (ev_var s1) (ev_c (v := .int 1))
      rw [if_neg (of_decide_eq_false h)]
      refine evS_if (k := !decide (t ∈ sumTags) || !decide ((a :: r).length + 1 = 3)) (evT_or (evT_test (ev_notInStrs sumTags i0)) fun _ => evT_test ((ev_ne l0 ev_c rfl).bl (congrArg (!·) (dn 3)))) (fun h => ?_) fun h => ?_
      · rw [if_pos h]
        exact evS_ret ev_c
      · rw [if_neg (by rw [h]; exact Bool.false_ne_true)]
        rw [Bool.or_eq_false_iff] at h
        have hl := of_decide_eq_true (nf h.2)
        refine evS_ret (ev_allL (c := pureC K) (i3 := 3) (fun e => exprD k e l) rfl (evI_tup (ev_from (c := pureC K) (j := 1) 1 (ev_var s0) (by rw [List.length_cons]; omega))) at0 (by show (a :: r).length ≤ 1000; omega) (by show 3 < 4; decide) fun H1 x2 d' _ rr sx => evT_not (evT_val ?_))
        have t1 : Sl ((wipe (start NWo [x, y, z]) [3]).set 3 (some x2)) 1 (.val (.int l)) H1 := Sl.up (c := pureC K) trivial ⟨y, rfl, hy⟩ rr
        have t2 : Sl ((wipe (start NWo [x, y, z]) [3]).set 3 (some x2)) 2 (.val (.int m)) H1 := Sl.up (c := pureC K) trivial ⟨z, rfl, hz⟩ rr
        exact ev_call (evA_cons (ev_var sx) (evA_cons (ev_var t1) (evA_one (ev_i0 (ev_var t2) (ev_c (v := .int 1)))))) ⟨d', l, m - 1, rfl, by omega, by rw [show (m - 1).toNat = k by omega]⟩ (at0.up rr)
end
end KX

set_option maxHeartbeats 4000000
namespace KX
open PySem PySem.Spec PyProof.Rows L2
/-! ### _law_is_tree: the plain part -/
def eqS (t : PyData) (s : Str) : Bool := match t with
  | .str u => decide (u = s)
  | _ => false
theorem eqv_str (t : PyData) (s : Str) : PyData.eqv t (.str s) = eqS t s := by
  cases t <;> rfl
theorem kind_eqS (a : PyData) (r : List PyData) (k : Str) (n : Nat) : kindD (.tuple (a :: r)) k (n : Int) = (decide (r.length + 1 = n) && eqS a k) := by
  cases a with
  | str u => exact kind_at u k r n
  | _ => exact (Bool.and_false _).symm
def goOk (S : List (Str × PyData)) (d : PyData) : Bool := match itemD d 1, itemD d 3 with
  | .str s, .tuple es => (match getS S s with
    | some (.int i) => decide ((es.length : Int) = i)
    | _ => false)
  | _, _ => false
def ltreeD : Nat → PyData → Int → List (Str × PyData) → Bool
  | 0, _, _, _ => false
  | n + 1, d, l, S =>
    if kindD d "end" 2 then exprD n (itemD d 1) l
    else if kindD d "if" 4 then testD n (itemD d 1) l && (fromD d 2).all fun e => ltreeD n e l S
    else if !(kindD d "go" 4 && goOk S d) || !moveD (itemD d 2) then false
    else (fromD (itemD d 3) 0).all fun e => exprD n e l
theorem ltree_hd {d : PyData} (h : hdD d = false) (n : Nat) (l : Int) (S : List (Str × PyData)) : ltreeD n d l S = false := by
  cases n with
  | zero => rfl
  | succ n =>
    show (if kindD d "end" 2 then exprD n (itemD d 1) l else if kindD d "if" 4 then testD n (itemD d 1) l && (fromD d 2).all fun e => ltreeD n e l S
      else if !(kindD d "go" 4 && goOk S d) || !moveD (itemD d 2) then false else (fromD (itemD d 3) 0).all fun e => exprD n e l) = false
    rw [kind_hd h _ _ (by decide), kind_hd h _ _ (by decide), kind_hd h _ _ (by decide)]
    rfl
theorem ltree_str (n : Nat) (k : Str) (r : List PyData) (l : Int) (S : List (Str × PyData)) : ltreeD (n + 1) (.tuple (.str k :: r)) l S =
    if k = "end" then (decide (r.length + 1 = 2) && exprD n (itemD (.tuple (.str k :: r)) 1) l)
    else if !decide (r.length + 1 = 4) then false
    else if k = "if" then (testD n (itemD (.tuple (.str k :: r)) 1) l && (fromD (.tuple (.str k :: r)) 2).all fun e => ltreeD n e l S)
    else if !(decide (k = "go") && goOk S (.tuple (.str k :: r))) then false
    else if !moveD (itemD (.tuple (.str k :: r)) 2) then false
    else (fromD (itemD (.tuple (.str k :: r)) 3) 0).all fun e => exprD n e l := by
  show (if kindD (.tuple (.str k :: r)) "end" (2 : Nat) then exprD n (itemD (.tuple (.str k :: r)) 1) l else if kindD (.tuple (.str k :: r)) "if" (4 : Nat) then testD n (itemD (.tuple (.str k :: r)) 1) l && (fromD (.tuple (.str k :: r)) 2).all fun e => ltreeD n e l S
      else if !(kindD (.tuple (.str k :: r)) "go" (4 : Nat) && goOk S (.tuple (.str k :: r))) || !moveD (itemD (.tuple (.str k :: r)) 2) then false else (fromD (itemD (.tuple (.str k :: r)) 3) 0).all fun e => exprD n e l) = _
  simp only [kind_at]
  by_cases h1 : k = "end"
  · have h2 : ¬ k = "if" := by rw [h1]; decide +kernel
    have h3 : ¬ k = "go" := by rw [h1]; decide +kernel
    rw [if_pos h1, decide_eq_true h1, decide_eq_false h2, decide_eq_false h3]
    cases decide (r.length + 1 = 2) <;> cases decide (r.length + 1 = 4) <;> rfl
  · rw [if_neg h1, decide_eq_false h1]
    by_cases h2 : k = "if"
    · have h3 : ¬ k = "go" := by rw [h2]; decide +kernel
      rw [if_pos h2, decide_eq_true h2, decide_eq_false h3]
      cases decide (r.length + 1 = 2) <;> cases decide (r.length + 1 = 4) <;> rfl
    · rw [if_neg h2, decide_eq_false h2]
      cases decide (r.length + 1 = 2) <;> cases decide (r.length + 1 = 4) <;> cases decide (k = "go") <;> cases goOk S (.tuple (.str k :: r)) <;> cases moveD (itemD (.tuple (.str k :: r)) 2) <;> rfl
/-- how the law looks at a test -/
theorem test_at (n : Nat) (a : PyData) (r : List PyData) (l : Int) : testD (n + 1) (.tuple (a :: r)) l =
    if decide (r.length + 1 = 3) && eqS a "less" then r.all (fun e => exprD n e l)
    else (PyData.eqv (.tuple (a :: r)) (.tuple [.str "empty"]) || (decide (r.length + 1 = 2) && (eqS a "head" && wordD (itemD (.tuple (a :: r)) 1) 1 1))) := by
  have e0 : PyData.eqv (.tuple (a :: r)) (.tuple [.str "empty"]) = (eqS a "empty" && decide (r.length + 1 = 1)) := by
    show (PyData.eqv a (.str "empty") && PyData.eqvAll r []) = _
    rw [eqv_str]
    cases r with
    | nil => rfl
    | cons b r => rfl
  rw [e0]
  show (if kindD (.tuple (a :: r)) "empty" (1 : Nat) then true else if kindD (.tuple (a :: r)) "head" (2 : Nat) then wordD (itemD (.tuple (a :: r)) 1) 1 1 else kindD (.tuple (a :: r)) "less" (3 : Nat) && r.all fun e => exprD n e l) = _
  simp only [kind_eqS]
  by_cases h1 : r.length + 1 = 1
  · rw [decide_eq_true h1, decide_eq_false (show ¬ r.length + 1 = 2 by omega), decide_eq_false (show ¬ r.length + 1 = 3 by omega)]
    cases eqS a "empty" <;> rfl
  · rw [decide_eq_false h1]
    by_cases h2 : r.length + 1 = 2
    · rw [decide_eq_true h2, decide_eq_false (show ¬ r.length + 1 = 3 by omega)]
      cases eqS a "empty" <;> cases eqS a "head" <;> cases wordD (itemD (.tuple (a :: r)) 1) 1 1 <;> rfl
    · rw [decide_eq_false h2]
      cases decide (r.length + 1 = 3) <;> cases eqS a "empty" <;> cases eqS a "less" <;> cases (r.all fun e => exprD n e l) <;> rfl
theorem move_at (a : PyData) (r : List PyData) (w : PyData) (hw : (a :: r)[(a :: r).length - 1]? = some w) : moveD (.tuple (a :: r)) =
    (wordD w 0 12 && ((eqS a "give" && decide (r.length + 1 = 2)) || (eqS a "take" && (decide (r.length + 1 = 3) && inD (itemD (.tuple (a :: r)) 1) 0 1)))) := by
  show (if kindD (.tuple (a :: r)) "give" (2 : Nat) then wordD (itemD (.tuple (a :: r)) 1) 0 12 else kindD (.tuple (a :: r)) "take" (3 : Nat) && (inD (itemD (.tuple (a :: r)) 1) 0 1 && wordD (itemD (.tuple (a :: r)) 2) 0 12)) = _
  simp only [kind_eqS]
  match r, hw with
  | [], hw => cases wordD w 0 12 <;> cases eqS a "give" <;> cases eqS a "take" <;> rfl
  | [b], hw =>
    cases hw
    show (if (true && eqS a "give") = true then wordD w 0 12 else (false && eqS a "take") && _) = (wordD w 0 12 && ((eqS a "give" && true) || (eqS a "take" && (false && _))))
    cases wordD w 0 12 <;> cases eqS a "give" <;> cases eqS a "take" <;> rfl
  | [b, d], hw =>
    cases hw
    show (if (false && eqS a "give") = true then _ else (true && eqS a "take") && (inD b 0 1 && wordD w 0 12)) = (wordD w 0 12 && ((eqS a "give" && false) || (eqS a "take" && (true && inD b 0 1))))
    cases wordD w 0 12 <;> cases eqS a "give" <;> cases eqS a "take" <;> cases inD b 0 1 <;> rfl
  | b :: d :: e :: r, hw =>
    rw [decide_eq_false (show ¬ (b :: d :: e :: r).length + 1 = 2 by simp only [List.length_cons]; omega), decide_eq_false (show ¬ (b :: d :: e :: r).length + 1 = 3 by simp only [List.length_cons]; omega)]
    cases wordD w 0 12 <;> cases eqS a "give" <;> cases eqS a "take" <;> rfl
section
variable {c : Ct} {σ : L2.St} {H0 : Hp} {te : TE} {tA : TT} {a b : AV} {d : PyData}
theorem evS_ifAsg {u : TS} {k : Bool} {i : Nat} (ht : EvT c tA σ H0 k) (h1 : k = true → Ev c te σ H0 b) (k1 : k = true → ∀ x H, c.R H0 H → b.is x H → EvS c u (σ.set i (some x)) H a) (k2 : k = false → EvS c u σ H0 a) : EvS c (tSeq (tIfS tA (tAsg te (gName i)) tNext) u) σ H0 a := fun H r D q => ht H r _ fun H1 r1 => by
  cases k with
  | true => exact iteT (h1 rfl H1 (r.trans r1) _ fun x H2 r2 hx => k1 rfl x H2 (r.trans (r1.trans r2)) hx H2 (.refl H2) D fun v H3 r3 y => q v H3 (r1.trans (r2.trans r3)) y)
  | false => exact iteF (k2 rfl H1 (r.trans r1) D fun v H2 r2 x => q v H2 (r1.trans r2) x)
theorem ev_tup1s {s : Str} (z : s.length ≤ 1000) : Ev c (tTup (tCons (tC (.str s)) tNil)) σ H0 (.dat (.tuple [.str s])) :=
  (ev_tup (ps := [(· = .str s)]) (evA_one (ev_c.dStr z)) (by show 1 ≤ 1000; decide)).wk fun x H ⟨d, ⟨ds, ⟨e, r, e1, e2, e3⟩, e4⟩, h⟩ => ⟨d, by rw [e4, e1, e2, e3], h⟩
/-- == with a text -/
theorem ev_isS {s : Str} (h : Ev c te σ H0 (.dat d)) (z : s.length ≤ 1000) : Ev c (tOp (rEqP c.K) te (tC (.str s))) σ H0 (.val (.bl (eqS d s))) :=
  (ev_eqD h (ev_c.dStr z) (Nat.le_trans (Nat.min_le_right _ _) (by show 0 ≤ 64; decide))).bl (eqv_str d s)
end
end KX

set_option maxHeartbeats 8000000
namespace KX
open PySem PySem.Spec PyProof.Rows L2
/-- the sizes: ints from 0 to 4 -/
def SzOk (S : List (Str × PyData)) : Prop := ∀ k d, getS S k = some d → ∃ i : Int, d = .int i ∧ 0 ≤ i ∧ i ≤ 4
def preLTree (n : Nat) (as : List AV) (r : AV) : Prop := ∃ d l S m, as = [.dat d, .val (.int l), .dct S, .val (.int m)] ∧ m ≤ (n : Int) ∧ SzOk S ∧ r = .val (.bl (ltreeD m.toNat d l S))
theorem Sl.mv {c : Ct} {σ τ : L2.St} {i : Nat} {a : AV} {H0 H1 : Hp} (h : Sl σ i a H0) (g : c.R H0 H1) (e : τ[i]? = σ[i]? := by rfl) (o : a.ok c.row := by first | trivial | assumption) : Sl τ i a H1 := by
  obtain ⟨x, e1, q⟩ := h.up (c := c) o g
  exact ⟨x, e.trans e1, q⟩
theorem test_no {n : Nat} {a : PyData} {l : Int} (h : (!isTup a || PyData.eqv a (.tuple [])) = true) : testD n a l = false := by
  cases n with
  | zero => rfl
  | succ n =>
    have e : ∀ k m, 1 ≤ m → kindD a k m = false := fun k m hm => by
      cases a with
      | tuple ds =>
        cases ds with
        | nil => rfl
        | cons x r => cases h
      | _ => rfl
    show (if kindD a "empty" 1 then true else if kindD a "head" 2 then wordD (itemD a 1) 1 1 else kindD a "less" 3 && _) = false
    rw [e _ _ (by decide), e _ _ (by decide), e _ _ (by decide)]
    rfl
theorem goOk_none {S : List (Str × PyData)} {t sa : Str} {b e : PyData} (h : getS S sa = none) : goOk S (.tuple [.str t, .str sa, b, e]) = false := by
  cases e with
  | tuple es =>
    show (match getS S sa with | some (.int i) => decide ((es.length : Int) = i) | _ => false) = false
    rw [h]
  | _ => rfl
theorem move_no {a : PyData} (h : isTup a = false) : moveD a = false := by
  cases a <;> first | rfl | cases h
theorem bne {b : Bool} {p : Prop} (h : b = false → p) : ¬ b = true → p := fun z => h (by
  cases b with
  | true => exact (z rfl).elim
  | false => rfl)
section
variable {P : Program} {w : World} {K : PySem.W.Frag} {mg : Str → Option Value} {base : Heap}
abbrev PTr : List Str := ["_law_one", "_law_lates", "_law_sizes", "_law_deep"]
abbrev NTr : List Str := ["_law_one", "_law_lates", "_law_sizes", "_law_deep", "_law_test", "_law_good", "_law_move_here", "_law_part"]
theorem bl_istree (T : Tx K mg base) : Binds K (fdOf K "_law_is_tree") PTr [] := T.f_law_is_tree.binds fun _ _ _ _ _ _ us hl => match us, hl with | [_, _, _, _], _ => rfl
theorem scl_istree : FnScope NTr PTr (defScope (top 54)) := ⟨rfl, rfl, rfl, by decide +kernel, rfl, by decide +kernel, by decide +kernel⟩
theorem okl_istree (T : Tx K mg base) : ∀ n : Nat, FnOk P w K mg base CX0 (n + 2) (fA K "_law_is_tree") (fdOf K "_law_is_tree") PTr (spOf (pureC K) (preLTree n))
  | 0 => by
    refine T.f_law_is_tree.ok (N := NTr) (k := 1) scl_istree (fun as r h => ?_) fun A outer s H E hr => ?_
    · obtain ⟨d, l, S, m, rfl, _⟩ := h
      rfl
    · refine ⟨_, pss_cons (ps_if (PW.pt (pw_or (pt_cmpR op_lt (pv 3) pe_int (nomark _)) (pw_or (pt_not (pt_val (pe_isi T.z_isinstance T.z_tuple boot_tuple (pv 0)))) (pw_or (pt_cmpR op_lt (pe_len T.z_len (pv 0)) pe_int (nomark _)) (pw_or1 (pt_not (pt_val (pe_isi T.z_isinstance T.z_str boot_str (pe_ix ix_tup (pv 0) pe_int (fun _ _ => rfl)))))))))) (pss_one (ps_ret pe_bl)) pss_nil) pss_never, ?_⟩
      rintro as r vs ⟨d, l, S, m, rfl, hm, _, rfl⟩ ⟨x, _, rfl, hx, y, _, rfl, hy, u, _, rfl, hu, z, _, rfl, hz, rfl⟩ at0
      have s2 : Sl (start NTr [x, y, u, z]) 3 (.val (.int m)) H := ⟨z, rfl, hz⟩
      rw [toNat_le (show m ≤ 0 from by omega)]
      exact evS_if (k := true || false) (evT_or (k := true) (l := false) (evT_test ((ev_i0 (ev_var s2) ev_c).bl (decide_eq_true (show m < 1 by omega)))) fun z => by cases z) (fun _ => evS_ret ev_c) fun z => by cases z
  | n + 1 => by
    have G := okl_istree T n
    have GW := fun j => okl_isworth (P := P) (w := w) T j
    refine T.f_law_is_tree.ok (N := NTr) (k := n + 2) scl_istree (fun as r h => ?_) fun A outer s H E hr => ?_
    · obtain ⟨d, l, S, m, rfl, _⟩ := h
      rfl
    · have hrj : ∀ j, j ≤ n + 2 → Room j (A.deeper (envOfC "_law_is_tree" (defScope (top 54)) s.heap.objs.size (fA K "_law_is_tree") (.ref (cdOf K "_law_is_tree")))) := fun j h => hr.mono h
      have hu1 := room_u1 hr
      have hu64 := hr.units
      refine ⟨_, pss_cons (ps_if (PW.pt (pw_or (pt_cmpR op_lt (pv 3) pe_int (nomark _)) (pw_or (pt_not (pt_val (pe_isi T.z_isinstance T.z_tuple boot_tuple (pv 0)))) (pw_or (pt_cmpR op_lt (pe_len T.z_len (pv 0)) pe_int (nomark _)) (pw_or1 (pt_not (pt_val (pe_isi T.z_isinstance T.z_str boot_str (pe_ix ix_tup (pv 0) pe_int (fun _ _ => rfl)))))))))) (pss_one (ps_ret pe_bl)) pss_nil)
        (pss_cons (ps_if (pt_cmpR op_eq (pe_ix ix_tup (pv 0) pe_int (fun _ _ => rfl)) pe_str (nomark _))
            (pss_one (ps_ret (pe_and (pe_cmpR op_eq (pe_len T.z_len (pv 0)) pe_int (nomark _)) (pe_one (pe_fn (GW n) (hrj (n + 1) (by omega)) T.g_law_is_worth T.f_law_is_worth (bl_worth T) (pa_cons (pe_ix ix_tup (pv 0) pe_int (fun _ _ => rfl)) (pa_cons (pv 1) (pa_cons (pe_op op_sub (pv 3) pe_int) pa_nil)))))))) pss_nil)
        (pss_cons (ps_if (pt_cmpR op_ne (pe_len T.z_len (pv 0)) pe_int (nomark _)) (pss_one (ps_ret pe_bl)) pss_nil)
        (pss_cons (ps_if (pt_cmpR op_eq (pe_ix ix_tup (pv 0) pe_int (fun _ _ => rfl)) pe_str (nomark _))
            (pss_cons (ps_set (i := 4) scl_istree.nd rfl (Or.inl rfl) (pe_ix ix_tup (pv 0) pe_int (fun _ _ => rfl)))
            (pss_cons (ps_if (PW.pt (pw_or (pt_cmpR op_lt (pv 3) pe_int (nomark _)) (pw_or (pt_not (pt_val (pe_isi T.z_isinstance T.z_tuple boot_tuple (pv 4)))) (pw_or1 (pt_cmpR (op_eqP hu64) (pv 4) (pe_tup pa_nil) (by rfl)))))) (pss_one (ps_ret pe_bl)) pss_nil)
            (pss_cons (ps_set (i := 5) scl_istree.nd rfl (Or.inl rfl) (pe_or (pe_cmpR (op_eqP hu64) (pv 4) (pe_tup (pa_cons pe_str pa_nil)) (by rfl)) (pe_one (pe_and (pe_cmpR op_eq (pe_len T.z_len (pv 4)) pe_int (nomark _)) (pe_and (pe_cmpR (op_eqP hu64) (pe_ix ix_tup (pv 4) pe_int (fun _ _ => rfl)) pe_str (nomark _))
                (pe_one (pe_fn (okl_word T) (hrj 1 (by omega)) T.g_law_is_word T.f_law_is_word (bl_word T) (pa_cons (pe_ix ix_tup (pv 4) pe_int (fun _ _ => rfl)) (pa_cons pe_int (pa_cons pe_int pa_nil))))))))))
            (pss_cons (ps_if (PW.pt (pw_and (pt_cmpR op_eq (pe_len T.z_len (pv 4)) pe_int (nomark _)) (pw_and1 (pt_cmpR (op_eqP hu64) (pe_ix ix_tup (pv 4) pe_int (fun _ _ => rfl)) pe_str (nomark _)))))
                (pss_one (ps_set (i := 5) scl_istree.nd rfl (Or.inl rfl) (pe_cmpR (op_eqP hu64) (pe_lc (own := [("_law_part", 7)]) (g := gName 7) rfl scl_istree.nd (pi_tup (pe_slice sl_tupA (pv 4) (po_some pe_int) po_none)) (blkOk_by (own := [("_law_part", 7)]) (N := NTr) (sc := defScope (top 54)) (by decide +kernel))
                  (fun _ _ _ _ _ => pg_name (i := 7) scl_istree.nd rfl (Or.inl rfl) (Or.inr rfl)) (fun _ _ _ _ _ => pts_one (pt_not (pt_val (pe_fn (GW n) (hrj (n + 1) (by omega)) T.g_law_is_worth T.f_law_is_worth (bl_worth T) (pa_cons (pv 7) (pa_cons (pv 1) (pa_cons (pe_op op_sub (pv 3) pe_int) pa_nil))))))) (fun _ _ _ _ _ => pv 7)) (pe_lst pa_nil) (by rfl)))) pss_nil)
            (pss_one (ps_ret (pe_and (pv 5) (pe_one (pe_cmpR (op_eqP hu64) (pe_lc (own := [("_law_part", 7)]) (g := gName 7) rfl scl_istree.nd (pi_tup (pe_slice sl_tupA (pv 0) (po_some pe_int) po_none)) (blkOk_by (own := [("_law_part", 7)]) (N := NTr) (sc := defScope (top 54)) (by decide +kernel))
                (fun _ _ _ _ _ => pg_name (i := 7) scl_istree.nd rfl (Or.inl rfl) (Or.inr rfl)) (fun _ _ _ _ _ => pts_one (pt_not (pt_val (pe_fn G hr T.g_law_is_tree T.f_law_is_tree (bl_istree T) (pa_cons (pv 7) (pa_cons (pv 1) (pa_cons (pv 2) (pa_cons (pe_op op_sub (pv 3) pe_int) pa_nil)))))))) (fun _ _ _ _ _ => pv 7)) (pe_lst pa_nil) (by rfl))))))))))
            pss_nil)
        (pss_cons (ps_if (PW.pt (pw_or (pt_cmpR op_ne (pe_ix ix_tup (pv 0) pe_int (fun _ _ => rfl)) pe_str (nomark _)) (pw_or (pt_not (pt_val (pe_isi T.z_isinstance T.z_str boot_str (pe_ix ix_tup (pv 0) pe_int (fun _ _ => rfl))))) (pw_or (pt_cmp (pc_dnotin hu1 (pe_ix ix_tup (pv 0) pe_int (fun _ _ => rfl)) (pv 2)))
            (pw_or (pt_not (pt_val (pe_isi T.z_isinstance T.z_tuple boot_tuple (pe_ix ix_tup (pv 0) pe_int (fun _ _ => rfl))))) (pw_or1 (pt_cmpR op_ne (pe_len T.z_len (pe_ix ix_tup (pv 0) pe_int (fun _ _ => rfl))) (pe_dget hu1 (pv 2) (pe_ix ix_tup (pv 0) pe_int (fun _ _ => rfl)) (fun _ _ => rfl)) (by rfl)))))))) (pss_one (ps_ret pe_bl)) pss_nil)
        (pss_cons (ps_set (i := 6) scl_istree.nd rfl (Or.inl rfl) (pe_ix ix_tup (pv 0) pe_int (fun _ _ => rfl)))
        (pss_cons (ps_if (PW.pt (pw_or (pt_not (pt_val (pe_isi T.z_isinstance T.z_tuple boot_tuple (pv 6)))) (pw_or (pt_cmpR op_lt (pe_len T.z_len (pv 6)) pe_int (nomark _)) (pw_or1 (pt_not (pt_val (pe_fn (okl_word T) (hrj 1 (by omega)) T.g_law_is_word T.f_law_is_word (bl_word T) (pa_cons (pe_ix ix_tup (pv 6) (pe_un un_neg pe_int) (fun _ _ => rfl)) (pa_cons pe_int (pa_cons pe_int pa_nil)))))))))) (pss_one (ps_ret pe_bl)) pss_nil)
        (pss_cons (ps_if (pt_not (PW.pt (pw_or (PW.pt (pw_and (pt_cmpR (op_eqP hu64) (pe_ix ix_tup (pv 6) pe_int (fun _ _ => rfl)) pe_str (nomark _)) (pw_and1 (pt_cmpR op_eq (pe_len T.z_len (pv 6)) pe_int (nomark _))))) (pw_or1 (PW.pt (pw_and (pt_cmpR (op_eqP hu64) (pe_ix ix_tup (pv 6) pe_int (fun _ _ => rfl)) pe_str (nomark _)) (pw_and (pt_cmpR op_eq (pe_len T.z_len (pv 6)) pe_int (nomark _))
            (pw_and1 (pt_val (pe_fn (okl_int T) (hrj 1 (by omega)) T.g_law_is_int T.f_law_is_int (bl_int T) (pa_cons (pe_ix ix_tup (pv 6) pe_int (fun _ _ => rfl)) (pa_cons pe_int (pa_cons pe_int pa_nil))))))))))))) (pss_one (ps_ret pe_bl)) pss_nil)
        (pss_one (ps_ret (pe_cmpR (op_eqP hu64) (pe_lc (own := [("_law_part", 7)]) (g := gName 7) rfl scl_istree.nd (pi_tup (pe_ix ix_tup (pv 0) pe_int (fun _ _ => rfl))) (blkOk_by (own := [("_law_part", 7)]) (N := NTr) (sc := defScope (top 54)) (by decide +kernel))
            (fun _ _ _ _ _ => pg_name (i := 7) scl_istree.nd rfl (Or.inl rfl) (Or.inr rfl)) (fun _ _ _ _ _ => pts_one (pt_not (pt_val (pe_fn (GW n) (hrj (n + 1) (by omega)) T.g_law_is_worth T.f_law_is_worth (bl_worth T) (pa_cons (pv 7) (pa_cons (pv 1) (pa_cons (pe_op op_sub (pv 3) pe_int) pa_nil))))))) (fun _ _ _ _ _ => pv 7)) (pe_lst pa_nil) (by rfl))))))))))), ?_⟩
      rintro as r vs ⟨d, l, S, m, rfl, hm, hS, rfl⟩ ⟨x, _, rfl, hx, y, _, rfl, hy, u, _, rfl, hu, z, _, rfl, hz, rfl⟩ at0
      have s0 : Sl (start NTr [x, y, u, z]) 0 (.dat d) H := ⟨x, rfl, hx⟩
      have s1 : Sl (start NTr [x, y, u, z]) 1 (.val (.int l)) H := ⟨y, rfl, hy⟩
      have s2 : Sl (start NTr [x, y, u, z]) 2 (.dct S) H := ⟨u, rfl, hu⟩
      have s3 : Sl (start NTr [x, y, u, z]) 3 (.val (.int m)) H := ⟨z, rfl, hz⟩
      refine evS_if (k := decide (m < 1) || !hdD d) (evT_or (evT_test (ev_i0 (ev_var s3) ev_c)) fun _ => ev_hd s0) (fun h => ?_) fun h => ?_
      · have e : ltreeD m.toNat d l S = false := by
          rcases Bool.or_eq_true _ _ ▸ h with q | q
          · rw [toNat_le (by have := of_decide_eq_true q; omega)]
            rfl
          · exact ltree_hd (by cases z : hdD d with | false => rfl | true => rw [z] at q; cases q) _ _ _
        rw [e]
        exact evS_ret ev_c
      rw [Bool.or_eq_false_iff] at h
      obtain ⟨k, hk, hm1⟩ := toNat_succ (show ¬ m ≤ 0 by have := of_decide_eq_false h.1; omega)
      obtain ⟨t, a, r, rfl⟩ := hd_of (nf h.2)
      have km : (m - 1).toNat = k := by omega
      rw [hk, ltree_str]
      have i0 : Ev (pureC K) (tOp (rIxT K) (tVar 0) (tC (.int 0))) (start NTr [x, y, u, z]) H (.val (.str t)) := (ev_item (c := pureC K) (ds := .str t :: a :: r) 0 (ev_var s0) (by rw [List.length_cons]; omega)).str
      have l0 : Ev (pureC K) (tCB (rLenK K) (tCons (tVar 0) tNil)) (start NTr [x, y, u, z]) H (.val (.int ((a :: r).length + 1 : Nat))) := ev_len (ev_var s0) rfl
      have dn : ∀ (q : List PyData) (j : Nat), decide (V.int ((q.length + 1 : Nat) : Int) = V.int (j : Int)) = decide (q.length + 1 = j) := fun q j => by
        rw [decide_eq_decide]
        exact ⟨fun z => by have := V.int.inj z; omega, fun z => by rw [z]⟩
      refine evS_if (k := decide (t = "end")) (evT_test ((ev_eq i0 ev_c rfl).bl (dec_str.trans (Bool.beq_eq_decide_eq ..)))) (fun h => ?_) fun h => ?_
      · rw [if_pos (of_decide_eq_true h)]
        exact evS_ret (ev_and ((ev_eq l0 ev_c rfl).bl (dn _ 2)) fun _ => ev_call (evA_cons (ev_item 1 (ev_var s0) (by rw [List.length_cons, List.length_cons]; omega)) (evA_cons (ev_var s1) (evA_one (ev_i0 (ev_var s3) (ev_c (v := .int 1)))))) ⟨_, l, m - 1, rfl, by omega, by rw [km]⟩ at0)
      rw [if_neg (of_decide_eq_false h)]
      refine evS_if (k := !decide ((a :: r).length + 1 = 4)) (evT_test ((ev_ne l0 ev_c rfl).bl (congrArg (!·) (dn _ 4)))) (fun h => ?_) fun h => ?_
      · rw [if_pos h]
        exact evS_ret ev_c
      rw [if_neg (by rw [h]; exact Bool.false_ne_true)]
      have hl := of_decide_eq_true (nf h)
      obtain ⟨b, e, rfl⟩ : ∃ b e, r = [b, e] := match r, hl with
        | [b, e], _ => ⟨b, e, rfl⟩
      refine evS_if (k := decide (t = "if")) (evT_test ((ev_eq i0 ev_c rfl).bl (dec_str.trans (Bool.beq_eq_decide_eq ..)))) (fun h => ?_) fun h => ?_
      · rw [if_pos (of_decide_eq_true h)]
        show EvS _ _ _ _ (.val (.bl (testD k a l && [b, e].all fun e => ltreeD k e l S)))
        refine evS_set (i := 4) (b := .dat a) (ev_item (j := 1) 1 (ev_var s0) (by show 1 < 4; decide)) fun x4 H1 r1 hx4 => ?_
        show EvS (pureC K) _ [some x, some y, some u, some z, some x4, none, none, none] H1 _
        have at1 := at0.up r1
        have s4 : Sl [some x, some y, some u, some z, some x4, none, none, none] 4 (.dat a) H1 := ⟨x4, rfl, hx4⟩
        have s3' : Sl [some x, some y, some u, some z, some x4, none, none, none] 3 (.val (.int m)) H1 := s3.mv (c := pureC K) r1
        refine evS_if (k := decide (m < 2) || (!isTup a || PyData.eqv a (.tuple []))) (evT_or (evT_test (ev_i0 (ev_var s3') ev_c)) fun _ => evT_or (evT_not (evT_val (ev_isi (ev_var s4) (kit_tup a)))) fun _ => evT_test (ev_eqD (ev_var s4) ev_nilT (Nat.le_trans (Nat.min_le_right _ _) (by decide)))) (fun h => ?_) fun h => ?_
        · have e : testD k a l = false := by
            rcases Bool.or_eq_true _ _ ▸ h with q | q
            · have : k = 0 := by have := of_decide_eq_true q; omega
              rw [this]
              rfl
            · exact test_no q
          rw [e]
          exact evS_ret ev_c
        rw [Bool.or_eq_false_iff, Bool.or_eq_false_iff] at h
        obtain ⟨h1, h2, h3⟩ := h
        have h1 := of_decide_eq_false h1
        obtain ⟨k', rfl⟩ : ∃ k', k = k' + 1 := ⟨k - 1, by omega⟩
        have km2 : (m - 2).toNat = k' := by omega
        obtain ⟨ts, rfl⟩ := tup_of (nf h2)
        obtain ⟨ta, tr, rfl⟩ : ∃ ta tr, ts = ta :: tr := match ts, h3 with
          | ta :: tr, _ => ⟨ta, tr, rfl⟩
        have lt : Ev (pureC K) (tCB (rLenK K) (tCons (tVar 4) tNil)) [some x, some y, some u, some z, some x4, none, none, none] H1 (.val (.int (tr.length + 1 : Nat))) := ev_len (ev_var s4) rfl
        have t0 : Ev (pureC K) (tOp (rIxT K) (tVar 4) (tC (.int 0))) [some x, some y, some u, some z, some x4, none, none, none] H1 (.dat ta) := ev_item (c := pureC K) (j := 0) 0 (ev_var s4) (by rw [List.length_cons]; omega)
        refine evS_set (i := 5) (b := .val (.bl (PyData.eqv (.tuple (ta :: tr)) (.tuple [.str "empty"]) || (decide (tr.length + 1 = 2) && (eqS ta "head" && wordD (itemD (.tuple (ta :: tr)) 1) 1 1))))) (ev_or (ev_eqD (ev_var s4) (ev_tup1s (by decide +kernel)) (Nat.le_trans (Nat.min_le_right _ _) (by decide))) fun _ => ev_and ((ev_eq lt ev_c rfl).bl (dn tr 2)) fun q => ev_and (ev_isS t0 (by decide +kernel)) fun _ => ev_call (evA_cons (ev_item 1 (ev_var s4) (by have := of_decide_eq_true q; rw [List.length_cons]; omega)) (evA_cons ev_c (evA_one ev_c))) ⟨_, _, _, rfl, rfl⟩ at1) fun x5 H2 r2 hx5 => ?_
        show EvS (pureC K) _ [some x, some y, some u, some z, some x4, some x5, none, none] H2 _
        have at2 := at1.up r2
        have s4' : Sl [some x, some y, some u, some z, some x4, some x5, none, none] 4 (.dat (.tuple (ta :: tr))) H2 := s4.mv (c := pureC K) r2
        have lt2 : Ev (pureC K) (tCB (rLenK K) (tCons (tVar 4) tNil)) [some x, some y, some u, some z, some x4, some x5, none, none] H2 (.val (.int (tr.length + 1 : Nat))) := ev_len (ev_var s4') rfl
        have fin : ∀ (g : Bool) (x6 : V) (H3 : Hp), (pureC K).R H H3 → x6 = .bl g → EvS (pureC K) (tRet (tAndV (tVar 5) (tOp (rEqP K) (tLc (iTup K (tSl (rSlA K) (tVar 0) (tPart (tC (.int 2))) tNoPart)) (gName 7) (tNot (tB (tCall (spOf (pureC K) (preLTree n)) [] E0 (tCons (tVar 7) (tCons (tVar 1) (tCons (tVar 2) (tCons (tOp (rI0 fun i j => .int (i - j)) (tVar 3) (tC (.int 1))) tNil))))))) (tVar 7) [7]) (tLst tNil)))) [some x, some y, some u, some z, some x4, some x6, none, none] H3 (.val (.bl (g && [b, e].all fun e => ltreeD (k' + 1) e l S))) := by
          intro g x6 H3 r3 e6
          have a0 : Sl [some x, some y, some u, some z, some x4, some x6, none, none] 0 (.dat (.tuple [.str t, .tuple (ta :: tr), b, e])) H3 := s0.mv (c := pureC K) r3
          refine evS_ret (ev_and (ev_var (a := .val (.bl g)) ⟨x6, rfl, e6⟩) fun _ => ev_allL (c := pureC K) (rest := [b, e]) (i3 := 7) (fun e => ltreeD (k' + 1) e l S) rfl (evI_tup (ev_from (c := pureC K) (j := 2) 2 (ev_var a0) (by show 2 ≤ 4; decide))) (at0.up r3) (by show 2 ≤ 1000; decide) (by show 7 < 8; decide) fun H4 x7 d' _ rr sx => evT_not (evT_val ?_))
          have b1 : Sl ((wipe [some x, some y, some u, some z, some x4, some x6, none, none] [7]).set 7 (some x7)) 1 (.val (.int l)) H4 := s1.mv (c := pureC K) (r3.trans rr)
          have b2 : Sl ((wipe [some x, some y, some u, some z, some x4, some x6, none, none] [7]).set 7 (some x7)) 2 (.dct S) H4 := s2.mv (c := pureC K) (r3.trans rr)
          have b3 : Sl ((wipe [some x, some y, some u, some z, some x4, some x6, none, none] [7]).set 7 (some x7)) 3 (.val (.int m)) H4 := s3.mv (c := pureC K) (r3.trans rr)
          exact ev_call (evA_cons (ev_var sx) (evA_cons (ev_var b1) (evA_cons (ev_var b2) (evA_one (ev_i0 (ev_var b3) (ev_c (v := .int 1))))))) ⟨d', l, S, m - 1, rfl, by omega, hS, by rw [km]⟩ (at0.up (r3.trans rr))
        refine evS_ifAsg (k := decide (tr.length + 1 = 3) && eqS ta "less") (b := .val (.bl (tr.all fun e => exprD k' e l))) (evT_and (evT_test ((ev_eq lt2 ev_c rfl).bl (dn tr 3))) fun _ => evT_test (ev_isS (ev_item (c := pureC K) (j := 0) 0 (ev_var s4') (by rw [List.length_cons]; omega)) (by decide +kernel))) (fun h => ?_) (fun h x6 H3 r3 h6 => ?_) fun h => ?_
        · rw [Bool.and_eq_true] at h
          have tl := of_decide_eq_true h.1
          refine ev_allL (c := pureC K) (rest := tr) (i3 := 7) (fun e => exprD k' e l) rfl (evI_tup (ev_from (c := pureC K) (j := 1) 1 (ev_var s4') (by rw [List.length_cons]; omega))) at2 (by omega) (by show 7 < 8; decide) fun H4 x7 d' _ rr sx => evT_not (evT_val ?_)
          have b1 : Sl ((wipe [some x, some y, some u, some z, some x4, some x5, none, none] [7]).set 7 (some x7)) 1 (.val (.int l)) H4 := s1.mv (c := pureC K) (r1.trans (r2.trans rr))
          have b3 : Sl ((wipe [some x, some y, some u, some z, some x4, some x5, none, none] [7]).set 7 (some x7)) 3 (.val (.int m)) H4 := s3.mv (c := pureC K) (r1.trans (r2.trans rr))
          exact ev_call (evA_cons (ev_var sx) (evA_cons (ev_var b1) (evA_one (ev_i0 (ev_var b3) (ev_c (v := .int 2)))))) ⟨d', l, m - 2, rfl, by omega, by rw [km2]⟩ (at2.up rr)
        · rw [test_at, if_pos h]
          exact fin _ x6 H3 (r1.trans (r2.trans r3)) h6
        · rw [test_at, if_neg (by rw [h]; exact Bool.false_ne_true)]
          exact fin _ x5 H2 (r1.trans r2) hx5
      rw [if_neg (of_decide_eq_false h)]
      show EvS _ _ _ _ (.val (.bl (if !(decide (t = "go") && goOk S (.tuple [.str t, a, b, e])) then false else if !moveD b then false else (fromD e 0).all fun e => exprD k e l)))
      have a1 : Ev (pureC K) (tOp (rIxT K) (tVar 0) (tC (.int 1))) (start NTr [x, y, u, z]) H (.dat a) := ev_item (c := pureC K) (j := 1) 1 (ev_var s0) (by show 1 < 4; decide)
      have a3 : Ev (pureC K) (tOp (rIxT K) (tVar 0) (tC (.int 3))) (start NTr [x, y, u, z]) H (.dat e) := ev_item (c := pureC K) (j := 3) 3 (ev_var s0) (by show 3 < 4; decide)
      refine evS_if (k := !(decide (t = "go") && goOk S (.tuple [.str t, a, b, e]))) ?_ (fun h => ?_) fun h => ?_
      · have c1 : Ev (pureC K) (tOp rNe (tOp (rIxT K) (tVar 0) (tC (.int 0))) (tC (.str "go"))) (start NTr [x, y, u, z]) H (.val (.bl (!decide (t = "go")))) := (ev_ne i0 ev_c rfl).bl (congrArg (!·) (dec_str.trans (Bool.beq_eq_decide_eq ..)))
        refine (evT_or (k := !decide (t = "go")) (l := !goOk S (.tuple [.str t, a, b, e])) (evT_test c1) fun _ => ?_).to (Bool.not_and ..).symm
        cases hA : isStr a with
        | false =>
          have e1 : goOk S (.tuple [.str t, a, b, e]) = false := by cases a <;> first | rfl | cases hA
          rw [e1]
          exact evT_or (k := !false) (l := false) (evT_not (evT_val ((ev_isi a1 (kit_str a)).bl hA))) fun z => by cases z
        | true =>
          obtain ⟨sa, rfl⟩ := str_of hA
          refine evT_or (k := !true) (l := !goOk S (.tuple [.str t, .str sa, b, e])) (evT_not (evT_val (ev_isi a1 (kit_str (.str sa))))) fun _ => ?_
          cases hG : getS S sa with
          | none =>
            have e1 : goOk S (.tuple [.str t, .str sa, b, e]) = false := goOk_none hG
            rw [e1]
            exact evT_or (k := true) (l := false) (evT_val ((ev_dnotin (ev_var s2) a1.str).bl (by rw [hG]; rfl))) fun z => by cases z
          | some dv =>
            obtain ⟨i, rfl, _, _⟩ := hS _ _ hG
            refine evT_or (k := false) (l := !goOk S (.tuple [.str t, .str sa, b, e])) (evT_val ((ev_dnotin (ev_var s2) a1.str).bl (by rw [hG]; rfl))) fun _ => ?_
            cases hE : isTup e with
            | false =>
              have e1 : goOk S (.tuple [.str t, .str sa, b, e]) = false := by cases e <;> first | rfl | cases hE
              rw [e1]
              exact evT_or (k := !false) (l := false) (evT_not (evT_val ((ev_isi a3 (kit_tup e)).bl hE))) fun z => by cases z
            | true =>
              obtain ⟨es, rfl⟩ := tup_of hE
              refine evT_or (k := !true) (l := !goOk S (.tuple [.str t, .str sa, b, .tuple es])) (evT_not (evT_val (ev_isi a3 (kit_tup (.tuple es))))) fun _ => evT_test ((ev_ne (ev_len a3 rfl) (ev_dget (ev_var s2) a1.str hG).int rfl).bl ?_)
              have e1 : goOk S (.tuple [.str t, .str sa, b, .tuple es]) = decide ((es.length : Int) = i) := by
                show (match getS S sa with | some (.int i) => decide ((es.length : Int) = i) | _ => false) = _
                rw [hG]
              rw [e1]
              congr 1
              rw [decide_eq_decide]
              exact ⟨fun z => V.int.inj z, fun z => by rw [z]⟩
      · rw [if_pos h]
        exact evS_ret ev_c
      rw [if_neg (by rw [h]; exact Bool.false_ne_true)]
      have hgo := nf h
      rw [Bool.and_eq_true] at hgo
      obtain ⟨es, i, rfl, hei, hi4⟩ : ∃ es, ∃ i : Int, e = .tuple es ∧ (es.length : Int) = i ∧ i ≤ 4 := by
        have g := hgo.2
        unfold goOk at g
        split at g
        · rename_i sa es q1 q2
          have q2 : e = .tuple es := q2
          split at g
          · rename_i i q3
            obtain ⟨i', e1, _, e3⟩ := hS _ _ q3
            cases e1
            exact ⟨es, i, q2, of_decide_eq_true g, e3⟩
          · cases g
        · cases g
      refine evS_set (i := 6) (b := .dat b) (ev_item (j := 2) 2 (ev_var s0) (by show 2 < 4; decide)) fun x6 H1 r1 hx6 => ?_
      show EvS (pureC K) _ [some x, some y, some u, some z, none, none, some x6, none] H1 _
      have at1 := at0.up r1
      have s6 : Sl [some x, some y, some u, some z, none, none, some x6, none] 6 (.dat b) H1 := ⟨x6, rfl, hx6⟩
      have s0' : Sl [some x, some y, some u, some z, none, none, some x6, none] 0 (.dat (.tuple [.str t, a, b, .tuple es])) H1 := s0.mv (c := pureC K) r1
      have last : EvS (pureC K) (tRet (tOp (rEqP K) (tLc (iTup K (tOp (rIxT K) (tVar 0) (tC (.int 3)))) (gName 7) (tNot (tB (tCall (spOf (pureC K) (preDeep exprD n)) [] E0 (tCons (tVar 7) (tCons (tVar 1) (tCons (tOp (rI0 fun i j => .int (i - j)) (tVar 3) (tC (.int 1))) tNil)))))) (tVar 7) [7]) (tLst tNil))) [some x, some y, some u, some z, none, none, some x6, none] H1 (.val (.bl (es.all fun e => exprD k e l))) := by
        refine evS_ret (ev_allL (c := pureC K) (rest := es) (i3 := 7) (fun e => exprD k e l) rfl (evI_tup (ev_item (c := pureC K) (j := 3) 3 (ev_var s0') (by show 3 < 4; decide))) at1 (by omega) (by show 7 < 8; decide) fun H4 x7 d' _ rr sx => evT_not (evT_val ?_))
        have b1 : Sl ((wipe [some x, some y, some u, some z, none, none, some x6, none] [7]).set 7 (some x7)) 1 (.val (.int l)) H4 := s1.mv (c := pureC K) (r1.trans rr)
        have b3 : Sl ((wipe [some x, some y, some u, some z, none, none, some x6, none] [7]).set 7 (some x7)) 3 (.val (.int m)) H4 := s3.mv (c := pureC K) (r1.trans rr)
        exact ev_call (evA_cons (ev_var sx) (evA_cons (ev_var b1) (evA_one (ev_i0 (ev_var b3) (ev_c (v := .int 1)))))) ⟨d', l, m - 1, rfl, by omega, by rw [km]⟩ (at1.up rr)
      show EvS _ _ _ _ (.val (.bl (if !moveD b then false else es.all fun e => exprD k e l)))
      cases hB : isTup b with
      | false =>
        rw [move_no hB]
        exact evS_if (k := !false || false) (evT_or (k := !false) (l := false) (evT_not (evT_val ((ev_isi (ev_var s6) (kit_tup b)).bl hB))) fun z => by cases z) (fun _ => evS_ret ev_c) fun z => by cases z
      | true =>
      obtain ⟨ms, rfl⟩ := tup_of hB
      have lm : Ev (pureC K) (tCB (rLenK K) (tCons (tVar 6) tNil)) [some x, some y, some u, some z, none, none, some x6, none] H1 (.val (.int ms.length)) := ev_len (ev_var s6) rfl
      cases hL : decide (2 ≤ ms.length) with
      | false =>
        have hl2 : ms.length < 2 := by have := of_decide_eq_false hL; omega
        have e1 : moveD (.tuple ms) = false := by
          match ms, hl2 with
          | [], _ => rfl
          | [q], _ =>
            show (if kindD (.tuple [q]) "give" (2 : Nat) then _ else kindD (.tuple [q]) "take" (3 : Nat) && _) = false
            simp only [kind_eqS]
            rfl
        rw [e1]
        exact evS_if (k := !true || (true || false)) (evT_or (k := !true) (l := true || false) (evT_not (evT_val (ev_isi (ev_var s6) (kit_tup (.tuple ms))))) fun _ => evT_or (k := true) (l := false) (evT_test ((ev_i0 lm ev_c).bl (decide_eq_true (show (ms.length : Int) < 2 by omega)))) fun z => by cases z) (fun _ => evS_ret ev_c) fun z => by cases z
      | true =>
      have hl2 := of_decide_eq_true hL
      obtain ⟨ma, mr, rfl⟩ : ∃ ma mr, ms = ma :: mr := match ms, hl2 with
        | ma :: mr, _ => ⟨ma, mr, rfl⟩
      have hlast : (ma :: mr).length - 1 < (ma :: mr).length := by rw [List.length_cons]; omega
      obtain ⟨mw, hmw⟩ : ∃ mw, (ma :: mr)[(ma :: mr).length - 1]? = some mw := ⟨_, List.getElem?_eq_getElem hlast⟩
      have imw : atI (ma :: mr) (-1) = some mw := by
        unfold atI ixN
        rw [if_neg (by decide), if_pos (by rw [List.length_cons]; omega)]
        show (ma :: mr)[((-1 : Int) + ((ma :: mr).length : Int)).toNat]? = _
        rw [show ((-1 : Int) + ((ma :: mr).length : Int)).toNat = (ma :: mr).length - 1 by omega]
        exact hmw
      have iw : Ev (pureC K) (tOp (rIxT K) (tVar 6) (tUn (rU fun i => .int (-i)) (tC (.int 1)))) [some x, some y, some u, some z, none, none, some x6, none] H1 (.dat mw) := ev_ix (ev_var s6) (ev_neg (ev_c (v := .int 1))) imw
      have im : Ev (pureC K) (tOp (rIxT K) (tVar 6) (tC (.int 0))) [some x, some y, some u, some z, none, none, some x6, none] H1 (.dat ma) := ev_item (c := pureC K) (j := 0) 0 (ev_var s6) (by rw [List.length_cons]; omega)
      rw [move_at ma mr mw hmw]
      refine evS_if (k := !true || (false || !wordD mw 0 12)) (evT_or (k := !true) (l := false || !wordD mw 0 12) (evT_not (evT_val (ev_isi (ev_var s6) (kit_tup (.tuple (ma :: mr)))))) fun _ => evT_or (k := false) (l := !wordD mw 0 12) (evT_test ((ev_i0 lm ev_c).bl (decide_eq_false (show ¬ (((ma :: mr).length : Nat) : Int) < 2 by omega)))) fun _ => evT_not (evT_val (ev_call (evA_cons iw (evA_cons ev_c (evA_one ev_c))) ⟨_, _, _, rfl, rfl⟩ at1))) (fun h => ?_) fun h => ?_
      · have e1 : wordD mw 0 12 = false := by
          cases q : wordD mw 0 12 with
          | false => rfl
          | true => rw [q] at h; cases h
        rw [e1]
        exact evS_ret ev_c
      have e1 : wordD mw 0 12 = true := by
        cases q : wordD mw 0 12 with
        | true => rfl
        | false => rw [q] at h; cases h
      rw [e1, Bool.true_and]
      have lm2 : ∀ j : Nat, decide (V.int (((ma :: mr).length : Nat) : Int) = V.int (j : Int)) = decide (mr.length + 1 = j) := fun j => dn mr j
      refine evS_if (evT_not (evT_or (evT_and (evT_test (ev_isS im (by decide +kernel))) fun _ => evT_test ((ev_eq lm ev_c rfl).bl (lm2 2))) fun _ => evT_and (evT_test (ev_isS im (by decide +kernel))) fun _ => evT_and (evT_test ((ev_eq lm ev_c rfl).bl (lm2 3))) fun q => evT_val (ev_call (evA_cons (ev_item (c := pureC K) (j := 1) 1 (ev_var s6) (by have := of_decide_eq_true q; rw [List.length_cons]; omega)) (evA_cons ev_c (evA_one ev_c))) ⟨_, _, _, rfl, rfl⟩ at1))) (fun h => ?_) fun h => ?_
      · rw [if_pos h]
        exact evS_ret ev_c
      · rw [if_neg (by rw [h]; exact Bool.false_ne_true)]
        exact last
end
end KX

set_option maxHeartbeats 8000000
namespace KX
open PySem PySem.Spec PyProof.Rows L2
/-! ### _law_is_program -/
def Tri (ds : List PyData) : Prop := ∀ d ∈ ds, ∃ s b t, d = .tuple [.str s, .int b, t]
def szJ (ds : List PyData) (j : Nat) : List (Str × PyData) := foldK (kAt ds) (vAt ds) j
def badAt (ds : List PyData) (j : Nat) : Bool := !wordD (.str (kAt ds j)) 1 8 || ((getS (szJ ds j) (kAt ds j)).isSome || !inD (vAt ds j) 0 4)
def treeOk (S : List (Str × PyData)) (d : PyData) : Bool := ltreeD 30 (itemD d 2) (intOf (itemD d 1)) S
def lawD (ds : List PyData) : Bool :=
  if (List.range ds.length).any (badAt ds) then false
  else if !ds.all (treeOk (szD ds)) then false
  else (decide ((1 : Int) ≤ ds.length) && decide ((ds.length : Int) ≤ 8)) && decide (sumD ds ≤ 400)
def preLaw (as : List AV) (r : AV) : Prop := ∃ ds, as = [.dat (.tuple ds)] ∧ Tri ds ∧ ds.length ≤ 1000 ∧ r = .val (.bl (lawD ds))
theorem ltree_wf : ∀ {n : Nat} {d : PyData} {l : Int} {S : List (Str × PyData)}, SzOk S → ltreeD n d l S = true → wfD n d = true
  | 0, _, _, _, _, h => by cases h
  | n + 1, d, l, S, hS, h => by
    have h : (if kindD d "end" 2 then exprD n (itemD d 1) l else if kindD d "if" 4 then testD n (itemD d 1) l && (fromD d 2).all fun e => ltreeD n e l S
      else if !(kindD d "go" 4 && goOk S d) || !moveD (itemD d 2) then false else (fromD (itemD d 3) 0).all fun e => exprD n e l) = true := h
    split at h
    · rename_i h1
      obtain ⟨r, rfl, hl⟩ := kinds (n := 2) h1
      match r, hl with
      | [e], _ =>
        refine wf_mid (by decide +kernel) (by decide +kernel) (by show 1 ≤ 4; decide) fun x hx => ?_
        rw [List.mem_singleton.mp hx]
        exact expr_wf h
    split at h
    · rename_i h1
      obtain ⟨r, rfl, hl⟩ := kinds (n := 4) h1
      match r, hl with
      | [t, a, b], _ =>
        have h : (testD n t l && (ltreeD n a l S && (ltreeD n b l S && true))) = true := h
        simp only [Bool.and_eq_true] at h
        refine wf_mid (by decide +kernel) (by decide +kernel) (by show 3 ≤ 4; decide) fun x hx => ?_
        simp only [List.mem_cons, List.not_mem_nil, or_false] at hx
        rcases hx with rfl | rfl | rfl
        · exact test_wf h.1
        · exact ltree_wf hS h.2.1
        · exact ltree_wf hS h.2.2.1
    split at h
    · cases h
    rename_i h2
    simp only [Bool.or_eq_true, not_or, Bool.not_eq_true, Bool.not_eq_false', Bool.and_eq_true] at h2
    obtain ⟨⟨h3, h4⟩, _⟩ := h2
    obtain ⟨r, rfl, hl⟩ := kinds (n := 4) h3
    match r, hl with
    | [s, m, e], _ =>
      unfold goOk at h4
      split at h4
      · rename_i sa es q1 q2
        have q2 : e = .tuple es := q2
        split at h4
        · rename_i i q3
          obtain ⟨i', e1, _, e3⟩ := hS _ _ q3
          cases e1
          have := of_decide_eq_true h4
          rw [q2] at h ⊢
          exact wf_go (by omega) fun x hx => expr_wf (List.all_eq_true.mp h x hx)
        · cases h4
      · cases h4
section
variable {c : Ct} {σ : L2.St} {H0 H1 : Hp} {g : TG} {ds : List PyData}
theorem items_tup {a : Addr} (hd : Dat H0 (.ref a) (.tuple ds)) : Items c (Itt c.K a) H0 ds.length (dAt ds) := by
  cases hd with
  | @tup _ xs _ h1 h2 =>
    refine ⟨fun H j g lt => ?_, fun H g => ⟨xs, SqT.of (g.tup h1), by rw [h2.length]; exact Nat.le_refl _⟩, fun H j x H' g lt y => ?_⟩
    · have l : j < xs.length := by rw [h2.length]; exact lt
      exact ⟨xs, xs[j], SqT.of (g.tup h1), List.getElem?_eq_getElem l⟩
    · obtain ⟨e, y⟩ := y
      exact ⟨e, (g.datL h2).get (y xs (SqT.of (g.tup h1)))⟩
theorem evS_at {t : TS} {D : Ends} {a : AV} (h : EvS c t σ H0 a) (q : ∀ v H4, c.R H0 H4 → a.is v H4 → D.rt v H4) : t D σ H0 := h H0 (.refl H0) D q
/-- over a tuple that stood before what the loop changes -/
theorem forX {t : TS} {D : Ends} {i : Nat} (s0 : Sl σ i (.dat (.tuple ds)) H0) (r1 : c.R H0 H1) (I : Nat → L2.St → Hp → Prop) (h0 : I 0 σ H1)
    (hb : ∀ j τ H2 x (D' : Ends) e, ds[j]? = some e → Dat H2 x e → c.R H0 H2 → I j τ H2 → (∀ τ3 H3, c.R H0 H3 → I (j + 1) τ3 H3 → D'.nx τ3 H3) → D'.rt = D.rt → g x τ H2 fun τ2 H3 => t D' τ2 H3)
    (hr : ∀ τ H2, c.R H0 H2 → I ds.length τ H2 → D.nx τ H2) : tFor (iTup c.K (tVar i)) g t D σ H1 := by
  obtain ⟨x, e, _, rfl, hd⟩ := s0
  obtain ⟨a, rfl⟩ : ∃ a, x = .ref a := by cases hd; exact ⟨_, rfl⟩
  have it := items_tup (c := c) hd
  have sq : ∃ xs, SqT c.K H1 a xs := by
    cases hd with
    | tup h1 h2 => exact ⟨_, SqT.of (r1.tup h1)⟩
  refine ⟨.ref a, e, a, rfl, sq, fun i m τ H => m = ds.length - i ∧ i ≤ ds.length ∧ c.R H0 H ∧ I i τ H, ⟨ds.length, by omega, Nat.zero_le _, r1, h0⟩, ?_⟩
  rintro i m τ H ⟨rfl, hi2, ri, hI⟩
  by_cases e : i = ds.length
  · subst e
    exact .inl ⟨it.stop H ri, hr τ H ri hI⟩
  · have lt : i < ds.length := by omega
    refine .inr ⟨it.go H i ri lt, fun τ' H' => i + 1 ≤ ds.length ∧ c.R H0 H' ∧ I (i + 1) τ' H', fun τ' H' ⟨a1, a2, a3⟩ => ⟨ds.length - (i + 1), by omega, rfl, a1, a2, a3⟩, fun x H' y => ?_⟩
    obtain ⟨rfl, dd, hdd, hx⟩ := it.yl H i x H' ri lt y
    exact hb i τ H' x _ dd hdd hx ri hI (fun τ3 H3 r3 x => ⟨lt, r3, x⟩) rfl
end
section
variable {P : Program} {w : World} {K : PySem.W.Frag} {mg : Str → Option Value} {base : Heap}
abbrev NLp : List Str := ["_law_value_here", "_law_sizes", "_law_name", "_law_lates", "_law_tree_here"]
theorem bl_isprog (T : Tx K mg base) : Binds K (fdOf K "_law_is_program") ["_law_value_here"] [] := T.f_law_is_program.binds fun _ _ _ _ _ _ us hl => match us, hl with | [_], _ => rfl
theorem scl_isprog : FnScope NLp ["_law_value_here"] (defScope (top 55)) := ⟨rfl, rfl, rfl, by decide +kernel, rfl, by decide +kernel, by decide +kernel⟩
theorem okl_isprog (T : Tx K mg base) : FnOk P w K mg base CX0 63 (fA K "_law_is_program") (fdOf K "_law_is_program") ["_law_value_here"] (spOf (pureC K) preLaw) := by
  have GT := okl_istree (P := P) (w := w) T 30
  have GN := okl_nodes (P := P) (w := w) T 30
  refine T.f_law_is_program.ok (N := NLp) (k := 62) scl_isprog (fun as r h => ?_) fun A outer s H E hr => ?_
  · obtain ⟨ds, rfl, _⟩ := h
    rfl
  · have hrj : ∀ j, j ≤ 62 → Room j (A.deeper (envOfC "_law_is_program" (defScope (top 55)) s.heap.objs.size (fA K "_law_is_program") (.ref (cdOf K "_law_is_program")))) := fun j h => hr.mono h
    have hu1 := room_u1 hr
    have hu64 := hr.units
    refine ⟨_, pss_cons (ps_set (i := 1) scl_isprog.nd rfl (Or.inr rfl) pe_dnewK)
      (pss_cons (ps_for PassesOwn.never rfl (pi_tup (pv 0)) (pg_tup rfl (pgs_cons (pg_name (i := 2) scl_isprog.nd rfl (Or.inl rfl) (Or.inr rfl)) (pgs_cons (pg_name (i := 3) scl_isprog.nd rfl (Or.inl rfl) (Or.inr rfl)) (pgs_cons (pg_name (i := 4) scl_isprog.nd rfl (Or.inl rfl) (Or.inr rfl)) pgs_nil))))
          (pss_cons (ps_if (PW.pt (pw_or (pt_not (pt_val (pe_fn (okl_word T) (hrj 1 (by omega)) T.g_law_is_word T.f_law_is_word (bl_word T) (pa_cons (pv 2) (pa_cons pe_int (pa_cons pe_int pa_nil)))))) (pw_or (pt_cmp (pc_din hu1 (pv 2) (pv 1))) (pw_or1 (pt_not (pt_val (pe_fn (okl_int T) (hrj 1 (by omega)) T.g_law_is_int T.f_law_is_int (bl_int T) (pa_cons (pv 3) (pa_cons pe_int (pa_cons pe_int pa_nil)))))))))) (pss_one (ps_ret pe_bl)) pss_nil)
          (pss_one (ps_dput hu1 (pv 1) (pv 2) (pv 3) (by rfl)))))
      (pss_cons (ps_if (pt_cmpR (op_neP hu64) (pe_lc (own := [("_law_name", 2), ("_law_lates", 3), ("_law_tree_here", 4)]) (g := gTup K 3 (gCons (gName 2) (gCons (gName 3) (gCons (gName 4) gNil)))) rfl scl_isprog.nd (pi_tup (pv 0)) (blkOk_by (own := [("_law_name", 2), ("_law_lates", 3), ("_law_tree_here", 4)]) (N := NLp) (sc := defScope (top 55)) (by decide +kernel))
          (fun _ _ _ _ _ => pg_tup rfl (pgs_cons (pg_name (i := 2) scl_isprog.nd rfl (Or.inl rfl) (Or.inr rfl)) (pgs_cons (pg_name (i := 3) scl_isprog.nd rfl (Or.inl rfl) (Or.inr rfl)) (pgs_cons (pg_name (i := 4) scl_isprog.nd rfl (Or.inl rfl) (Or.inr rfl)) pgs_nil))))
          (fun _ _ _ _ _ => pts_one (pt_not (pt_val (pe_fn GT (hrj 32 (by omega)) T.g_law_is_tree T.f_law_is_tree (bl_istree T) (pa_cons (pv 4) (pa_cons (pv 3) (pa_cons (pv 1) (pa_cons pe_int pa_nil)))))))) (fun _ _ _ _ _ => pe_int)) (pe_lst pa_nil) (by rfl)) (pss_one (ps_ret pe_bl)) pss_nil)
      (pss_one (ps_ret (pe_and (pe_chain op_le op_le pe_int (pe_len T.z_len (pv 0)) pe_int) (pe_one (pe_cmpR op_le (pe_callB (cr_sum rfl) (by rfl) T.z_sum boot_sum2 (pa_cons (pe_lc (own := [("_law_name", 2), ("_law_lates", 3), ("_law_tree_here", 4)]) (g := gTup K 3 (gCons (gName 2) (gCons (gName 3) (gCons (gName 4) gNil)))) rfl scl_isprog.nd (pi_tup (pv 0)) (blkOk_by (own := [("_law_name", 2), ("_law_lates", 3), ("_law_tree_here", 4)]) (N := NLp) (sc := defScope (top 55)) (by decide +kernel))
          (fun _ _ _ _ _ => pg_tup rfl (pgs_cons (pg_name (i := 2) scl_isprog.nd rfl (Or.inl rfl) (Or.inr rfl)) (pgs_cons (pg_name (i := 3) scl_isprog.nd rfl (Or.inl rfl) (Or.inr rfl)) (pgs_cons (pg_name (i := 4) scl_isprog.nd rfl (Or.inl rfl) (Or.inr rfl)) pgs_nil)))) (fun _ _ _ _ _ => pts_nil) (fun _ _ _ _ _ => pe_fn GN hr T.g_law_nodes T.f_law_nodes (bl_nodes T) (pa_cons (pv 4) pa_nil))) pa_nil)) pe_int (nomark _)))))))), ?_⟩
    rintro as r vs ⟨ds, rfl, hT, hlen, rfl⟩ ⟨x, _, rfl, hx, rfl⟩ at0
    have s0 : Sl (start NLp [x]) 0 (.dat (.tuple ds)) H := ⟨x, rfl, hx⟩
    have tAt : ∀ {j : Nat} {e : PyData}, ds[j]? = some e → ∃ s b t, e = .tuple [.str s, .int b, t] ∧ kAt ds j = s ∧ vAt ds j = .int b := fun {j e} he => by
      obtain ⟨s, b, t, rfl⟩ := hT e (List.mem_of_getElem? he)
      refine ⟨s, b, t, rfl, ?_, ?_⟩
      · unfold kAt
        rw [he]
        rfl
      · unfold vAt
        rw [he]
        rfl
    intro H' r' Dd hq p hp
    show tSeq _ _ Dd [some x, some (.ref p), none, none, none] (upd H' p (.dK []))
    have atH := at0.up r'
    have hrow : ∀ rr, (pureC K).row = some rr → RowOk K rr H' := fun rr z => by cases z
    have sx : Sl [some x, some (.ref p), none, none, none] 0 (.dat (.tuple ds)) H' := s0.mv (c := pureC K) r'
    refine forX (c := pureC K) (i := 0) sx (.laid hp) (fun j τ H2 => ∃ o1 o2 o3 kvs, τ = [some x, some (.ref p), o1, o2, o3] ∧ H2 p = some (.dK kvs) ∧ KvL H2 kvs (szJ ds j) ∧ j ≤ ds.length ∧ (List.range j).any (badAt ds) = false) ⟨none, none, none, [], rfl, upd_same, .nil, Nat.zero_le _, rfl⟩ (fun j τ H2 y D' e he hy r2 hI hn hrt => ?_) fun τ H2 r2 hI => ?_
    · obtain ⟨o1, o2, o3, kvs, rfl, hk, hkv, hj, hb⟩ := hI
      obtain ⟨s', b, t, rfl, k1, k2⟩ := tAt he
      have at2 := atH.up r2
      obtain ⟨v1, v2, v3, a1, a2, a3, hB⟩ := gtup3 (c := pureC K) (i1 := 2) (i2 := 3) (i3 := 4) hy
      refine hB _ _ ?_
      show tSeq _ _ D' [some x, some (.ref p), some v1, some v2, some v3] H2
      have sn : Sl [some x, some (.ref p), some v1, some v2, some v3] 2 (.dat (.str s')) H2 := ⟨v1, rfl, _, rfl, a1⟩
      have sl : Sl [some x, some (.ref p), some v1, some v2, some v3] 3 (.dat (.int b)) H2 := ⟨v2, rfl, _, rfl, a2⟩
      have ss : Sl [some x, some (.ref p), some v1, some v2, some v3] 1 (.dct (szJ ds j)) H2 := ⟨_, rfl, p, kvs, _, rfl, hk, rfl, hkv⟩
      have eb : badAt ds j = (!wordD (.str s') 1 8 || ((getS (szJ ds j) s').isSome || !inD (.int b) 0 4)) := by
        unfold badAt
        rw [k1, k2]
      have ar : (List.range (j + 1)).any (badAt ds) = badAt ds j := by
        rw [List.range_succ, List.any_append, hb]
        show (false || (badAt ds j || false)) = _
        rw [Bool.false_or, Bool.or_false]
      have hlt : j < ds.length := by
        rcases Nat.lt_or_ge j ds.length with q | q
        · exact q
        · rw [List.getElem?_eq_none q] at he
          cases he
      refine (evT_or (evT_not (evT_val (ev_call (pre := preWord) (r := .val (.bl (wordD (.str s') 1 8))) (evA_cons (ev_var sn) (evA_cons ev_c (evA_one ev_c))) ⟨_, _, _, rfl, rfl⟩ at2))) fun _ => evT_or (evT_val (ev_din (ev_var ss) (ev_var sn).str)) fun _ => evT_not (evT_val (ev_call (pre := preIn) (r := .val (.bl (inD (.int b) 0 4))) (evA_cons (ev_var sl) (evA_cons ev_c (evA_one ev_c))) ⟨_, _, _, rfl, rfl⟩ at2))) H2 (.refl H2) _ fun H3 r3 => ?_
      rw [← eb]
      cases q : badAt ds j with
      | true =>
        refine iteT ?_
        show D'.rt (.bl false) H3
        rw [hrt]
        refine hq _ H3 (r2.trans r3) ?_
        have : (List.range ds.length).any (badAt ds) = true := List.any_eq_true.mpr ⟨j, List.mem_range.mpr hlt, q⟩
        show V.bl false = V.bl (lawD ds)
        unfold lawD
        rw [if_pos this]
      | false =>
        have x3 := AV.keepK (c := pureC K) (p := fun _ => True) r3 hk
        have kv3 := KvL.up (c := pureC K) r3 hkv
        refine iteF ⟨v2, rfl, .ref p, rfl, v1, rfl, p, upd H3 p (.dK (putK kvs (.inr s') v2)), rfl, ?_, ?_⟩
        · have e1 : v1 = .str s' := by cases a1; rfl
          rw [e1]
          exact DPut.k (k := .inr s') x3 (by rw [kv3.length]; exact size_ok (by have := foldK_len (kAt ds) (vAt ds) j; unfold szJ; omega))
        · refine hn _ _ ((r2.trans r3).fresh hp hrow) ⟨some v1, some v2, some v3, _, rfl, upd_same, ?_, hlt, by rw [ar, q]⟩
          have nt : ∀ b' ys, H3 b' = some (.tup ys) → upd H3 p (.dK (putK kvs (.inr s') v2)) b' = some (.tup ys) := fun b' ys e => by
            rw [upd_ne (fun w => by subst w; rw [x3] at e; cases e)]
            exact e
          have := (kv3.put s' (r3.dat a2)).mono nt
          have es : szJ ds (j + 1) = putS (szJ ds j) s' (.int b) := by
            show putS (szJ ds j) (kAt ds j) (vAt ds j) = _
            rw [k1, k2]
          rw [es]
          exact this
    · obtain ⟨o1, o2, o3, kvs, rfl, hk, hkv, _, hb⟩ := hI
      have at2 := atH.up r2
      have hS : SzOk (szD ds) := fun s' d hg => by
        obtain ⟨j, hj, _, hd⟩ := get_fold _ _ _ _ _ hg
        obtain ⟨s2, b, t, _, _, k2⟩ := tAt (List.getElem?_eq_getElem hj)
        have nb := List.any_eq_false.mp hb j (List.mem_range.mpr hj)
        have nb : badAt ds j = false := by
          cases q : badAt ds j with
          | false => rfl
          | true => rw [q] at nb; exact (nb rfl).elim
        unfold badAt at nb
        rw [Bool.or_eq_false_iff, Bool.or_eq_false_iff] at nb
        obtain ⟨i, e, h1, h2⟩ := in_int (nf nb.2.2)
        exact ⟨i, by rw [← hd, e], h1, h2⟩
      have s0' : Sl [some x, some (.ref p), o1, o2, o3] 0 (.dat (.tuple ds)) H2 := sx.mv (c := pureC K) r2
      have s1' : Sl [some x, some (.ref p), o1, o2, o3] 1 (.dct (szD ds)) H2 := ⟨_, rfl, p, kvs, _, rfl, hk, rfl, hkv⟩
      show tSeq _ _ Dd [some x, some (.ref p), o1, o2, o3] H2
      refine evS_at (c := pureC K) (D := Dd) (σ := [some x, some (.ref p), o1, o2, o3]) (a := .val (.bl (lawD ds))) ?_ fun v H4 r4 y => hq v H4 (r2.trans r4) y
      unfold lawD
      rw [if_neg (by rw [hb]; exact Bool.false_ne_true)]
      have g1 := ev_lcD (c := pureC K) (σ := [some x, some (.ref p), o1, o2, o3]) (te := tC (.int 1)) (tt := tNot (tB (tCall (spOf (pureC K) (preLTree 30)) [] E0 (tCons (tVar 4) (tCons (tVar 3) (tCons (tVar 1) (tCons (tC (.int 30)) tNil))))))) (vs := [2, 3, 4]) (g := gTup K 3 (gCons (gName 2) (gCons (gName 3) (gCons (gName 4) gNil)))) ds (evI_tup (ev_var s0')) at2 hlen (fun d => if treeOk (szD ds) d = true then none else some (.int 1)) fun j y H3 d hd rr ⟨d', hd', hy⟩ => by
        rw [hd] at hd'
        cases hd'
        obtain ⟨s', b, t, rfl, k1, k2⟩ := tAt hd
        obtain ⟨v1, v2, v3, a1, a2, a3, hB⟩ := bind_tup3 (c := pureC K) (σ := [some x, some (.ref p), o1, o2, o3]) (vs := [2, 3, 4]) (i1 := 2) (i2 := 3) (i3 := 4) hy fun _ _ _ => rfl
        refine ⟨_, hB, ?_, fun dd h => ?_⟩
        · rw [notIf]
          exact evT_not (evT_val (ev_call (pre := preLTree 30) (evA_cons (ev_var (a := .dat t) ⟨v3, rfl, _, rfl, a3⟩) (evA_cons (ev_var (a := .dat (.int b)) ⟨v2, rfl, _, rfl, a2⟩).int (evA_cons (ev_var (a := .dct (szD ds)) (s1'.mv (c := pureC K) rr)) (evA_one (ev_c (v := .int 30)))))) ⟨t, b, szD ds, 30, rfl, by decide, hS, rfl⟩ (at2.up rr)))
        · split at h
          · cases h
          · cases h
            exact (ev_c (v := .int 1)).dInt
      have g2 := ev_neNil g1 rfl
      rw [fm_empty ds (treeOk (szD ds)) (fun _ => .int 1)] at g2
      refine evS_if (evT_test g2) (fun h => ?_) fun h => ?_
      · rw [if_pos h]
        exact evS_ret ev_c
      rw [if_neg (by rw [h]; exact Bool.false_ne_true)]
      have allw := List.all_eq_true.mp (nf h)
      have g3 := ev_lcD (c := pureC K) (σ := [some x, some (.ref p), o1, o2, o3]) (te := tCall (spOf (pureC K) (preNodes 30)) [] E0 (tCons (tVar 4) tNil)) (tt := tYes) (vs := [2, 3, 4]) (g := gTup K 3 (gCons (gName 2) (gCons (gName 3) (gCons (gName 4) gNil)))) ds (evI_tup (ev_var s0')) at2 hlen (fun d => some (.int (nodesD 30 (itemD d 2)))) fun j y H3 d hd rr ⟨d', hd', hy⟩ => by
        rw [hd] at hd'
        cases hd'
        obtain ⟨s', b, t, rfl, k1, k2⟩ := tAt hd
        obtain ⟨v1, v2, v3, a1, a2, a3, hB⟩ := bind_tup3 (c := pureC K) (σ := [some x, some (.ref p), o1, o2, o3]) (vs := [2, 3, 4]) (i1 := 2) (i2 := 3) (i3 := 4) hy fun _ _ _ => rfl
        refine ⟨_, hB, evT_yes, fun dd h => ?_⟩
        cases h
        exact (ev_call (pre := preNodes 30) (evA_one (ev_var (a := .dat t) ⟨v3, rfl, _, rfl, a3⟩)) ⟨t, rfl, ltree_wf hS (allw _ (List.mem_of_getElem? hd)), by decide, rfl⟩ (at2.up rr)).dInt
      have e4 : (ds.filterMap fun e => some (PyData.int (nodesD 30 (itemD e 2)))) = (ds.map fun d => nodesD 30 (itemD d 2)).map PyData.int := by
        show (ds.filterMap (some ∘ fun e => PyData.int (nodesD 30 (itemD e 2)))) = _
        rw [List.filterMap_eq_map, List.map_map]
        rfl
      rw [e4] at g3
      exact evS_ret (ev_and (ev_chain ev_c (ev_len (ev_var s0') rfl) ev_c) fun _ => ev_i0 (ev_sumL g3) ev_c)
end
end KX

set_option maxHeartbeats 4000000
namespace KX
open PySem PySem.Spec PyProof.Rows L2
/-! ### the law's look and the program's are the same -/
def KeyOk (S : List (Str × PyData)) : Prop := ∀ k d, getS S k = some d → wordD (.str k) 1 8 = true ∧ ∃ i : Int, d = .int i ∧ 0 ≤ i ∧ i ≤ 4
theorem go_case (S : List (Str × PyData)) (hS : KeyOk S) (s m e : PyData) : goOk S (.tuple [.str "go", s, m, e]) =
    ((wordD s 1 8 && (isTup e && decide ((fromD e 0).length ≤ 4))) && leafOk S (.tuple [.str "go", s, m, e])) := by
  have L : leafOk S (.tuple [.str "go", s, m, e]) = decide (intOf ((getS S (strOf s)).getD (.int (-1))) = ((fromD e 0).length : Int)) := rfl
  rw [L]
  cases s with
  | str u =>
    cases e with
    | tuple es =>
      have G : goOk S (.tuple [.str "go", .str u, m, .tuple es]) = (match getS S u with | some (.int i) => decide ((es.length : Int) = i) | _ => false) := rfl
      rw [G]
      show _ = ((wordD (.str u) 1 8 && (true && decide (es.length ≤ 4))) && decide (intOf ((getS S u).getD (.int (-1))) = (es.length : Int)))
      cases q : getS S u with
      | none =>
        have : ¬ ((-1 : Int) = (es.length : Int)) := by omega
        show false = (_ && decide ((-1 : Int) = (es.length : Int)))
        rw [decide_eq_false this, Bool.and_false]
      | some d =>
        obtain ⟨w, i, rfl, h0, h4⟩ := hS _ _ q
        rw [w]
        show decide ((es.length : Int) = i) = ((true && (true && decide (es.length ≤ 4))) && decide (i = (es.length : Int)))
        by_cases z : (es.length : Int) = i
        · rw [decide_eq_true z, decide_eq_true z.symm, decide_eq_true (show es.length ≤ 4 by omega)]
          rfl
        · have z2 : ¬ i = (es.length : Int) := fun y => z y.symm
          rw [decide_eq_false z, decide_eq_false z2, Bool.and_false]
    | _ =>
      rw [show isTup _ = false from rfl]
      simp only [Bool.false_and, Bool.and_false]
      rfl
  | _ => rfl
theorem leaves_nil (n : Nat) (d : PyData) (h1 : tagD d ≠ "if") (h2 : tagD d ≠ "go") : leavesD (n + 1) d = [] := by
  show (if tagD d = "if" then _ else if tagD d = "go" then _ else _) = _
  rw [if_neg h1, if_neg h2]
theorem ltree_eq (S : List (Str × PyData)) (hS : KeyOk S) : ∀ (n : Nat) (d : PyData) (l : Int), ltreeD n d l S = (treeD n d l && (leavesD n d).all (leafOk S))
  | 0, _, _ => rfl
  | n + 1, d, l => by
    show (if kindD d "end" 2 then exprD n (itemD d 1) l else if kindD d "if" 4 then testD n (itemD d 1) l && (fromD d 2).all fun e => ltreeD n e l S
      else if !(kindD d "go" 4 && goOk S d) || !moveD (itemD d 2) then false else (fromD (itemD d 3) 0).all fun e => exprD n e l) =
      ((if kindD d "end" 2 then exprD n (itemD d 1) l
    else if kindD d "if" 4 then testD n (itemD d 1) l && (fromD d 2).all fun e => treeD n e l
    else if !kindD d "go" 4 || (!wordD (itemD d 1) 1 8 || !moveD (itemD d 2)) then false
    else if !isTup (itemD d 3) || decide (4 < ((fromD (itemD d 3) 0).length : Int)) then false
    else (fromD (itemD d 3) 0).all fun e => exprD n e l) && (leavesD (n + 1) d).all (leafOk S))
    cases h1 : kindD d "end" 2 with
    | true =>
      obtain ⟨r, rfl, hl⟩ := kinds (n := 2) h1
      have e : leavesD (n + 1) (.tuple (.str "end" :: r)) = [] := leaves_nil n _ (by show ("end" : Str) ≠ "if"; decide +kernel) (by show ("end" : Str) ≠ "go"; decide +kernel)
      rw [e]
      exact (Bool.and_true _).symm
    | false =>
    cases h2 : kindD d "if" 4 with
    | true =>
      obtain ⟨r, rfl, hl⟩ := kinds (n := 4) h2
      match r, hl with
      | [t, a, b], _ =>
        have e : leavesD (n + 1) (.tuple [.str "if", t, a, b]) = leavesD n a ++ leavesD n b := rfl
        rw [e, List.all_append]
        show (testD n t l && (ltreeD n a l S && (ltreeD n b l S && true))) = ((testD n t l && (treeD n a l && (treeD n b l && true))) && _)
        rw [ltree_eq S hS n a l, ltree_eq S hS n b l]
        cases testD n t l <;> cases treeD n a l <;> cases treeD n b l <;> cases (leavesD n a).all (leafOk S) <;> cases (leavesD n b).all (leafOk S) <;> rfl
    | false =>
    cases h3 : kindD d "go" 4 with
    | false => rfl
    | true =>
      obtain ⟨r, rfl, hl⟩ := kinds (n := 4) h3
      match r, hl with
      | [s, m, e], _ =>
        have e1 : leavesD (n + 1) (.tuple [.str "go", s, m, e]) = [.tuple [.str "go", s, m, e]] := rfl
        rw [e1, go_case S hS]
        have e2 : decide (4 < ((fromD e 0).length : Int)) = !decide ((fromD e 0).length ≤ 4) := by
          by_cases z : (fromD e 0).length ≤ 4
          · rw [decide_eq_true z, decide_eq_false (by omega)]
            rfl
          · rw [decide_eq_false z, decide_eq_true (by omega)]
            rfl
        show (if (!(true && ((wordD s 1 8 && (isTup e && decide ((fromD e 0).length ≤ 4))) && leafOk S (.tuple [.str "go", s, m, e]))) || !moveD m) = true then false else (fromD e 0).all fun e => exprD n e l) =
          ((if (!true || (!wordD s 1 8 || !moveD m)) = true then false else if (!isTup e || decide (4 < ((fromD e 0).length : Int))) = true then false else (fromD e 0).all fun e => exprD n e l) && (leafOk S (.tuple [.str "go", s, m, e]) && true))
        rw [e2]
        cases wordD s 1 8 <;> cases moveD m <;> cases isTup e <;> cases decide ((fromD e 0).length ≤ 4) <;> cases leafOk S (.tuple [.str "go", s, m, e]) <;> cases ((fromD e 0).all fun e => exprD n e l) <;> rfl
theorem fold_len_iff (kf : Nat → Str) (df : Nat → PyData) : ∀ n, (foldK kf df n).length = n ↔ ∀ j, j < n → getS (foldK kf df j) (kf j) = none
  | 0 => ⟨fun _ j h => absurd h (Nat.not_lt_zero _), fun _ => rfl⟩
  | n + 1 => by
    have ih := fold_len_iff kf df n
    have l0 := foldK_len kf df n
    have e : (foldK kf df (n + 1)).length = if (getS (foldK kf df n) (kf n)).isSome = true then (foldK kf df n).length else (foldK kf df n).length + 1 := by
      show (putS _ _ _).length = _
      unfold putS
      split
      · rw [repS_len]
      · rw [List.length_append]
        rfl
    rw [e]
    constructor
    · intro h j hj
      split at h
      · omega
      rename_i q
      by_cases z : j = n
      · subst z
        cases w : getS (foldK kf df j) (kf j) with
        | none => rfl
        | some v => rw [w] at q; exact (q rfl).elim
      · exact ih.mp (by omega) j (by omega)
    · intro h
      rw [h n (by omega)]
      show (foldK kf df n).length + 1 = n + 1
      rw [ih.mpr fun j hj => h j (by omega)]
theorem all_at {ds : List PyData} {p : PyData → Bool} (h : ∀ (j : Nat) (e : PyData), ds[j]? = some e → p e = true) : ds.all p = true := List.all_eq_true.mpr fun x hx => by
  obtain ⟨j, hj, e⟩ := List.getElem_of_mem hx
  exact h j x (by rw [List.getElem?_eq_getElem hj, e])
/-- the two agree on tuples of triples -/
theorem law_prog {ds : List PyData} (hT : Tri ds) : lawD ds = progL ds := by
  have tAt : ∀ {j : Nat} {e : PyData}, ds[j]? = some e → ∃ s b t, e = .tuple [.str s, .int b, t] ∧ kAt ds j = s ∧ vAt ds j = .int b := fun {j e} he => by
    obtain ⟨s, b, t, rfl⟩ := hT e (List.mem_of_getElem? he)
    refine ⟨s, b, t, rfl, ?_, ?_⟩
    · unfold kAt
      rw [he]
      rfl
    · unfold vAt
      rw [he]
      rfl
  cases hb : (List.range ds.length).any (badAt ds) with
  | true =>
    have e1 : lawD ds = false := by
      unfold lawD
      rw [if_pos hb]
    rw [e1]
    cases hp : progL ds with
    | false => rfl
    | true =>
      exfalso
      obtain ⟨_, hF, hz, _⟩ := prog_facts hp
      obtain ⟨j, hj, hbad⟩ := List.any_eq_true.mp hb
      have hj := List.mem_range.mp hj
      have he := List.getElem?_eq_getElem hj
      obtain ⟨s, b, t, e, k1, k2⟩ := tAt he
      obtain ⟨s', b', t', e', w1, b0, b4, _⟩ := func_of (hF ds[j] (List.getElem_mem hj))
      rw [e] at e'
      cases e'
      have nn := (fold_len_iff (kAt ds) (vAt ds) ds.length).mp hz j hj
      unfold badAt at hbad
      rw [k1, k2, w1] at hbad
      have nn : getS (szJ ds j) s = none := by
        rw [← k1]
        exact nn
      rw [nn] at hbad
      have : inD (.int b) 0 4 = true := by
        show (decide (0 ≤ b) && decide (b ≤ 4)) = true
        rw [decide_eq_true b0, decide_eq_true b4]
        rfl
      rw [this] at hbad
      cases hbad
  | false =>
    have ok : ∀ j, j < ds.length → wordD (.str (kAt ds j)) 1 8 = true ∧ getS (szJ ds j) (kAt ds j) = none ∧ inD (vAt ds j) 0 4 = true := fun j hj => by
      have nb := List.any_eq_false.mp hb j (List.mem_range.mpr hj)
      have nb : badAt ds j = false := by
        cases q : badAt ds j with
        | false => rfl
        | true => rw [q] at nb; exact (nb rfl).elim
      unfold badAt at nb
      rw [Bool.or_eq_false_iff, Bool.or_eq_false_iff] at nb
      refine ⟨nf nb.1, ?_, nf nb.2.2⟩
      cases q : getS (szJ ds j) (kAt ds j) with
      | none => rfl
      | some v =>
        rw [q] at nb
        cases nb.2.1
    have hz : (szD ds).length = ds.length := (fold_len_iff (kAt ds) (vAt ds) ds.length).mpr fun j hj => (ok j hj).2.1
    have hS : KeyOk (szD ds) := fun s d hg => by
      obtain ⟨j, hj, hk, hd⟩ := get_fold _ _ _ _ _ hg
      obtain ⟨h1, _, h3⟩ := ok j hj
      obtain ⟨i, e, a1, a2⟩ := in_int h3
      exact ⟨by rw [← hk]; exact h1, i, by rw [← hd, e], a1, a2⟩
    have tr : ∀ {j : Nat} {e : PyData}, ds[j]? = some e → treeOk (szD ds) e = (funcD e && goodD (szD ds) e) := fun {j e} he => by
      have hj : j < ds.length := by
        rcases Nat.lt_or_ge j ds.length with q | q
        · exact q
        · rw [List.getElem?_eq_none q] at he
          cases he
      obtain ⟨s, b, t, rfl, k1, k2⟩ := tAt he
      obtain ⟨h1, _, h3⟩ := ok j hj
      rw [k1] at h1
      rw [k2] at h3
      show ltreeD 30 t b (szD ds) = ((wordD (.str s) 1 8 && (inD (.int b) 0 4 && treeD 30 t b)) && (leavesD 30 t).all (leafOk (szD ds)))
      rw [h1, h3, ltree_eq _ hS]
      rfl
    have e1 : ds.all (treeOk (szD ds)) = (ds.all funcD && ds.all (goodD (szD ds))) := by
      cases q1 : ds.all funcD with
      | true =>
        cases q2 : ds.all (goodD (szD ds)) with
        | true =>
          refine all_at fun j e he => ?_
          rw [tr he, List.all_eq_true.mp q1 _ (List.mem_of_getElem? he), List.all_eq_true.mp q2 _ (List.mem_of_getElem? he)]
          rfl
        | false =>
          obtain ⟨x, hx, hn⟩ := List.all_eq_false.mp q2
          obtain ⟨j, hj, e⟩ := List.getElem_of_mem hx
          refine List.all_eq_false.mpr ⟨x, hx, fun z => hn ?_⟩
          rw [tr (j := j) (e := x) (by rw [List.getElem?_eq_getElem hj, e]), Bool.and_eq_true] at z
          exact z.2
      | false =>
        obtain ⟨x, hx, hn⟩ := List.all_eq_false.mp q1
        obtain ⟨j, hj, e⟩ := List.getElem_of_mem hx
        refine List.all_eq_false.mpr ⟨x, hx, fun z => hn ?_⟩
        rw [tr (j := j) (e := x) (by rw [List.getElem?_eq_getElem hj, e]), Bool.and_eq_true] at z
        exact z.1
    have e2 : decide (400 < sumD ds) = !decide (sumD ds ≤ 400) := by
      by_cases z : sumD ds ≤ 400
      · rw [decide_eq_true z, decide_eq_false (by omega)]
        rfl
      · rw [decide_eq_false z, decide_eq_true (by omega)]
        rfl
    unfold lawD progL
    rw [hb, e1, e2, decide_eq_true hz]
    cases (decide ((1 : Int) ≤ ds.length) && decide ((ds.length : Int) ≤ 8)) <;> cases ds.all funcD <;> cases ds.all (goodD (szD ds)) <;> cases decide (sumD ds ≤ 400) <;> rfl
end KX

set_option maxHeartbeats 8000000
namespace KX
open PySem PySem.Spec PyProof.Rows L2
/-! ### the draws -/
abbrev rowC (K : PySem.W.Frag) (r : Row) : Ct := ⟨K, some r, tabs K⟩
abbrev rowL (r : Row) (a b g : Int) : HO := .lst [.ref r.sc, .int a, .int b, .int g]
section
variable {K : PySem.W.Frag} {Ps : List Addr} {r : Row} {H H1 : Hp}
theorem Gr.rowset (g : Gr K (some r) Ps H H1) {ys : List V} (x : H1 r.a = some (.lst ys)) {a b c : Int} (h : 0 ≤ a) : Gr K (some r) Ps H (upd H1 r.a (rowL r a b c)) := by
  refine ⟨fun p o e n m => ?_, fun P hP t => ?_, fun rr e t => ?_⟩
  · have ne : p ≠ r.a := fun z => by
      by_cases q : ∃ zs, o = .lst zs
      · obtain ⟨zs, rfl⟩ := q
        exact m r rfl z.symm zs rfl
      · have e2 := g.kp p o e n m
        rw [z, x] at e2
        exact q ⟨ys, (Option.some.inj e2).symm⟩
    rw [upd_ne ne]
    exact g.kp p o e n m
  · obtain ⟨ps, e1, t1⟩ := g.tb P hP t
    refine ⟨ps, ?_, t1⟩
    rw [upd_ne (fun z => by rw [z, x] at e1; cases e1)]
    exact e1
  · cases e
    have t1 := g.rw r rfl t
    refine ⟨?_, t1.ne, a, b, c, upd_same, h⟩
    rcases t1.ne with nsc | al
    · refine seq_of (fun o e _ => ?_) t1.sq
      rw [upd_ne nsc]
      exact e
    · exact al _
end
abbrev qc (K : PySem.W.Frag) (Ps : List Addr) : Ct := ⟨K, none, Ps⟩
abbrev rc (K : PySem.W.Frag) (Ps : List Addr) (r : Row) : Ct := ⟨K, some r, Ps⟩
/-- a block at the heap Hh, or at one that has grown from it without a draw; what comes is told from H0 -/
def EvD (K : PySem.W.Frag) (Ps : List Addr) (r : Row) (ts : TS) (σ : L2.St) (H0 Hh : Hp) (a : AV) : Prop := ∀ H, (qc K Ps).R Hh H → ∀ D : Ends, (∀ v H', (rc K Ps r).R H0 H' → a.is v H' → D.rt v H') → ts D σ H
section
variable {K : PySem.W.Frag} {Ps : List Addr} {r : Row} {σ : L2.St} {H0 Hh : Hp} {te ti ta : TE} {tA : TT} {t u : TS} {a b : AV} {k : Bool} {i : Nat} {xs : List V} {v : V} {j : Int}
theorem evD_ret (h : Ev (qc K Ps) te σ Hh a) (g : (rc K Ps r).R H0 Hh) : EvD K Ps r (tRet te) σ H0 Hh a := fun H r1 D q => h H r1 _ fun v H1 r2 x => q v H1 (g.trans (Gr.any (r1.trans r2))) x
theorem evD_if (ht : EvT (qc K Ps) tA σ Hh k) (h1 : k = true → EvD K Ps r t σ H0 Hh a) (h2 : k = false → EvD K Ps r u σ H0 Hh a) : EvD K Ps r (tSeq (tIfS tA t tNext) u) σ H0 Hh a := fun H r1 D q => ht H r1 _ fun H1 r2 => by
  cases k with
  | true => exact iteT (h1 rfl H1 (r1.trans r2) { D with nx := u D } q)
  | false => exact iteF (h2 rfl H1 (r1.trans r2) D q)
theorem evD_set (h : Ev (qc K Ps) te σ Hh b) (k : ∀ x H1, (qc K Ps).R Hh H1 → b.is x H1 → EvD K Ps r t (σ.set i (some x)) H0 H1 a) : EvD K Ps r (tSeq (tAsg te (gName i)) t) σ H0 Hh a := fun H r1 D q => h H r1 _ fun x H1 r2 hx => k x H1 (r1.trans r2) hx H1 (.refl H1) D q
theorem keepL (g : (qc K Ps).R Hh H0) {p : Addr} (h : Hh p = some (.lst xs)) : H0 p = some (.lst xs) := g.kp _ _ h (fun _ z => by cases z) (fun _ z => by cases z)
theorem evD_row {q : Nat} (s0 : σ[0]? = some (some (.ref r.a))) (hx : Hh r.a = some (.lst xs)) (h : Ev (qc K Ps) te σ Hh (.val v)) (hj : ixN xs.length j = some q) (k : ∀ H1, (qc K Ps).R Hh H1 → H1 r.a = some (.lst xs) → EvD K Ps r t σ H0 (upd H1 r.a (.lst (xs.set q v))) a) :
    EvD K Ps r (tSeq (tAsg te (gSub (tVar 0) (tC (.int j)) rSetL)) t) σ H0 Hh a := fun H r1 D qq => h H r1 _ fun x H1 r2 e => by
  subst e
  have e1 := keepL (r1.trans r2) hx
  exact ⟨.ref r.a, s0, r.a, xs, j, q, rfl, rfl, e1, hj, k H1 (r1.trans r2) e1 _ (.refl _) D qq⟩
theorem evD_ifRow {q : Nat} (s0 : σ[0]? = some (some (.ref r.a))) (hx : Hh r.a = some (.lst xs)) (ht : EvT (qc K Ps) tA σ Hh k) (h : Ev (qc K Ps) te σ Hh (.val v)) (hj : ixN xs.length j = some q) (k1 : ∀ H1, (qc K Ps).R Hh H1 → H1 r.a = some (.lst xs) → EvD K Ps r t σ H0 (upd H1 r.a (.lst (xs.set q v))) a) (k2 : EvD K Ps r t σ H0 Hh a) :
    EvD K Ps r (tSeq (tIfS tA (tAsg te (gSub (tVar 0) (tC (.int j)) rSetL)) tNext) t) σ H0 Hh a := fun H r1 D qq => ht H r1 _ fun H1 r2 => by
  cases k with
  | true => exact iteT (evD_row (t := t) s0 hx h hj k1 H1 (r1.trans r2) D qq)
  | false => exact iteF (k2 H1 (r1.trans r2) D qq)
theorem ev_row (s0 : σ[0]? = some (some (.ref r.a))) (hx : Hh r.a = some (.lst xs)) (e : atI xs j = some v) : Ev (qc K Ps) (tOp (rIxL K) (tVar 0) (tC (.int j))) σ Hh (.val v) := fun H r1 Q q =>
  ⟨.ref r.a, s0, r.a, xs, j, v, rfl, rfl, SqL.of (keepL r1 hx), e, q v H (.refl H) rfl⟩
theorem ev_lenS {sc : Addr} (hx : SqL K Hh sc xs) (h : Ev (qc K Ps) te σ Hh (.val (.ref sc))) : Ev (qc K Ps) (tCB (rLenK K) (tCons te tNil)) σ Hh (.val (.int xs.length)) := fun H r1 Q q =>
  h H r1 _ fun x H1 r2 e => by
    cases e
    exact ⟨_, _, rfl, .inl ⟨xs, seq_of (fun o e n => (r1.trans r2).kp _ _ e n (fun _ z => by cases z)) hx, rfl⟩, q _ H1 r2 rfl⟩
theorem ev_cell {sc : Addr} (hx : SqL K Hh sc xs) (h : Ev (qc K Ps) te σ Hh (.val (.ref sc))) (hi : Ev (qc K Ps) ti σ Hh (.val (.int j))) (e : atI xs j = some v) : Ev (qc K Ps) (tOp (rIxL K) te ti) σ Hh (.val v) := fun H r1 Q q =>
  h H r1 _ fun x H1 r2 e1 => hi H1 (r1.trans r2) _ fun y H2 r3 e2 => by
    cases e1
    cases e2
    exact ⟨sc, xs, j, v, rfl, rfl, seq_of (fun o e n => (r1.trans (r2.trans r3)).kp _ _ e n (fun _ z => by cases z)) hx, e, q v H2 (r2.trans r3) rfl⟩
abbrev rInt : List V → Hp → VK → Prop := fun xs H Q => (∃ i, xs = [.int i] ∧ Q (.int i) H) ∨ ∃ k, xs = [.bl k] ∧ Q (.int (if k then 1 else 0)) H
theorem ev_int {c : Ct} (h : Ev c te σ Hh (.val (.int j))) : Ev c (tCB rInt (tCons te tNil)) σ Hh (.val (.int j)) := fun H r1 Q q => h H r1 _ fun x H1 r2 e => .inl ⟨j, by rw [e], q _ H1 r2 rfl⟩
theorem pe_int1 {X : Cx} {e : Expr} {te : TE} {p pos : Pos} (hm : X.mg "int" = none) (he : PE X e te) (hg : Gl X "int" := by rfl) (h1 : starEach [e] X.env = (false, eval e X.env) :: starEach [] X.env := by rfl) (h2 : (backTo pos (starEach [] X.env)).any (·.1) = false := by rfl) :
    PE X (.Call (.Name "int" p) [e] [] pos) (tCB rInt (tCons te tNil)) := pe_callTy call_int1 hg hm boot_int (pa_cons he pa_nil h1) (by decide) (by decide) h1 h2
end
/-- a whole number below m -/
abbrev inR (m : Int) : AV := .vp fun v => ∃ i : Int, v = .int i ∧ 0 ≤ i ∧ i < m
def preTaken (r : Row) (as : List AV) (res : AV) : Prop := ∃ m : Int, as = [.val (.ref r.a), .val (.int m)] ∧ 1 ≤ m ∧ m ≤ 1000 ∧ res = inR m
theorem Ev.inR {c : Ct} {σ : L2.St} {H : Hp} {te : TE} {i m : Int} (h : Ev c te σ H (.val (.int i))) (h0 : 0 ≤ i) (h1 : i < m) : Ev c te σ H (inR m) := h.wk fun x _ e => ⟨i, e, h0, h1⟩
section
variable {P : Program} {w : World} {K : PySem.W.Frag} {mg : Str → Option Value} {base : Heap}
abbrev NTk : List Str := ["_law_row", "_law_many", "_law_found", "_law_cell"]
theorem bl_taken (T : Tx K mg base) : Binds K (fdOf K "_law_taken") ["_law_row", "_law_many"] [] := T.f_law_taken.binds fun _ _ _ _ _ _ us hl => match us, hl with | [_, _], _ => rfl
theorem scl_taken : FnScope NTk ["_law_row", "_law_many"] (defScope (top 33)) := ⟨rfl, rfl, rfl, by decide +kernel, rfl, by decide +kernel, by decide +kernel⟩
theorem okl_taken (T : Tx K mg base) (r : Row) : FnOk P w K mg base CX0 1 (fA K "_law_taken") (fdOf K "_law_taken") ["_law_row", "_law_many"] (spOf (rowC K r) (preTaken r)) := by
  refine T.f_law_taken.ok (N := NTk) (k := 0) scl_taken (fun as r h => ?_) fun A outer s H E hr => ?_
  · obtain ⟨m, rfl, _⟩ := h
    rfl
  · refine ⟨_, pss_cons (ps_if (pt_cmpR op_gt (pe_ix ix_list (pv 0) pe_int (fun _ _ => rfl)) pe_int (nomark _))
          (pss_cons (ps_set (i := 2) scl_taken.nd rfl (Or.inl rfl) (pe_op op_mod (pe_int1 T.z_int (pe_ix ix_list (pv 0) pe_int (fun _ _ => rfl))) (pv 1)))
          (pss_cons (ps_asg (pe_op op_fdiv (pe_ix ix_list (pv 0) pe_int (fun _ _ => rfl)) (pv 1)) (pg_sub (pv 0) pe_int set_list))
          (pss_one (ps_ret (pv 2))))) pss_nil)
      (pss_cons (ps_asg (pe_op op_add (pe_ix ix_list (pv 0) pe_int (fun _ _ => rfl)) pe_int) (pg_sub (pv 0) pe_int set_list))
      (pss_cons (ps_if (pt_cmpR op_gt (pe_ix ix_list (pv 0) pe_int (fun _ _ => rfl)) (pe_len T.z_len (pe_ix ix_list (pv 0) pe_int (fun _ _ => rfl))) (by rfl))
          (pss_cons (ps_asg (pe_op op_mod (pe_int1 T.z_int (pe_op op_add (pe_op op_mul (pe_ix ix_list (pv 0) pe_int (fun _ _ => rfl)) pe_int) pe_int)) pe_int) (pg_sub (pv 0) pe_int set_list))
          (pss_one (ps_ret (pe_op op_mod (pe_int1 T.z_int (pe_op op_fdiv (pe_ix ix_list (pv 0) pe_int (fun _ _ => rfl)) pe_int)) (pv 1))))) pss_nil)
      (pss_cons (ps_set (i := 3) scl_taken.nd rfl (Or.inl rfl) (pe_ix ix_list (pe_ix ix_list (pv 0) pe_int (fun _ _ => rfl)) (pe_op op_sub (pe_ix ix_list (pv 0) pe_int (fun _ _ => rfl)) pe_int) (fun _ _ => rfl)))
      (pss_cons (ps_asg (pe_op op_mod (pe_int1 T.z_int (pe_op op_add (pe_op op_add (pe_op op_mul (pe_ix ix_list (pv 0) pe_int (fun _ _ => rfl)) pe_int) (pv 3)) pe_int)) pe_int) (pg_sub (pv 0) pe_int set_list))
      (pss_cons (ps_if (pt_cmpR op_ge (pv 3) (pe_op op_pow pe_int pe_int) (by rfl)) (pss_one (ps_asg (pe_op op_fdiv (pv 3) (pv 1)) (pg_sub (pv 0) pe_int set_list))) pss_nil)
      (pss_one (ps_ret (pe_op op_mod (pe_int1 T.z_int (pv 3)) (pv 1))))))))), ?_⟩
    rintro as res vs ⟨m, rfl, hm1, hm2, rfl⟩ ⟨x, _, rfl, hx, y, _, rfl, hy, rfl⟩ at0
    cases hx
    cases hy
    intro H0 r0 D q
    have at1 := at0.up r0
    obtain ⟨sq, ne, a, b, g, hrow, ha⟩ := at1.row r rfl
    show tSeq _ _ D [some (.ref r.a), some (.int m), none, none] H0
    have md : CDiv b m := ⟨by omega, by omega⟩
    have mo : ∀ i : Int, 0 ≤ i % m ∧ i % m < m := fun i => ⟨Int.emod_nonneg _ (by omega), Int.emod_lt_of_pos _ (by omega)⟩
    have mul : ∀ i : Int, CMul i 48271 := fun i => .inr ⟨by decide +kernel, by decide +kernel⟩
    have g0 : (rc K (tabs K) r).R H0 H0 := .refl H0
    have evr : ∀ {σ : L2.St} {Hh : Hp} {a b g : Int} (s0 : σ[0]? = some (some (.ref r.a))) (hx : Hh r.a = some (rowL r a b g)), Ev (qc K (tabs K)) (tOp (rIxL K) (tVar 0) (tC (.int 1))) σ Hh (.val (.int a)) ∧ Ev (qc K (tabs K)) (tOp (rIxL K) (tVar 0) (tC (.int 2))) σ Hh (.val (.int b)) ∧ Ev (qc K (tabs K)) (tOp (rIxL K) (tVar 0) (tC (.int 3))) σ Hh (.val (.int g)) ∧ Ev (qc K (tabs K)) (tOp (rIxL K) (tVar 0) (tC (.int 0))) σ Hh (.val (.ref r.sc)) :=
      fun s0 hx => ⟨ev_row s0 hx rfl, ev_row s0 hx rfl, ev_row s0 hx rfl, ev_row s0 hx rfl⟩
    refine (show EvD K (tabs K) r (tSeq _ _) [some (.ref r.a), some (.int m), none, none] H0 H0 (inR m) from ?_) H0 (.refl H0) D q
    obtain ⟨v1, v2, v3, v0⟩ := evr (σ := [some (.ref r.a), some (.int m), none, none]) rfl hrow
    have vm : ∀ {Hh : Hp} {o2 o3 : Option V}, Ev (qc K (tabs K)) (tVar 1) [some (.ref r.a), some (.int m), o2, o3] Hh (.val (.int m)) := ev_var ⟨_, rfl, rfl⟩
    refine evD_if (k := decide (0 < g)) (evT_test (ev_i0 v3 ev_c)) (fun _ => ?_) fun _ => ?_
    · refine evD_set (b := .val (.int (g % m))) (ev_iC (ev_int v3) vm (show 0 < m by omega)) fun z H1 r1 hz => ?_
      cases hz
      have h1 := keepL r1 hrow
      refine evD_row (q := 3) (xs := [.ref r.sc, .int a, .int b, .int g]) rfl h1 (v := .int (g / m)) (ev_iC (evr rfl h1).2.2.1 vm md) rfl fun H2 r2 h2 => ?_
      exact evD_ret ((ev_var (a := .val (.int (g % m))) ⟨_, rfl, rfl⟩).inR (mo g).1 (mo g).2) (Gr.rowset (a := a) (b := b) (c := g / m) (g0.trans (Gr.any (r1.trans r2))) h2 ha)
    refine evD_row (q := 1) (xs := [.ref r.sc, .int a, .int b, .int g]) rfl hrow (v := .int (a + 1)) (ev_i0 v1 ev_c) rfl fun H1 r1 h1 => ?_
    have g1 : (rc K (tabs K) r).R H0 (upd H1 r.a (rowL r (a + 1) b g)) := Gr.rowset (a := a + 1) (b := b) (c := g) (g0.trans (Gr.any r1)) h1 (by omega)
    show EvD K (tabs K) r (tSeq _ _) [some (.ref r.a), some (.int m), none, none] H0 (upd H1 r.a (rowL r (a + 1) b g)) (inR m)
    have hrow1 : upd H1 r.a (rowL r (a + 1) b g) r.a = some (rowL r (a + 1) b g) := upd_same
    have sq1 : SqL K (upd H1 r.a (rowL r (a + 1) b g)) r.sc (r.ns.map V.int) := (g1.rw r rfl (at1.row r rfl)).sq
    generalize hH2 : upd H1 r.a (rowL r (a + 1) b g) = H2 at g1 hrow1 sq1 ⊢
    obtain ⟨v1, v2, v3, v0⟩ := evr (σ := [some (.ref r.a), some (.int m), none, none]) rfl hrow1
    have ln : Ev (qc K (tabs K)) (tCB (rLenK K) (tCons (tOp (rIxL K) (tVar 0) (tC (.int 0))) tNil)) [some (.ref r.a), some (.int m), none, none] H2 (.val (.int (r.ns.map V.int).length)) := ev_lenS sq1 v0
    refine evD_if (k := decide (((r.ns.map V.int).length : Int) < a + 1)) (evT_test (ev_i0 v1 ln)) (fun _ => ?_) fun hlt => ?_
    · refine evD_row (q := 2) (xs := [.ref r.sc, .int (a + 1), .int b, .int g]) rfl hrow1 (v := .int ((b * 48271 + 11) % 2147483647)) (ev_iC (ev_int (ev_i0 (ev_iC (g := fun i j => .int (i * j)) v2 (ev_c (v := .int 48271)) (mul b)) (ev_c (v := .int 11)))) (ev_c (v := .int 2147483647)) (by decide)) rfl fun H3 r3 h3 => ?_
      have h4 : upd H3 r.a (rowL r (a + 1) ((b * 48271 + 11) % 2147483647) g) r.a = some (rowL r (a + 1) ((b * 48271 + 11) % 2147483647) g) := upd_same
      exact evD_ret (Ev.inR (i := (b * 48271 + 11) % 2147483647 / 7 % m) (ev_iC (ev_int (ev_iC (g := fun i j => .int (i / j)) (evr (σ := [some (.ref r.a), some (.int m), none, none]) rfl h4).2.1 (ev_c (v := .int 7)) ⟨by decide, by decide⟩)) vm (show 0 < m by omega)) (mo _).1 (mo _).2) (Gr.rowset (a := a + 1) (b := (b * 48271 + 11) % 2147483647) (c := g) (g1.trans (Gr.any r3)) h3 (by omega))
    have hlt := of_decide_eq_false hlt
    have hl : a.toNat < (r.ns.map V.int).length := by omega
    obtain ⟨cl, hcl⟩ : ∃ cl : Int, (r.ns.map V.int)[a.toNat]? = some (.int cl) := by
      rw [List.length_map] at hl
      exact ⟨r.ns[a.toNat], by rw [List.getElem?_map, List.getElem?_eq_getElem hl]; rfl⟩
    have hat : atI (r.ns.map V.int) (a + 1 - 1) = some (.int cl) := by
      unfold atI ixN
      rw [if_pos (by omega), if_pos (by omega)]
      show (r.ns.map V.int)[(a + 1 - 1).toNat]? = _
      rw [show a + 1 - 1 = a by omega]
      exact hcl
    refine evD_set (b := .val (.int cl)) (ev_cell sq1 v0 (ev_i0 v1 (ev_c (v := .int 1))) hat) fun z H3 r3 hz => ?_
    cases hz
    show EvD K (tabs K) r (tSeq _ _) [some (.ref r.a), some (.int m), none, some (.int cl)] H0 H3 (inR m)
    have h3 := keepL r3 hrow1
    have vc : ∀ {Hh : Hp}, Ev (qc K (tabs K)) (tVar 3) [some (.ref r.a), some (.int m), none, some (.int cl)] Hh (.val (.int cl)) := ev_var ⟨_, rfl, rfl⟩
    refine evD_row (q := 2) (xs := [.ref r.sc, .int (a + 1), .int b, .int g]) rfl h3 (v := .int ((b * 48271 + cl + 11) % 2147483647)) (ev_iC (ev_int (ev_i0 (ev_i0 (g := fun i j => .int (i + j)) (ev_iC (g := fun i j => .int (i * j)) (evr (σ := [some (.ref r.a), some (.int m), none, some (.int cl)]) rfl h3).2.1 (ev_c (v := .int 48271)) (mul b)) vc) (ev_c (v := .int 11)))) (ev_c (v := .int 2147483647)) (by decide)) rfl fun H4 r4 h4 => ?_
    have g4 : (rc K (tabs K) r).R H0 (upd H4 r.a (rowL r (a + 1) ((b * 48271 + cl + 11) % 2147483647) g)) := Gr.rowset (a := a + 1) (b := (b * 48271 + cl + 11) % 2147483647) (c := g) (g1.trans (Gr.any (r3.trans r4))) h4 (by omega)
    have hrow4 : upd H4 r.a (rowL r (a + 1) ((b * 48271 + cl + 11) % 2147483647) g) r.a = some (rowL r (a + 1) ((b * 48271 + cl + 11) % 2147483647) g) := upd_same
    show EvD K (tabs K) r (tSeq _ _) [some (.ref r.a), some (.int m), none, some (.int cl)] H0 (upd H4 r.a (rowL r (a + 1) ((b * 48271 + cl + 11) % 2147483647) g)) (inR m)
    generalize upd H4 r.a (rowL r (a + 1) ((b * 48271 + cl + 11) % 2147483647) g) = H5 at g4 hrow4 ⊢
    have fin : ∀ {Hh : Hp}, (rc K (tabs K) r).R H0 Hh → EvD K (tabs K) r (tRet (tOp (rI (fun _ j => 0 < j) fun i j => .int (i % j)) (tCB rInt (tCons (tVar 3) tNil)) (tVar 1))) [some (.ref r.a), some (.int m), none, some (.int cl)] H0 Hh (inR m) := fun gg => evD_ret (Ev.inR (i := cl % m) (ev_iC (ev_int vc) vm (show 0 < m by omega)) (mo _).1 (mo _).2) gg
    refine evD_ifRow (q := 3) (k := decide ((10 : Int) ^ (18 : Int).toNat ≤ cl)) (xs := [.ref r.sc, .int (a + 1), .int ((b * 48271 + cl + 11) % 2147483647), .int g]) rfl hrow4 (evT_test (ev_i0 vc (ev_iC (g := fun i j => .int (i ^ j.toNat)) (ev_c (v := .int 10)) (ev_c (v := .int 18)) ⟨by decide, by decide, by decide +kernel⟩))) (v := .int (cl / m)) (ev_iC vc vm md) rfl (fun H6 r6 h6 => fin (Gr.rowset (a := a + 1) (b := (b * 48271 + cl + 11) % 2147483647) (c := cl / m) (g4.trans (Gr.any r6)) h6 (by omega))) (fin g4)
end
end KX

set_option maxHeartbeats 8000000
namespace KX
open PySem PySem.Spec PyProof.Rows L2
/-! ### what is drawn -/
def flat : PyData → Bool
  | .tuple _ => false
  | .list _ => false
  | .dict _ => false
  | _ => true
/-- nested so deep at most, and not too wide -/
def dep : Nat → PyData → Bool
  | 0, d => flat d
  | n + 1, d => match d with
    | .tuple ds => decide (ds.length ≤ 900) && ds.all fun e => dep n e
    | d => flat d
theorem dep_flat : ∀ {n : Nat} {d : PyData}, flat d = true → dep n d = true
  | 0, _, h => h
  | n + 1, d, h => by cases d <;> first | exact h | cases h
theorem dep_tup {n : Nat} {ds : List PyData} (l : ds.length ≤ 900) (h : ∀ x ∈ ds, dep n x = true) : dep (n + 1) (.tuple ds) = true := by
  show (decide (ds.length ≤ 900) && ds.all fun e => dep n e) = true
  rw [decide_eq_true l, List.all_eq_true.mpr h]
  rfl
theorem dep_of {n : Nat} {ds : List PyData} (h : dep (n + 1) (.tuple ds) = true) : ds.length ≤ 900 ∧ ∀ x ∈ ds, dep n x = true := by
  have h : (decide (ds.length ≤ 900) && ds.all fun e => dep n e) = true := h
  rw [Bool.and_eq_true, decide_eq_true_eq] at h
  exact ⟨h.1, List.all_eq_true.mp h.2⟩
theorem dep_up : ∀ {n : Nat} {d : PyData}, dep n d = true → dep (n + 1) d = true
  | 0, d, h => dep_flat h
  | n + 1, d, h => by
    cases d with
    | tuple ds =>
      obtain ⟨h1, h2⟩ := dep_of h
      exact dep_tup h1 fun x hx => dep_up (h2 x hx)
    | _ => exact h
theorem wf_up : ∀ {n : Nat} {d : PyData}, wfD n d = true → wfD (n + 1) d = true
  | 0, _, h => by cases h
  | n + 1, d, h => by
    obtain ⟨h1, h2, h3⟩ := wf_parts h
    show (shapeD d && (decide ((partsD d).length ≤ 4) && (partsD d).all fun e => wfD (n + 1) e)) = true
    rw [h1, decide_eq_true h2, List.all_eq_true.mpr fun x hx => wf_up (h3 x hx)]
    rfl
/-- a tree, test or expression, as drawn -/
def Gd (n : Nat) (d : PyData) : Prop := wfD n d = true ∧ dep (n + 1) d = true
theorem Gd.up {n : Nat} {d : PyData} (h : Gd n d) : Gd (n + 1) d := ⟨wf_up h.1, dep_up h.2⟩
theorem Gd.le {n m : Nat} {d : PyData} (h : Gd n d) (l : n ≤ m) : Gd m d := by
  induction l with
  | refl => exact h
  | step _ ih => exact ih.up
theorem gd_leaf {n : Nat} {k : Str} {ds : List PyData} (hk : k ∈ leafTags) (hg : k ≠ "go") (l : ds.length ≤ 800) (h : ∀ x ∈ ds, flat x = true) : Gd (n + 1) (.tuple (.str k :: ds)) :=
  ⟨wf_leaf hk hg, dep_tup (by rw [List.length_cons]; omega) fun x hx => by
    rcases List.mem_cons.mp hx with rfl | hx
    · exact dep_flat rfl
    · exact dep_flat (h x hx)⟩
theorem gd_mid {n : Nat} {k : Str} {ds : List PyData} (hk : ¬ k ∈ leafTags) (hg : k ≠ "go") (l : ds.length ≤ 4) (h : ∀ x ∈ ds, Gd n x) : Gd (n + 1) (.tuple (.str k :: ds)) :=
  ⟨wf_mid hk hg l fun x hx => (h x hx).1, dep_tup (by rw [List.length_cons]; omega) fun x hx => by
    rcases List.mem_cons.mp hx with rfl | hx
    · exact dep_flat rfl
    · exact (h x hx).2⟩
theorem gd_go {n : Nat} {s : Str} {m : PyData} {es : List PyData} (hm : dep 1 m = true) (l : es.length ≤ 4) (h : ∀ x ∈ es, Gd n x) : Gd (n + 2) (.tuple [.str "go", .str s, m, .tuple es]) := by
  refine ⟨wf_up (wf_go l fun x hx => (h x hx).1), dep_tup (by show 4 ≤ 900; decide) fun x hx => ?_⟩
  simp only [List.mem_cons, List.not_mem_nil, or_false] at hx
  rcases hx with rfl | rfl | rfl | rfl
  · exact dep_flat rfl
  · exact dep_flat rfl
  · have key : ∀ j, dep (j + 1) x = true := fun j => by
      induction j with
      | zero => exact hm
      | succ j ih => exact dep_up ih
    exact key _
  · exact dep_tup (by omega) fun x hx => (h x hx).2
theorem each_mem : ∀ {ps : List (PyData → Prop)} {ds : List PyData} {d : PyData}, Each ps ds → d ∈ ds → ∃ p ∈ ps, p d
  | [], _, _, h, hd => by cases h; exact (List.not_mem_nil hd).elim
  | p :: ps, _, _, h, hd => by
    obtain ⟨e, r, rfl, h1, h2⟩ := h
    rcases List.mem_cons.mp hd with rfl | hd
    · exact ⟨p, List.mem_cons_self, h1⟩
    · obtain ⟨q, a, b⟩ := each_mem h2 hd
      exact ⟨q, List.mem_cons_of_mem _ a, b⟩
section
variable {K : PySem.W.Frag} {r : Row} {σ : L2.St} {H0 : Hp} {te ta tb : TE} {tA : TA} {p : List PyData → Prop}
theorem okX {p : List PyData → Prop} : (AV.lx r.a p).ok (rowC K r).row := fun _ z => by cases z; rfl
theorem fresh_ne {H : Hp} (at0 : (rowC K r).At H) {l : Addr} (h : H l = none) : l ≠ r.a := fun z => by
  obtain ⟨_, _, _, h1, _⟩ := (at0.row r rfl).at_
  rw [← z, h] at h1
  cases h1
theorem ev_lstX {ps : List (PyData → Prop)} (h : EvA (rowC K r) tA σ H0 (ps.map AV.dp)) (at0 : (rowC K r).At H0) (z : ps.length ≤ 1000 := by decide) : Ev (rowC K r) (tLst tA) σ H0 (.lx r.a (Each ps)) := fun H r0 Q q =>
  h H r0 _ fun vs H1 r1 hv => by
    obtain ⟨ds, h1, h2⟩ := each_dat hv
    refine ⟨by rw [h2.length, each_len h1]; exact Nat.le_trans z (by decide), fun l hl => q _ _ (r1.trans (.laid hl)) ⟨l, vs, ds, rfl, fresh_ne (at0.up (r0.trans r1)) hl, upd_same, h1, DatL.mono (fun b xs e => by rw [upd_ne (ne_of_none e hl)]; exact e) _ _ h2⟩⟩
theorem ev_catX {p1 p2 : List PyData → Prop} {z1 z2 : Nat} (ha : Ev (rowC K r) ta σ H0 (.lx r.a p1)) (hb : Ev (rowC K r) tb σ H0 (.lx r.a p2)) (at0 : (rowC K r).At H0) (l1 : ∀ ds, p1 ds → ds.length ≤ z1) (l2 : ∀ ds, p2 ds → ds.length ≤ z2) (z : z1 + z2 ≤ 1000 := by decide) : Ev (rowC K r) (tOp rCat ta tb) σ H0 (.lx r.a fun ds => ∃ a b, p1 a ∧ p2 b ∧ ds = a ++ b) :=
  ev_op ha hb (fun H x y Q r0 hx hy q => by
    obtain ⟨a, xs, d1, rfl, _, h1, e1, h2⟩ := hx
    obtain ⟨b, ys, d2, rfl, _, g1, e2, g2⟩ := hy
    exact ⟨a, b, xs, ys, rfl, rfl, h1, g1, by rw [h2.length, g2.length]; have := l1 _ e1; have := l2 _ e2; exact Nat.le_of_lt (size_ok (by omega)), fun l hl => q _ _ (.laid hl) ⟨l, _, _, rfl, fresh_ne (at0.up r0) hl, upd_same, ⟨d1, d2, e1, e2, rfl⟩, datL_up hl (h2.append g2)⟩⟩) okX
theorem ev_lenX {ds : List PyData} (h : Ev (rowC K r) te σ H0 (.lx r.a (· = ds))) : Ev (rowC K r) (tCB (rLenK K) (tCons te tNil)) σ H0 (.val (.int ds.length)) :=
  ev_cb (evA_one h) fun H vs Q r0 hv q => by
    obtain ⟨x, _, rfl, ⟨a, xs, _, rfl, _, h1, rfl, h2⟩, rfl⟩ := hv
    exact ⟨_, _, rfl, .inl ⟨xs, SqL.of h1, h2.length.symm⟩, q _ H (.refl H) rfl⟩
theorem ev_ixX {ds : List PyData} {ti : TE} (h : Ev (rowC K r) te σ H0 (.lx r.a (· = ds))) (hi : Ev (rowC K r) ti σ H0 (inR ds.length)) : Ev (rowC K r) (tOp (rIxL K) te ti) σ H0 (.dp (· ∈ ds)) :=
  ev_op h hi (fun H x y Q r0 hx hy q => by
    obtain ⟨a, xs, _, rfl, _, h1, rfl, h2⟩ := hx
    obtain ⟨i, rfl, i0, i1⟩ := hy
    obtain ⟨k, rfl⟩ : ∃ k : Nat, i = (k : Int) := ⟨i.toNat, by omega⟩
    have lt : k < xs.length := by rw [h2.length]; omega
    have e := List.getElem?_eq_getElem lt
    obtain ⟨d, ed, hd⟩ := h2.get e
    exact ⟨a, xs, k, _, rfl, rfl, SqL.of h1, atI_nat e, q _ H (.refl H) ⟨d, List.mem_of_getElem? ed, hd⟩⟩) okX
theorem Ev.ints {c : Ct} {m : Int} (h : Ev c te σ H0 (KX.inR m)) : Ev c te σ H0 (.dp fun d => ∃ i : Int, d = .int i ∧ 0 ≤ i ∧ i < m) := h.wk fun x H ⟨i, e, b⟩ => ⟨.int i, ⟨i, rfl, b⟩, by rw [e]; exact .int i⟩
end
def prePick (r : Row) (as : List AV) (res : AV) : Prop := ∃ p : List PyData → Prop, as = [.val (.ref r.a), .lx r.a p] ∧ (∀ ds, p ds → 1 ≤ ds.length ∧ ds.length ≤ 1000) ∧ res = .dp fun d => ∃ ds, p ds ∧ d ∈ ds
def preDraw (r : Row) (n : Nat) (as : List AV) (res : AV) : Prop := ∃ l : Int, as = [.val (.ref r.a), .val (.int n), .val (.int l)] ∧ l ≤ 1000 ∧ res = .dp (Gd (n + 1))
section
variable {P : Program} {w : World} {K : PySem.W.Frag} {mg : Str → Option Value} {base : Heap}
abbrev NPk : List Str := ["_law_row", "_law_things"]
theorem bl_pick (T : Tx K mg base) : Binds K (fdOf K "_law_pick") NPk [] := T.f_law_pick.binds fun _ _ _ _ _ _ us hl => match us, hl with | [_, _], _ => rfl
theorem scl_pick : FnScope NPk NPk (defScope (top 34)) := ⟨rfl, rfl, rfl, by decide +kernel, rfl, by decide +kernel, by decide +kernel⟩
theorem okl_pick (T : Tx K mg base) (r : Row) : FnOk P w K mg base CX0 2 (fA K "_law_pick") (fdOf K "_law_pick") NPk (spOf (rowC K r) (prePick r)) := by
  refine T.f_law_pick.ok (N := NPk) (k := 1) scl_pick (fun as r h => ?_) fun A outer s H E hr => ?_
  · obtain ⟨p, rfl, _⟩ := h
    rfl
  · refine ⟨_, pss_one (ps_ret (pe_ix ix_list (pv 1) (pe_fn (okl_taken T r) hr T.g_law_taken T.f_law_taken (bl_taken T) (pa_cons (pv 0) (pa_cons (pe_len T.z_len (pv 1)) pa_nil))) (fun _ _ => rfl))), ?_⟩
    rintro as res vs ⟨p, rfl, hp, rfl⟩ ⟨x, _, rfl, hx, y, _, rfl, ⟨a, xs, ds, e1, e2, e3, e4, e5⟩, rfl⟩ at0
    have s0 : Sl (start NPk [x, y]) 0 (.val (.ref r.a)) H := ⟨x, rfl, hx⟩
    have s1 : Sl (start NPk [x, y]) 1 (.lx r.a (· = ds)) H := ⟨y, rfl, a, xs, ds, e1, e2, e3, rfl, e5⟩
    have v1 := ev_var (c := rowC K r) s1 okX
    obtain ⟨l1, l2⟩ := hp ds e4
    exact evS_ret ((ev_ixX v1 (ev_call (evA_cons (ev_var s0) (evA_one (ev_lenX v1))) ⟨_, rfl, by omega, by omega, rfl⟩ at0)).wk fun z H' ⟨d, h1, h2⟩ => ⟨d, ⟨ds, e4, h1⟩, h2⟩)
abbrev PDr : List Str := ["_law_row", "_law_deep", "_law_lates"]
abbrev NDr : List Str := ["_law_row", "_law_deep", "_law_lates", "_law_way"]
theorem bl_draw (T : Tx K mg base) : Binds K (fdOf K "_law_worth") PDr [] := T.f_law_worth.binds fun _ _ _ _ _ _ us hl => match us, hl with | [_, _, _], _ => rfl
theorem scl_draw : FnScope NDr PDr (defScope (top 36)) := ⟨rfl, rfl, rfl, by decide +kernel, rfl, by decide +kernel, by decide +kernel⟩
theorem ev_tup2 {c : Ct} {σ : L2.St} {H0 : Hp} {ta tb : TE} {p q : PyData → Prop} (h : Ev c ta σ H0 (.dp p)) (h2 : Ev c tb σ H0 (.dp q)) : Ev c (tTup (tCons ta (tCons tb tNil))) σ H0 (.dp fun d => ∃ a b, p a ∧ q b ∧ d = .tuple [a, b]) :=
  (ev_tup (ps := [p, q]) (evA_cons h (evA_one h2)) (by show 2 ≤ 1000; decide)).wk fun x H ⟨d, ⟨ds, ⟨a, r, e1, h1, ⟨b, r2, e2, h2, e3⟩⟩, e4⟩, h⟩ => ⟨d, ⟨a, b, h1, h2, by rw [e4, e1, e2, e3]⟩, h⟩
theorem ev_tup3 {c : Ct} {σ : L2.St} {H0 : Hp} {ta tb td : TE} {p q s : PyData → Prop} (h : Ev c ta σ H0 (.dp p)) (h2 : Ev c tb σ H0 (.dp q)) (h3 : Ev c td σ H0 (.dp s)) : Ev c (tTup (tCons ta (tCons tb (tCons td tNil)))) σ H0 (.dp fun d => ∃ a b e, p a ∧ q b ∧ s e ∧ d = .tuple [a, b, e]) :=
  (ev_tup (ps := [p, q, s]) (evA_cons h (evA_cons h2 (evA_one h3))) (by show 3 ≤ 1000; decide)).wk fun x H ⟨d, ⟨ds, ⟨a, r, e1, h1, ⟨b, r2, e2, h2, ⟨e, r3, e3, h3, e4⟩⟩⟩, e5⟩, h⟩ => ⟨d, ⟨a, b, e, h1, h2, h3, by rw [e5, e1, e2, e3, e4]⟩, h⟩
/-- one of some whole numbers -/
theorem pick_num {r : Row} {σ : L2.St} {H0 : Hp} {E : XK} (at0 : (rowC K r).At H0) (s0 : Sl σ 0 (.val (.ref r.a)) H0) : Ev (rowC K r) (tCall (spOf (rowC K r) (prePick r)) [] E (tCons (tVar 0) (tCons (tLst (tCons (tC (.int 0)) (tCons (tC (.int 1)) (tCons (tC (.int 2)) (tCons (tC (.int 5)) (tCons (tC (.int 9)) tNil)))))) tNil))) σ H0 (.dp fun d => flat d = true) :=
  (ev_call (pre := prePick r) (evA_cons (ev_var s0) (evA_one (ev_lstX (ps := [(· = .int 0), (· = .int 1), (· = .int 2), (· = .int 5), (· = .int 9)]) (evA_cons ev_c.dInt (evA_cons ev_c.dInt (evA_cons ev_c.dInt (evA_cons ev_c.dInt (evA_one ev_c.dInt))))) at0 (by show 5 ≤ 1000; decide)))) ⟨_, rfl, fun ds h => by rw [each_len h]; exact ⟨by show 1 ≤ 5; decide, by show 5 ≤ 1000; decide⟩, rfl⟩ at0).wk fun x H ⟨d, ⟨ds, h1, h2⟩, h⟩ => ⟨d, by
    obtain ⟨p, hp, hd⟩ := each_mem h1 h2
    simp only [List.mem_cons, List.not_mem_nil, or_false] at hp
    rcases hp with rfl | rfl | rfl | rfl | rfl <;> (cases hd; rfl), h⟩
/-- one of some texts -/
theorem strs_ev {c : Ct} {σ : L2.St} {H0 : Hp} : ∀ ss : List Str, (∀ s ∈ ss, s.length ≤ 1000) → EvA c (tStrs ss) σ H0 ((ss.map fun s => (· = PyData.str s)).map AV.dp)
  | [], _ => evA_nil
  | s :: r, h => evA_cons (ev_c.dStr (h s List.mem_cons_self)) (strs_ev r fun x hx => h x (List.mem_cons_of_mem _ hx))
theorem ev_strsX {r : Row} {σ : L2.St} {H0 : Hp} (at0 : (rowC K r).At H0) (ss : List Str) (z : ∀ s ∈ ss, s.length ≤ 1000) (l : ss.length ≤ 1000) : Ev (rowC K r) (tLst (tStrs ss)) σ H0 (.lx r.a fun ds => ds.length = ss.length ∧ ∀ d ∈ ds, ∃ s ∈ ss, d = .str s) :=
  (ev_lstX (strs_ev ss z) at0 (by rw [List.length_map]; exact l)).wk fun x H ⟨a, xs, ds, e, n, h1, h2, h3⟩ => ⟨a, xs, ds, e, n, h1, ⟨by rw [each_len h2, List.length_map], fun d hd => by
    obtain ⟨p, hp, hd⟩ := each_mem h2 hd
    obtain ⟨s, hs, rfl⟩ := List.mem_map.mp hp
    exact ⟨s, hs, hd⟩⟩, h3⟩
theorem pick_str {r : Row} {σ : L2.St} {H0 : Hp} {E : XK} (at0 : (rowC K r).At H0) (s0 : Sl σ 0 (.val (.ref r.a)) H0) (ss : List Str) (z : ∀ s ∈ ss, s.length ≤ 1000) (l : 1 ≤ ss.length ∧ ss.length ≤ 1000) :
    Ev (rowC K r) (tCall (spOf (rowC K r) (prePick r)) [] E (tCons (tVar 0) (tCons (tLst (tStrs ss)) tNil))) σ H0 (.dp fun d => ∃ s ∈ ss, d = .str s) :=
  (ev_call (pre := prePick r) (evA_cons (ev_var s0) (evA_one (ev_strsX at0 ss z l.2))) ⟨_, rfl, fun ds h => by rw [h.1]; exact l, rfl⟩ at0).wk fun x H ⟨d, ⟨ds, h1, h2⟩, h⟩ => ⟨d, h1.2 d h2, h⟩
theorem okl_draw (T : Tx K mg base) (r : Row) : ∀ n : Nat, n ≤ 100 → FnOk P w K mg base CX0 (n + 3) (fA K "_law_worth") (fdOf K "_law_worth") PDr (spOf (rowC K r) (preDraw r n))
  | 0, _ => by
    refine T.f_law_worth.ok (N := NDr) (k := 2) scl_draw (fun as r h => ?_) fun A outer s H E hr => ?_
    · obtain ⟨l, rfl, _⟩ := h
      rfl
    · have hr1 : Room 1 (A.deeper (envOfC "_law_worth" (defScope (top 36)) s.heap.objs.size (fA K "_law_worth") (.ref (cdOf K "_law_worth")))) := hr.mono (by omega)
      refine ⟨_, pss_cons (ps_set (i := 3) scl_draw.nd rfl (Or.inl rfl) (pe_ifExp (pt_cmpR op_gt (pv 1) pe_int (nomark _)) (pe_fn (okl_taken T r) hr1 T.g_law_taken T.f_law_taken (bl_taken T) (pa_cons (pv 0) (pa_cons pe_int pa_nil))) (pe_fn (okl_taken T r) hr1 T.g_law_taken T.f_law_taken (bl_taken T) (pa_cons (pv 0) (pa_cons pe_int pa_nil)))))
        (pss_cons (ps_if (PW.pt (pw_and (pt_cmpR op_eq (pv 3) pe_int (nomark _)) (pw_and1 (pt_cmpR op_gt (pv 2) pe_int (nomark _))))) (pss_one (ps_ret (pe_tup (pa_cons pe_str (pa_cons (pe_fn (okl_taken T r) hr1 T.g_law_taken T.f_law_taken (bl_taken T) (pa_cons (pv 0) (pa_cons (pv 2) pa_nil))) pa_nil))))) pss_nil)
        (pss_cons (ps_if (PW.pt (pw_or (pt_cmpR op_lt (pv 3) pe_int (nomark _)) (pw_or1 (pt_cmpR op_lt (pv 1) pe_int (nomark _))))) (pss_one (ps_ret (pe_tup (pa_cons pe_str (pa_cons (pe_fn (okl_pick T r) hr T.g_law_pick T.f_law_pick (bl_pick T) (pa_cons (pv 0) (pa_cons (pe_lst (pa_cons pe_int (pa_cons pe_int (pa_cons pe_int (pa_cons pe_int (pa_cons pe_int pa_nil)))))) pa_nil))) pa_nil))))) pss_nil)
        pss_never)), ?_⟩
      rintro as res vs ⟨l, rfl, hl, rfl⟩ ⟨x, _, rfl, hx, y, _, rfl, hy, z, _, rfl, hz, rfl⟩ at0
      have s0 : ∀ {o : Option V} {H1 : Hp}, Sl [some x, some y, some z, o] 0 (.val (.ref r.a)) H1 := ⟨x, rfl, hx⟩
      have s1 : ∀ {o : Option V} {H1 : Hp}, Sl [some x, some y, some z, o] 1 (.val (.int (0 : Nat))) H1 := ⟨y, rfl, hy⟩
      have s2 : ∀ {o : Option V} {H1 : Hp}, Sl [some x, some y, some z, o] 2 (.val (.int l)) H1 := ⟨z, rfl, hz⟩
      show EvS (rowC K r) _ [some x, some y, some z, none] H _
      refine evS_set (i := 3) (b := inR 2) (ev_if (k := false) (evT_test (ev_i0 (ev_var s1) ev_c)) (fun z => by cases z) fun _ => ev_call (evA_cons (ev_var s0) (evA_one (ev_c (v := .int 2)))) ⟨2, rfl, by decide, by decide, rfl⟩ at0) fun x3 H1 r1 ⟨i, e3, i0, i1⟩ => ?_
      subst e3
      show EvS (rowC K r) _ [some x, some y, some z, some (.int i)] H1 _
      have at1 := at0.up r1
      have s3 : ∀ {H1 : Hp}, Sl [some x, some y, some z, some (.int i)] 3 (.val (.int i)) H1 := ⟨_, rfl, rfl⟩
      refine evS_if (evT_and (evT_test (ev_eq (ev_var s3) ev_c rfl)) fun _ => evT_test (ev_i0 (ev_var s2) (ev_c (v := .int 0)))) (fun h => ?_) fun _ => ?_
      · rw [Bool.and_eq_true] at h
        have l0 := of_decide_eq_true h.2
        exact evS_ret ((ev_tup2 (p := (· = .str "late")) (ev_c.dStr (by decide +kernel)) (Ev.ints (m := l) (ev_call (evA_cons (ev_var s0) (evA_one (ev_var s2))) ⟨l, rfl, by omega, hl, rfl⟩ at1))).wk fun x H ⟨d, ⟨a, b, e1, ⟨i, e2, _⟩, e3⟩, h⟩ => ⟨d, by
          rw [e3, e1, e2]
          exact gd_leaf (by decide +kernel) (by decide +kernel) (by show 1 ≤ 800; decide) fun x hx => by rw [List.mem_singleton.mp hx]; rfl, h⟩)
      refine evS_if (k := true) ((evT_or (k := decide (i < 3)) (l := true) (evT_test (ev_i0 (ev_var s3) ev_c)) fun _ => evT_test (ev_i0 (ev_var s1) ev_c)).to (Bool.or_true _)) (fun _ => ?_) fun z => by cases z
      exact evS_ret ((ev_tup2 (p := (· = .str "number")) (ev_c.dStr (by decide +kernel)) (pick_num at1 s0)).wk fun x H ⟨d, ⟨a, b, e1, e2, e3⟩, h⟩ => ⟨d, by
          rw [e3, e1]
          exact gd_leaf (by decide +kernel) (by decide +kernel) (by show 1 ≤ 800; decide) fun x hx => by rw [List.mem_singleton.mp hx]; exact e2, h⟩)
  | n + 1, hn => by
    have G := okl_draw T r n (by omega)
    refine T.f_law_worth.ok (N := NDr) (k := n + 3) scl_draw (fun as r h => ?_) fun A outer s H E hr => ?_
    · obtain ⟨l, rfl, _⟩ := h
      rfl
    · have hr1 : Room 1 (A.deeper (envOfC "_law_worth" (defScope (top 36)) s.heap.objs.size (fA K "_law_worth") (.ref (cdOf K "_law_worth")))) := hr.mono (by omega)
      have hr2 : Room 2 (A.deeper (envOfC "_law_worth" (defScope (top 36)) s.heap.objs.size (fA K "_law_worth") (.ref (cdOf K "_law_worth")))) := hr.mono (by omega)
      refine ⟨_, pss_cons (ps_set (i := 3) scl_draw.nd rfl (Or.inl rfl) (pe_ifExp (pt_cmpR op_gt (pv 1) pe_int (nomark _)) (pe_fn (okl_taken T r) hr1 T.g_law_taken T.f_law_taken (bl_taken T) (pa_cons (pv 0) (pa_cons pe_int pa_nil))) (pe_fn (okl_taken T r) hr1 T.g_law_taken T.f_law_taken (bl_taken T) (pa_cons (pv 0) (pa_cons pe_int pa_nil)))))
        (pss_cons (ps_if (PW.pt (pw_and (pt_cmpR op_eq (pv 3) pe_int (nomark _)) (pw_and1 (pt_cmpR op_gt (pv 2) pe_int (nomark _))))) (pss_one (ps_ret (pe_tup (pa_cons pe_str (pa_cons (pe_fn (okl_taken T r) hr1 T.g_law_taken T.f_law_taken (bl_taken T) (pa_cons (pv 0) (pa_cons (pv 2) pa_nil))) pa_nil))))) pss_nil)
        (pss_cons (ps_if (PW.pt (pw_or (pt_cmpR op_lt (pv 3) pe_int (nomark _)) (pw_or1 (pt_cmpR op_lt (pv 1) pe_int (nomark _))))) (pss_one (ps_ret (pe_tup (pa_cons pe_str (pa_cons (pe_fn (okl_pick T r) hr2 T.g_law_pick T.f_law_pick (bl_pick T) (pa_cons (pv 0) (pa_cons (pe_lst (pa_cons pe_int (pa_cons pe_int (pa_cons pe_int (pa_cons pe_int (pa_cons pe_int pa_nil)))))) pa_nil))) pa_nil))))) pss_nil)
        (pss_one (ps_ret (pe_tup (pa_cons (pe_fn (okl_pick T r) hr2 T.g_law_pick T.f_law_pick (bl_pick T) (pa_cons (pv 0) (pa_cons (pe_lst (pa_cons pe_str (pa_cons pe_str (pa_cons pe_str pa_nil)))) pa_nil)))
          (pa_cons (pe_fn G hr T.g_law_worth T.f_law_worth (bl_draw T) (pa_cons (pv 0) (pa_cons (pe_op op_sub (pv 1) pe_int) (pa_cons (pv 2) pa_nil)))) (pa_cons (pe_fn G hr T.g_law_worth T.f_law_worth (bl_draw T) (pa_cons (pv 0) (pa_cons (pe_op op_sub (pv 1) pe_int) (pa_cons (pv 2) pa_nil)))) pa_nil)))))))), ?_⟩
      rintro as res vs ⟨l, rfl, hl, rfl⟩ ⟨x, _, rfl, hx, y, _, rfl, hy, z, _, rfl, hz, rfl⟩ at0
      have s0 : ∀ {o : Option V} {H1 : Hp}, Sl [some x, some y, some z, o] 0 (.val (.ref r.a)) H1 := ⟨x, rfl, hx⟩
      have s1 : ∀ {o : Option V} {H1 : Hp}, Sl [some x, some y, some z, o] 1 (.val (.int (n + 1 : Nat))) H1 := ⟨y, rfl, hy⟩
      have s2 : ∀ {o : Option V} {H1 : Hp}, Sl [some x, some y, some z, o] 2 (.val (.int l)) H1 := ⟨z, rfl, hz⟩
      show EvS (rowC K r) _ [some x, some y, some z, none] H _
      refine evS_set (i := 3) (b := inR 5) (ev_if (k := decide ((0 : Int) < ((n + 1 : Nat) : Int))) (evT_test (ev_i0 (ev_var s1) ev_c)) (fun _ => ev_call (evA_cons (ev_var s0) (evA_one (ev_c (v := .int 5)))) ⟨5, rfl, by decide, by decide, rfl⟩ at0) fun z => absurd (of_decide_eq_false z) (by omega)) fun x3 H1 r1 ⟨i, e3, i0, i1⟩ => ?_
      subst e3
      show EvS (rowC K r) _ [some x, some y, some z, some (.int i)] H1 _
      have at1 := at0.up r1
      have s3 : ∀ {H1 : Hp}, Sl [some x, some y, some z, some (.int i)] 3 (.val (.int i)) H1 := ⟨_, rfl, rfl⟩
      refine evS_if (evT_and (evT_test (ev_eq (ev_var s3) ev_c rfl)) fun _ => evT_test (ev_i0 (ev_var s2) (ev_c (v := .int 0)))) (fun h => ?_) fun _ => ?_
      · rw [Bool.and_eq_true] at h
        have l0 := of_decide_eq_true h.2
        exact evS_ret ((ev_tup2 (p := (· = .str "late")) (ev_c.dStr (by decide +kernel)) (Ev.ints (m := l) (ev_call (evA_cons (ev_var s0) (evA_one (ev_var s2))) ⟨l, rfl, by omega, hl, rfl⟩ at1))).wk fun x H ⟨d, ⟨a, b, e1, ⟨i, e2, _⟩, e3⟩, h⟩ => ⟨d, by
          rw [e3, e1, e2]
          exact gd_leaf (by decide +kernel) (by decide +kernel) (by show 1 ≤ 800; decide) fun x hx => by rw [List.mem_singleton.mp hx]; rfl, h⟩)
      refine evS_if (evT_or (evT_test (ev_i0 (ev_var s3) ev_c)) fun _ => evT_test (ev_i0 (ev_var s1) ev_c)) (fun _ => ?_) fun _ => ?_
      · exact evS_ret ((ev_tup2 (p := (· = .str "number")) (ev_c.dStr (by decide +kernel)) (pick_num at1 s0)).wk fun x H ⟨d, ⟨a, b, e1, e2, e3⟩, h⟩ => ⟨d, by
          rw [e3, e1]
          exact gd_leaf (by decide +kernel) (by decide +kernel) (by show 1 ≤ 800; decide) fun x hx => by rw [List.mem_singleton.mp hx]; exact e2, h⟩)
      · have rc1 : Ev (rowC K r) (tCall (spOf (rowC K r) (preDraw r n)) [] E0 (tCons (tVar 0) (tCons (tOp (rI0 fun i j => .int (i - j)) (tVar 1) (tC (.int 1))) (tCons (tVar 2) tNil)))) [some x, some y, some z, some (.int i)] H1 (.dp (Gd (n + 1))) :=
          ev_call (evA_cons (ev_var s0) (evA_cons (a := .val (.int (n : Int))) ((ev_i0 (ev_var s1) (ev_c (v := .int 1))).to (by show AV.val (V.int (((n + 1 : Nat) : Int) - 1)) = _; rw [show (((n + 1 : Nat) : Int) - 1) = (n : Int) by omega])) (evA_one (ev_var s2)))) ⟨l, rfl, hl, rfl⟩ at1
        exact evS_ret ((ev_tup3 (pick_str at1 s0 sumTags (by decide +kernel) ⟨by decide, by decide⟩) rc1 rc1).wk fun x H ⟨d, ⟨a, b, e, ⟨k, hk, e1⟩, e2, e3, e4⟩, h⟩ => ⟨d, by
          rw [e4, e1]
          have kk : ¬ k ∈ leafTags ∧ k ≠ "go" := by
            simp only [List.mem_cons, List.not_mem_nil, or_false] at hk
            rcases hk with rfl | rfl | rfl <;> exact ⟨by decide +kernel, by decide +kernel⟩
          exact gd_mid kk.1 kk.2 (by show 2 ≤ 4; decide) fun x hx => by
            simp only [List.mem_cons, List.not_mem_nil, or_false] at hx
            rcases hx with rfl | rfl
            · exact e2
            · exact e3, h⟩)
end
end KX

set_option maxHeartbeats 8000000
namespace KX
open PySem PySem.Spec PyProof.Rows L2
def preMv (r : Row) (as : List AV) (res : AV) : Prop := as = [.val (.ref r.a), .val (.bl true)] ∧ res = .dp fun d => dep 1 d = true
def NmOk (ds : List PyData) : Prop := (1 ≤ ds.length ∧ ds.length ≤ 3) ∧ ∀ d ∈ ds, ∃ (s : Str) (i : Int), d = .tuple [.str s, .int i] ∧ 0 ≤ i ∧ i < 3
def preTr (r : Row) (n : Nat) (as : List AV) (res : AV) : Prop := ∃ (l : Int) (p : List PyData → Prop), as = [.val (.ref r.a), .val (.int n), .val (.int l), .lx r.a p, .val (.bl true)] ∧ l ≤ 1000 ∧ (∀ ds, p ds → NmOk ds) ∧ res = .dp (Gd (n + 5))
section
variable {c : Ct} {σ : L2.St} {H0 : Hp} {te ta tb td tf : TE} {p q s u : PyData → Prop} {t : TS} {a : AV}
theorem ev_tup4 (h : Ev c ta σ H0 (.dp p)) (h2 : Ev c tb σ H0 (.dp q)) (h3 : Ev c td σ H0 (.dp s)) (h4 : Ev c tf σ H0 (.dp u)) : Ev c (tTup (tCons ta (tCons tb (tCons td (tCons tf tNil))))) σ H0 (.dp fun d => ∃ a b e f, p a ∧ q b ∧ s e ∧ u f ∧ d = .tuple [a, b, e, f]) :=
  (ev_tup (ps := [p, q, s, u]) (evA_cons h (evA_cons h2 (evA_cons h3 (evA_one h4)))) (by show 4 ≤ 1000; decide)).wk fun x H ⟨d, ⟨ds, ⟨a, r, e1, h1, ⟨b, r2, e2, h2, ⟨e, r3, e3, h3, ⟨f, r4, e4, h4, e5⟩⟩⟩⟩, e6⟩, h⟩ => ⟨d, ⟨a, b, e, f, h1, h2, h3, h4, by rw [e6, e1, e2, e3, e4, e5]⟩, h⟩
/-- a, b = a pair -/
theorem evS_set2 {i j : Nat} {d1 d2 : PyData → Prop} (h : Ev c te σ H0 (.dp p)) (hp : ∀ d, p d → ∃ a b, d = .tuple [a, b] ∧ d1 a ∧ d2 b) (k : ∀ v1 v2 a b H, c.R H0 H → Dat H v1 a → Dat H v2 b → p (.tuple [a, b]) → EvS c t ((σ.set i (some v1)).set j (some v2)) H (.dp q)) :
    EvS c (tSeq (tAsg te (gTup c.K 2 (gCons (gName i) (gCons (gName j) gNil)))) t) σ H0 (.dp q) := fun H r D qq =>
  h H r _ fun x H1 r1 ⟨d, hd, hx⟩ => by
    obtain ⟨a, b, rfl, _, _⟩ := hp d hd
    cases hx with
    | tup h1 h2 =>
      cases h2 with
      | @cons v1 _ _ _ a1 h2 =>
        cases h2 with
        | @cons v2 _ _ _ a2 h2 =>
          cases h2
          exact ⟨_, _, rfl, SqT.of h1, rfl, v1, _, rfl, v2, _, rfl, rfl, k v1 v2 a b H1 (r.trans r1) a1 a2 hd H1 (.refl H1) D fun v H2 r2 y => qq v H2 (r1.trans r2) y⟩
theorem each_reps {P : PyData → Prop} : ∀ {n : Nat} {ds : List PyData}, Each ((List.range n).filterMap fun _ => some P) ds → ds.length = n ∧ ∀ x ∈ ds, P x := fun {n ds} h => by
  have e : ((List.range n).filterMap fun _ => some P) = List.replicate n P := by
    show (List.range n).filterMap (some ∘ fun _ => P) = _
    rw [List.filterMap_eq_map]
    rw [List.map_const', List.length_range]
  rw [e] at h
  refine ⟨by rw [each_len h, List.length_replicate], fun x hx => ?_⟩
  obtain ⟨q, hq, hx2⟩ := each_mem h hx
  rw [List.eq_of_mem_replicate hq] at hx2
  exact hx2
end
section
variable {P : Program} {w : World} {K : PySem.W.Frag} {mg : Str → Option Value} {base : Heap}
abbrev NMv : List Str := ["_law_row", "_law_is_hot", "_law_way", "_law_words"]
theorem bl_move (T : Tx K mg base) : Binds K (fdOf K "_law_move") ["_law_row", "_law_is_hot"] [] := T.f_law_move.binds fun _ _ _ _ _ _ us hl => match us, hl with | [_, _], _ => rfl
theorem scl_move : FnScope NMv ["_law_row", "_law_is_hot"] (defScope (top 37)) := ⟨rfl, rfl, rfl, by decide +kernel, rfl, by decide +kernel, by decide +kernel⟩
theorem dep_pair {a b : PyData} (h1 : flat a = true) (h2 : flat b = true) : dep 1 (.tuple [a, b]) = true := dep_tup (by show 2 ≤ 900; decide) fun x hx => by
  simp only [List.mem_cons, List.not_mem_nil, or_false] at hx
  rcases hx with rfl | rfl
  · exact h1
  · exact h2
theorem dep_trip {a b e : PyData} (h1 : flat a = true) (h2 : flat b = true) (h3 : flat e = true) : dep 1 (.tuple [a, b, e]) = true := dep_tup (by show 3 ≤ 900; decide) fun x hx => by
  simp only [List.mem_cons, List.not_mem_nil, or_false] at hx
  rcases hx with rfl | rfl | rfl
  · exact h1
  · exact h2
  · exact h3
theorem okl_move (T : Tx K mg base) (r : Row) : FnOk P w K mg base CX0 3 (fA K "_law_move") (fdOf K "_law_move") ["_law_row", "_law_is_hot"] (spOf (rowC K r) (preMv r)) := by
  refine T.f_law_move.ok (N := NMv) (k := 2) scl_move (fun as r h => ?_) fun A outer s H E hr => ?_
  · obtain ⟨rfl, _⟩ := h
    rfl
  · have hr1 : Room 1 (A.deeper (envOfC "_law_move" (defScope (top 37)) s.heap.objs.size (fA K "_law_move") (.ref (cdOf K "_law_move")))) := hr.mono (by omega)
    refine ⟨_, pss_cons (ps_set (i := 2) scl_move.nd rfl (Or.inl rfl) (pe_fn (okl_taken T r) hr1 T.g_law_taken T.f_law_taken (bl_taken T) (pa_cons (pv 0) (pa_cons pe_int pa_nil))))
      (pss_cons (ps_set (i := 3) scl_move.nd rfl (Or.inl rfl) (pe_ifExp (pt_val (pv 1)) (pe_lst (pa_cons pe_str (pa_cons pe_str (pa_cons pe_str (pa_cons pe_str (pa_cons pe_str pa_nil)))))) (pe_lst (pa_cons pe_str (pa_cons pe_str (pa_cons pe_str (pa_cons pe_str (pa_cons pe_str pa_nil))))))))
      (pss_cons (ps_if (pt_cmpR op_eq (pv 2) pe_int (nomark _)) (pss_one (ps_ret (pe_tup (pa_cons pe_str (pa_cons (pe_fn (okl_pick T r) hr T.g_law_pick T.f_law_pick (bl_pick T) (pa_cons (pv 0) (pa_cons (pe_lst (pa_cons pe_str (pa_cons pe_str (pa_cons pe_str (pa_cons pe_str pa_nil))))) pa_nil))) pa_nil))))) pss_nil)
      (pss_cons (ps_if (PW.pt (pw_and (pt_cmpR op_lt (pv 2) pe_int (nomark _)) (pw_and1 (pt_val (pv 1))))) (pss_one (ps_ret (pe_tup (pa_cons pe_str (pa_cons pe_int (pa_cons (pe_fn (okl_pick T r) hr T.g_law_pick T.f_law_pick (bl_pick T) (pa_cons (pv 0) (pa_cons (pv 3) pa_nil))) pa_nil)))))) pss_nil)
      (pss_one (ps_ret (pe_tup (pa_cons pe_str (pa_cons pe_int (pa_cons (pe_fn (okl_pick T r) hr T.g_law_pick T.f_law_pick (bl_pick T) (pa_cons (pv 0) (pa_cons (pe_op op_cat (pv 3) (pe_lst (pa_cons pe_str (pa_cons pe_str pa_nil)))) pa_nil))) pa_nil))))))))), ?_⟩
    rintro as res vs ⟨rfl, rfl⟩ ⟨x, _, rfl, hx, y, _, rfl, hy, rfl⟩ at0
    have s0 : ∀ {o o2 : Option V} {H1 : Hp}, Sl [some x, some y, o, o2] 0 (.val (.ref r.a)) H1 := ⟨x, rfl, hx⟩
    have s1 : ∀ {o o2 : Option V} {H1 : Hp}, Sl [some x, some y, o, o2] 1 (.val (.bl true)) H1 := ⟨y, rfl, hy⟩
    show EvS (rowC K r) _ [some x, some y, none, none] H _
    refine evS_set (i := 2) (b := inR 10) (ev_call (evA_cons (ev_var s0) (evA_one (ev_c (v := .int 10)))) ⟨10, rfl, by decide, by decide, rfl⟩ at0) fun x2 H1 r1 ⟨i, e2, i0, i1⟩ => ?_
    subst e2
    show EvS (rowC K r) _ [some x, some y, some (.int i), none] H1 _
    have at1 := at0.up r1
    refine evS_set (i := 3) (b := .lx r.a fun ds => ds.length = 5 ∧ ∀ d ∈ ds, ∃ s ∈ (["x", "y", "xy", "yx", "z"] : List Str), d = .str s) (ev_if (k := true) (evT_val (ev_var s1)) (fun _ => ev_strsX at1 ["x", "y", "xy", "yx", "z"] (by decide +kernel) (by show 5 ≤ 1000; decide)) fun z => by cases z) fun x3 H2 r2 hx3 => ?_
    show EvS (rowC K r) _ [some x, some y, some (.int i), some x3] H2 _
    have at2 := at1.up r2
    have s2 : ∀ {H1 : Hp}, Sl [some x, some y, some (.int i), some x3] 2 (.val (.int i)) H1 := ⟨_, rfl, rfl⟩
    have s3 : Sl [some x, some y, some (.int i), some x3] 3 (.lx r.a fun ds => ds.length = 5 ∧ ∀ d ∈ ds, ∃ s ∈ (["x", "y", "xy", "yx", "z"] : List Str), d = .str s) H2 := ⟨x3, rfl, hx3⟩
    refine evS_if (evT_test (ev_eq (ev_var s2) ev_c rfl)) (fun _ => ?_) fun _ => ?_
    · exact evS_ret ((ev_tup2 (p := (· = .str "give")) (ev_c.dStr (by decide +kernel)) (pick_str at2 s0 ["", "x", "yy", "zx"] (by decide +kernel) ⟨by decide, by decide⟩)).wk fun x H ⟨d, ⟨a, b, e1, ⟨k, _, e2⟩, e3⟩, h⟩ => ⟨d, by rw [e3, e1, e2]; exact dep_pair rfl rfl, h⟩)
    refine evS_if (evT_and (evT_test (ev_i0 (ev_var s2) (ev_c (v := .int 3)))) fun _ => evT_val (ev_var s1)) (fun _ => ?_) fun _ => ?_
    · have pk : Ev (rowC K r) (tCall (spOf (rowC K r) (prePick r)) [] E0 (tCons (tVar 0) (tCons (tVar 3) tNil))) [some x, some y, some (.int i), some x3] H2 (.dp fun d => flat d = true) :=
        (ev_call (pre := prePick r) (evA_cons (ev_var s0) (evA_one (ev_var s3 okX))) ⟨_, rfl, fun ds h => by rw [h.1]; decide, rfl⟩ at2).wk fun x H ⟨d, ⟨ds, h1, h2⟩, h⟩ => ⟨d, by
          obtain ⟨s, _, e⟩ := h1.2 d h2
          rw [e]
          rfl, h⟩
      exact evS_ret ((ev_tup3 (p := (· = .str "take")) (q := (· = .int 0)) (ev_c.dStr (by decide +kernel)) ev_c.dInt pk).wk fun x H ⟨d, ⟨a, b, e, e1, e2, e3, e4⟩, h⟩ => ⟨d, by rw [e4, e1, e2]; exact dep_trip rfl rfl e3, h⟩)
    · have pk : Ev (rowC K r) (tCall (spOf (rowC K r) (prePick r)) [] E0 (tCons (tVar 0) (tCons (tOp rCat (tVar 3) (tLst (tStrs ["", ""]))) tNil))) [some x, some y, some (.int i), some x3] H2 (.dp fun d => flat d = true) :=
        (ev_call (pre := prePick r) (evA_cons (ev_var s0) (evA_one (ev_catX (z1 := 5) (z2 := 2) (ev_var s3 okX) (ev_strsX at2 ["", ""] (by decide +kernel) (by decide)) at2 (fun ds h => Nat.le_of_eq h.1) (fun ds h => Nat.le_of_eq h.1)))) ⟨_, rfl, fun ds ⟨a, b, h1, h2, e⟩ => by rw [e, List.length_append, h1.1, h2.1]; decide, rfl⟩ at2).wk fun x H ⟨d, ⟨ds, ⟨a, b, h1, h2, e⟩, hd⟩, h⟩ => ⟨d, by
          rw [e] at hd
          rcases List.mem_append.mp hd with hd | hd
          · obtain ⟨s, _, e⟩ := h1.2 d hd
            rw [e]
            rfl
          · obtain ⟨s, _, e⟩ := h2.2 d hd
            rw [e]
            rfl, h⟩
      exact evS_ret ((ev_tup3 (p := (· = .str "take")) (q := (· = .int 1)) (ev_c.dStr (by decide +kernel)) ev_c.dInt pk).wk fun x H ⟨d, ⟨a, b, e, e1, e2, e3, e4⟩, h⟩ => ⟨d, by rw [e4, e1, e2]; exact dep_trip rfl rfl e3, h⟩)
end
end KX

set_option maxHeartbeats 8000000
namespace KX
open PySem PySem.Spec PyProof.Rows L2
section
variable {P : Program} {w : World} {K : PySem.W.Frag} {mg : Str → Option Value} {base : Heap}
abbrev PTd : List Str := ["_law_row", "_law_deep", "_law_lates", "_law_names", "_law_is_hot"]
abbrev NTd : List Str := ["_law_row", "_law_deep", "_law_lates", "_law_names", "_law_is_hot", "_law_way", "_law_name", "_law_many", "_law_tests", "_law_test", "_law_k"]
theorem bl_tree (T : Tx K mg base) : Binds K (fdOf K "_law_tree") PTd [] := T.f_law_tree.binds fun _ _ _ _ _ _ us hl => match us, hl with | [_, _, _, _, _], _ => rfl
theorem scl_tree : FnScope NTd PTd (defScope (top 38)) := ⟨rfl, rfl, rfl, by decide +kernel, rfl, by decide +kernel, by decide +kernel⟩
/-- the first three statements -/
theorem tree_first {r : Row} {n : Nat} {x0 x1 x2 x3 x4 : V} {l i : Int} {p : List PyData → Prop} {H : Hp} {rest : TS} {E : XK} (at0 : (rowC K r).At H) (hl : l ≤ 1000) (hp : ∀ ds, p ds → NmOk ds)
    (e0 : x0 = .ref r.a) (e2 : x2 = .int l) (e3 : (AV.lx r.a p).is x3 H) (e4 : x4 = .bl true)
    (hrest : 3 ≤ i → EvS (rowC K r) rest [some x0, some x1, some x2, some x3, some x4, some (.int i), none, none, none, none, none] H (.dp (Gd (n + 5)))) :
    EvS (rowC K r) (tSeq (tIfS (tTest (tOp rEq (tVar 5) (tC (.int 0)))) (tRet (tTup (tCons (tC (.str "end")) (tCons (tCall (spOf (rowC K r) (preDraw r 2)) [] E (tCons (tVar 0) (tCons (tC (.int 2)) (tCons (tVar 2) tNil)))) tNil)))) tNext)
      (tSeq (tIfS (tTest (tOp rLt (tVar 5) (tC (.int 3)))) (tSeq (tAsg (tCall (spOf (rowC K r) (prePick r)) [] E (tCons (tVar 0) (tCons (tVar 3) tNil))) (gTup K 2 (gCons (gName 6) (gCons (gName 7) gNil))))
        (tRet (tTup (tCons (tC (.str "go")) (tCons (tVar 6) (tCons (tCall (spOf (rowC K r) (preMv r)) [] E (tCons (tVar 0) (tCons (tVar 4) tNil))) (tCons (tCB (rTupOf K) (tCons (tLc (iRng1 (tCons (tVar 7) tNil)) (gName 10) tYes (tCall (spOf (rowC K r) (preDraw r 2)) [] E (tCons (tVar 0) (tCons (tC (.int 2)) (tCons (tVar 2) tNil)))) [10]) tNil)) tNil))))))) tNext) rest))
      [some x0, some x1, some x2, some x3, some x4, some (.int i), none, none, none, none, none] H (.dp (Gd (n + 5))) := by
  subst e0 e2 e4
  have s0 : ∀ {o5 o6 o7 o8 o9 o10 : Option V} {H1 : Hp}, Sl [some (.ref r.a), some x1, some (.int l), some x3, some (.bl true), o5, o6, o7, o8, o9, o10] 0 (.val (.ref r.a)) H1 := ⟨_, rfl, rfl⟩
  have s2 : ∀ {o5 o6 o7 o8 o9 o10 : Option V} {H1 : Hp}, Sl [some (.ref r.a), some x1, some (.int l), some x3, some (.bl true), o5, o6, o7, o8, o9, o10] 2 (.val (.int l)) H1 := ⟨_, rfl, rfl⟩
  have s4 : ∀ {o5 o6 o7 o8 o9 o10 : Option V} {H1 : Hp}, Sl [some (.ref r.a), some x1, some (.int l), some x3, some (.bl true), o5, o6, o7, o8, o9, o10] 4 (.val (.bl true)) H1 := ⟨_, rfl, rfl⟩
  have s5 : ∀ {o6 o7 o8 o9 o10 : Option V} {H1 : Hp}, Sl [some (.ref r.a), some x1, some (.int l), some x3, some (.bl true), some (.int i), o6, o7, o8, o9, o10] 5 (.val (.int i)) H1 := ⟨_, rfl, rfl⟩
  have s3 : Sl [some (.ref r.a), some x1, some (.int l), some x3, some (.bl true), some (.int i), none, none, none, none, none] 3 (.lx r.a p) H := ⟨x3, rfl, e3⟩
  refine evS_if (evT_test (ev_eq (ev_var s5) ev_c rfl)) (fun _ => ?_) fun _ => ?_
  · exact evS_ret ((ev_tup2 (p := (· = .str "end")) (ev_c.dStr (by decide +kernel)) (ev_call (pre := preDraw r 2) (evA_cons (ev_var s0) (evA_cons (ev_c (v := .int 2)) (evA_one (ev_var s2)))) ⟨l, rfl, hl, rfl⟩ at0)).wk fun x H ⟨d, ⟨a, b, e1, e2, e3⟩, h⟩ => ⟨d, by
      rw [e3, e1]
      exact (gd_mid (n := 3) (by decide +kernel) (by decide +kernel) (by show 1 ≤ 4; decide) fun x hx => by rw [List.mem_singleton.mp hx]; exact e2).le (by omega), h⟩)
  refine evS_if (evT_test (ev_i0 (ev_var s5) ev_c)) (fun _ => ?_) fun h => ?_
  · refine evS_set2 (i := 6) (j := 7) (p := fun d => ∃ ds, p ds ∧ d ∈ ds) (d1 := fun _ => True) (d2 := fun _ => True) (ev_call (pre := prePick r) (evA_cons (ev_var s0) (evA_one (ev_var s3 okX))) ⟨p, rfl, fun ds h => by obtain ⟨⟨a, b⟩, _⟩ := hp ds h; exact ⟨a, by omega⟩, rfl⟩ at0) (fun d ⟨ds, h1, h2⟩ => by
      obtain ⟨s, j, e, _⟩ := (hp ds h1).2 d h2
      exact ⟨_, _, e, trivial, trivial⟩) fun v1 v2 a b H1 r1 a1 a2 ⟨ds, h1, h2⟩ => ?_
    obtain ⟨s, j, e, j0, j3⟩ := (hp ds h1).2 _ h2
    cases e
    have at1 := at0.up r1
    show EvS (rowC K r) _ [some (.ref r.a), some x1, some (.int l), some x3, some (.bl true), some (.int i), some v1, some v2, none, none, none] H1 _
    have s6 : Sl [some (.ref r.a), some x1, some (.int l), some x3, some (.bl true), some (.int i), some v1, some v2, none, none, none] 6 (.dat (.str s)) H1 := ⟨v1, rfl, _, rfl, a1⟩
    have s7 : Sl [some (.ref r.a), some x1, some (.int l), some x3, some (.bl true), some (.int i), some v1, some v2, none, none, none] 7 (.dat (.int j)) H1 := ⟨v2, rfl, _, rfl, a2⟩
    have lc := ev_lc (c := rowC K r) (te := tCall (spOf (rowC K r) (preDraw r 2)) [] E (tCons (tVar 0) (tCons (tC (.int 2)) (tCons (tVar 2) tNil)))) (tt := tYes) (g := gName 10) (vs := [10]) (evI_range (c := rowC K r) (evA_one (ev_var s7).int) (by omega)) at1 (by omega) (fun _ => some (Gd 3)) fun q y H2 lt rr ha => ⟨_, bind_name, evT_yes, fun pp hpp => by
      cases hpp
      exact ev_call (pre := preDraw r 2) (evA_cons (ev_var s0) (evA_cons (ev_c (v := .int 2)) (evA_one (ev_var s2)))) ⟨l, rfl, hl, rfl⟩ (at1.up rr)⟩
    exact evS_ret ((ev_tup4 (p := (· = .str "go")) (q := (· = .str s)) (ev_c.dStr (by decide +kernel)) (ev_var s6) (ev_call (pre := preMv r) (evA_cons (ev_var s0) (evA_one (ev_var s4))) ⟨rfl, rfl⟩ at1) (ev_tupleL lc)).wk fun x H ⟨d, ⟨a, b, e, f, e1, e2, e3, ⟨es, e4, e5⟩, e6⟩, h⟩ => ⟨d, by
      obtain ⟨k1, k2⟩ := each_reps e4
      rw [e6, e1, e2, e5]
      exact (gd_go (n := 3) e3 (by omega) k2).le (by omega), h⟩)
  · exact hrest (by have := of_decide_eq_false h; omega)
theorem okl_tree (T : Tx K mg base) (r : Row) : ∀ n : Nat, FnOk P w K mg base CX0 (n + 6) (fA K "_law_tree") (fdOf K "_law_tree") PTd (spOf (rowC K r) (preTr r n))
  | 0 => by
    refine T.f_law_tree.ok (N := NTd) (k := 5) scl_tree (fun as r h => ?_) fun A outer s H E hr => ?_
    · obtain ⟨l, p, rfl, _⟩ := h
      rfl
    · have hrj : ∀ j, j ≤ 5 → Room j (A.deeper (envOfC "_law_tree" (defScope (top 38)) s.heap.objs.size (fA K "_law_tree") (.ref (cdOf K "_law_tree")))) := fun j h => hr.mono h
      refine ⟨_, pss_cons (ps_set (i := 5) scl_tree.nd rfl (Or.inl rfl) (pe_ifExp (pt_cmpR op_gt (pv 1) pe_int (nomark _)) (pe_fn (okl_taken T r) (hrj 1 (by omega)) T.g_law_taken T.f_law_taken (bl_taken T) (pa_cons (pv 0) (pa_cons pe_int pa_nil))) (pe_fn (okl_taken T r) (hrj 1 (by omega)) T.g_law_taken T.f_law_taken (bl_taken T) (pa_cons (pv 0) (pa_cons pe_int pa_nil)))))
        (pss_cons (ps_if (pt_cmpR op_eq (pv 5) pe_int (nomark _)) (pss_one (ps_ret (pe_tup (pa_cons pe_str (pa_cons (pe_fn (okl_draw T r 2 (by decide)) (hrj 5 (by omega)) T.g_law_worth T.f_law_worth (bl_draw T) (pa_cons (pv 0) (pa_cons pe_int (pa_cons (pv 2) pa_nil)))) pa_nil))))) pss_nil)
        (pss_cons (ps_if (pt_cmpR op_lt (pv 5) pe_int (nomark _))
            (pss_cons (ps_asg (pe_fn (okl_pick T r) (hrj 2 (by omega)) T.g_law_pick T.f_law_pick (bl_pick T) (pa_cons (pv 0) (pa_cons (pv 3) pa_nil))) (pg_tup rfl (pgs_cons (pg_name (i := 6) scl_tree.nd rfl (Or.inl rfl) (Or.inr rfl)) (pgs_cons (pg_name (i := 7) scl_tree.nd rfl (Or.inl rfl) (Or.inr rfl)) pgs_nil))))
            (pss_one (ps_ret (pe_tup (pa_cons pe_str (pa_cons (pv 6) (pa_cons (pe_fn (okl_move T r) (hrj 3 (by omega)) T.g_law_move T.f_law_move (bl_move T) (pa_cons (pv 0) (pa_cons (pv 4) pa_nil)))
              (pa_cons (pe_tupC T.z_tuple (pe_lc (own := [("_law_k", 10)]) (g := gName 10) rfl scl_tree.nd (pi_range1 (by rfl) T.z_range (pa_cons (pv 7) pa_nil)) (blkOk_by (own := [("_law_k", 10)]) (N := NTd) (sc := defScope (top 38)) (by decide +kernel))
                (fun _ _ _ _ _ => pg_name (i := 10) scl_tree.nd rfl (Or.inl rfl) (Or.inr rfl)) (fun _ _ _ _ _ => pts_nil) (fun _ _ _ _ _ => pe_fn (okl_draw T r 2 (by decide)) (hrj 5 (by omega)) T.g_law_worth T.f_law_worth (bl_draw T) (pa_cons (pv 0) (pa_cons pe_int (pa_cons (pv 2) pa_nil)))))) pa_nil)))))))) pss_nil)
        pss_never)), ?_⟩
      rintro as res vs ⟨l, p, rfl, hl, hp, rfl⟩ ⟨x, _, rfl, hx, y, _, rfl, hy, z, _, rfl, hz, u, _, rfl, hu, t, _, rfl, ht, rfl⟩ at0
      show EvS (rowC K r) _ [some x, some y, some z, some u, some t, none, none, none, none, none, none] H _
      refine evS_set (i := 5) (b := inR 3) (ev_if (k := false) (evT_test (ev_i0 (ev_var (a := .val (.int (0 : Nat))) ⟨y, rfl, hy⟩) ev_c)) (fun z => by cases z) fun _ => ev_call (evA_cons (ev_var (a := .val (.ref r.a)) ⟨x, rfl, hx⟩) (evA_one (ev_c (v := .int 3)))) ⟨3, rfl, by decide, by decide, rfl⟩ at0) fun x5 H1 r1 ⟨i, e5, i0, i3⟩ => ?_
      subst e5
      exact tree_first (E := E0) (at0.up r1) hl hp hx hz (AV.keep (c := rowC K r) okX r1 hu) ht fun q => by omega
  | n + 1 => by
    have G := okl_tree T r n
    refine T.f_law_tree.ok (N := NTd) (k := n + 6) scl_tree (fun as r h => ?_) fun A outer s H E hr => ?_
    · obtain ⟨l, p, rfl, _⟩ := h
      rfl
    · have hrj : ∀ j, j ≤ n + 6 → Room j (A.deeper (envOfC "_law_tree" (defScope (top 38)) s.heap.objs.size (fA K "_law_tree") (.ref (cdOf K "_law_tree")))) := fun j h => hr.mono h
      refine ⟨_, pss_cons (ps_set (i := 5) scl_tree.nd rfl (Or.inl rfl) (pe_ifExp (pt_cmpR op_gt (pv 1) pe_int (nomark _)) (pe_fn (okl_taken T r) (hrj 1 (by omega)) T.g_law_taken T.f_law_taken (bl_taken T) (pa_cons (pv 0) (pa_cons pe_int pa_nil))) (pe_fn (okl_taken T r) (hrj 1 (by omega)) T.g_law_taken T.f_law_taken (bl_taken T) (pa_cons (pv 0) (pa_cons pe_int pa_nil)))))
        (pss_cons (ps_if (pt_cmpR op_eq (pv 5) pe_int (nomark _)) (pss_one (ps_ret (pe_tup (pa_cons pe_str (pa_cons (pe_fn (okl_draw T r 2 (by decide)) (hrj 5 (by omega)) T.g_law_worth T.f_law_worth (bl_draw T) (pa_cons (pv 0) (pa_cons pe_int (pa_cons (pv 2) pa_nil)))) pa_nil))))) pss_nil)
        (pss_cons (ps_if (pt_cmpR op_lt (pv 5) pe_int (nomark _))
            (pss_cons (ps_asg (pe_fn (okl_pick T r) (hrj 2 (by omega)) T.g_law_pick T.f_law_pick (bl_pick T) (pa_cons (pv 0) (pa_cons (pv 3) pa_nil))) (pg_tup rfl (pgs_cons (pg_name (i := 6) scl_tree.nd rfl (Or.inl rfl) (Or.inr rfl)) (pgs_cons (pg_name (i := 7) scl_tree.nd rfl (Or.inl rfl) (Or.inr rfl)) pgs_nil))))
            (pss_one (ps_ret (pe_tup (pa_cons pe_str (pa_cons (pv 6) (pa_cons (pe_fn (okl_move T r) (hrj 3 (by omega)) T.g_law_move T.f_law_move (bl_move T) (pa_cons (pv 0) (pa_cons (pv 4) pa_nil)))
              (pa_cons (pe_tupC T.z_tuple (pe_lc (own := [("_law_k", 10)]) (g := gName 10) rfl scl_tree.nd (pi_range1 (by rfl) T.z_range (pa_cons (pv 7) pa_nil)) (blkOk_by (own := [("_law_k", 10)]) (N := NTd) (sc := defScope (top 38)) (by decide +kernel))
                (fun _ _ _ _ _ => pg_name (i := 10) scl_tree.nd rfl (Or.inl rfl) (Or.inr rfl)) (fun _ _ _ _ _ => pts_nil) (fun _ _ _ _ _ => pe_fn (okl_draw T r 2 (by decide)) (hrj 5 (by omega)) T.g_law_worth T.f_law_worth (bl_draw T) (pa_cons (pv 0) (pa_cons pe_int (pa_cons (pv 2) pa_nil)))))) pa_nil)))))))) pss_nil)
        (pss_cons (ps_set (i := 8) scl_tree.nd rfl (Or.inl rfl) (pe_lst (pa_cons (pe_tup (pa_cons pe_str (pa_cons pe_str pa_nil))) (pa_cons (pe_tup (pa_cons pe_str (pa_cons pe_str pa_nil))) (pa_cons (pe_tup (pa_cons pe_str (pa_cons (pe_fn (okl_pick T r) (hrj 2 (by omega)) T.g_law_pick T.f_law_pick (bl_pick T) (pa_cons (pv 0) (pa_cons (pe_lst (pa_cons pe_str (pa_cons pe_str (pa_cons pe_str (pa_cons pe_str pa_nil))))) pa_nil))) pa_nil)))
            (pa_cons (pe_tup (pa_cons pe_str pa_nil)) (pa_cons (pe_tup (pa_cons pe_str (pa_cons (pe_fn (okl_draw T r 1 (by decide)) (hrj 4 (by omega)) T.g_law_worth T.f_law_worth (bl_draw T) (pa_cons (pv 0) (pa_cons pe_int (pa_cons (pv 2) pa_nil)))) (pa_cons (pe_fn (okl_draw T r 1 (by decide)) (hrj 4 (by omega)) T.g_law_worth T.f_law_worth (bl_draw T) (pa_cons (pv 0) (pa_cons pe_int (pa_cons (pv 2) pa_nil)))) pa_nil)))) pa_nil)))))))
        (pss_cons (ps_set (i := 9) scl_tree.nd rfl (Or.inl rfl) (pe_fn (okl_pick T r) (hrj 2 (by omega)) T.g_law_pick T.f_law_pick (bl_pick T) (pa_cons (pv 0) (pa_cons (pv 8) pa_nil))))
        (pss_one (ps_ret (pe_tup (pa_cons pe_str (pa_cons (pv 9) (pa_cons (pe_fn G hr T.g_law_tree T.f_law_tree (bl_tree T) (pa_cons (pv 0) (pa_cons (pe_op op_sub (pv 1) pe_int) (pa_cons (pv 2) (pa_cons (pv 3) (pa_cons (pv 4) pa_nil))))))
            (pa_cons (pe_fn G hr T.g_law_tree T.f_law_tree (bl_tree T) (pa_cons (pv 0) (pa_cons (pe_op op_sub (pv 1) pe_int) (pa_cons (pv 2) (pa_cons (pv 3) (pa_cons (pv 4) pa_nil)))))) pa_nil))))))))))), ?_⟩
      rintro as res vs ⟨l, p, rfl, hl, hp, rfl⟩ ⟨x, _, rfl, hx, y, _, rfl, hy, z, _, rfl, hz, u, _, rfl, hu, t, _, rfl, ht, rfl⟩ at0
      show EvS (rowC K r) _ [some x, some y, some z, some u, some t, none, none, none, none, none, none] H _
      refine evS_set (i := 5) (b := inR 8) (ev_if (k := decide ((0 : Int) < ((n + 1 : Nat) : Int))) (evT_test (ev_i0 (ev_var (a := .val (.int (n + 1 : Nat))) ⟨y, rfl, hy⟩) ev_c)) (fun _ => ev_call (evA_cons (ev_var (a := .val (.ref r.a)) ⟨x, rfl, hx⟩) (evA_one (ev_c (v := .int 8)))) ⟨8, rfl, by decide, by decide, rfl⟩ at0) fun z => absurd (of_decide_eq_false z) (by omega)) fun x5 H1 r1 ⟨i, e5, i0, i3⟩ => ?_
      subst e5
      have at1 := at0.up r1
      have hu1 := AV.keep (c := rowC K r) okX r1 hu
      refine tree_first (E := E0) (n := n + 1) at1 hl hp hx hz hu1 ht fun _ => ?_
      cases hx
      cases hy
      cases hz
      cases ht
      have s0 : ∀ {o5 o6 o7 o8 o9 o10 : Option V} {H1 : Hp}, Sl [some (.ref r.a), some (.int (n + 1 : Nat)), some (.int l), some u, some (.bl true), o5, o6, o7, o8, o9, o10] 0 (.val (.ref r.a)) H1 := ⟨_, rfl, rfl⟩
      have s1 : ∀ {o5 o6 o7 o8 o9 o10 : Option V} {H1 : Hp}, Sl [some (.ref r.a), some (.int (n + 1 : Nat)), some (.int l), some u, some (.bl true), o5, o6, o7, o8, o9, o10] 1 (.val (.int (n + 1 : Nat))) H1 := ⟨_, rfl, rfl⟩
      have s2 : ∀ {o5 o6 o7 o8 o9 o10 : Option V} {H1 : Hp}, Sl [some (.ref r.a), some (.int (n + 1 : Nat)), some (.int l), some u, some (.bl true), o5, o6, o7, o8, o9, o10] 2 (.val (.int l)) H1 := ⟨_, rfl, rfl⟩
      have s4 : ∀ {o5 o6 o7 o8 o9 o10 : Option V} {H1 : Hp}, Sl [some (.ref r.a), some (.int (n + 1 : Nat)), some (.int l), some u, some (.bl true), o5, o6, o7, o8, o9, o10] 4 (.val (.bl true)) H1 := ⟨_, rfl, rfl⟩
      have w1 : Ev (rowC K r) (tCall (spOf (rowC K r) (preDraw r 1)) [] E0 (tCons (tVar 0) (tCons (tC (.int 1)) (tCons (tVar 2) tNil)))) [some (.ref r.a), some (.int (n + 1 : Nat)), some (.int l), some u, some (.bl true), some (.int i), none, none, none, none, none] H1 (.dp (Gd 2)) :=
        ev_call (pre := preDraw r 1) (evA_cons (ev_var s0) (evA_cons (ev_c (v := .int 1)) (evA_one (ev_var s2)))) ⟨l, rfl, hl, rfl⟩ at1
      have hd : ∀ k : Str, k.length ≤ 1000 → Ev (rowC K r) (tTup (tCons (tC (.str "head")) (tCons (tC (.str k)) tNil))) [some (.ref r.a), some (.int (n + 1 : Nat)), some (.int l), some u, some (.bl true), some (.int i), none, none, none, none, none] H1 (.dp (Gd 3)) := fun k hk =>
        (ev_tup2 (p := (· = .str "head")) (q := (· = .str k)) (ev_c.dStr (by decide +kernel)) (ev_c.dStr hk)).wk fun x H ⟨d, ⟨a, b, e1, e2, e3⟩, h⟩ => ⟨d, by
          rw [e3, e1, e2]
          exact gd_leaf (by decide +kernel) (by decide +kernel) (by show 1 ≤ 800; decide) fun x hx => by rw [List.mem_singleton.mp hx]; rfl, h⟩
      refine evS_set (i := 8) (b := .lx r.a fun ds => ds.length = 5 ∧ ∀ d ∈ ds, Gd 3 d) ((ev_lstX (ps := [Gd 3, Gd 3, Gd 3, Gd 3, Gd 3]) (evA_cons (hd "x" (by decide +kernel)) (evA_cons (hd "y" (by decide +kernel)) (evA_cons ((ev_tup2 (p := (· = .str "head")) (ev_c.dStr (by decide +kernel)) (pick_str at1 s0 ["x", "y", "z", "w"] (by decide +kernel) ⟨by decide, by decide⟩)).wk fun x H ⟨d, ⟨a, b, e1, ⟨k, _, e2⟩, e3⟩, h⟩ => ⟨d, by
          rw [e3, e1, e2]
          exact gd_leaf (by decide +kernel) (by decide +kernel) (by show 1 ≤ 800; decide) fun x hx => by rw [List.mem_singleton.mp hx]; rfl, h⟩)
          (evA_cons ((ev_tup1s (s := "empty") (by decide +kernel)).wk fun x H ⟨d, e, h⟩ => ⟨d, by
            rw [e]
            exact gd_leaf (by decide +kernel) (by decide +kernel) (by show 0 ≤ 800; decide) fun x hx => (List.not_mem_nil hx).elim, h⟩)
          (evA_one ((ev_tup3 (p := (· = .str "less")) (ev_c.dStr (by decide +kernel)) w1 w1).wk fun x H ⟨d, ⟨a, b, e, e1, e2, e3, e4⟩, h⟩ => ⟨d, by
            rw [e4, e1]
            exact gd_mid (by decide +kernel) (by decide +kernel) (by show 2 ≤ 4; decide) fun x hx => by
              simp only [List.mem_cons, List.not_mem_nil, or_false] at hx
              rcases hx with rfl | rfl
              · exact e2
              · exact e3, h⟩)))))) at1 (by show 5 ≤ 1000; decide)).wk fun x H ⟨a, xs, ds, e, nn, h1, h2, h3⟩ => ⟨a, xs, ds, e, nn, h1, ⟨each_len h2, fun d hd => by
            obtain ⟨p, hp, hq⟩ := each_mem h2 hd
            simp only [List.mem_cons, List.not_mem_nil, or_false, or_self] at hp
            rw [hp] at hq
            exact hq⟩, h3⟩) fun x8 H2 r2 h8 => ?_
      have at2 := at1.up r2
      show EvS (rowC K r) _ [some (.ref r.a), some (.int (n + 1 : Nat)), some (.int l), some u, some (.bl true), some (.int i), none, none, some x8, none, none] H2 _
      refine evS_set (i := 9) (b := .dp (Gd 3)) ((ev_call (pre := prePick r) (evA_cons (ev_var s0) (evA_one (ev_var (a := .lx r.a fun ds => ds.length = 5 ∧ ∀ d ∈ ds, Gd 3 d) ⟨x8, rfl, h8⟩ okX))) ⟨_, rfl, fun ds h => by rw [h.1]; decide, rfl⟩ at2).wk fun x H ⟨d, ⟨ds, h1, h2⟩, h⟩ => ⟨d, h1.2 d h2, h⟩) fun x9 H3 r3 h9 => ?_
      have at3 := at2.up r3
      have hu3 := AV.keep (c := rowC K r) okX (r2.trans r3) hu1
      show EvS (rowC K r) _ [some (.ref r.a), some (.int (n + 1 : Nat)), some (.int l), some u, some (.bl true), some (.int i), none, none, some x8, some x9, none] H3 _
      have rc1 : Ev (rowC K r) (tCall (spOf (rowC K r) (preTr r n)) [] E0 (tCons (tVar 0) (tCons (tOp (rI0 fun i j => .int (i - j)) (tVar 1) (tC (.int 1))) (tCons (tVar 2) (tCons (tVar 3) (tCons (tVar 4) tNil)))))) [some (.ref r.a), some (.int (n + 1 : Nat)), some (.int l), some u, some (.bl true), some (.int i), none, none, some x8, some x9, none] H3 (.dp (Gd (n + 5))) :=
        ev_call (evA_cons (ev_var s0) (evA_cons (a := .val (.int (n : Int))) ((ev_i0 (ev_var s1) (ev_c (v := .int 1))).to (by show AV.val (V.int (((n + 1 : Nat) : Int) - 1)) = _; rw [show (((n + 1 : Nat) : Int) - 1) = (n : Int) by omega])) (evA_cons (ev_var s2) (evA_cons (ev_var (a := .lx r.a p) ⟨u, rfl, hu3⟩ okX) (evA_one (ev_var s4)) okX)))) ⟨l, p, rfl, hl, hp, rfl⟩ at3
      exact evS_ret ((ev_tup4 (p := (· = .str "if")) (ev_c.dStr (by decide +kernel)) (ev_var (a := .dp (Gd 3)) ⟨x9, rfl, h9⟩) rc1 rc1).wk fun x H ⟨d, ⟨a, b, e, f, e1, e2, e3, e4, e5⟩, h⟩ => ⟨d, by
        rw [e5, e1]
        exact gd_mid (n := n + 5) (by decide +kernel) (by decide +kernel) (by show 3 ≤ 4; decide) fun x hx => by
          simp only [List.mem_cons, List.not_mem_nil, or_false] at hx
          rcases hx with rfl | rfl | rfl
          · exact e2.le (by omega)
          · exact e3
          · exact e4, h⟩)
end
end KX

set_option maxHeartbeats 8000000
namespace KX
open PySem PySem.Spec PyProof.Rows L2
/-- a drawn function, program -/
def FnOkD (d : PyData) : Prop := ∃ (s : Str) (b : Int) (t : PyData), d = .tuple [.str s, .int b, t] ∧ 0 ≤ b ∧ b < 3 ∧ Gd 11 t
def PrOkD (ds : List PyData) : Prop := (1 ≤ ds.length ∧ ds.length ≤ 3) ∧ ∀ d ∈ ds, FnOkD d
def preProgDraw (r : Row) (as : List AV) (res : AV) : Prop := as = [.val (.ref r.a), .val (.bl true)] ∧ res = .dp fun d => ∃ ds, d = .tuple ds ∧ PrOkD ds
section
variable {K : PySem.W.Frag} {r : Row} {σ : L2.St} {H0 H1 : Hp} {te : TE} {p : List PyData → Prop}
theorem kL {b : Addr} {xs : List V} (n : b ≠ r.a) (g : (rowC K r).R H0 H1) (h : H0 b = some (.lst xs)) : H1 b = some (.lst xs) := g.kp _ _ h (fun _ z => by cases z) (fun rr z w => by cases z; exact (n w.symm).elim)
theorem evI_listX {ds : List PyData} (h : Ev (rowC K r) te σ H0 (.lx r.a (· = ds))) : EvI (rowC K r) (iList K te) σ H0 ds.length (dAt ds) := fun H r0 R q =>
  h H r0 _ fun x H1 r1 ⟨a, xs, _, e1, ne, h1, e2, h2⟩ => by
    subst e1 e2
    refine ⟨a, rfl, ⟨xs, SqL.of h1⟩, q _ H1 r1 ⟨fun H j g lt => ?_, fun H g => ⟨xs, SqL.of (kL ne g h1), by rw [h2.length]; exact Nat.le_refl _⟩, fun H j x H' g lt y => ?_⟩⟩
    · have l : j < xs.length := by rw [h2.length]; exact lt
      exact ⟨xs, xs[j], SqL.of (kL ne g h1), List.getElem?_eq_getElem l⟩
    · obtain ⟨e, y⟩ := y
      exact ⟨e, (g.datL h2).get (y xs (SqL.of (kL ne g h1)))⟩
theorem ev_tupleX (h : Ev (rowC K r) te σ H0 (.lx r.a p)) : Ev (rowC K r) (tCB (rTupOf K) (tCons te tNil)) σ H0 (.dp fun d => ∃ ds, p ds ∧ d = .tuple ds) :=
  ev_cb (evA_one h) fun H vs Q r0 hv q => by
    obtain ⟨x, _, rfl, ⟨a, xs, ds, rfl, _, h1, h2, h3⟩, rfl⟩ := hv
    exact ⟨_, _, rfl, .inl ⟨SqL.of h1, fun l hl => q _ _ (.laid hl) ⟨_, ⟨ds, h2, rfl⟩, .tup upd_same (datL_up hl h3)⟩⟩⟩
theorem raw_opt {c : Ct} {σ : L2.St} {H : Hp} {tA : TT} {te : TE} {i : Nat} {b : AV} {D : Ends} {u : TS} (hT : ∀ Q : Bool → Hp → Prop, (∀ k H1, c.R H H1 → Q k H1) → tA σ H Q) (h : ∀ H1, c.R H H1 → Ev c te σ H1 b) (s : Sl σ i b H) (o : b.ok c.row) (cont : ∀ x H1, c.R H H1 → b.is x H1 → u D (σ.set i (some x)) H1) :
    tSeq (tIfS tA (tAsg te (gName i)) tNext) u D σ H := by
  refine hT _ fun k H1 r1 => ?_
  cases k with
  | true => exact iteT (h H1 r1 H1 (.refl H1) _ fun x H2 r2 hx => cont x H2 (r1.trans r2) hx)
  | false =>
    refine iteF ?_
    obtain ⟨x, e, hx⟩ := s
    have es : σ.set i (some x) = σ := by
      refine List.ext_getElem? fun j => ?_
      rw [List.getElem?_set]
      split
      · rename_i z
        subst z
        split
        · exact e.symm
        · rename_i z
          rw [List.getElem?_eq_none (Nat.le_of_not_lt z)] at e
          cases e
      · rfl
    have := cont x H1 r1 (AV.keep (c := c) o r1 hx)
    rw [es] at this
    exact this
theorem raw_set {c : Ct} {σ : L2.St} {H : Hp} {te : TE} {i : Nat} {b : AV} {D : Ends} {u : TS} (h : Ev c te σ H b) (k : ∀ x H1, c.R H H1 → b.is x H1 → u D (σ.set i (some x)) H1) : tSeq (tAsg te (gName i)) u D σ H := h H (.refl H) _ k
theorem gtup2 {i1 i2 : Nat} {x : V} {H : Hp} {d1 d2 : PyData} (hx : Dat H x (.tuple [d1, d2])) :
    ∃ v1 v2, Dat H v1 d1 ∧ Dat H v2 d2 ∧ ∀ (τ : L2.St) (Q : L2.St → Hp → Prop), Q ((τ.set i1 (some v1)).set i2 (some v2)) H → gTup K 2 (gCons (gName i1) (gCons (gName i2) gNil)) x τ H Q := by
  cases hx with
  | tup h1 h2 =>
    cases h2 with
    | @cons v1 _ _ _ a1 h2 =>
      cases h2 with
      | @cons v2 _ _ _ a2 h2 =>
        cases h2
        exact ⟨v1, v2, a1, a2, fun τ Q q => ⟨_, _, rfl, SqT.of h1, rfl, v1, _, rfl, v2, _, rfl, rfl, q⟩⟩
theorem forSl {tl th : TO} {g : TG} {tb : TS} {D : Ends} {σ : L2.St} {H : Hp} (h : te σ H fun x H1 => tl σ H1 fun l H2 => th σ H2 fun u H3 => rSlL K x l u H3 fun y H4 => ∃ a, y = .ref a ∧ (∃ xs, SqL K H4 a xs) ∧ ∃ W : Nat → Nat → L2.St → Hp → Prop, (∃ m, W 0 m σ H4) ∧ ∀ i m σ H, W i m σ H → ((Itl K a).stop i H ∧ D.nx σ H) ∨ ((Itl K a).go i H ∧ ∃ N : L2.St → Hp → Prop, (∀ σ' H', N σ' H' → ∃ m', m' < m ∧ W (i + 1) m' σ' H') ∧ ∀ x H', (Itl K a).yld i H x H' → g x σ H' fun σ2 H2 => tb { D with nx := N, ct := N, bk := D.nx } σ2 H2)) : tFor (iList K (tSl (rSlL K) te tl th)) g tb D σ H := h
theorem datL_ls {H : Hp} {xs : List V} {ds : List PyData} {p : Addr} {ys zs : List V} (hp : H p = some (.lst ys)) (h : DatL H xs ds) : DatL (upd H p (.lst zs)) xs ds := DatL.mono (fun b us e => by
  rw [upd_ne (fun z => by subst z; rw [hp] at e; cases e)]
  exact e) _ _ h
end
section
variable {P : Program} {w : World} {K : PySem.W.Frag} {mg : Str → Option Value} {base : Heap}
abbrev NPd : List Str := ["_law_row", "_law_is_hot", "_law_names", "_law_found", "_law_name", "_law_many", "_law_tree_here", "_law_one"]
theorem bl_prog (T : Tx K mg base) : Binds K (fdOf K "_law_program") ["_law_row", "_law_is_hot"] [] := T.f_law_program.binds fun _ _ _ _ _ _ us hl => match us, hl with | [_, _], _ => rfl
theorem scl_prog : FnScope NPd ["_law_row", "_law_is_hot"] (defScope (top 39)) := ⟨rfl, rfl, rfl, by decide +kernel, rfl, by decide +kernel, by decide +kernel⟩
theorem okl_prog (T : Tx K mg base) (r : Row) : FnOk P w K mg base CX0 63 (fA K "_law_program") (fdOf K "_law_program") ["_law_row", "_law_is_hot"] (spOf (rowC K r) (preProgDraw r)) := by
  refine T.f_law_program.ok (N := NPd) (k := 62) scl_prog (fun as r h => ?_) fun A outer s H E hr => ?_
  · obtain ⟨rfl, _⟩ := h
    rfl
  · have hrj : ∀ j, j ≤ 62 → Room j (A.deeper (envOfC "_law_program" (defScope (top 39)) s.heap.objs.size (fA K "_law_program") (.ref (cdOf K "_law_program")))) := fun j h => hr.mono h
    refine ⟨_, pss_cons (ps_par (i := 2) (j := 3) rfl scl_prog.nd rfl rfl (by decide) rfl rfl (pa_cons (pe_lst pa_nil) (pa_cons (pe_lst pa_nil) pa_nil)) (by rfl))
      (pss_cons (ps_for PassesOwn.never rfl (pi_list (pe_slice sl_list (pe_lst (pa_cons pe_str (pa_cons pe_str (pa_cons pe_str pa_nil)))) po_none (po_some (pe_op op_add pe_int (pe_fn (okl_taken T r) (hrj 1 (by omega)) T.g_law_taken T.f_law_taken (bl_taken T) (pa_cons (pv 0) (pa_cons pe_int pa_nil))))))) (pg_name (i := 4) scl_prog.nd rfl (Or.inl rfl) (Or.inr rfl))
          (pss_one (ps_expr (pe_bm PySem.F.plainAttrs_list PySem.F.slot_list_append PySem.F.type_list_append mt_append (pv 2) (pa_cons (pe_tup (pa_cons (pv 4) (pa_cons (pe_fn (okl_taken T r) (hrj 1 (by omega)) T.g_law_taken T.f_law_taken (bl_taken T) (pa_cons (pv 0) (pa_cons pe_int pa_nil))) pa_nil))) pa_nil)))))
      (pss_cons (ps_for PassesOwn.never rfl (pi_list (pv 2)) (pg_tup rfl (pgs_cons (pg_name (i := 4) scl_prog.nd rfl (Or.inl rfl) (Or.inr rfl)) (pgs_cons (pg_name (i := 5) scl_prog.nd rfl (Or.inl rfl) (Or.inr rfl)) pgs_nil)))
          (pss_cons (ps_set (i := 6) scl_prog.nd rfl (Or.inl rfl) (pe_fn (okl_tree T r 4) (hrj 10 (by omega)) T.g_law_tree T.f_law_tree (bl_tree T) (pa_cons (pv 0) (pa_cons pe_int (pa_cons (pv 5) (pa_cons (pv 2) (pa_cons (pv 1) pa_nil)))))))
          (pss_cons (ps_if (pt_cmpR op_gt (pe_fn (okl_taken T r) (hrj 1 (by omega)) T.g_law_taken T.f_law_taken (bl_taken T) (pa_cons (pv 0) (pa_cons pe_int pa_nil))) pe_int (nomark _))
              (pss_one (ps_set (i := 6) scl_prog.nd rfl (Or.inl rfl) (pe_tup (pa_cons pe_str (pa_cons (pe_tup (pa_cons pe_str pa_nil)) (pa_cons (pe_tup (pa_cons pe_str (pa_cons (pe_fn (okl_draw T r 1 (by decide)) (hrj 4 (by omega)) T.g_law_worth T.f_law_worth (bl_draw T) (pa_cons (pv 0) (pa_cons pe_int (pa_cons (pv 5) pa_nil)))) pa_nil))) (pa_cons (pv 6) pa_nil))))))) pss_nil)
          (pss_cons (ps_if (pt_cmpR op_gt (pe_op op_add (pe_callB (cr_sum rfl) (by rfl) T.z_sum boot_sum2 (pa_cons (pe_lc (own := [("_law_one", 7)]) (g := gName 7) rfl scl_prog.nd (pi_list (pv 3)) (blkOk_by (own := [("_law_one", 7)]) (N := NPd) (sc := defScope (top 39)) (by decide +kernel))
                (fun _ _ _ _ _ => pg_name (i := 7) scl_prog.nd rfl (Or.inl rfl) (Or.inr rfl)) (fun _ _ _ _ _ => pts_nil) (fun _ _ _ _ _ => pe_fn (okl_nodes T 30) hr T.g_law_nodes T.f_law_nodes (bl_nodes T) (pa_cons (pe_ix (ix_tupK (K := K) rfl) (pv 7) pe_int (fun _ _ => rfl)) pa_nil))) pa_nil))
                (pe_fn (okl_nodes T 30) hr T.g_law_nodes T.f_law_nodes (bl_nodes T) (pa_cons (pv 6) pa_nil))) pe_int (nomark _))
              (pss_one (ps_set (i := 6) scl_prog.nd rfl (Or.inl rfl) (pe_tup (pa_cons pe_str (pa_cons (pe_tup (pa_cons pe_str (pa_cons (pv 5) pa_nil))) pa_nil))))) pss_nil)
          (pss_one (ps_expr (pe_bm PySem.F.plainAttrs_list PySem.F.slot_list_append PySem.F.type_list_append mt_append (pv 3) (pa_cons (pe_tup (pa_cons (pv 4) (pa_cons (pv 5) (pa_cons (pv 6) pa_nil)))) pa_nil))))))))
      (pss_one (ps_ret (pe_tupC T.z_tuple (pv 3)))))), ?_⟩
    rintro as res vs ⟨rfl, rfl⟩ ⟨x, _, rfl, hx, y, _, rfl, hy, rfl⟩ at0
    cases hx
    cases hy
    intro H0 r0 D q
    have at1 := at0.up r0
    refine ⟨Nat.zero_le _, fun pn hpn => ⟨Nat.zero_le _, fun pf hpf => ⟨.ref pn, .ref pf, rfl, ?_⟩⟩⟩
    have hpnf : pf ≠ pn := fun z => by
      rw [z, upd_same] at hpf
      cases hpf
    have hpf0 : H0 pf = none := by
      rw [upd_ne hpnf] at hpf
      exact hpf
    have nn : pn ≠ r.a := fresh_ne at1 hpn
    have nfa : pf ≠ r.a := fresh_ne at1 hpf0
    have g2 : (rowC K r).R H0 (upd (upd H0 pn (.lst [])) pf (.lst [])) := (Gr.laid hpn).trans (Gr.laid hpf)
    have hn2 : upd (upd H0 pn (.lst [])) pf (.lst []) pn = some (.lst []) := by
      rw [upd_ne (Ne.symm hpnf)]
      exact upd_same
    have hf2 : upd (upd H0 pn (.lst [])) pf (.lst []) pf = some (.lst []) := upd_same
    have hrow : ∀ rr, (rowC K r).row = some rr → RowOk K rr H0 := fun rr e => at1.row rr e
    show tFor (iList K (tSl (rSlL K) (tLst (tStrs ["f", "g", "ho"])) tNoPart (tPart (tOp (rI0 fun i j => .int (i + j)) (tC (.int 1)) (tCall (spOf (rowC K r) (preTaken r)) [] E0 (tCons (tVar 0) (tCons (tC (.int 3)) tNil))))))) (gName 4) _ _ [some (.ref r.a), some (.bl true), some (.ref pn), some (.ref pf), none, none, none, none] (upd (upd H0 pn (.lst [])) pf (.lst []))
    generalize upd (upd H0 pn (.lst [])) pf (.lst []) = H2 at g2 hn2 hf2 ⊢
    have at2 := at1.up g2
    refine forSl ?_
    refine (ev_strsX (σ := [some (.ref r.a), some (.bl true), some (.ref pn), some (.ref pf), none, none, none, none]) at2 ["f", "g", "ho"] (by decide +kernel) (by decide)) H2 (.refl H2) _ fun xl Ha ra ⟨a, xs, ds, e1, na, hxs, hds, hD⟩ => ?_
    subst e1
    have tk : Ev (rowC K r) (tOp (rI0 fun i j => .int (i + j)) (tC (.int 1)) (tCall (spOf (rowC K r) (preTaken r)) [] E0 (tCons (tVar 0) (tCons (tC (.int 3)) tNil)))) [some (.ref r.a), some (.bl true), some (.ref pn), some (.ref pf), none, none, none, none] Ha (.vp fun v => ∃ k : Nat, v = .int ((k + 1 : Nat) : Int) ∧ k < 3) :=
      ev_op (a := .val (.int 1)) (b := inR 3) ev_c (ev_call (evA_cons (ev_var (a := .val (.ref r.a)) ⟨_, rfl, rfl⟩) (evA_one (ev_c (v := .int 3)))) ⟨3, rfl, by decide, by decide, rfl⟩ (at2.up ra)) fun H x y Q r hx ⟨i, e, i0, i3⟩ q => ⟨1, i, hx, e, q _ H (.refl H) ⟨i.toNat, by rw [show ((i.toNat + 1 : Nat) : Int) = 1 + i by omega], by omega⟩⟩
    refine tk Ha (.refl Ha) _ fun v Hb rb ⟨k, e2, k3⟩ => ⟨_, e2, a, xs, rfl, SqL.of (kL na rb hxs), fun L hL => ⟨L, rfl, ⟨_, SqL.of upd_same⟩, ?_⟩⟩
    have yl : (cutV xs none (some ((k + 1 : Nat) : Int))).length = k + 1 := by
      rw [(hD.cut none (some ((k + 1 : Nat) : Int))).length, cutD_to, List.length_take, hds.1]
      show min (k + 1) 3 = k + 1
      omega
    have ystr : ∀ v ∈ cutV xs none (some ((k + 1 : Nat) : Int)), ∃ s : Str, v = .str s ∧ s.length ≤ 1000 := fun v hv => by
      obtain ⟨j, hj, e⟩ := List.getElem_of_mem hv
      obtain ⟨d, hd, hdv⟩ := (hD.cut none (some ((k + 1 : Nat) : Int))).get (i := j) (v := v) (by rw [List.getElem?_eq_getElem hj, e])
      rw [cutD_to] at hd
      obtain ⟨s, _, rfl⟩ := hds.2 d (List.mem_of_mem_take (List.mem_of_getElem? hd))
      cases hdv with
      | str _ l => exact ⟨s, rfl, l⟩
    generalize cutV xs none (some ((k + 1 : Nat) : Int)) = ys at yl ystr ⊢
    have hLn : Hb pn = some (.lst []) := kL nn (ra.trans rb) hn2
    have hLf : Hb pf = some (.lst []) := kL nfa (ra.trans rb) hf2
    have Ln : L ≠ pn := fun z => by rw [z, hLn] at hL; cases hL
    have Lf : L ≠ pf := fun z => by rw [z, hLf] at hL; cases hL
    have La : L ≠ r.a := fresh_ne ((at2.up ra).up rb) hL
    refine ⟨fun j m τ Hc => m = ys.length - j ∧ j ≤ ys.length ∧ (rowC K r).R H0 Hc ∧ Hc L = some (.lst ys) ∧ Hc pf = some (.lst []) ∧ (∃ zs es, Hc pn = some (.lst zs) ∧ DatL Hc zs es ∧ es.length = j ∧ ∀ d ∈ es, ∃ (s : Str) (b : Int), d = .tuple [.str s, .int b] ∧ 0 ≤ b ∧ b < 3) ∧ ∃ o4, τ = [some (.ref r.a), some (.bl true), some (.ref pn), some (.ref pf), o4, none, none, none],
      ⟨ys.length, by omega, Nat.zero_le _, g2.trans (ra.trans (rb.trans (.laid hL))), upd_same, by rw [upd_ne (Ne.symm Lf)]; exact hLf, ⟨[], [], by rw [upd_ne (Ne.symm Ln)]; exact hLn, .nil, rfl, fun _ h => (List.not_mem_nil h).elim⟩, none, rfl⟩, ?_⟩
    rintro j m τ Hc ⟨rfl, hj, gc, hLc, hfc, ⟨zs, es, hn, hz, el, hes⟩, o4, rfl⟩
    have atc := at1.up gc
    by_cases ej : j = ys.length
    rotate_left
    · have lt : j < ys.length := by omega
      refine .inr ⟨⟨ys, ys[j], SqL.of hLc, List.getElem?_eq_getElem lt⟩, fun τ' Hc => j + 1 ≤ ys.length ∧ (rowC K r).R H0 Hc ∧ Hc L = some (.lst ys) ∧ Hc pf = some (.lst []) ∧ (∃ zs es, Hc pn = some (.lst zs) ∧ DatL Hc zs es ∧ es.length = j + 1 ∧ ∀ d ∈ es, ∃ (s : Str) (b : Int), d = .tuple [.str s, .int b] ∧ 0 ≤ b ∧ b < 3) ∧ ∃ o4, τ' = [some (.ref r.a), some (.bl true), some (.ref pn), some (.ref pf), o4, none, none, none], fun τ' H' ⟨a1, a2⟩ => ⟨ys.length - (j + 1), by omega, rfl, a1, a2⟩, fun x Hd ⟨ed, hy⟩ => ?_⟩
      subst ed
      obtain ⟨s', e3, sl⟩ := ystr x (List.mem_of_getElem? (hy ys (SqL.of hLc)))
      subst e3
      have ev : EvA (rowC K r) (tCons (tTup (tCons (tVar 4) (tCons (tCall (spOf (rowC K r) (preTaken r)) [] E0 (tCons (tVar 0) (tCons (tC (.int 3)) tNil))) tNil))) tNil) [some (.ref r.a), some (.bl true), some (.ref pn), some (.ref pf), some (.str s'), none, none, none] Hd [.dp fun d => ∃ a b, a = .str s' ∧ (∃ i : Int, b = .int i ∧ 0 ≤ i ∧ i < 3) ∧ d = .tuple [a, b]] :=
        evA_one (ev_tup2 (p := (· = .str s')) ((ev_var (a := .val (.str s')) ⟨_, rfl, rfl⟩).dStr sl) (Ev.ints (m := 3) (ev_call (evA_cons (ev_var (a := .val (.ref r.a)) ⟨_, rfl, rfl⟩) (evA_one (ev_c (v := .int 3)))) ⟨3, rfl, by decide, by decide, rfl⟩ atc)))
      refine ⟨.ref pn, rfl, .inl ⟨rfl, _, SqL.of hn⟩, ev Hd (.refl Hd) _ fun vs He re hv => ?_⟩
      obtain ⟨v, _, rfl, ⟨d, ⟨_, _, rfl, ⟨i, rfl, i0, i3⟩, rfl⟩, hd⟩, rfl⟩ := hv
      have hne := kL nn re hn
      refine ⟨pn, zs, v, rfl, rfl, hne, by rw [hz.length]; exact size_ok (by omega), lt, (gc.trans re).fresh hpn hrow, ?_, ?_, ⟨zs ++ [v], es ++ [.tuple [.str s', .int i]], upd_same, datL_ls hne ((re.datL hz).append (.cons hd .nil)), by rw [List.length_append, el]; rfl, fun d hd => ?_⟩, some (.str s'), rfl⟩
      · rw [upd_ne Ln]
        exact kL La re hLc
      · rw [upd_ne hpnf]
        exact kL nfa re hfc
      · rcases List.mem_append.mp hd with hd | hd
        · exact hes d hd
        · rw [List.mem_singleton.mp hd]
          exact ⟨s', i, rfl, i0, i3⟩
    refine .inl ⟨⟨ys, SqL.of hLc, by omega⟩, ?_⟩
    have nm : NmOk es := ⟨by omega, fun d hd => hes d hd⟩
    have el2 : zs.length = es.length := hz.length
    refine ⟨.ref pn, rfl, pn, rfl, ⟨zs, SqL.of hn⟩, fun j m τ Hd => m = es.length - j ∧ j ≤ es.length ∧ (rowC K r).R H0 Hd ∧ Hd pn = some (.lst zs) ∧ DatL Hd zs es ∧ (∃ us fs, Hd pf = some (.lst us) ∧ DatL Hd us fs ∧ fs.length = j ∧ ∀ d ∈ fs, FnOkD d) ∧ ∃ o4 o5 o6, τ = [some (.ref r.a), some (.bl true), some (.ref pn), some (.ref pf), o4, o5, o6, none],
      ⟨es.length, by omega, Nat.zero_le _, gc, hn, hz, ⟨[], [], hfc, .nil, rfl, fun _ h => (List.not_mem_nil h).elim⟩, o4, none, none, rfl⟩, ?_⟩
    rintro j m τ Hd ⟨rfl, hj2, gd, hnd, hzd, ⟨us, fs, hfd, hud, fl, hfs⟩, o4', o5, o6, rfl⟩
    have atd := at1.up gd
    by_cases ej2 : j = es.length
    · refine .inl ⟨⟨zs, SqL.of hnd, by omega⟩, ?_⟩
      have s3 : Sl [some (.ref r.a), some (.bl true), some (.ref pn), some (.ref pf), o4', o5, o6, none] 3 (.lx r.a (· = fs)) Hd := ⟨_, rfl, pf, us, fs, rfl, nfa, hfd, rfl, hud⟩
      exact (ev_tupleX (ev_var s3 okX)) Hd (.refl Hd) _ fun v H4 r4 ⟨d, ⟨ds', e1, e2⟩, h⟩ => q v H4 (gd.trans r4) ⟨d, ⟨ds', e2, by rw [e1]; exact ⟨by have := nm.1; omega, hfs⟩⟩, h⟩
    · have lt : j < zs.length := by omega
      refine .inr ⟨⟨zs, zs[j], SqL.of hnd, List.getElem?_eq_getElem lt⟩, fun τ' Hd => j + 1 ≤ es.length ∧ (rowC K r).R H0 Hd ∧ Hd pn = some (.lst zs) ∧ DatL Hd zs es ∧ (∃ us fs, Hd pf = some (.lst us) ∧ DatL Hd us fs ∧ fs.length = j + 1 ∧ ∀ d ∈ fs, FnOkD d) ∧ ∃ o4 o5 o6, τ' = [some (.ref r.a), some (.bl true), some (.ref pn), some (.ref pf), o4, o5, o6, none], fun τ' H' ⟨a1, a2⟩ => ⟨es.length - (j + 1), by omega, rfl, a1, a2⟩, fun x He ⟨ed, hy⟩ => ?_⟩
      subst ed
      obtain ⟨dd, hdd, hdx⟩ := hzd.get (hy zs (SqL.of hnd))
      obtain ⟨s', b, rfl, b0, b3⟩ := nm.2 dd (List.mem_of_getElem? hdd)
      obtain ⟨v1, v2, a1, a2, hB⟩ := gtup2 (K := K) (i1 := 4) (i2 := 5) hdx
      refine hB _ _ ?_
      cases a1 with
      | str _ sl =>
      cases a2
      show tSeq (tAsg _ _) _ _ [some (.ref r.a), some (.bl true), some (.ref pn), some (.ref pf), some (.str s'), some (.int b), o6, none] He
      have t0 : ∀ {o6 o7 : Option V} {H1 : Hp}, Sl [some (.ref r.a), some (.bl true), some (.ref pn), some (.ref pf), some (.str s'), some (.int b), o6, o7] 0 (.val (.ref r.a)) H1 := ⟨_, rfl, rfl⟩
      have t1 : ∀ {o6 o7 : Option V} {H1 : Hp}, Sl [some (.ref r.a), some (.bl true), some (.ref pn), some (.ref pf), some (.str s'), some (.int b), o6, o7] 1 (.val (.bl true)) H1 := ⟨_, rfl, rfl⟩
      have t4 : ∀ {o6 o7 : Option V} {H1 : Hp}, Sl [some (.ref r.a), some (.bl true), some (.ref pn), some (.ref pf), some (.str s'), some (.int b), o6, o7] 4 (.val (.str s')) H1 := ⟨_, rfl, rfl⟩
      have t5 : ∀ {o6 o7 : Option V} {H1 : Hp}, Sl [some (.ref r.a), some (.bl true), some (.ref pn), some (.ref pf), some (.str s'), some (.int b), o6, o7] 5 (.val (.int b)) H1 := ⟨_, rfl, rfl⟩
      have t2 : Sl [some (.ref r.a), some (.bl true), some (.ref pn), some (.ref pf), some (.str s'), some (.int b), o6, none] 2 (.lx r.a (· = es)) He := ⟨_, rfl, pn, zs, es, rfl, nn, hnd, rfl, hzd⟩
      refine raw_set (c := rowC K r) (ev_call (E := E0) (pre := preTr r 4) (evA_cons (ev_var t0) (evA_cons (ev_c (v := .int 4)) (evA_cons (ev_var t5) (evA_cons (ev_var t2 okX) (evA_one (ev_var t1)) okX)))) ⟨b, (· = es), rfl, by omega, fun ds e => e ▸ nm, rfl⟩ atd) fun x6 Hf rf ⟨t, ht, hxt⟩ => ?_
      show tSeq _ _ _ [some (.ref r.a), some (.bl true), some (.ref pn), some (.ref pf), some (.str s'), some (.int b), some x6, none] Hf
      have atf := atd.up rf
      have t6 : Sl [some (.ref r.a), some (.bl true), some (.ref pn), some (.ref pf), some (.str s'), some (.int b), some x6, none] 6 (.dp (Gd 10)) Hf := ⟨x6, rfl, t, ht.up, hxt⟩
      refine raw_opt (c := rowC K r) (i := 6) (b := .dp (Gd 10)) (fun Q hQ => ?_) (fun H1 r1 => ?_) t6 trivial fun y6 Hg rg ⟨tg, htg, hyg⟩ => ?_
      · exact (ev_call (E := E0) (pre := preTaken r) (evA_cons (ev_var t0) (evA_one (ev_c (v := .int 4)))) ⟨4, rfl, by decide, by decide, rfl⟩ atf) Hf (.refl Hf) _ fun v H1 r1 ⟨i, e, _⟩ => ⟨i, 0, e, rfl, decide (0 < i), rfl, hQ _ H1 r1⟩
      · have w1 : Ev (rowC K r) (tCall (spOf (rowC K r) (preDraw r 1)) [] E0 (tCons (tVar 0) (tCons (tC (.int 1)) (tCons (tVar 5) tNil)))) [some (.ref r.a), some (.bl true), some (.ref pn), some (.ref pf), some (.str s'), some (.int b), some x6, none] H1 (.dp (Gd 2)) :=
          ev_call (pre := preDraw r 1) (evA_cons (ev_var t0) (evA_cons (ev_c (v := .int 1)) (evA_one (ev_var t5)))) ⟨b, rfl, by omega, rfl⟩ (atf.up r1)
        exact (ev_tup4 (p := (· = .str "if")) (q := Gd 1) (s := Gd 3) (u := Gd 9) (ev_c.dStr (by decide +kernel)) ((ev_tup1s (s := "empty") (by decide +kernel)).wk fun x H ⟨d, e, h⟩ => ⟨d, by
            rw [e]
            exact gd_leaf (by decide +kernel) (by decide +kernel) (by show 0 ≤ 800; decide) fun x hx => (List.not_mem_nil hx).elim, h⟩)
          ((ev_tup2 (p := (· = .str "end")) (ev_c.dStr (by decide +kernel)) w1).wk fun x H ⟨d, ⟨a, b, e1, e2, e3⟩, h⟩ => ⟨d, by
            rw [e3, e1]
            exact gd_mid (by decide +kernel) (by decide +kernel) (by show 1 ≤ 4; decide) fun x hx => by rw [List.mem_singleton.mp hx]; exact e2, h⟩)
          (ev_var (a := .dp (Gd 9)) (Sl.mv (c := rowC K r) (σ := [some (.ref r.a), some (.bl true), some (.ref pn), some (.ref pf), some (.str s'), some (.int b), some x6, none]) ⟨x6, rfl, t, ht, hxt⟩ r1))).wk fun x H ⟨d, ⟨a, b, e, f, e1, e2, e3, e4, e5⟩, h⟩ => ⟨d, by
            rw [e5, e1]
            exact gd_mid (n := 9) (by decide +kernel) (by decide +kernel) (by show 3 ≤ 4; decide) fun x hx => by
              simp only [List.mem_cons, List.not_mem_nil, or_false] at hx
              rcases hx with rfl | rfl | rfl
              · exact e2.le (by decide)
              · exact e3.le (by decide)
              · exact e4, h⟩
      show tSeq _ _ _ [some (.ref r.a), some (.bl true), some (.ref pn), some (.ref pf), some (.str s'), some (.int b), some y6, none] Hg
      have atg := atf.up rg
      have gfg := rf.trans rg
      have t3 : Sl [some (.ref r.a), some (.bl true), some (.ref pn), some (.ref pf), some (.str s'), some (.int b), some y6, none] 3 (.lx r.a (· = fs)) Hg := Sl.mv (c := rowC K r) (σ := [some (.ref r.a), some (.bl true), some (.ref pn), some (.ref pf), some (.str s'), some (.int b), some y6, none]) (H0 := He) ⟨_, rfl, pf, us, fs, rfl, nfa, hfd, rfl, hud⟩ gfg rfl okX
      have t6 : Sl [some (.ref r.a), some (.bl true), some (.ref pn), some (.ref pf), some (.str s'), some (.int b), some y6, none] 6 (.dat tg) Hg := ⟨y6, rfl, tg, rfl, hyg⟩
      have lc := ev_lcD (c := rowC K r) (te := tCall (spOf (pureC K) (preNodes 30)) [] E0 (tCons (tOp (rIxT K) (tVar 7) (tC (.int 2))) tNil)) (tt := tYes) (g := gName 7) (vs := [7]) fs (evI_listX (ev_var t3 okX)) atg (by omega) (fun d => some (.int (nodesD 30 (itemD d 2)))) fun j y H3 d hd rr ⟨d', hd', hy⟩ => by
        rw [hd] at hd'
        cases hd'
        obtain ⟨s2, b2, t2, rfl, _, _, h2⟩ := hfs d (List.mem_of_getElem? hd)
        refine ⟨_, bind_name, evT_yes, fun dd h => ?_⟩
        cases h
        exact (ev_callP (K := K) (Ps := tabs K) (row := some r) (pre := preNodes 30) (evA_one (ev_item (c := rowC K r) (j := 2) 2 (ev_var (a := .dat (.tuple [.str s2, .int b2, t2])) ⟨y, rfl, _, rfl, hy⟩) (by show 2 < 3; decide))) ⟨t2, rfl, (h2.le (m := 30) (by decide)).1, by decide, rfl⟩ (atg.up rr)).dInt
      have e4 : (fs.filterMap fun e => some (PyData.int (nodesD 30 (itemD e 2)))) = (fs.map fun d => nodesD 30 (itemD d 2)).map PyData.int := by
        show (fs.filterMap (some ∘ fun e => PyData.int (nodesD 30 (itemD e 2)))) = _
        rw [List.filterMap_eq_map, List.map_map]
        rfl
      rw [e4] at lc
      refine raw_opt (c := rowC K r) (i := 6) (b := .dp (Gd 10)) (fun Q hQ => ?_) (fun H1 r1 => ?_) ⟨y6, rfl, tg, htg, hyg⟩ trivial fun z6 Hi rgi ⟨ti, hti, hyi⟩ => ?_
      · exact (evT_test (ev_i0 (ev_i0 (ev_sumL lc) (ev_callP (K := K) (Ps := tabs K) (row := some r) (E := E0) (pre := preNodes 30) (evA_one (ev_var t6)) ⟨tg, rfl, (htg.le (m := 30) (by decide)).1, by decide, rfl⟩ atg)) (ev_c (v := .int 380)))) Hg (.refl Hg) Q fun H1 r1 => hQ _ H1 r1
      · exact (ev_tup2 (p := (· = .str "end")) (q := Gd 1) (ev_c.dStr (by decide +kernel)) ((ev_tup2 (p := (· = .str "number")) (q := (· = .int b)) (ev_c.dStr (by decide +kernel)) (ev_var t5).dInt).wk fun x H ⟨d, ⟨a, b, e1, e2, e3⟩, h⟩ => ⟨d, by
            rw [e3, e1, e2]
            exact gd_leaf (by decide +kernel) (by decide +kernel) (by show 1 ≤ 800; decide) fun x hx => by rw [List.mem_singleton.mp hx]; rfl, h⟩)).wk fun x H ⟨d, ⟨a, b, e1, e2, e3⟩, h⟩ => ⟨d, by
          rw [e3, e1]
          exact (gd_mid (n := 1) (by decide +kernel) (by decide +kernel) (by show 1 ≤ 4; decide) fun x hx => by rw [List.mem_singleton.mp hx]; exact e2).le (by decide), h⟩
      have gfi := gfg.trans rgi
      have ati := atg.up rgi
      have ev : EvA (rowC K r) (tCons (tTup (tCons (tVar 4) (tCons (tVar 5) (tCons (tVar 6) tNil)))) tNil) [some (.ref r.a), some (.bl true), some (.ref pn), some (.ref pf), some (.str s'), some (.int b), some z6, none] Hi [.dp fun d => ∃ a c e, a = .str s' ∧ c = .int b ∧ e = ti ∧ d = .tuple [a, c, e]] :=
        evA_one (ev_tup3 (p := (· = .str s')) (q := (· = .int b)) (s := (· = ti)) ((ev_var t4).dStr sl) (ev_var t5).dInt (ev_var (a := .dat ti) ⟨z6, rfl, ti, rfl, hyi⟩))
      have hfi := kL nfa gfi hfd
      refine ⟨.ref pf, rfl, .inl ⟨rfl, _, SqL.of hfi⟩, ev Hi (.refl Hi) _ fun vs Hk rk hv => ?_⟩
      obtain ⟨v, _, rfl, ⟨d, ⟨_, _, tx, rfl, rfl, etx, rfl⟩, hd⟩, rfl⟩ := hv
      rw [etx] at hd
      have hfk := kL nfa rk hfi
      have gk := gfi.trans rk
      refine ⟨pf, us, v, rfl, rfl, hfk, by rw [hud.length]; exact size_ok (by omega), by omega, (gd.trans gk).fresh hpf0 hrow, by rw [upd_ne (Ne.symm hpnf)]; exact kL nn gk hnd, datL_ls hfk (gk.datL hzd), ⟨us ++ [v], fs ++ [.tuple [.str s', .int b, ti]], upd_same, datL_ls hfk ((gk.datL hud).append (.cons hd .nil)), by rw [List.length_append, fl]; rfl, fun d hd => ?_⟩, some (.str s'), some (.int b), some z6, rfl⟩
      rcases List.mem_append.mp hd with hd | hd
      · exact hfs d hd
      · rw [List.mem_singleton.mp hd]
        exact ⟨s', b, ti, rfl, b0, b3, hti.up⟩
end
end KX

set_option maxHeartbeats 8000000
namespace KX
open PySem PySem.Spec PyProof.Rows L2
/-! ### _law_alike -/
def isNon : PyData → Bool
  | .none => true
  | _ => false
theorem eqv_self {d : PyData} (h : flat d = true) : PyData.eqv d d = true := by
  cases d with
  | none => rfl
  | bool b => exact beq_self_eq_true b
  | int i => exact beq_self_eq_true i
  | str s => exact beq_self_eq_true s
  | _ => cases h
theorem flat_depth {d : PyData} (h : flat d = true) : d.depth = 0 := by
  cases d <;> first | rfl | cases h
def preAlike (n : Nat) (as : List AV) (r : AV) : Prop := ∃ d, as = [.dat d, .dat d] ∧ dep n d = true ∧ r = .val (.bl true)
section
variable {c : Ct} {σ : L2.St} {H0 : Hp} {te ta tb : TE} {d : PyData}
theorem ev_isiT2 (h : Ev c te σ H0 (.dat d)) : Ev c (tCB (rIsiT c.K) (tCons te (tCons (tTup (tCons (tC (.ty "tuple")) (tCons (tC (.ty "list")) tNil))) tNil))) σ H0 (.val (.bl (isTup d || isLst d))) := fun H r Q q =>
  h H r _ fun x H1 r1 ⟨d', e, hd⟩ => by
    rw [e] at hd
    refine ⟨by show 2 ≤ sizeLine; decide, fun p hp => ⟨x, p, _, _, _, _, rfl, upd_same, .cons (.ty "tuple") (.cons (.ty "list") .nil), ((Gr.laid (K := c.K) (row := c.row) (Ps := c.Ps) hp).dat hd).ty, kitAny_cons (kit_ty (kit_tup d)) (fun h1 => kitAny_cons (r := isTup d || isLst d) (kit_ty (kit_lst d)) (fun h2 => ?_) fun h2 => ?_) (fun h1 => ?_), q _ _ (r1.trans (.laid hp)) rfl⟩⟩
    · rw [h1, h2]
      rfl
    · rw [h2, Bool.or_true]
    · rw [h1]
      rfl
abbrev rIsN : R2 := fun x y H Q => y = .non ∧ Q (.bl (decide (x = .non))) H
theorem ev_isN (h : Ev c te σ H0 (.dat d)) : Ev c (tOp rIsN te (tC .non)) σ H0 (.val (.bl (isNon d))) :=
  ev_op (b := .val .non) h ev_c fun H x y Q r ⟨_, e, hd⟩ hy q => by
    subst e
    refine ⟨hy, q _ H (.refl H) ?_⟩
    cases hd <;> rfl
theorem Ev.any {p : PyData → Prop} (h : Ev c te σ H0 (.dp p)) : Ev c te σ H0 (.dp fun _ => True) := h.wk fun x H ⟨d, _, q⟩ => ⟨d, trivial, q⟩
theorem ev_catD {p q : PyData → Prop} {z1 z2 : Nat} (ha : Ev c ta σ H0 (.dp p)) (hb : Ev c tb σ H0 (.dp q)) (hp : ∀ d, p d → ∃ ds, d = .tuple ds ∧ ds.length ≤ z1) (hq : ∀ d, q d → ∃ ds, d = .tuple ds ∧ ds.length ≤ z2) (z : z1 + z2 ≤ 1000) :
    Ev c (tOp (rCatA c.K) ta tb) σ H0 (.dp fun d => ∃ a b, p (.tuple a) ∧ q (.tuple b) ∧ d = .tuple (a ++ b)) :=
  ev_op ha hb fun H x y Q r ⟨d1, e1, hx⟩ ⟨d2, e2, hy⟩ qq => by
    obtain ⟨ds, rfl, l1⟩ := hp d1 e1
    obtain ⟨es, rfl, l2⟩ := hq d2 e2
    cases hx with
    | tup h1 h2 =>
      cases hy with
      | tup g1 g2 =>
        refine ⟨_, _, _, _, rfl, rfl, SqT.of h1, SqT.of g1, by rw [h2.length, g2.length]; exact Nat.le_of_lt (size_ok (by omega)), fun e => qq _ H (.refl H) ⟨_, ⟨ds, es, e1, e2, rfl⟩, ?_⟩, fun _ e => qq _ H (.refl H) ⟨_, ⟨ds, es, e1, e2, rfl⟩, ?_⟩, fun _ _ p hp => qq _ _ (.laid hp) ⟨_, ⟨ds, es, e1, e2, rfl⟩, .tup upd_same (DatL.mono (fun b xs e => by rw [upd_ne (ne_of_none e hp)]; exact e) _ _ (h2.append g2))⟩⟩
        · subst e
          cases h2
          exact .tup g1 g2
        · subst e
          cases g2
          rw [List.append_nil]
          exact .tup h1 h2
theorem evS_ifU {tA : TT} {t u : TS} {a : AV} (hT : ∀ H, c.R H0 H → ∀ Q : Bool → Hp → Prop, (∀ k H1, c.R H H1 → Q k H1) → tA σ H Q) (h1 : ∀ H1, c.R H0 H1 → EvS c t σ H1 a) (h2 : ∀ H1, c.R H0 H1 → EvS c u σ H1 a) : EvS c (tSeq (tIfS tA t tNext) u) σ H0 a := fun H r D q => hT H r _ fun k H1 r1 => by
  cases k with
  | true => exact iteT (h1 H1 (r.trans r1) H1 (.refl H1) { D with nx := u D } fun v H2 r2 x => q v H2 (r1.trans r2) x)
  | false => exact iteF (h2 H1 (r.trans r1) H1 (.refl H1) D fun v H2 r2 x => q v H2 (r1.trans r2) x)
end
section
variable {P : Program} {w : World} {K : PySem.W.Frag} {mg : Str → Option Value} {base : Heap}
abbrev PAl : List Str := ["_law_found", "_law_due"]
abbrev NAl : List Str := ["_law_found", "_law_due", "_law_k"]
theorem bl_alike (T : Tx K mg base) : Binds K (fdOf K "_law_alike") PAl [] := T.f_law_alike.binds fun _ _ _ _ _ _ us hl => match us, hl with | [_, _], _ => rfl
theorem scl_alike : FnScope NAl PAl (defScope (top 35)) := ⟨rfl, rfl, rfl, by decide +kernel, rfl, by decide +kernel, by decide +kernel⟩
theorem pe_isiT2 {X : Cx} {e : Expr} {te : TE} {p p2 p3 pos tp : Pos} {k : Nat} (hm : X.mg "isinstance" = none) (hm2 : X.mg "tuple" = none) (hm3 : X.mg "list" = none) (he : PE X e te) (hg : Gl X "isinstance" := by rfl) (hg2 : Gl X "tuple" := by rfl) (hg3 : Gl X "list" := by rfl)
    (h1 : starEach [e, .Tuple [.Name "tuple" p2, .Name "list" p3] k tp] X.env = (false, eval e X.env) :: starEach [.Tuple [.Name "tuple" p2, .Name "list" p3] k tp] X.env := by rfl) (h2 : (backTo pos (starEach [.Tuple [.Name "tuple" p2, .Name "list" p3] k tp] X.env)).any (·.1) = false := by rfl)
    (h3 : starEach [.Tuple [.Name "tuple" p2, .Name "list" p3] k tp] X.env = (false, eval (.Tuple [.Name "tuple" p2, .Name "list" p3] k tp) X.env) :: starEach [] X.env := by rfl) (ht : PE X (.Tuple [.Name "tuple" p2, .Name "list" p3] k tp) (tTup (tCons (tC (.ty "tuple")) (tCons (tC (.ty "list")) tNil)))) :
    PE X (.Call (.Name "isinstance" p) [e, .Tuple [.Name "tuple" p2, .Name "list" p3] k tp] [] pos) (tCB (rIsiT X.K) (tCons te (tCons (tTup (tCons (tC (.ty "tuple")) (tCons (tC (.ty "list")) tNil))) tNil))) :=
  pe_callB call_isiT hg hm boot_isinstance (pa_cons he (pa_cons ht pa_nil h3) h1) (by decide) (by decide) h1 h2
theorem okl_alike (T : Tx K mg base) : ∀ n : Nat, FnOk P w K mg base CX0 (n + 1) (fA K "_law_alike") (fdOf K "_law_alike") PAl (spOf (pureC K) (preAlike n)) := by
  intro n
  induction n with
  | zero =>
    refine T.f_law_alike.ok (N := NAl) (k := 0) scl_alike (fun as r h => ?_) fun A outer s H E hr => ?_
    · obtain ⟨d, rfl, _⟩ := h
      rfl
    · have hu64 := hr.units
      refine ⟨_, pss_cons (ps_if (pt_val (pe_isiT2 T.z_isinstance T.z_tuple T.z_list (pv 1) (ht := pe_tup (pa_cons (pe_bltn (v := .ty "tuple") (by rfl) T.z_tuple boot_tuple rfl) (pa_cons (pe_bltn (v := .ty "list") (by rfl) T.z_list boot_list rfl) pa_nil))))) pss_never pss_nil)
        (pss_cons (ps_if (PW.pt (pw_or (pt_cmpR op_isN (pv 1) pe_non (by rfl)) (pw_or1 (pt_val (pe_isi T.z_isinstance T.z_str boot_str (pv 1))))))
            (pss_one (ps_ret (pe_and (pe_cmpR (op_eqP hu64) (pv 0) (pv 1) (by rfl)) (pe_one (pe_cmpR op_eq (pe_isi T.z_isinstance T.z_str boot_str (pv 0)) (pe_isi T.z_isinstance T.z_str boot_str (pv 1)) (by rfl)))))) pss_nil)
        (pss_one (ps_ret (pe_and (pe_isi T.z_isinstance T.z_int boot_int (pv 0)) (pe_and (pe_cmpR op_eq (pe_isi T.z_isinstance T.z_bool boot_bool (pv 0)) (pe_isi T.z_isinstance T.z_bool boot_bool (pv 1)) (by rfl)) (pe_one (pe_cmpR (op_eqP hu64) (pv 0) (pv 1) (by rfl)))))))), ?_⟩
      rintro as r vs ⟨d, rfl, hd, rfl⟩ ⟨x, _, rfl, hx, y, _, rfl, hy, rfl⟩ at0
      have s0 : Sl (start NAl [x, y]) 0 (.dat d) H := ⟨x, rfl, hx⟩
      have s1 : Sl (start NAl [x, y]) 1 (.dat d) H := ⟨y, rfl, hy⟩
      have beq : ∀ b : Bool, decide (V.bl b = V.bl b) = true := fun b => decide_eq_true rfl
      have hT : isTup d = false := by cases d <;> first | rfl | cases hd
      have hf : flat d = true := by
        cases d <;> first | exact hd | cases hT
      have hL : isLst d = false := by cases d <;> first | rfl | cases hf
      refine evS_if (k := false) (evT_val ((ev_isiT2 (ev_var s1)).bl (by rw [hT, hL]; rfl))) (fun z => by cases z) fun _ => ?_
      have eqd : Ev (pureC K) (tOp (rEqP K) (tVar 0) (tVar 1)) (start NAl [x, y]) H (.val (.bl true)) := (ev_eqD (ev_var s0) (ev_var s1) (by rw [flat_depth hf]; decide)).bl (eqv_self hf)
      refine evS_if (evT_or (evT_test (ev_isN (ev_var s1))) fun _ => evT_val (ev_isi (ev_var s1) (kit_str d))) (fun _ => ?_) fun h => ?_
      · exact evS_ret (ev_and eqd fun _ => (ev_eq (ev_isi (ev_var s0) (kit_str d)) (ev_isi (ev_var s1) (kit_str d)) rfl).bl (beq _))
      · rw [Bool.or_eq_false_iff] at h
        have hI : isInt d = true := by
          cases d with
          | none => cases h.1
          | str s => cases h.2
          | bool b => rfl
          | int i => rfl
          | _ => cases hf
        exact evS_ret (ev_and ((ev_isi (ev_var s0) (kit_int d)).bl hI) fun _ => ev_and ((ev_eq (ev_isi (ev_var s0) (kit_bool d)) (ev_isi (ev_var s1) (kit_bool d)) rfl).bl (beq _)) fun _ => eqd)
  | succ n G =>
    refine T.f_law_alike.ok (N := NAl) (k := n + 1) scl_alike (fun as r h => ?_) fun A outer s H E hr => ?_
    · obtain ⟨d, rfl, _⟩ := h
      rfl
    · have hu64 := hr.units
      refine ⟨_, pss_cons (ps_if (pt_val (pe_isiT2 T.z_isinstance T.z_tuple T.z_list (pv 1) (ht := pe_tup (pa_cons (pe_bltn (v := .ty "tuple") (by rfl) T.z_tuple boot_tuple rfl) (pa_cons (pe_bltn (v := .ty "list") (by rfl) T.z_list boot_list rfl) pa_nil)))))
          (pss_cons (ps_if (PW.pt (pw_or (pt_not (pt_val (pe_isiT2 T.z_isinstance T.z_tuple T.z_list (pv 0) (ht := pe_tup (pa_cons (pe_bltn (v := .ty "tuple") (by rfl) T.z_tuple boot_tuple rfl) (pa_cons (pe_bltn (v := .ty "list") (by rfl) T.z_list boot_list rfl) pa_nil)))))) (pw_or1 (pt_cmpR op_ne (pe_isi T.z_isinstance T.z_list boot_list (pv 0)) (pe_isi T.z_isinstance T.z_list boot_list (pv 1)) (by rfl))))) (pss_one (ps_ret pe_bl)) pss_nil)
          (pss_cons (ps_if (pt_cmpR op_ne (pe_len T.z_len (pv 0)) (pe_len T.z_len (pv 1)) (by rfl)) (pss_one (ps_ret pe_bl)) pss_nil)
          (pss_one (ps_ret (pe_cmpR (op_eqP hu64) (pe_lc (own := [("_law_k", 2)]) (g := gName 2) rfl scl_alike.nd (pi_range1 (by rfl) T.z_range (pa_cons (pe_len T.z_len (pv 1)) pa_nil)) (blkOk_by (own := [("_law_k", 2)]) (N := NAl) (sc := defScope (top 35)) (by decide +kernel))
            (fun _ _ _ _ _ => pg_name (i := 2) scl_alike.nd rfl (Or.inl rfl) (Or.inr rfl)) (fun _ _ _ _ _ => pts_one (pt_not (pt_val (pe_fn G hr T.g_law_alike T.f_law_alike (bl_alike T) (pa_cons (pe_ix (ix_tupK (K := K) rfl) (pv 0) (pv 2) (fun _ _ => rfl)) (pa_cons (pe_ix (ix_tupK (K := K) rfl) (pv 1) (pv 2) (fun _ _ => rfl)) pa_nil)))))) (fun _ _ _ _ _ => pv 2)) (pe_lst pa_nil) (by rfl)))))) pss_nil)
        (pss_cons (ps_if (PW.pt (pw_or (pt_cmpR op_isN (pv 1) pe_non (by rfl)) (pw_or1 (pt_val (pe_isi T.z_isinstance T.z_str boot_str (pv 1))))))
            (pss_one (ps_ret (pe_and (pe_cmpR (op_eqP hu64) (pv 0) (pv 1) (by rfl)) (pe_one (pe_cmpR op_eq (pe_isi T.z_isinstance T.z_str boot_str (pv 0)) (pe_isi T.z_isinstance T.z_str boot_str (pv 1)) (by rfl)))))) pss_nil)
        (pss_one (ps_ret (pe_and (pe_isi T.z_isinstance T.z_int boot_int (pv 0)) (pe_and (pe_cmpR op_eq (pe_isi T.z_isinstance T.z_bool boot_bool (pv 0)) (pe_isi T.z_isinstance T.z_bool boot_bool (pv 1)) (by rfl)) (pe_one (pe_cmpR (op_eqP hu64) (pv 0) (pv 1) (by rfl)))))))), ?_⟩
      rintro as r vs ⟨d, rfl, hd, rfl⟩ ⟨x, _, rfl, hx, y, _, rfl, hy, rfl⟩ at0
      have s0 : Sl (start NAl [x, y]) 0 (.dat d) H := ⟨x, rfl, hx⟩
      have s1 : Sl (start NAl [x, y]) 1 (.dat d) H := ⟨y, rfl, hy⟩
      have beq : ∀ b : Bool, decide (V.bl b = V.bl b) = true := fun b => decide_eq_true rfl
      cases hT : isTup d with
      | true =>
        obtain ⟨ds, rfl⟩ := tup_of hT
        obtain ⟨dl, da⟩ := dep_of hd
        refine evS_if (k := true) (evT_val (ev_isiT2 (ev_var s1))) (fun _ => ?_) fun z => by cases z
        refine evS_if (k := false) (evT_or (k := false) (l := false) (evT_not (evT_val (ev_isiT2 (ev_var s0)))) fun _ => evT_test ((ev_ne (ev_isi (ev_var s0) (kit_lst _)) (ev_isi (ev_var s1) (kit_lst _)) rfl).bl (by rw [beq]; rfl))) (fun z => by cases z) fun _ => ?_
        refine evS_if (k := false) (evT_test ((ev_ne (ev_len (ev_var s0) rfl) (ev_len (ev_var s1) rfl) rfl).bl (by rw [decide_eq_true rfl]; rfl))) (fun z => by cases z) fun _ => ?_
        have lc := ev_lc (c := pureC K) (te := tVar 2) (tt := tNot (tB (tCall (spOf (pureC K) (preAlike n)) [] E0 (tCons (tOp (rIxT K) (tVar 0) (tVar 2)) (tCons (tOp (rIxT K) (tVar 1) (tVar 2)) tNil))))) (g := gName 2) (vs := [2]) (evI_range (c := pureC K) (σ := start NAl [x, y]) (evA_one (ev_len (ev_var s1) rfl)) (by omega)) at0 (by omega) (fun _ => none) fun j z H1 lt rr ha => by
          refine ⟨_, bind_name, ?_, fun p hp => by cases hp⟩
          have lt : j < ds.length := by omega
          have e := List.getElem?_eq_getElem lt
          have b0 : Sl ((wipe (start NAl [x, y]) [2]).set 2 (some z)) 0 (.dat (.tuple ds)) H1 := s0.mv (c := pureC K) rr
          have b1 : Sl ((wipe (start NAl [x, y]) [2]).set 2 (some z)) 1 (.dat (.tuple ds)) H1 := s1.mv (c := pureC K) rr
          have b2 : Sl ((wipe (start NAl [x, y]) [2]).set 2 (some z)) 2 (.val (.int j)) H1 := ⟨z, rfl, ha⟩
          exact evT_not (evT_val (ev_call (pre := preAlike n) (r := .val (.bl true)) (evA_cons (ev_ix (ev_var b0) (ev_var b2) (atI_nat e)) (evA_one (ev_ix (ev_var b1) (ev_var b2) (atI_nat e)))) ⟨ds[j], rfl, da _ (List.getElem_mem lt), rfl⟩ (at0.up rr)))
        refine evS_ret ((ev_eqNil (ds := []) (lc.wk fun x H ⟨a, xs, es, e, h1, h2, h3⟩ => ⟨a, xs, es, e, h1, ?_, h3⟩) rfl).bl rfl)
        have : (List.range (((ds.length : Nat) : Int).toNat)).filterMap (fun _ => (none : Option (PyData → Prop))) = [] := List.filterMap_eq_nil_iff.mpr fun _ _ => rfl
        rw [this] at h2
        exact h2
      | false =>
        have hf : flat d = true := by
          cases d <;> first | exact hd | cases hT
        have hL : isLst d = false := by cases d <;> first | rfl | cases hf
        refine evS_if (k := false) (evT_val ((ev_isiT2 (ev_var s1)).bl (by rw [hT, hL]; rfl))) (fun z => by cases z) fun _ => ?_
        have eqd : Ev (pureC K) (tOp (rEqP K) (tVar 0) (tVar 1)) (start NAl [x, y]) H (.val (.bl true)) := (ev_eqD (ev_var s0) (ev_var s1) (by rw [flat_depth hf]; decide)).bl (eqv_self hf)
        refine evS_if (evT_or (evT_test (ev_isN (ev_var s1))) fun _ => evT_val (ev_isi (ev_var s1) (kit_str d))) (fun _ => ?_) fun h => ?_
        · exact evS_ret (ev_and eqd fun _ => (ev_eq (ev_isi (ev_var s0) (kit_str d)) (ev_isi (ev_var s1) (kit_str d)) rfl).bl (beq _))
        · rw [Bool.or_eq_false_iff] at h
          have hI : isInt d = true := by
            cases d with
            | none => cases h.1
            | str s => cases h.2
            | bool b => rfl
            | int i => rfl
            | _ => cases hf
          exact evS_ret (ev_and ((ev_isi (ev_var s0) (kit_int d)).bl hI) fun _ => ev_and ((ev_eq (ev_isi (ev_var s0) (kit_bool d)) (ev_isi (ev_var s1) (kit_bool d)) rfl).bl (beq _)) fun _ => eqd)
end
end KX

set_option maxHeartbeats 8000000
namespace KX
open PySem PySem.Spec PyProof.Rows L2
def preBent (r : Row) (n : Nat) (as : List AV) (res : AV) : Prop := ∃ d, as = [.val (.ref r.a), .dat d] ∧ dep n d = true ∧ res = .dp fun _ => True
section
variable {P : Program} {w : World} {K : PySem.W.Frag} {mg : Str → Option Value} {base : Heap}
abbrev NBt : List Str := ["_law_row", "_law_one", "_law_kinds", "_law_at"]
theorem bl_bent (T : Tx K mg base) : Binds K (fdOf K "_law_bent") ["_law_row", "_law_one"] [] := T.f_law_bent.binds fun _ _ _ _ _ _ us hl => match us, hl with | [_, _], _ => rfl
theorem scl_bent : FnScope NBt ["_law_row", "_law_one"] (defScope (top 56)) := ⟨rfl, rfl, rfl, by decide +kernel, rfl, by decide +kernel, by decide +kernel⟩
abbrev yes : PyData → Prop := fun _ => True
theorem Ev.dNon {c : Ct} {σ : L2.St} {H0 : Hp} {te : TE} (h : Ev c te σ H0 (.val .non)) : Ev c te σ H0 (.dp yes) := h.wk fun x H q => by cases q; exact ⟨.none, trivial, .non⟩
theorem Ev.dBl {c : Ct} {σ : L2.St} {H0 : Hp} {te : TE} {b : Bool} (h : Ev c te σ H0 (.val (.bl b))) : Ev c te σ H0 (.dp yes) := h.wk fun x H q => by cases q; exact ⟨.bool b, trivial, .bl b⟩
theorem orU {c : Ct} {σ : L2.St} {H : Hp} {tA tB : TT} {k : Bool} (hA : EvT c tA σ H k) (hB : k = false → ∀ H1, c.R H H1 → ∀ Q : Bool → Hp → Prop, (∀ b H2, c.R H1 H2 → Q b H2) → tB σ H1 Q) : ∀ Q : Bool → Hp → Prop, (∀ b H1, c.R H H1 → Q b H1) → tOr tA tB σ H Q := fun Q hQ => hA H (.refl H) _ fun H1 r1 => by
  cases k with
  | true => exact iteT (hQ _ H1 r1)
  | false => exact iteF (hB rfl H1 r1 Q fun b H2 r2 => hQ b H2 (r1.trans r2))
theorem bent_kinds {r : Row} {H : Hp} {E : XK} {o2 o3 : Option V} {x y : V} (at0 : (rowC K r).At H) (hx : x = .ref r.a) :
    EvS (rowC K r) (tSeq (tAsg (tLst (tCons (tC .non) (tCons (tUn (rU fun i => .int (-i)) (tC (.int 1))) (tCons (tC (.int 2)) (tCons (tC (.bl true)) (tCons (tTup tNil) (tCons (tC (.str "f")) (tCons (tC (.str "zz")) (tCons (tC (.str "X")) (tCons (tC (.str "")) (tCons (tC (.str "abcdefghijklm")) (tCons (tTup (tCons (tC (.str "head")) (tCons (tC (.str "xy")) tNil))) (tCons (tTup (tCons (tC (.str "empty")) (tCons (tC (.int 1)) tNil))) tNil))))))))))))) (gName 2))
      (tRet (tCall (spOf (rowC K r) (prePick r)) [] E (tCons (tVar 0) (tCons (tOp rCat (tVar 2) (tLst (tCons (tTup (tCons (tC (.str "give")) (tCons (tC (.str "x")) tNil))) (tCons (tTup (tCons (tC (.str "take")) (tCons (tC (.int 2)) (tCons (tC (.str "")) tNil)))) (tCons (tTup (tCons (tC (.str "end")) (tCons (tTup (tCons (tC (.str "late")) (tCons (tC (.int 4)) tNil))) tNil))) (tCons (tTup (tCons (tC (.str "number")) (tCons (tC (.int 1000001)) tNil))) (tCons (tTup (tCons (tC (.str "late")) (tCons (tC (.int 2)) tNil))) tNil))))))) tNil))))) [some x, some y, o2, o3] H (.dp yes) := by
  subst hx
  have ts : ∀ {σ : L2.St} {H : Hp} (s : Str), s.length ≤ 1000 → Ev (rowC K r) (tC (.str s)) σ H (.dp yes) := fun s h => (ev_c.dStr h).any
  have ti : ∀ {σ : L2.St} {H : Hp} (i : Int), Ev (rowC K r) (tC (.int i)) σ H (.dp yes) := fun i => (ev_c (v := .int i)).dInt.any
  refine evS_set (i := 2) (b := .lx r.a fun ds => ds.length = 12) ((ev_lstX (ps := [yes, yes, yes, yes, yes, yes, yes, yes, yes, yes, yes, yes]) (evA_cons ev_c.dNon (evA_cons (ev_neg (ev_c (v := .int 1))).dInt.any (evA_cons (ti 2) (evA_cons ev_c.dBl (evA_cons ev_nilT.any (evA_cons (ts _ (by decide +kernel)) (evA_cons (ts _ (by decide +kernel)) (evA_cons (ts _ (by decide +kernel)) (evA_cons (ts _ (by decide +kernel)) (evA_cons (ts _ (by decide +kernel))
    (evA_cons (ev_tup2 (ts _ (by decide +kernel)) (ts _ (by decide +kernel))).any (evA_one (ev_tup2 (ts _ (by decide +kernel)) (ti 1)).any)))))))))))) at0 (by show 12 ≤ 1000; decide)).wk fun x H ⟨a, xs, ds, e, n, h1, h2, h3⟩ => ⟨a, xs, ds, e, n, h1, each_len h2, h3⟩) fun x2 H1 r1 h2 => ?_
  have at1 := at0.up r1
  show EvS (rowC K r) _ [some (.ref r.a), some y, some x2, o3] H1 _
  exact evS_ret ((ev_call (pre := prePick r) (evA_cons (ev_var (a := .val (.ref r.a)) ⟨_, rfl, rfl⟩) (evA_one (ev_catX (z1 := 12) (z2 := 5) (ev_var (a := .lx r.a fun ds => ds.length = 12) ⟨x2, rfl, h2⟩ okX)
    (ev_lstX (ps := [yes, yes, yes, yes, yes]) (evA_cons (ev_tup2 (ts _ (by decide +kernel)) (ts _ (by decide +kernel))).any (evA_cons (ev_tup3 (ts _ (by decide +kernel)) (ti 2) (ts _ (by decide +kernel))).any (evA_cons (ev_tup2 (ts _ (by decide +kernel)) (ev_tup2 (ts _ (by decide +kernel)) (ti 4)).any).any (evA_cons (ev_tup2 (ts _ (by decide +kernel)) (ti 1000001)).any (evA_one (ev_tup2 (ts _ (by decide +kernel)) (ti 2)).any))))) at1 (by show 5 ≤ 1000; decide)) at1 (fun ds h => Nat.le_of_eq h) (fun ds h => Nat.le_of_eq (each_len h)))))
    ⟨_, rfl, fun ds ⟨a, b, h1, h2, e⟩ => by rw [e, List.length_append, h1, each_len h2]; exact ⟨by show 1 ≤ 12 + 5; decide, by show 12 + 5 ≤ 1000; decide⟩, rfl⟩ at1).any)
theorem okl_bent (T : Tx K mg base) (r : Row) : ∀ n : Nat, FnOk P w K mg base CX0 (n + 3) (fA K "_law_bent") (fdOf K "_law_bent") ["_law_row", "_law_one"] (spOf (rowC K r) (preBent r n))
  | 0 => by
    refine T.f_law_bent.ok (N := NBt) (k := 2) scl_bent (fun as r h => ?_) fun A outer s H E hr => ?_
    · obtain ⟨d, rfl, _⟩ := h
      rfl
    · have hrj : ∀ j, j ≤ 2 → Room j (A.deeper (envOfC "_law_bent" (defScope (top 56)) s.heap.objs.size (fA K "_law_bent") (.ref (cdOf K "_law_bent")))) := fun j h => hr.mono h
      have hu64 := hr.units
      refine ⟨_, pss_cons (ps_if (PW.pt (pw_or (pt_not (pt_val (pe_isi T.z_isinstance T.z_tuple boot_tuple (pv 1)))) (pw_or (pt_cmpR (op_eqP hu64) (pv 1) (pe_tup pa_nil) (by rfl)) (pw_or1 (pt_cmpR op_eq (pe_fn (okl_taken T r) (hrj 1 (by omega)) T.g_law_taken T.f_law_taken (bl_taken T) (pa_cons (pv 0) (pa_cons pe_int pa_nil))) pe_int (nomark _))))))
          (pss_cons (ps_set (i := 2) scl_bent.nd rfl (Or.inl rfl) (pe_lst (pa_cons pe_non (pa_cons (pe_un un_neg pe_int) (pa_cons pe_int (pa_cons pe_bl (pa_cons (pe_tup pa_nil) (pa_cons pe_str (pa_cons pe_str (pa_cons pe_str (pa_cons pe_str (pa_cons pe_str (pa_cons (pe_tup (pa_cons pe_str (pa_cons pe_str pa_nil))) (pa_cons (pe_tup (pa_cons pe_str (pa_cons pe_int pa_nil))) pa_nil))))))))))))))
          (pss_one (ps_ret (pe_fn (okl_pick T r) (hrj 2 (by omega)) T.g_law_pick T.f_law_pick (bl_pick T) (pa_cons (pv 0) (pa_cons (pe_op op_cat (pv 2) (pe_lst (pa_cons (pe_tup (pa_cons pe_str (pa_cons pe_str pa_nil))) (pa_cons (pe_tup (pa_cons pe_str (pa_cons pe_int (pa_cons pe_str pa_nil)))) (pa_cons (pe_tup (pa_cons pe_str (pa_cons (pe_tup (pa_cons pe_str (pa_cons pe_int pa_nil))) pa_nil))) (pa_cons (pe_tup (pa_cons pe_str (pa_cons pe_int pa_nil))) (pa_cons (pe_tup (pa_cons pe_str (pa_cons pe_int pa_nil))) pa_nil))))))) pa_nil)))))) pss_nil)
        pss_never, ?_⟩
      rintro as res vs ⟨d, rfl, hd, rfl⟩ ⟨x, _, rfl, hx, y, _, rfl, hy, rfl⟩ at0
      have s1 : Sl (start NBt [x, y]) 1 (.dat d) H := ⟨y, rfl, hy⟩
      have hT : isTup d = false := by cases d <;> first | rfl | cases hd
      exact evS_if (k := !false || false) (evT_or (k := !false) (l := false) (evT_not (evT_val ((ev_isi (ev_var s1) (kit_tup d)).bl hT))) fun z => by cases z) (fun _ => bent_kinds at0 hx) fun z => by cases z
  | n + 1 => by
    have G := okl_bent T r n
    refine T.f_law_bent.ok (N := NBt) (k := n + 3) scl_bent (fun as r h => ?_) fun A outer s H E hr => ?_
    · obtain ⟨d, rfl, _⟩ := h
      rfl
    · have hrj : ∀ j, j ≤ n + 3 → Room j (A.deeper (envOfC "_law_bent" (defScope (top 56)) s.heap.objs.size (fA K "_law_bent") (.ref (cdOf K "_law_bent")))) := fun j h => hr.mono h
      have hu64 := hr.units
      refine ⟨_, pss_cons (ps_if (PW.pt (pw_or (pt_not (pt_val (pe_isi T.z_isinstance T.z_tuple boot_tuple (pv 1)))) (pw_or (pt_cmpR (op_eqP hu64) (pv 1) (pe_tup pa_nil) (by rfl)) (pw_or1 (pt_cmpR op_eq (pe_fn (okl_taken T r) (hrj 1 (by omega)) T.g_law_taken T.f_law_taken (bl_taken T) (pa_cons (pv 0) (pa_cons pe_int pa_nil))) pe_int (nomark _))))))
          (pss_cons (ps_set (i := 2) scl_bent.nd rfl (Or.inl rfl) (pe_lst (pa_cons pe_non (pa_cons (pe_un un_neg pe_int) (pa_cons pe_int (pa_cons pe_bl (pa_cons (pe_tup pa_nil) (pa_cons pe_str (pa_cons pe_str (pa_cons pe_str (pa_cons pe_str (pa_cons pe_str (pa_cons (pe_tup (pa_cons pe_str (pa_cons pe_str pa_nil))) (pa_cons (pe_tup (pa_cons pe_str (pa_cons pe_int pa_nil))) pa_nil))))))))))))))
          (pss_one (ps_ret (pe_fn (okl_pick T r) (hrj 2 (by omega)) T.g_law_pick T.f_law_pick (bl_pick T) (pa_cons (pv 0) (pa_cons (pe_op op_cat (pv 2) (pe_lst (pa_cons (pe_tup (pa_cons pe_str (pa_cons pe_str pa_nil))) (pa_cons (pe_tup (pa_cons pe_str (pa_cons pe_int (pa_cons pe_str pa_nil)))) (pa_cons (pe_tup (pa_cons pe_str (pa_cons (pe_tup (pa_cons pe_str (pa_cons pe_int pa_nil))) pa_nil))) (pa_cons (pe_tup (pa_cons pe_str (pa_cons pe_int pa_nil))) (pa_cons (pe_tup (pa_cons pe_str (pa_cons pe_int pa_nil))) pa_nil))))))) pa_nil)))))) pss_nil)
        (pss_cons (ps_set (i := 3) scl_bent.nd rfl (Or.inl rfl) (pe_fn (okl_taken T r) (hrj 1 (by omega)) T.g_law_taken T.f_law_taken (bl_taken T) (pa_cons (pv 0) (pa_cons (pe_len T.z_len (pv 1)) pa_nil))))
        (pss_one (ps_ret (pe_op op_catA (pe_op op_catA (pe_slice sl_tupA (pv 1) po_none (po_some (pv 3))) (pe_tup (pa_cons (pe_fn G hr T.g_law_bent T.f_law_bent (bl_bent T) (pa_cons (pv 0) (pa_cons (pe_ix ix_tup (pv 1) (pv 3) (fun _ _ => rfl)) pa_nil))) pa_nil))) (pe_slice sl_tupA (pv 1) (po_some (pe_op op_add (pv 3) pe_int)) po_none))))), ?_⟩
      rintro as res vs ⟨d, rfl, hd, rfl⟩ ⟨x, _, rfl, hx, y, _, rfl, hy, rfl⟩ at0
      cases hx
      have s1 : ∀ {o2 o3 : Option V}, Sl [some (.ref r.a), some y, o2, o3] 1 (.dat d) H := ⟨y, rfl, hy⟩
      have s0 : ∀ {o2 o3 : Option V} {H : Hp}, Sl [some (.ref r.a), some y, o2, o3] 0 (.val (.ref r.a)) H := ⟨_, rfl, rfl⟩
      show EvS (rowC K r) _ [some (.ref r.a), some y, none, none] H _
      cases hT : isTup d with
      | false => exact evS_if (k := !false || false) (evT_or (k := !false) (l := false) (evT_not (evT_val ((ev_isi (ev_var s1) (kit_tup d)).bl hT))) fun z => by cases z) (fun _ => bent_kinds at0 rfl) fun z => by cases z
      | true =>
      obtain ⟨ds, rfl⟩ := tup_of hT
      obtain ⟨dl, da⟩ := dep_of hd
      cases hE : ds with
      | nil =>
        subst hE
        exact evS_if (k := !true || (true || false)) (evT_or (k := !true) (l := true || false) (evT_not (evT_val (ev_isi (ev_var s1) (kit_tup _)))) fun _ => evT_or (k := true) (l := false) (evT_test (ev_eqD (ev_var s1) ev_nilT (Nat.le_trans (Nat.min_le_right _ _) (by decide)))) fun z => by cases z) (fun _ => bent_kinds at0 rfl) fun z => by cases z
      | cons d0 dr =>
      have dpos : 1 ≤ ds.length := by rw [hE, List.length_cons]; omega
      refine evS_ifU (fun H1 r1 Q hQ => ?_) (fun H1 r1 => bent_kinds (at0.up r1) rfl) fun H1 r1 => ?_
      · have e0 : PyData.eqv (.tuple ds) (.tuple []) = false := by
          rw [eqvt_nil, hE]
          rfl
        have s1' : Sl [some (.ref r.a), some y, none, none] 1 (.dat (.tuple ds)) H1 := Sl.mv (c := rowC K r) (σ := [some (.ref r.a), some y, none, none]) s1 r1
        refine orU (k := !true) (evT_not (evT_val (ev_isi (ev_var s1') (kit_tup (.tuple ds))))) (fun _ H2 r2 Q hQ => ?_) Q hQ
        have s2' : Sl [some (.ref r.a), some y, none, none] 1 (.dat (.tuple ds)) H2 := Sl.mv (c := rowC K r) s1' r2
        refine orU (k := false) (evT_test ((ev_eqD (ev_var s2') ev_nilT (Nat.le_trans (Nat.min_le_right _ _) (by decide))).bl e0)) (fun _ H3 r3 Q hQ => ?_) Q hQ
        exact (ev_call (pre := preTaken r) (evA_cons (ev_var s0) (evA_one (ev_c (v := .int 3)))) ⟨3, rfl, by decide, by decide, rfl⟩ (at0.up (r1.trans (r2.trans r3)))) H3 (.refl H3) _ fun v H4 r4 ⟨i, e, _⟩ => ⟨by rw [e]; rfl, decide (v = .int 0), rfl, hQ _ H4 r4⟩
      · have at1 := at0.up r1
        have s1' : ∀ {o2 o3 : Option V}, Sl [some (.ref r.a), some y, o2, o3] 1 (.dat (.tuple ds)) H1 := Sl.mv (c := rowC K r) (σ := [some (.ref r.a), some y, none, none]) s1 r1
        refine evS_set (i := 3) (b := inR ds.length) (ev_call (pre := preTaken r) (evA_cons (ev_var s0) (evA_one (ev_len (ev_var s1') rfl))) ⟨_, rfl, by omega, by omega, rfl⟩ at1) fun x3 H2 r2 ⟨i, e3, i0, i1⟩ => ?_
        obtain ⟨k, rfl⟩ : ∃ k : Nat, i = (k : Int) := ⟨i.toNat, by omega⟩
        subst e3
        have at2 := at1.up r2
        show EvS (rowC K r) _ [some (.ref r.a), some y, none, some (.int k)] H2 _
        have lt : k < ds.length := by omega
        have u1 : Sl [some (.ref r.a), some y, none, some (.int k)] 1 (.dat (.tuple ds)) H2 := Sl.mv (c := rowC K r) (σ := [some (.ref r.a), some y, none, some (.int k)]) (H0 := H1) s1' r2
        have u3 : Sl [some (.ref r.a), some y, none, some (.int k)] 3 (.val (.int k)) H2 := ⟨_, rfl, rfl⟩
        have e1 := ev_slice (c := rowC K r) (ev_var u1) evO_none (evO_some (ev_var u3))
        rw [cutD_to] at e1
        have e2 := ev_slice (c := rowC K r) (ev_var u1) (evO_some ((ev_i0 (g := fun i j => .int (i + j)) (ev_var u3) (ev_c (v := .int 1))).to (by show AV.val (V.int ((k : Int) + 1)) = AV.val (V.int ((k + 1 : Nat) : Int)); rw [show ((k + 1 : Nat) : Int) = (k : Int) + 1 by omega]))) evO_none
        rw [cutD_from ds (k + 1) (by omega)] at e2
        have e3 : Ev (rowC K r) (tCall (spOf (rowC K r) (preBent r n)) [] E0 (tCons (tVar 0) (tCons (tOp (rIxT K) (tVar 1) (tVar 3)) tNil))) [some (.ref r.a), some y, none, some (.int k)] H2 (.dp yes) := ev_call (evA_cons (ev_var s0) (evA_one (ev_ix (ev_var u1) (ev_var u3) (atI_nat (List.getElem?_eq_getElem lt))))) ⟨ds[k], rfl, da _ (List.getElem_mem lt), rfl⟩ at2
        have e4 := ev_tup (c := rowC K r) (ps := [yes]) (evA_one e3) (by show 1 ≤ 1000; decide)
        have e5 := ev_catD (z1 := 900) (z2 := 1) e1 e4 (fun d h => ⟨_, h, by rw [List.length_take]; omega⟩) (fun d ⟨es, h1, h2⟩ => ⟨es, h2, by rw [each_len h1]; exact Nat.le_refl _⟩) (by decide)
        exact evS_ret (ev_catD (z1 := k + 1) (z2 := ds.length - (k + 1)) e5 e2 (fun d ⟨a, b, h1, ⟨es, h2, h3⟩, h4⟩ => ⟨_, h4, by cases h1; cases h3; rw [List.length_append, List.length_take, each_len h2]; show _ + 1 ≤ k + 1; omega⟩) (fun d h => ⟨_, h, by rw [List.length_drop]; exact Nat.le_refl _⟩) (by omega)).any
end
end KX

set_option maxHeartbeats 600000
namespace KX
open PySem PySem.Spec PyProof.Rows L2
/-! ### the law -/
def spLaw (K : PySem.W.Frag) : Sp := fun vs H Q _ => ∃ (a : Addr) (ns : List Int), vs = [.ref a] ∧ SqL K H a (ns.map V.int) ∧ TabsOk (tabs K) H ∧ ∀ H', Q (.bl true) H'
def spX (K : PySem.W.Frag) (pre : Row → List AV → AV → Prop) : Sp := fun vs H Q E => ∃ r, spOf (rowC K r) (pre r) vs H Q E
section
variable {P : Program} {w : World} {K : PySem.W.Frag} {mg : Str → Option Value} {base : Heap}
theorem fnAny {k : Nat} {f : Addr} {fd : FuncData} {ps : List Str} {pre : Row → List AV → AV → Prop} (F : ∀ r, FnOk P w K mg base CX0 k f fd ps (spOf (rowC K r) (pre r))) : FnOk P w K mg base CX0 k f fd ps (spX K pre) :=
  ⟨fun vs H Q E ⟨r, h⟩ => (F r).len vs H Q E h, fun A outer s H args us vs Q E hr e0 hb rr ⟨r, h⟩ => (F r).run A outer s H args us vs Q E hr e0 hb rr h⟩
theorem pe_fnS {X : Cx} {f cd : Addr} {fd : FuncData} {ps : List Str} {k : Nat} {sp : Sp} {x : Str} {st : Stmt} {e : Expr} {es : List Expr} {t : TA} {p pos : Pos} (G : FnOk X.prog X.w X.K X.mg X.base CX0 k f fd ps sp) (hr : Room k X.A) (hm : X.mg x = some (.ref f)) (F : FnT X.K x st f fd cd) (hb : Binds X.K fd ps [])
    (ha : PA X (e :: es) t) (hg : Gl X x := by rfl) (hdb : (x == ("__debug__" : Str)) = false := by decide) (he : starEach (e :: es) X.env = (false, eval e X.env) :: starEach es X.env := by rfl) (hpl : (backTo pos (starEach es X.env)).any (·.1) = false := by rfl) :
    PE X (.Call (.Name x p) (e :: es) [] pos) (tCall sp [] E0 t) := pe_call G hr hg hm F.kp hb .nil pass0 ha hdb he hpl
theorem ev_callX {r : Row} {σ : L2.St} {H0 : Hp} {ta : TA} {as : List AV} {res : AV} {pre : Row → List AV → AV → Prop} (h : EvA (rowC K r) ta σ H0 as) (hp : pre r as res) (at0 : (rowC K r).At H0) : Ev (rowC K r) (tCall (spX K pre) [] E0 ta) σ H0 res := fun H rr Q q =>
  h H rr _ fun vs H1 r1 hv => by
    show spX K pre (vs ++ []) H1 Q E0
    rw [List.append_nil]
    exact ⟨r, as, res, hp, hv, at0.up (rr.trans r1), fun v H2 r2 x => q v H2 (r1.trans r2) x⟩
theorem Ev.dBool {c : Ct} {σ : L2.St} {H0 : Hp} {te : TE} {b : Bool} (h : Ev c te σ H0 (.val (.bl b))) : Ev c te σ H0 (.dat (.bool b)) := h.wk fun x H q => by cases q; exact ⟨_, rfl, .bl b⟩
/-! readings that the law's body needs -/
theorem gN {i : Nat} {v : V} {σ τ : L2.St} {H : Hp} {Q : L2.St → Hp → Prop} (e : σ.set i (some v) = τ) (h : Q τ H) : gName i v σ H Q := by
  subst e
  exact h
theorem raw_row {D : Ends} {u : TS} {σ : L2.St} {H : Hp} {a : Addr} (e : σ[0]? = some (some (.ref a))) (h : ∀ ra, H ra = none → u D (σ.set 1 (some (.ref ra))) (upd H ra (.lst [.ref a, .int 0, .int 14300, .int 0]))) :
    tSeq (tAsg (tLst (tCons (tVar 0) (tCons (tC (.int 0)) (tCons (tC (.int 14300)) (tCons (tC (.int 0)) tNil))))) (gName 1)) u D σ H := ⟨.ref a, e, by show 4 ≤ sizeLine; decide, fun ra hra => h ra hra⟩
theorem evS_set3D {c : Ct} {σ : L2.St} {H0 : Hp} {te : TE} {t : TS} {a : AV} {i1 i2 i3 : Nat} {d1 d2 d3 : PyData} (h : Ev c te σ H0 (.dat (.tuple [d1, d2, d3]))) (k : ∀ v1 v2 v3 H, c.R H0 H → Dat H v1 d1 → Dat H v2 d2 → Dat H v3 d3 → EvS c t (((σ.set i1 (some v1)).set i2 (some v2)).set i3 (some v3)) H a) :
    EvS c (tSeq (tAsg te (gTup c.K 3 (gCons (gName i1) (gCons (gName i2) (gCons (gName i3) gNil))))) t) σ H0 a := fun H r D q =>
  h H r _ fun x H1 r1 ⟨d, e, hx⟩ => by
    rw [e] at hx
    obtain ⟨v1, v2, v3, a1, a2, a3, hB⟩ := gtup3 (c := c) (i1 := i1) (i2 := i2) (i3 := i3) hx
    exact hB _ _ (k v1 v2 v3 H1 (r.trans r1) a1 a2 a3 H1 (.refl H1) D fun v H2 r2 y => q v H2 (r1.trans r2) y)
theorem avs_at {H : Hp} : ∀ {as : List AV} {vs : List V} {j : Nat} {x : V}, AVs as vs H → vs[j]? = some x → ∃ a, as[j]? = some a ∧ a.is x H
  | [], _, j, x, h, e => by
    cases h
    simp at e
  | a :: as, _, 0, x, h, e => by
    obtain ⟨v, r, rfl, h1, _⟩ := h
    cases e
    exact ⟨a, rfl, h1⟩
  | a :: as, _, j + 1, x, h, e => by
    obtain ⟨v, r, rfl, _, h2⟩ := h
    exact avs_at (j := j) h2 e
/-- a written list, walked -/
theorem evI_lit {r : Row} {σ : L2.St} {H0 : Hp} {ta : TA} {as : List AV} (h : EvA (rowC K r) ta σ H0 as) (at0 : (rowC K r).At H0) (hl : as.length ≤ 1000) (ok : ∀ a ∈ as, a.ok (rowC K r).row) :
    EvI (rowC K r) (iList K (tLst ta)) σ H0 as.length (fun j x H => ∃ a, as[j]? = some a ∧ a.is x H) := fun H r0 R q =>
  h H r0 _ fun vs H1 r1 hv => ⟨by rw [avs_len hv]; exact Nat.le_of_lt (size_ok hl), fun l hl => by
    have hne := fresh_ne (at0.up (r0.trans r1)) hl
    have g1 : (rowC K r).R H1 (upd H1 l (.lst vs)) := .laid hl
    refine ⟨l, rfl, ⟨vs, SqL.of upd_same⟩, q _ _ (r1.trans g1) ⟨fun H j g lt => ?_, fun H g => ⟨vs, SqL.of (kL hne g upd_same), by rw [avs_len hv]; exact Nat.le_refl _⟩, fun H j x H' g lt y => ?_⟩⟩
    · have l2 : j < vs.length := by rw [avs_len hv]; exact lt
      exact ⟨vs, vs[j], SqL.of (kL hne g upd_same), List.getElem?_eq_getElem l2⟩
    · obtain ⟨e, y⟩ := y
      obtain ⟨a, ea, ha⟩ := avs_at hv (y vs (SqL.of (kL hne g upd_same)))
      exact ⟨e, a, ea, AV.keep (c := rowC K r) (ok a (List.mem_of_getElem? ea)) (g1.trans g) ha⟩⟩
theorem ev_newDict {r : Row} {σ : L2.St} {H0 : Hp} (at0 : (rowC K r).At H0) : Ev (rowC K r) tDNewK σ H0 (.np r.a) := fun H r0 Q q p hp => q _ _ (.laid hp) ⟨p, rfl, fresh_ne (at0.up r0) hp, .inr ⟨[], upd_same⟩⟩
theorem ev_listN {r : Row} {σ : L2.St} {H0 : Hp} {te : TE} {ds : List PyData} (at0 : (rowC K r).At H0) (h : Ev (rowC K r) te σ H0 (.dat (.tuple ds))) : Ev (rowC K r) (tCB (rListOf K) (tCons te tNil)) σ H0 (.np r.a) :=
  ev_cb (evA_one h) fun H vs Q r0 hv q => by
    obtain ⟨x, _, rfl, ⟨_, rfl, hd⟩, rfl⟩ := hv
    cases hd with
    | tup h1 h2 => exact ⟨_, _, rfl, .inr (SqT.of h1), fun l hl => q _ _ (.laid hl) ⟨l, rfl, fresh_ne (at0.up r0) hl, .inl ⟨_, upd_same⟩⟩⟩
theorem ev_tupN {r : Row} {σ : L2.St} {H0 : Hp} {ta : TA} {as : List AV} (at0 : (rowC K r).At H0) (h : EvA (rowC K r) ta σ H0 as) (hl : as.length ≤ 1000) : Ev (rowC K r) (tTup (tCons (tLst ta) tNil)) σ H0 (.tp r.a) := fun H r0 Q q =>
  h H r0 _ fun vs H1 r1 hv => ⟨by rw [avs_len hv]; exact Nat.le_of_lt (size_ok hl), fun l hl => ⟨by show 1 ≤ sizeLine; decide, fun p hp => q _ _ (r1.trans ((Gr.laid hl).trans (.laid hp))) ⟨p, l, vs, rfl, upd_same, fresh_ne (at0.up (r0.trans r1)) hl, by
    rw [upd_ne (fun z => by rw [← z, upd_same] at hp; cases hp)]
    exact upd_same⟩⟩⟩
def TriD (d : PyData) : Prop := ∃ (s : Str) (b : Int) (t : PyData), d = .tuple [.str s, .int b, t]
def QT (d : PyData) : Prop := ∃ es, d = .tuple es ∧ Tri es ∧ es.length ≤ 1000
theorem leaves_dep : ∀ {n m : Nat} {d : PyData}, dep m d = true → ∀ x ∈ leavesD n d, dep m x = true
  | 0, _, _, _, x, hx => (List.not_mem_nil hx).elim
  | n + 1, m, d, h, x, hx => by
    have hx : x ∈ (if tagD d = "if" then leavesD n (itemD d 2) ++ leavesD n (itemD d 3) else if tagD d = "go" then [d] else []) := hx
    have it : ∀ i, dep m (itemD d i) = true := fun i => by
      cases d with
      | tuple ds =>
        cases m with
        | zero => cases h
        | succ m =>
          obtain ⟨_, h2⟩ := dep_of h
          show dep (m + 1) (ds.getD i .none) = true
          rw [List.getD_eq_getElem?_getD]
          cases q : ds[i]? with
          | none => exact dep_flat rfl
          | some e => exact dep_up (h2 e (List.mem_of_getElem? q))
      | _ => exact dep_flat rfl
    split at hx
    · rcases List.mem_append.mp hx with hx | hx
      · exact leaves_dep (it 2) x hx
      · exact leaves_dep (it 3) x hx
    · split at hx
      · rw [List.mem_singleton.mp hx]
        exact h
      · exact (List.not_mem_nil hx).elim
abbrev NLw : List Str := ["_law_script", "_law_row", "_law_program_here", "_law_at", "_law_name", "_law_many", "_law_tree_here", "_law_turn", "_law_bent_here", "_law_end", "_law_some", "_law_other", "_law_value_here", "_law_one"]
theorem scl_law : FnScope NLw ["_law_script"] (defScope (top 57)) := ⟨rfl, rfl, rfl, by decide +kernel, rfl, by decide +kernel, by decide +kernel⟩
theorem okl_law (T : Tx K mg base) (F : Fn K "law" 57) : FnOk P w K mg base CX0 74 (fA K "law") (fdOf K "law") ["_law_script"] (spLaw K) := by
  obtain ⟨oc, od, kV, doc, pm, an, ct, osl, efd, lk, hcd⟩ := F.ex
  rw [efd] at lk ⊢
  refine fn_of lk hcd scl_law (fun vs H Q E h => ?_) fun A outer s H vs Q E hr h => ?_
  · obtain ⟨a, ns, rfl, _⟩ := h
    rfl
  · have hrj : ∀ j, j ≤ 73 → Room j (A.deeper (envOfC "law" (defScope (top 57)) s.heap.objs.size (fA K "law") (.ref (cdOf K "law")))) := fun j h => hr.mono h
    have hu64 := hr.units
    refine ⟨_, PSs.nox (pss_cons (ps_set (i := 1) scl_law.nd rfl (Or.inl rfl) (pe_lst (pa_cons (pv 0) (pa_cons pe_int (pa_cons pe_int (pa_cons pe_int pa_nil))))))
        (pss_cons (ps_set (i := 2) scl_law.nd rfl (Or.inl rfl) (pe_fnS (fnAny fun r => okl_prog T r) (hrj 63 (by omega)) T.g_law_program T.f_law_program (bl_prog T) (pa_cons (pv 1) (pa_cons pe_bl pa_nil))))
        (pss_cons (ps_if (pt_not (pt_val (pe_fn (okl_alike T 0) (hrj 1 (by omega)) T.g_law_alike T.f_law_alike (bl_alike T) (pa_cons (pe_fn (ok_prog T) (hrj 69 (by omega)) T.g_is_program T.f_is_program (b_prog T) (pa_cons (pv 2) pa_nil)) (pa_cons (pe_fn (okl_isprog T) (hrj 63 (by omega)) T.g_law_is_program T.f_law_is_program (bl_isprog T) (pa_cons (pv 2) pa_nil)) pa_nil))))) (pss_one (ps_ret pe_bl)) pss_nil)
        (pss_cons (ps_set (i := 3) scl_law.nd rfl (Or.inl rfl) (pe_fnS (fnAny fun r => okl_taken T r) (hrj 1 (by omega)) T.g_law_taken T.f_law_taken (bl_taken T) (pa_cons (pv 1) (pa_cons (pe_len T.z_len (pv 2)) pa_nil))))
        (pss_cons (ps_asg (pe_ix ix_tup (pv 2) (pv 3) (fun _ _ => rfl)) (pg_tup rfl (pgs_cons (pg_name (i := 4) scl_law.nd rfl (Or.inl rfl) (Or.inr rfl)) (pgs_cons (pg_name (i := 5) scl_law.nd rfl (Or.inl rfl) (Or.inr rfl)) (pgs_cons (pg_name (i := 6) scl_law.nd rfl (Or.inl rfl) (Or.inr rfl)) pgs_nil)))))
        (pss_cons (ps_for PassesOwn.never rfl (pi_range1 (by rfl) T.z_range (pa_cons pe_int pa_nil)) (pg_name (i := 7) scl_law.nd rfl (Or.inl rfl) (Or.inr rfl)) (pss_cons (ps_set (i := 8) scl_law.nd rfl (Or.inl rfl) (pe_op op_catA (pe_op op_catA (pe_slice sl_tupA (pv 2) po_none (po_some (pv 3))) (pe_tup (pa_cons (pe_tup (pa_cons (pv 4) (pa_cons (pv 5) (pa_cons (pe_fnS (fnAny fun r => okl_bent T r 12) (hrj 15 (by omega)) T.g_law_bent T.f_law_bent (bl_bent T) (pa_cons (pv 1) (pa_cons (pv 6) pa_nil))) pa_nil)))) pa_nil))) (pe_slice sl_tupA (pv 2) (po_some (pe_op op_add (pv 3) pe_int)) po_none)))
          (pss_one (ps_if (pt_not (pt_val (pe_fn (okl_alike T 0) (hrj 1 (by omega)) T.g_law_alike T.f_law_alike (bl_alike T) (pa_cons (pe_fn (ok_prog T) (hrj 69 (by omega)) T.g_is_program T.f_is_program (b_prog T) (pa_cons (pv 8) pa_nil)) (pa_cons (pe_fn (okl_isprog T) (hrj 63 (by omega)) T.g_law_is_program T.f_law_is_program (bl_isprog T) (pa_cons (pv 8) pa_nil)) pa_nil))))) (pss_one (ps_ret pe_bl)) pss_nil))))
        (pss_cons (ps_set (i := 9) scl_law.nd rfl (Or.inl rfl) (pe_tup (pa_cons pe_str (pa_cons (pe_tup (pa_cons pe_str (pa_cons pe_int pa_nil))) pa_nil))))
        (pss_cons (ps_set (i := 10) scl_law.nd rfl (Or.inl rfl) (pe_lst (pa_cons (pe_op op_catA (pv 2) (pe_slice sl_tupA (pv 2) po_none (po_some pe_int))) (pa_cons (pe_slice sl_tupA (pv 2) (po_some pe_int) po_none) (pa_cons (pe_op op_catA (pe_op op_catA (pe_slice sl_tupA (pv 2) po_none (po_some (pv 3))) (pe_tup (pa_cons (pe_tup (pa_cons (pv 4) (pa_cons (pe_op op_add (pv 5) pe_int) (pa_cons (pv 6) pa_nil)))) pa_nil))) (pe_slice sl_tupA (pv 2) (po_some (pe_op op_add (pv 3) pe_int)) po_none)) pa_nil)))))
        (pss_cons (ps_set (i := 10) scl_law.nd rfl (Or.inl rfl) (pe_op op_cat (pv 10) (pe_lst (pa_cons (pe_tup (pa_cons (pe_tup (pa_cons pe_str (pa_cons pe_int (pa_cons (pv 9) pa_nil)))) pa_nil)) (pa_cons (pe_tup (pa_cons (pe_tup (pa_cons pe_str (pa_cons pe_int (pa_cons (pv 9) pa_nil)))) pa_nil)) (pa_cons (pe_tup (pa_cons (pe_tup (pa_cons pe_str (pa_cons pe_int (pa_cons (pv 9) pa_nil)))) pa_nil)) (pa_cons (pe_tup (pa_cons (pe_tup (pa_cons pe_str (pa_cons pe_int (pa_cons (pv 9) pa_nil)))) pa_nil)) (pa_cons (pe_tup (pa_cons (pe_tup (pa_cons pe_str (pa_cons pe_int (pa_cons (pv 9) pa_nil)))) pa_nil)) pa_nil))))))))
        (pss_cons (ps_for PassesOwn.never rfl (pi_list (pv 10)) (pg_name (i := 11) scl_law.nd rfl (Or.inl rfl) (Or.inr rfl)) (pss_one (ps_if (pt_not (pt_val (pe_fn (okl_alike T 0) (hrj 1 (by omega)) T.g_law_alike T.f_law_alike (bl_alike T) (pa_cons (pe_fn (ok_prog T) (hrj 69 (by omega)) T.g_is_program T.f_is_program (b_prog T) (pa_cons (pv 11) pa_nil)) (pa_cons (pe_and (pe_cmpR (op_neP hu64) (pv 11) (pe_tup pa_nil) (by rfl)) (pe_one (pe_fn (okl_isprog T) (hrj 63 (by omega)) T.g_law_is_program T.f_law_is_program (bl_isprog T) (pa_cons (pv 11) pa_nil)))) pa_nil))))) (pss_one (ps_ret pe_bl)) pss_nil)))
        (pss_cons (ps_for PassesOwn.never rfl (pi_list (pe_lst (pa_cons pe_non (pa_cons pe_int (pa_cons pe_str (pa_cons (pe_tup pa_nil) (pa_cons (pe_listC T.z_list (pv 2)) (pa_cons (pe_tup (pa_cons pe_int pa_nil)) (pa_cons (pe_tup (pa_cons (pe_tup (pa_cons (pv 4) (pa_cons (pv 5) pa_nil))) pa_nil)) (pa_cons (pe_tup (pa_cons (pe_lst (pa_cons (pv 4) (pa_cons (pv 5) (pa_cons (pv 6) pa_nil)))) pa_nil)) (pa_cons pe_dnewK pa_nil))))))))))) (pg_name (i := 12) scl_law.nd rfl (Or.inl rfl) (Or.inr rfl)) (pss_one (ps_if (pt_not (pt_val (pe_fn (okl_alike T 0) (hrj 1 (by omega)) T.g_law_alike T.f_law_alike (bl_alike T) (pa_cons (pe_fn (ok_prog T) (hrj 69 (by omega)) T.g_is_program T.f_is_program (b_prog T) (pa_cons (pv 12) pa_nil)) (pa_cons pe_bl pa_nil))))) (pss_one (ps_ret pe_bl)) pss_nil)))
        (pss_cons (ps_if (pt_not (pt_val (pe_fn (okl_isprog T) (hrj 63 (by omega)) T.g_law_is_program T.f_law_is_program (bl_isprog T) (pa_cons (pv 2) pa_nil)))) (pss_one (ps_ret pe_bl)) pss_nil)
        (pss_cons (ps_if (pt_not (pt_val (pe_fn (okl_alike T 2) (hrj 3 (by omega)) T.g_law_alike T.f_law_alike (bl_alike T) (pa_cons (pe_fn (ok_funcs T) (hrj 71 (by omega)) T.g_functions T.f_functions (b_funcs T) (pa_cons (pv 2) pa_nil)) (pa_cons (pe_tupC T.z_tuple (pe_lc (own := [("_law_one", 13)]) (g := gName 13) rfl scl_law.nd (pi_tup (pv 2)) (blkOk_by (own := [("_law_one", 13)]) (N := NLw) (sc := defScope (top 57)) (by decide +kernel)) (fun _ _ _ _ _ => (pg_name (i := 13) scl_law.nd rfl (Or.inl rfl) (Or.inr rfl))) (fun _ _ _ _ _ => pts_nil) (fun _ _ _ _ _ => (pe_ix (ix_tupK (K := K) rfl) (pv 13) pe_int (fun _ _ => rfl))))) pa_nil))))) (pss_one (ps_ret pe_bl)) pss_nil)
        (pss_cons (ps_if (pt_not (pt_val (pe_fn (okl_alike T 0) (hrj 1 (by omega)) T.g_law_alike T.f_law_alike (bl_alike T) (pa_cons (pe_fn (ok_count T) (hrj 71 (by omega)) T.g_node_count T.f_node_count (b_count T) (pa_cons (pv 2) pa_nil)) (pa_cons (pe_callB (cr_sum rfl) (by rfl) T.z_sum boot_sum2 (pa_cons (pe_lc (own := [("_law_one", 13)]) (g := gName 13) rfl scl_law.nd (pi_tup (pv 2)) (blkOk_by (own := [("_law_one", 13)]) (N := NLw) (sc := defScope (top 57)) (by decide +kernel)) (fun _ _ _ _ _ => (pg_name (i := 13) scl_law.nd rfl (Or.inl rfl) (Or.inr rfl))) (fun _ _ _ _ _ => pts_nil) (fun _ _ _ _ _ => (pe_fn (okl_nodes T 30) (hrj 62 (by omega)) T.g_law_nodes T.f_law_nodes (bl_nodes T) (pa_cons (pe_ix (ix_tupK (K := K) rfl) (pv 13) pe_int (fun _ _ => rfl)) pa_nil)))) pa_nil)) pa_nil))))) (pss_one (ps_ret pe_bl)) pss_nil)
        (pss_one (ps_ret (pe_fn (okl_alike T 13) (hrj 14 (by omega)) T.g_law_alike T.f_law_alike (bl_alike T) (pa_cons (pe_fn (ok_goes T) (hrj 72 (by omega)) T.g_goes T.f_goes (b_goes T) (pa_cons (pv 2) (pa_cons (pv 4) pa_nil))) (pa_cons (pe_tupC T.z_tuple (pe_fn (okl_leaves T 30) (hrj 31 (by omega)) T.g_law_leaves T.f_law_leaves (bl_leaves T) (pa_cons (pv 6) pa_nil))) pa_nil))))))))))))))))))), ?_⟩
    obtain ⟨a, ns, rfl, hS, hTab, hQ⟩ := h
    refine raw_row (a := a) rfl fun ra hra => ?_
    have nst : ∀ b o, H b = some o → upd H ra (.lst [.ref a, .int 0, .int 14300, .int 0]) b = some o := fun b o e => by rw [upd_ne (ne_of_none e hra)]; exact e
    have at1 : (rowC K ⟨ra, a, ns⟩).At (upd H ra (.lst [.ref a, .int 0, .int 14300, .int 0])) := by
      refine ⟨fun P hP => ?_, fun rr e => ?_⟩
      · obtain ⟨ps, e, t⟩ := hTab P hP
        exact ⟨ps, nst _ _ e, t⟩
      · cases e
        refine ⟨seq_of (fun o e _ => nst _ o e) hS, ?_, 0, 14300, 0, upd_same, Int.le_refl _⟩
        rcases hS with (e | ⟨o, e⟩) | k
        · exact .inl (ne_of_none e hra)
        · exact .inl (ne_of_none e hra)
        · exact .inr fun _ => .inr k
    generalize upd H ra (.lst [.ref a, .int 0, .int 14300, .int 0]) = H1 at at1 ⊢
    refine evS_at (c := rowC K ⟨ra, a, ns⟩) (a := .val (.bl true)) ?_ fun v H4 r4 y => by
      have y : v = .bl true := y
      rw [y]
      exact hQ H4
    show EvS (rowC K ⟨ra, a, ns⟩) _ [some (.ref a), some (.ref ra), none, none, none, none, none, none, none, none, none, none, none, none] H1 _
    have S1 : ∀ {o : Option V} {τ : L2.St} {H' : Hp}, Sl (o :: some (.ref ra) :: τ) 1 (.val (.ref ra)) H' := ⟨_, rfl, rfl⟩
    refine evS_set (i := 2) (b := .dp fun d => ∃ ds, d = .tuple ds ∧ PrOkD ds) (ev_callX (pre := preProgDraw) (evA_cons (ev_var S1) (evA_one (ev_c (v := .bl true)))) ⟨rfl, rfl⟩ at1) fun x2 H2 r2 ⟨_, ⟨ds, rfl, hp⟩, hx2⟩ => ?_
    have at2 := at1.up r2
    show EvS (rowC K ⟨ra, a, ns⟩) _ [some (.ref a), some (.ref ra), some x2, none, none, none, none, none, none, none, none, none, none, none] H2 _
    have S2 : ∀ {o o1 : Option V} {τ : L2.St} {H' : Hp}, (rowC K ⟨ra, a, ns⟩).R H2 H' → Sl (o :: o1 :: some x2 :: τ) 2 (.dat (.tuple ds)) H' := fun g => ⟨x2, rfl, _, rfl, g.dat hx2⟩
    have hTri : Tri ds := fun d hd => by
      obtain ⟨s, b, t, e, _⟩ := hp.2 d hd
      exact ⟨s, b, t, e⟩
    -- the program's look and the law's are alike
    have same : ∀ {i : Nat} {τ : L2.St} {H' : Hp} {es : List PyData}, (rowC K ⟨ra, a, ns⟩).At H' → Tri es → es.length ≤ 1000 → Sl τ i (.dat (.tuple es)) H' →
        EvT (rowC K ⟨ra, a, ns⟩) (tNot (tB (tCall (spOf (pureC K) (preAlike 0)) [] E0 (tCons (tCall (spOf (pureC K) preProg) [] E0 (tCons (tVar i) tNil)) (tCons (tCall (spOf (pureC K) preLaw) [] E0 (tCons (tVar i) tNil)) tNil))))) τ H' false := fun {i τ H' es} hat ht hl hs =>
      evT_not (k := true) (evT_val (ev_callP (K := K) (Ps := tabs K) (row := some ⟨ra, a, ns⟩) (pre := preAlike 0) (r := .val (.bl true)) (evA_cons (Ev.dBool (b := progL es) (ev_callP (K := K) (Ps := tabs K) (row := some ⟨ra, a, ns⟩) (pre := preProg) (evA_one (ev_var hs)) (.inl ⟨_, rfl, rfl⟩) hat)) (evA_one (Ev.dBool (b := progL es) ((ev_callP (K := K) (Ps := tabs K) (row := some ⟨ra, a, ns⟩) (pre := preLaw) (evA_one (ev_var hs)) ⟨es, rfl, ht, hl, rfl⟩ hat).bl (law_prog ht))))) ⟨.bool (progL es), rfl, rfl, rfl⟩ hat))
    refine evS_if (k := false) (same at2 hTri (by have := hp.1; omega) (S2 (.refl H2))) (fun z => by cases z) fun _ => ?_
    have lenp : ∀ {o o1 : Option V} {τ : L2.St}, Ev (rowC K ⟨ra, a, ns⟩) (tCB (rLenK K) (tCons (tVar 2) tNil)) (o :: o1 :: some x2 :: τ) H2 (.val (.int ds.length)) := ev_len (ev_var (S2 (.refl H2))) rfl
    refine evS_set (i := 3) (b := inR ds.length) (ev_callX (pre := preTaken) (evA_cons (ev_var S1) (evA_one lenp)) ⟨_, rfl, by have := hp.1; omega, by have := hp.1; omega, rfl⟩ at2) fun x3 H3 r3 ⟨i, e3, i0, i1⟩ => ?_
    obtain ⟨k, rfl⟩ : ∃ k : Nat, i = (k : Int) := ⟨i.toNat, by omega⟩
    subst e3
    have lt : k < ds.length := by omega
    have at3 := at2.up r3
    show EvS (rowC K ⟨ra, a, ns⟩) _ [some (.ref a), some (.ref ra), some x2, some (.int k), none, none, none, none, none, none, none, none, none, none] H3 _
    have S3 : ∀ {o o1 o2 : Option V} {τ : L2.St} {H' : Hp}, Sl (o :: o1 :: o2 :: some (.int k) :: τ) 3 (.val (.int k)) H' := ⟨_, rfl, rfl⟩
    obtain ⟨s, b, t, et, b0, b3, gt⟩ := hp.2 ds[k] (List.getElem_mem lt)
    have eat : ds[k]? = some (.tuple [.str s, .int b, t]) := by rw [List.getElem?_eq_getElem lt, et]
    refine evS_set3D (d1 := .str s) (d2 := .int b) (d3 := t) (ev_ix (ev_var (S2 r3)) (ev_var S3) (atI_nat eat)) fun v4 v5 v6 H4 r4 a4 a5 a6 => ?_
    cases a4 with
    | str _ sl =>
    cases a5
    have at4 := at3.up r4
    show EvS (rowC K ⟨ra, a, ns⟩) _ [some (.ref a), some (.ref ra), some x2, some (.int k), some (.str s), some (.int b), some v6, none, none, none, none, none, none, none] H4 _
    have S4 : ∀ {o o1 o2 o3 : Option V} {τ : L2.St} {H' : Hp}, Sl (o :: o1 :: o2 :: o3 :: some (.str s) :: τ) 4 (.dat (.str s)) H' := ⟨_, rfl, _, rfl, .str s sl⟩
    have S5 : ∀ {o o1 o2 o3 o4 : Option V} {τ : L2.St} {H' : Hp}, Sl (o :: o1 :: o2 :: o3 :: o4 :: some (.int b) :: τ) 5 (.dat (.int b)) H' := ⟨_, rfl, _, rfl, .int b⟩
    have S6 : ∀ {o o1 o2 o3 o4 o5 : Option V} {τ : L2.St} {H' : Hp}, (rowC K ⟨ra, a, ns⟩).R H4 H' → Sl (o :: o1 :: o2 :: o3 :: o4 :: o5 :: some v6 :: τ) 6 (.dat t) H' := fun g => ⟨v6, rfl, _, rfl, g.dat a6⟩
    have g24 := r3.trans r4
    -- one function changed
    have mid : ∀ {te : TE} {τ : L2.St} {H' : Hp} {o o1 : Option V}, (rowC K ⟨ra, a, ns⟩).R H2 H' → Ev (rowC K ⟨ra, a, ns⟩) te (o :: o1 :: some x2 :: some (.int k) :: τ) H' (.dp TriD) →
        Ev (rowC K ⟨ra, a, ns⟩) (tOp (rCatA K) (tOp (rCatA K) (tSl (rSlA K) (tVar 2) tNoPart (tPart (tVar 3))) (tTup (tCons te tNil))) (tSl (rSlA K) (tVar 2) (tPart (tOp (rI0 fun i j => .int (i + j)) (tVar 3) (tC (.int 1)))) tNoPart)) (o :: o1 :: some x2 :: some (.int k) :: τ) H' (.dp QT) := fun {te τ H' o o1} g he => by
      have e1 := ev_slice (c := rowC K ⟨ra, a, ns⟩) (ev_var (S2 (o := o) (o1 := o1) (τ := some (.int k) :: τ) g)) evO_none (evO_some (ev_var S3))
      rw [cutD_to] at e1
      have e2 := ev_slice (c := rowC K ⟨ra, a, ns⟩) (ev_var (S2 (o := o) (o1 := o1) (τ := some (.int k) :: τ) g)) (evO_some ((ev_i0 (g := fun i j => .int (i + j)) (ev_var S3) (ev_c (v := .int 1))).to (by show AV.val (V.int ((k : Int) + 1)) = AV.val (V.int ((k + 1 : Nat) : Int)); rw [show ((k + 1 : Nat) : Int) = (k : Int) + 1 by omega]))) evO_none
      rw [cutD_from ds (k + 1) (by omega)] at e2
      have e4 := ev_tup (c := rowC K ⟨ra, a, ns⟩) (ps := [TriD]) (evA_one he) (by show 1 ≤ 1000; decide)
      have e5 := ev_catD (z1 := 3) (z2 := 1) e1 e4 (fun d h => ⟨_, h, by rw [List.length_take]; have := hp.1; omega⟩) (fun d ⟨es, h1, h2⟩ => ⟨es, h2, by rw [each_len h1]; exact Nat.le_refl _⟩) (by decide)
      refine (ev_catD (z1 := 4) (z2 := 3) e5 e2 (fun d ⟨x, y, h1, ⟨es, h2, h3⟩, h4⟩ => ⟨_, h4, by cases h1; cases h3; rw [List.length_append, List.length_take, each_len h2]; show _ + 1 ≤ 4; have := hp.1; omega⟩) (fun d h => ⟨_, h, by rw [List.length_drop]; have := hp.1; omega⟩) (by decide)).wk fun x H ⟨d, ⟨x1, y1, ⟨x2, y2, h1, ⟨es, h2, h3⟩, h4⟩, h5, h6⟩, hd⟩ => ⟨d, ?_, hd⟩
      cases h1
      cases h3
      cases h4
      cases h5
      refine ⟨_, h6, fun q hq => ?_, ?_⟩
      · rcases List.mem_append.mp hq with hq | hq
        · rcases List.mem_append.mp hq with hq | hq
          · exact hTri q (List.mem_of_mem_take hq)
          · obtain ⟨pp, h7, h8⟩ := each_mem h2 hq
            rw [List.mem_singleton.mp h7] at h8
            exact h8
        · exact hTri q (List.mem_of_mem_drop hq)
      · rw [List.length_append, List.length_append, List.length_take, List.length_drop, each_len h2]
        show _ + 1 + _ ≤ 1000
        have := hp.1
        omega
    refine evS_for (evI_range (evA_one (ev_c (v := .int 7))) (by decide)) (fun _ τ _ => ∃ o7 o8, τ = [some (.ref a), some (.ref ra), some x2, some (.int k), some (.str s), some (.int b), some v6, o7, o8, none, none, none, none, none]) (fun H' _ => ⟨none, none, rfl⟩) (fun j τ H5 y D' ltj rr hI _ hn hrt => ?_) fun τ H5 r5 hI => ?_
    · obtain ⟨o7, o8, rfl⟩ := hI
      have at5 := at4.up rr
      refine gN (τ := [some (.ref a), some (.ref ra), some x2, some (.int k), some (.str s), some (.int b), some v6, some y, o8, none, none, none, none, none]) rfl ?_
      refine raw_set (c := rowC K ⟨ra, a, ns⟩) (σ := [some (.ref a), some (.ref ra), some x2, some (.int k), some (.str s), some (.int b), some v6, some y, o8, none, none, none, none, none]) (mid (g24.trans rr) ((ev_tup3 (p := (· = .str s)) (q := (· = .int b)) (ev_var S4) (ev_var S5) (ev_callX (pre := fun r => preBent r 12) (evA_cons (ev_var S1) (evA_one (ev_var (S6 rr)))) ⟨t, rfl, gt.2, rfl⟩ at5)).wk fun x H ⟨d, ⟨x, y, z, e1, e2, _, e3⟩, h⟩ => ⟨d, ⟨s, b, z, by rw [e3, e1, e2]⟩, h⟩)) fun x8 H6 r6 ⟨_, ⟨es, rfl, h1, h2⟩, h8⟩ => ?_
      have at6 := at5.up r6
      exact (same at6 h1 h2 (i := 8) (τ := [some (.ref a), some (.ref ra), some x2, some (.int k), some (.str s), some (.int b), some v6, some y, some x8, none, none, none, none, none]) ⟨x8, rfl, _, rfl, h8⟩) H6 (.refl H6) _ fun H7 r7 => iteF (hn _ H7 (r6.trans r7) ⟨some y, some x8, rfl⟩)
    obtain ⟨o7, o8, rfl⟩ := hI
    have at5 := at4.up r5
    have g25 := g24.trans r5
    refine evS_set (i := 9) (b := .dp fun _ => True) (ev_tup2 (p := yes) (q := yes) (ev_c.dStr (by decide +kernel)).any (ev_tup2 (p := yes) (q := yes) (ev_c.dStr (by decide +kernel)).any (ev_c (v := .int 1)).dInt.any).any).any fun x9 H6 r6 ⟨te, _, h9⟩ => ?_
    have at6 := at5.up r6
    have g26 := g25.trans r6
    show EvS (rowC K ⟨ra, a, ns⟩) _ [some (.ref a), some (.ref ra), some x2, some (.int k), some (.str s), some (.int b), some v6, o7, o8, some x9, none, none, none, none] H6 _
    have p1 := ev_slice (c := rowC K ⟨ra, a, ns⟩) (σ := [some (.ref a), some (.ref ra), some x2, some (.int k), some (.str s), some (.int b), some v6, o7, o8, some x9, none, none, none, none]) (ev_var (S2 g26)) evO_none (evO_some (ev_c (v := .int (1 : Nat))))
    rw [cutD_to] at p1
    have c1 := ev_cat (ev_var (S2 g26)) p1 (by rw [List.length_take]; have := hp.1; omega)
    have c2 := ev_from (c := rowC K ⟨ra, a, ns⟩) (j := 1) (σ := [some (.ref a), some (.ref ra), some x2, some (.int k), some (.str s), some (.int b), some v6, o7, o8, some x9, none, none, none, none]) 1 (ev_var (S2 g26)) (by have := hp.1; omega)
    have c3 := mid (τ := [some (.str s), some (.int b), some v6, o7, o8, some x9, none, none, none, none]) (o := some (.ref a)) (o1 := some (.ref ra)) g26 ((ev_tup3 (p := (· = .str s)) (q := (· = .int (b + 1))) (s := (· = t)) (ev_var S4) (ev_i0 (g := fun i j => .int (i + j)) (ev_var S5).int (ev_c (v := .int 1))).dInt (ev_var (S6 (r5.trans r6)))).wk fun x H ⟨d, ⟨x, y, z, e1, e2, _, e3⟩, h⟩ => ⟨d, ⟨s, b + 1, z, by rw [e3, e1, e2]⟩, h⟩)
    refine evS_set (i := 10) (b := .lx ra fun es => es.length = 3 ∧ ∀ d ∈ es, QT d) ((ev_lstX (r := ⟨ra, a, ns⟩) (ps := [QT, QT, QT]) (evA_cons (c1.of_d fun x H q => ⟨_, ⟨_, rfl, fun d hd => (List.mem_append.mp hd).elim (hTri d) (fun h => hTri d (List.mem_of_mem_take h)), by rw [List.length_append, List.length_take]; have := hp.1; omega⟩, q⟩) (evA_cons (c2.of_d fun x H q => ⟨_, ⟨_, rfl, fun d hd => hTri d (List.mem_of_mem_drop hd), by rw [List.length_drop]; have := hp.1; omega⟩, q⟩) (evA_one c3))) at6 (by show 3 ≤ 1000; decide)).wk fun x H ⟨l, xs, es, e, n, h1, h2, h3⟩ => ⟨l, xs, es, e, n, h1, ⟨each_len h2, fun d hd => by
      obtain ⟨p, hp, hq⟩ := each_mem h2 hd
      simp only [List.mem_cons, List.not_mem_nil, or_false, or_self] at hp
      rw [hp] at hq
      exact hq⟩, h3⟩) fun x10 H7 r7 h10 => ?_
    have at7 := at6.up r7
    have g27 := g26.trans r7
    show EvS (rowC K ⟨ra, a, ns⟩) _ [some (.ref a), some (.ref ra), some x2, some (.int k), some (.str s), some (.int b), some v6, o7, o8, some x9, some x10, none, none, none] H7 _
    have okL : ∀ {p : List PyData → Prop}, (AV.lx ra p).ok (rowC K ⟨ra, a, ns⟩).row := fun _ z => by cases z; rfl
    have one : ∀ (n : Str) (m : Int), n.length ≤ 1000 → Ev (rowC K ⟨ra, a, ns⟩) (tTup (tCons (tTup (tCons (tC (.str n)) (tCons (tC (.int m)) (tCons (tVar 9) tNil)))) tNil)) [some (.ref a), some (.ref ra), some x2, some (.int k), some (.str s), some (.int b), some v6, o7, o8, some x9, some x10, none, none, none] H7 (.dp QT) := fun n m hn =>
      (ev_tup (ps := [TriD]) (evA_one ((ev_tup3 (p := (· = .str n)) (q := (· = .int m)) (s := yes) (ev_c.dStr hn) ev_c.dInt (ev_var (a := .dat te) ⟨x9, rfl, _, rfl, r7.dat h9⟩).any).wk fun x H ⟨d, ⟨x, y, z, e1, e2, _, e3⟩, h⟩ => ⟨d, ⟨n, m, z, by rw [e3, e1, e2]⟩, h⟩)) (by show 1 ≤ 1000; decide)).wk fun x H ⟨d, ⟨es, h1, h2⟩, h⟩ => ⟨d, ⟨es, h2, fun q hq => by
        obtain ⟨pp, h7, h8⟩ := each_mem h1 hq
        rw [List.mem_singleton.mp h7] at h8
        exact h8, by rw [each_len h1]; show 1 ≤ 1000; decide⟩, h⟩
    refine evS_set (i := 10) (b := .lx ra fun es => ∀ d ∈ es, QT d) ((ev_catX (r := ⟨ra, a, ns⟩) (z1 := 3) (z2 := 5) (ev_var (a := .lx ra fun es => es.length = 3 ∧ ∀ d ∈ es, QT d) ⟨x10, rfl, h10⟩ okL) (ev_lstX (r := ⟨ra, a, ns⟩) (ps := [QT, QT, QT, QT, QT]) (evA_cons (one _ _ (by decide +kernel)) (evA_cons (one _ _ (by decide +kernel)) (evA_cons (one _ _ (by decide +kernel)) (evA_cons (one _ _ (by decide +kernel)) (evA_one (one _ _ (by decide +kernel))))))) at7 (by show 5 ≤ 1000; decide)) at7 (fun es h => Nat.le_of_eq h.1) (fun es h => Nat.le_of_eq (each_len h))).wk fun x H ⟨l, xs, es, e, n, h1, ⟨x1, y1, q1, q2, q3⟩, h3⟩ => ⟨l, xs, es, e, n, h1, fun d hd => by
      rw [q3] at hd
      rcases List.mem_append.mp hd with hd | hd
      · exact q1.2 d hd
      · obtain ⟨p, hp, hq⟩ := each_mem q2 hd
        simp only [List.mem_cons, List.not_mem_nil, or_false, or_self] at hp
        rw [hp] at hq
        exact hq, h3⟩) fun y10 H8 r8 ⟨la, lxs, es10, el, nl, hl1, hl2, hl3⟩ => ?_
    have at8 := at7.up r8
    have g28 := g27.trans r8
    show EvS (rowC K ⟨ra, a, ns⟩) _ [some (.ref a), some (.ref ra), some x2, some (.int k), some (.str s), some (.int b), some v6, o7, o8, some x9, some y10, none, none, none] H8 _
    have S10 : Sl [some (.ref a), some (.ref ra), some x2, some (.int k), some (.str s), some (.int b), some v6, o7, o8, some x9, some y10, none, none, none] 10 (.lx ra (· = es10)) H8 := ⟨y10, rfl, la, lxs, es10, el, nl, hl1, rfl, hl3⟩
    refine evS_for (evI_listX (r := ⟨ra, a, ns⟩) (ev_var S10 okL)) (fun _ τ _ => ∃ o11, τ = [some (.ref a), some (.ref ra), some x2, some (.int k), some (.str s), some (.int b), some v6, o7, o8, some x9, some y10, o11, none, none]) (fun H' _ => ⟨none, rfl⟩) (fun j τ H9 y D' ltj rr hI ⟨e, he, hy⟩ hn hrt => ?_) fun τ H9 r9 hI => ?_
    · obtain ⟨o11, rfl⟩ := hI
      have at9 := at8.up rr
      obtain ⟨es, rfl, ht, hl⟩ := hl2 e (List.mem_of_getElem? he)
      refine gN (τ := [some (.ref a), some (.ref ra), some x2, some (.int k), some (.str s), some (.int b), some v6, o7, o8, some x9, some y10, some y, none, none]) rfl ?_
      have S11 : Sl [some (.ref a), some (.ref ra), some x2, some (.int k), some (.str s), some (.int b), some v6, o7, o8, some x9, some y10, some y, none, none] 11 (.dat (.tuple es)) H9 := ⟨y, rfl, _, rfl, hy⟩
      have due : Ev (rowC K ⟨ra, a, ns⟩) (tAndV (tOp (rNeP K) (tVar 11) (tTup tNil)) (tCall (spOf (pureC K) preLaw) [] E0 (tCons (tVar 11) tNil))) [some (.ref a), some (.ref ra), some x2, some (.int k), some (.str s), some (.int b), some v6, o7, o8, some x9, some y10, some y, none, none] H9 (.val (.bl (progL es))) := by
        refine (ev_and (ev_neD (ev_var S11) ev_nilT (Nat.le_trans (Nat.min_le_right _ _) (by decide))) fun _ => (ev_callP (K := K) (Ps := tabs K) (row := some ⟨ra, a, ns⟩) (pre := preLaw) (evA_one (ev_var S11)) ⟨es, rfl, ht, hl, rfl⟩ at9).bl (law_prog ht)).bl ?_
        rw [eqvt_nil]
        cases es with
        | nil => rfl
        | cons x r => rfl
      exact (evT_not (k := true) (evT_val (ev_callP (K := K) (Ps := tabs K) (row := some ⟨ra, a, ns⟩) (E := E0) (pre := preAlike 0) (r := .val (.bl true)) (evA_cons (Ev.dBool (b := progL es) (ev_callP (K := K) (Ps := tabs K) (row := some ⟨ra, a, ns⟩) (E := E0) (pre := preProg) (evA_one (ev_var S11)) (.inl ⟨_, rfl, rfl⟩) at9)) (evA_one due.dBool)) ⟨.bool (progL es), rfl, rfl, rfl⟩ at9))) H9 (.refl H9) _ fun H10 r10 => iteF (hn _ H10 r10 ⟨some y, rfl⟩)
    obtain ⟨o11, rfl⟩ := hI
    have at9 := at8.up r9
    have g29 := g28.trans r9
    have g49 := r5.trans (r6.trans (r7.trans (r8.trans r9)))
    have okN : (AV.np ra).ok (rowC K ⟨ra, a, ns⟩).row := fun _ z => by cases z; rfl
    have okT : (AV.tp ra).ok (rowC K ⟨ra, a, ns⟩).row := fun _ z => by cases z; rfl
    have e4 := ev_tup (c := rowC K ⟨ra, a, ns⟩) (σ := [some (.ref a), some (.ref ra), some x2, some (.int k), some (.str s), some (.int b), some v6, o7, o8, some x9, some y10, o11, none, none]) (H0 := H9) (ps := [(· = .int 3)]) (evA_one (ev_c (v := .int 3)).dInt) (by show 1 ≤ 1000; decide)
    have e5 := ev_tup (c := rowC K ⟨ra, a, ns⟩) (σ := [some (.ref a), some (.ref ra), some x2, some (.int k), some (.str s), some (.int b), some v6, o7, o8, some x9, some y10, o11, none, none]) (H0 := H9) (ps := [fun d => ∃ x y, x = .str s ∧ y = .int b ∧ d = .tuple [x, y]]) (evA_one (ev_tup2 (p := (· = .str s)) (q := (· = .int b)) (ev_var S4) (ev_var S5))) (by show 1 ≤ 1000; decide)
    have badI : EvI (rowC K ⟨ra, a, ns⟩) _ [some (.ref a), some (.ref ra), some x2, some (.int k), some (.str s), some (.int b), some v6, o7, o8, some x9, some y10, o11, none, none] H9 9 _ := evI_lit (r := ⟨ra, a, ns⟩) (as := [.dp fun d => progD d = false, .dp fun d => progD d = false, .dp fun d => progD d = false, .dp fun d => progD d = false, .np ra, .dp fun d => progD d = false, .dp fun d => progD d = false, .tp ra, .np ra])
      (evA_cons ((ev_c (v := .non)).wk fun x H q => by cases q; exact ⟨.none, rfl, .non⟩) (evA_cons ((ev_c (v := .int 3)).dInt.of_d fun x H q => ⟨_, rfl, q⟩) (evA_cons ((ev_c (v := .str "f")).dStr (by decide +kernel) |>.of_d fun x H q => ⟨_, rfl, q⟩) (evA_cons (ev_nilT.of_d fun x H q => ⟨_, rfl, q⟩) (evA_cons (ev_listN (r := ⟨ra, a, ns⟩) at9 (ev_var (S2 g29)))
        (evA_cons (e4.wk fun x H ⟨d, ⟨es, ⟨z, r, q1, q2, q3⟩, q4⟩, h⟩ => ⟨d, by rw [q4, q1, q2, q3]; rfl, h⟩) (evA_cons (e5.wk fun x H ⟨d, ⟨es, ⟨z, r, q1, ⟨x, y, q2, q5, q6⟩, q3⟩, q4⟩, h⟩ => ⟨d, by rw [q4, q1, q6, q2, q5, q3]; rfl, h⟩)
          (evA_cons (ev_tupN (r := ⟨ra, a, ns⟩) at9 (evA_cons (ev_var S4) (evA_cons (ev_var S5) (evA_one (ev_var (S6 g49))))) (by show 3 ≤ 1000; decide)) (evA_one (ev_newDict (r := ⟨ra, a, ns⟩) at9)) okT))) okN))))) at9 (by show 9 ≤ 1000; decide) (fun z hz => by
        simp only [List.mem_cons, List.not_mem_nil, or_false] at hz
        rcases hz with rfl | rfl | rfl | rfl | rfl | rfl | rfl | rfl | rfl <;> first | exact okN | exact okT | trivial)
    have badp : ∀ {H' : Hp} {τ : L2.St}, (rowC K ⟨ra, a, ns⟩).At H' → ((∃ d, progD d = false ∧ Sl τ 12 (.dat d) H') ∨ Sl τ 12 (.np ra) H' ∨ Sl τ 12 (.tp ra) H') → Ev (rowC K ⟨ra, a, ns⟩) (tCall (spOf (pureC K) preProg) [] E0 (tCons (tVar 12) tNil)) τ H' (.val (.bl false)) := fun {H' τ} hat h => by
      rcases h with ⟨d, hd, hs⟩ | hs | hs
      · exact ev_callP (K := K) (Ps := tabs K) (row := some ⟨ra, a, ns⟩) (pre := preProg) (evA_one (ev_var hs)) (.inl ⟨d, rfl, by rw [hd]⟩) hat
      · exact ev_callP (K := K) (Ps := tabs K) (row := some ⟨ra, a, ns⟩) (pre := preProg) (evA_one (ev_var hs okN)) (.inr (.inl ⟨ra, rfl, rfl⟩)) hat
      · exact ev_callP (K := K) (Ps := tabs K) (row := some ⟨ra, a, ns⟩) (pre := preProg) (evA_one (ev_var hs okT)) (.inr (.inr ⟨ra, rfl, rfl⟩)) hat
    refine evS_for badI (fun _ τ _ => ∃ o12, τ = [some (.ref a), some (.ref ra), some x2, some (.int k), some (.str s), some (.int b), some v6, o7, o8, some x9, some y10, o11, o12, none]) (fun H' _ => ⟨none, rfl⟩) (fun j τ H10 y D' ltj rr hI hav hn hrt => ?_) fun τ H10 r10 hI => ?_
    · obtain ⟨o12, rfl⟩ := hI
      obtain ⟨av, hav, his⟩ := hav
      have at10 := at9.up rr
      refine gN (τ := [some (.ref a), some (.ref ra), some x2, some (.int k), some (.str s), some (.int b), some v6, o7, o8, some x9, some y10, o11, some y, none]) rfl ?_
      have kind : (∃ d, progD d = false ∧ Sl [some (.ref a), some (.ref ra), some x2, some (.int k), some (.str s), some (.int b), some v6, o7, o8, some x9, some y10, o11, some y, none] 12 (.dat d) H10) ∨ Sl [some (.ref a), some (.ref ra), some x2, some (.int k), some (.str s), some (.int b), some v6, o7, o8, some x9, some y10, o11, some y, none] 12 (.np ra) H10 ∨ Sl [some (.ref a), some (.ref ra), some x2, some (.int k), some (.str s), some (.int b), some v6, o7, o8, some x9, some y10, o11, some y, none] 12 (.tp ra) H10 := by
        have hm := List.mem_of_getElem? hav
        simp only [List.mem_cons, List.not_mem_nil, or_false] at hm
        have dcase : av = .dp (fun d => progD d = false) → (∃ d, progD d = false ∧ Sl [some (.ref a), some (.ref ra), some x2, some (.int k), some (.str s), some (.int b), some v6, o7, o8, some x9, some y10, o11, some y, none] 12 (.dat d) H10) := fun e => by
          subst e
          obtain ⟨d, h1, h2⟩ := his
          exact ⟨d, h1, y, rfl, d, rfl, h2⟩
        rcases hm with e | e | e | e | e | e | e | e | e
        · exact .inl (dcase e)
        · exact .inl (dcase e)
        · exact .inl (dcase e)
        · exact .inl (dcase e)
        · subst e
          exact .inr (.inl ⟨y, rfl, his⟩)
        · exact .inl (dcase e)
        · exact .inl (dcase e)
        · subst e
          exact .inr (.inr ⟨y, rfl, his⟩)
        · subst e
          exact .inr (.inl ⟨y, rfl, his⟩)
      exact (evT_not (k := true) (evT_val (ev_callP (K := K) (Ps := tabs K) (row := some ⟨ra, a, ns⟩) (E := E0) (pre := preAlike 0) (r := .val (.bl true)) (evA_cons (Ev.dBool (b := false) (badp at10 kind)) (evA_one (ev_c (v := .bl false)).dBool)) ⟨.bool false, rfl, rfl, rfl⟩ at10))) H10 (.refl H10) _ fun H11 r11 => iteF (hn _ H11 r11 ⟨some y, rfl⟩)
    obtain ⟨o12, rfl⟩ := hI
    have at10 := at9.up r10
    have g2f := g29.trans r10
    refine evS_if (k := !progL ds) (evT_not (evT_val ((ev_callP (K := K) (Ps := tabs K) (row := some ⟨ra, a, ns⟩) (E := E0) (pre := preLaw) (evA_one (ev_var (S2 g2f))) ⟨ds, rfl, hTri, by have := hp.1; omega, rfl⟩ at10).bl (law_prog hTri)))) (fun _ => evS_ret (ev_c (v := .bl true))) fun hP => ?_
    have hP := nf hP
    obtain ⟨hl8, hF, hz, hs4⟩ := prog_facts hP
    have triAt : ∀ {j : Nat} {e : PyData}, ds[j]? = some e → ∃ s b t, e = .tuple [.str s, .int b, t] ∧ treeD 30 t b = true := fun {j e} he => by
      obtain ⟨s, b, t, e1, _, _, _, ht⟩ := func_of (hF e (List.mem_of_getElem? he))
      exact ⟨s, b, t, e1, ht⟩
    refine evS_if (k := false) (evT_not (k := true) (evT_val ?_)) (fun z => by cases z) fun _ => ?_
    · have g := ev_lcD (c := rowC K ⟨ra, a, ns⟩) (σ := [some (.ref a), some (.ref ra), some x2, some (.int k), some (.str s), some (.int b), some v6, o7, o8, some x9, some y10, o11, o12, none]) (te := tOp (rIxT K) (tVar 13) (tC (.int 0))) (tt := tYes) (g := gName 13) (vs := [13]) ds (evI_tup (ev_var (S2 g2f))) at10 (by omega) (fun d => some (itemD d 0)) fun j y H11 e he rr ⟨e', he', hy⟩ => by
        rw [he] at he'
        cases he'
        obtain ⟨s', b', t', rfl, _⟩ := triAt he
        refine ⟨_, bind_name, evT_yes, fun d hd => ?_⟩
        cases hd
        exact ev_item (c := rowC K ⟨ra, a, ns⟩) (j := 0) 0 (ev_var (a := .dat (.tuple [.str s', .int b', t'])) ⟨y, rfl, _, rfl, hy⟩) (by show 0 < 3; decide)
      have g3 : Ev (rowC K ⟨ra, a, ns⟩) _ [some (.ref a), some (.ref ra), some x2, some (.int k), some (.str s), some (.int b), some v6, o7, o8, some x9, some y10, o11, o12, none] H10 (.dat (.tuple (ds.map fun d => itemD d 0))) := (ev_tupleL g).wk fun v H' ⟨d, ⟨ds', e1, e2⟩, h⟩ => ⟨d, by
        rw [e2, e1]
        show PyData.tuple (ds.filterMap (some ∘ fun d => itemD d 0)) = _
        rw [List.filterMap_eq_map], h⟩
      refine ev_callP (K := K) (Ps := tabs K) (row := some ⟨ra, a, ns⟩) (E := E0) (pre := preAlike 2) (r := .val (.bl true)) (evA_cons (ev_callP (K := K) (Ps := tabs K) (row := some ⟨ra, a, ns⟩) (E := E0) (pre := preFuncs) (evA_one (ev_var (S2 g2f))) ⟨ds, rfl, hP, rfl⟩ at10) (evA_one g3)) ⟨_, rfl, dep_tup (by rw [List.length_map]; omega) fun x hx => ?_, rfl⟩ at10
      obtain ⟨d, hd, rfl⟩ := List.mem_map.mp hx
      obtain ⟨j, hj, e⟩ := List.getElem_of_mem hd
      obtain ⟨s', b', t', e2, _⟩ := triAt (j := j) (e := d) (by rw [List.getElem?_eq_getElem hj, e])
      rw [e2]
      exact dep_flat rfl
    refine evS_if (k := false) (evT_not (k := true) (evT_val ?_)) (fun z => by cases z) fun _ => ?_
    · have g := ev_lcD (c := rowC K ⟨ra, a, ns⟩) (σ := [some (.ref a), some (.ref ra), some x2, some (.int k), some (.str s), some (.int b), some v6, o7, o8, some x9, some y10, o11, o12, none]) (te := tCall (spOf (pureC K) (preNodes 30)) [] E0 (tCons (tOp (rIxT K) (tVar 13) (tC (.int 2))) tNil)) (tt := tYes) (g := gName 13) (vs := [13]) ds (evI_tup (ev_var (S2 g2f))) at10 (by omega) (fun d => some (.int (nodesD 30 (itemD d 2)))) fun j y H11 e he rr ⟨e', he', hy⟩ => by
        rw [he] at he'
        cases he'
        obtain ⟨s', b', t', rfl, ht⟩ := triAt he
        refine ⟨_, bind_name, evT_yes, fun d hd => ?_⟩
        cases hd
        exact (ev_callP (K := K) (Ps := tabs K) (row := some ⟨ra, a, ns⟩) (pre := preNodes 30) (evA_one (ev_item (c := rowC K ⟨ra, a, ns⟩) (j := 2) 2 (ev_var (a := .dat (.tuple [.str s', .int b', t'])) ⟨y, rfl, _, rfl, hy⟩) (by show 2 < 3; decide))) ⟨t', rfl, tree_wf ht, by decide, rfl⟩ (at10.up rr)).dInt
      have e4 : (ds.filterMap fun e => some (PyData.int (nodesD 30 (itemD e 2)))) = (ds.map fun d => nodesD 30 (itemD d 2)).map PyData.int := by
        show (ds.filterMap (some ∘ fun e => PyData.int (nodesD 30 (itemD e 2)))) = _
        rw [List.filterMap_eq_map, List.map_map]
        rfl
      rw [e4] at g
      exact ev_callP (K := K) (Ps := tabs K) (row := some ⟨ra, a, ns⟩) (E := E0) (pre := preAlike 0) (r := .val (.bl true)) (evA_cons (Ev.dInt (n := sumD ds) (ev_callP (K := K) (Ps := tabs K) (row := some ⟨ra, a, ns⟩) (E := E0) (pre := preCount) (evA_one (ev_var (S2 g2f))) ⟨ds, rfl, hP, rfl⟩ at10)) (evA_one (Ev.dInt (n := sumD ds) (ev_sumL g)))) ⟨.int (sumD ds), rfl, rfl, rfl⟩ at10
    have ek : kAt ds k = s := by
      unfold kAt
      rw [eat]
      rfl
    have ett : tAt ds k = t := by
      unfold tAt
      rw [eat]
      rfl
    obtain ⟨s', b', t', e5, htree⟩ := triAt eat
    cases e5
    have lb : (leavesD 30 t).length ≤ 400 := by
      have h2 := (tree_leaves htree).2
      have h3 := (sum_each (fun d => nodesD 30 (itemD d 2)) (fun d => nodes_nn 30 _) ds).2 _ (List.mem_of_getElem? eat)
      have h3 : nodesD 30 t ≤ sumD ds := h3
      omega
    have gL : Ev (rowC K ⟨ra, a, ns⟩) (tCall (spOf (pureC K) (preLeaves 30)) [] E0 (tCons (tVar 6) tNil)) [some (.ref a), some (.ref ra), some x2, some (.int k), some (.str s), some (.int b), some v6, o7, o8, some x9, some y10, o11, o12, none] H10 (.lst (leavesD 30 t)) := ev_callP (K := K) (Ps := tabs K) (row := some ⟨ra, a, ns⟩) (E := E0) (pre := preLeaves 30) (evA_one (ev_var (S6 (g49.trans r10)))) ⟨t, rfl, tree_lf htree, by omega, rfl⟩ at10
    have gT : Ev (rowC K ⟨ra, a, ns⟩) _ [some (.ref a), some (.ref ra), some x2, some (.int k), some (.str s), some (.int b), some v6, o7, o8, some x9, some y10, o11, o12, none] H10 (.dat (.tuple (leavesD 30 t))) := (ev_tupleL gL).wk fun v H' ⟨d, ⟨ds', e1, e2⟩, h⟩ => ⟨d, by rw [e2, e1], h⟩
    have gG : Ev (rowC K ⟨ra, a, ns⟩) (tCall (spOf (pureC K) preGoes) [] E0 (tCons (tVar 2) (tCons (tVar 4) tNil))) [some (.ref a), some (.ref ra), some x2, some (.int k), some (.str s), some (.int b), some v6, o7, o8, some x9, some y10, o11, o12, none] H10 (.dat (.tuple (leavesD 30 t))) := ev_callP (K := K) (Ps := tabs K) (row := some ⟨ra, a, ns⟩) (E := E0) (pre := preGoes) (evA_cons (ev_var (S2 g2f)) (evA_one (ev_var S4))) ⟨ds, k, by rw [ek], hP, lt, by rw [ett]⟩ at10
    exact evS_ret (ev_callP (K := K) (Ps := tabs K) (row := some ⟨ra, a, ns⟩) (E := E0) (pre := preAlike 13) (r := .val (.bl true)) (evA_cons gG (evA_one gT)) ⟨_, rfl, dep_tup (by omega) fun x hx => leaves_dep gt.2 x hx, rfl⟩ at10)
end
end KX

set_option maxHeartbeats 0
namespace KX
open PySem PySem.Spec PyProof.Rows L2
/-! ### the head -/
def mkD (x : Str) (i : Nat) : He.DefD := ⟨(x, none), x, x, defArgs (top i), defBody (top i), defScope (top i), [], []⟩
def fnL : List He.DefD := [mkD "is_in" 14, mkD "is_word" 15, mkD "is_kind" 16, mkD "is_expression" 17, mkD "is_test" 18, mkD "is_move" 19, mkD "is_tree" 20, mkD "parts_of" 21, mkD "nodes_of" 22, mkD "leaves_of" 23, mkD "is_function" 24, mkD "is_program" 25, mkD "need_program" 26, mkD "trees" 27, mkD "need_name" 28, mkD "functions" 29, mkD "node_count" 30, mkD "goes" 31, mkD "_law_taken" 33, mkD "_law_pick" 34, mkD "_law_alike" 35, mkD "_law_worth" 36, mkD "_law_move" 37, mkD "_law_tree" 38, mkD "_law_program" 39, mkD "_law_parts" 40, mkD "_law_nodes" 41, mkD "_law_leaves" 42, mkD "_law_is_int" 51, mkD "_law_is_word" 52, mkD "_law_is_worth" 53, mkD "_law_is_tree" 54, mkD "_law_is_program" 55, mkD "_law_bent" 56, mkD "law" 57]
def faL : List He.Fa := ([.glo "is_in", .glo "is_word", .glo "is_kind", .glo "is_expression", .glo "is_test", .glo "is_move", .glo "is_tree", .glo "parts_of", .glo "nodes_of", .glo "leaves_of", .glo "is_function", .glo "is_program", .glo "need_program", .glo "trees", .glo "need_name", .glo "functions", .glo "node_count", .glo "goes", .glo "_law_taken", .glo "_law_pick", .glo "_law_alike", .glo "_law_worth", .glo "_law_move", .glo "_law_tree", .glo "_law_program", .glo "_law_parts", .glo "_law_nodes", .glo "_law_leaves", .glo "_law_is_int", .glo "_law_is_word", .glo "_law_is_worth", .glo "_law_is_tree", .glo "_law_is_program", .glo "_law_bent", .glo "law"] : List He.Fa) ++ [.free "isinstance", .free "len", .free "all", .free "any", .free "sum", .free "tuple", .free "list", .free "int", .free "str", .free "bool", .free "range", .int "MOST_NUMBER" 1000000, .int "MOST_LETTERS" 8, .int "MOST_PUT" 12, .int "MOST_LATES" 4, .int "MOST_FUNCTIONS" 8, .int "MOST_NODES" 400, .int "MOST_DEEP" 30, .str "LETTERS" "abcdefghijklmnopqrstuvwxyz", .glo "SUMS"]
def tfL : List He.Defn := [("is_word", none), ("is_expression", none), ("is_test", none), ("is_tree", none), ("nodes_of", none), ("is_program", none), ("node_count", none)]
def exB (K : PySem.W.Frag) : Bool := He.lstB K "SUMS" [.str "plus", .str "minus", .str "times"]
abbrev RR : PySem.W.OpenRow := PySem.W.OpenLaw.row PySem.Challenge.rw_textstaged_k00_whole_programs
abbrev hk : PySem.W.Hook := He.hookX 3 faL fnL [] tfL exB
def ob (s : PySem.W.SharedT) : He.AlX := He.obsX 3 faL fnL [] tfL exB (HandSHeadRun.getT s)
theorem ob_eq (s : PySem.W.SharedT) : ob s = hk.obs s.abs := He.obsX_eq (HandSHeadRun.getT_eq s)
def looseL : List Str := (["__name__", "WordError", "BadProgram", "BadName", "MOST_NUMBER", "MOST_LETTERS", "MOST_PUT", "MOST_LATES", "MOST_FUNCTIONS", "MOST_NODES", "MOST_DEEP", "LETTERS", "SUMS", "is_in", "is_word", "is_kind", "is_expression", "is_test", "is_move", "is_tree", "parts_of", "nodes_of", "leaves_of", "is_function", "is_program", "need_program", "trees", "need_name", "functions", "node_count"] : List Str) ++ (["goes", "_law_taken", "_law_pick", "_law_alike", "_law_worth", "_law_move", "_law_tree", "_law_program", "_law_parts", "_law_nodes", "_law_leaves", "_law_function", "_law_value", "_law_moved", "_law_is_so", "_law_left", "_law_goes", "_law_behind", "_law_met", "_law_is_int", "_law_is_word", "_law_is_worth", "_law_is_tree", "_law_is_program", "_law_bent"] : List Str)
theorem run (w : World) : HandSHeadRun.RunEq RR (PySem.W.view RR.prog [57]) hk ob 4000 looseL w := by
  intro os
  kernel_rfl
theorem tabB_of {base : Heap} {mg : Str → Option Value} {c P : Addr} (h : LamX.TabB base mg c P) : GxR.TabB base mg c P := ⟨h.code, h.bm, h.gP⟩
theorem trip_nil : TriplesOk (#[] : Array Value).toList := by trivial
theorem fd_of {K : PySem.W.Frag} {x : Str} {i : Nat} {fd : FuncData} (F : FunD K x x (defArgs (top i)) (defBody (top i)) (defScope (top i)) [] [] (He.fAd K (x, none)) fd) : fdOf K x = fd := by
  obtain ⟨oc, od, dV, kV, doc, pm, an, cdv, ct, osl, e1, lk, hcd, hd, _⟩ := F.ex
  unfold fdOf
  have lk2 : K.lookup (fA K x) = some ⟨oc, od, .func fd, osl⟩ := lk
  rw [lk2]
theorem fnT_of {K : PySem.W.Frag} {x : Str} {i : Nat} (h : ∃ fd, FunD K x x (defArgs (top i)) (defBody (top i)) (defScope (top i)) [] [] (He.fAd K (x, none)) fd) : Fn K x i := by
  obtain ⟨fd, F⟩ := h
  obtain ⟨oc, od, dV, kV, doc, pm, an, cdv, ct, osl, e1, lk, hcd, hd, _⟩ := F.ex
  obtain ⟨c, rfl⟩ := He.codeIn_ref hcd
  have ed : dV = .none := by
    rcases hd with ⟨_, e⟩ | ⟨n, _⟩
    · exact e
    · exact (n rfl).elim
  subst ed
  have e3 : fdOf K x = fd := by
    unfold fdOf
    have lk2 : K.lookup (fA K x) = some ⟨oc, od, .func fd, osl⟩ := lk
    rw [lk2]
  have e4 : cdOf K x = c := He.codeOf_eq (p := (x, none)) lk (by rw [e1])
  refine ⟨⟨oc, od, kV, doc, pm, an, ct, osl, ?_, ?_, ?_⟩, F.kp⟩
  · rw [e3, e4]
    exact e1
  · rw [e3]
    exact lk
  · rw [e4]
    exact hcd
theorem tx_of {w : World} {K : PySem.W.Frag} {h base : Heap} {mg : Str → Option Value} (X : K.In h) (G : h.Ns mainGlobals mg) (c : He.SaysX faL fnL [] tfL exB w h K) (tb : ∀ p ∈ tfL, GxR.TabB base mg (He.cT K p).1 (He.cT K p).2) : Tx K mg base where
  z_isinstance := He.free_ok X G (c.t.d.fact 35 (f := .free "isinstance") rfl)
  z_len := He.free_ok X G (c.t.d.fact 36 (f := .free "len") rfl)
  z_all := He.free_ok X G (c.t.d.fact 37 (f := .free "all") rfl)
  z_any := He.free_ok X G (c.t.d.fact 38 (f := .free "any") rfl)
  z_sum := He.free_ok X G (c.t.d.fact 39 (f := .free "sum") rfl)
  z_tuple := He.free_ok X G (c.t.d.fact 40 (f := .free "tuple") rfl)
  z_list := He.free_ok X G (c.t.d.fact 41 (f := .free "list") rfl)
  z_int := He.free_ok X G (c.t.d.fact 42 (f := .free "int") rfl)
  z_str := He.free_ok X G (c.t.d.fact 43 (f := .free "str") rfl)
  z_bool := He.free_ok X G (c.t.d.fact 44 (f := .free "bool") rfl)
  z_range := He.free_ok X G (c.t.d.fact 45 (f := .free "range") rfl)
  i_MOST_NUMBER := He.int_ok X G (c.t.d.fact 46 (f := .int "MOST_NUMBER" 1000000) rfl)
  i_MOST_LETTERS := He.int_ok X G (c.t.d.fact 47 (f := .int "MOST_LETTERS" 8) rfl)
  i_MOST_PUT := He.int_ok X G (c.t.d.fact 48 (f := .int "MOST_PUT" 12) rfl)
  i_MOST_LATES := He.int_ok X G (c.t.d.fact 49 (f := .int "MOST_LATES" 4) rfl)
  i_MOST_FUNCTIONS := He.int_ok X G (c.t.d.fact 50 (f := .int "MOST_FUNCTIONS" 8) rfl)
  i_MOST_NODES := He.int_ok X G (c.t.d.fact 51 (f := .int "MOST_NODES" 400) rfl)
  i_MOST_DEEP := He.int_ok X G (c.t.d.fact 52 (f := .int "MOST_DEEP" 30) rfl)
  s_LETTERS := He.str_ok X G (c.t.d.fact 53 (f := .str "LETTERS" "abcdefghijklmnopqrstuvwxyz") rfl)
  g_SUMS := He.glo_ok X G (c.t.d.fact 54 (f := .glo "SUMS") rfl)
  l_SUMS := fun H => He.lstB_ok (vs := [.str "plus", .str "minus", .str "times"]) c.more H
  g_is_in := He.glo_ok X G (c.t.d.fact 0 (f := .glo "is_in") rfl)
  f_is_in := fnT_of (c.t.d.def_ 0 (d := mkD "is_in" 14) rfl)
  g_is_word := He.glo_ok X G (c.t.d.fact 1 (f := .glo "is_word") rfl)
  f_is_word := fnT_of (c.t.d.def_ 1 (d := mkD "is_word" 15) rfl)
  g_is_kind := He.glo_ok X G (c.t.d.fact 2 (f := .glo "is_kind") rfl)
  f_is_kind := fnT_of (c.t.d.def_ 2 (d := mkD "is_kind" 16) rfl)
  g_is_expression := He.glo_ok X G (c.t.d.fact 3 (f := .glo "is_expression") rfl)
  f_is_expression := fnT_of (c.t.d.def_ 3 (d := mkD "is_expression" 17) rfl)
  g_is_test := He.glo_ok X G (c.t.d.fact 4 (f := .glo "is_test") rfl)
  f_is_test := fnT_of (c.t.d.def_ 4 (d := mkD "is_test" 18) rfl)
  g_is_move := He.glo_ok X G (c.t.d.fact 5 (f := .glo "is_move") rfl)
  f_is_move := fnT_of (c.t.d.def_ 5 (d := mkD "is_move" 19) rfl)
  g_is_tree := He.glo_ok X G (c.t.d.fact 6 (f := .glo "is_tree") rfl)
  f_is_tree := fnT_of (c.t.d.def_ 6 (d := mkD "is_tree" 20) rfl)
  g_parts_of := He.glo_ok X G (c.t.d.fact 7 (f := .glo "parts_of") rfl)
  f_parts_of := fnT_of (c.t.d.def_ 7 (d := mkD "parts_of" 21) rfl)
  g_nodes_of := He.glo_ok X G (c.t.d.fact 8 (f := .glo "nodes_of") rfl)
  f_nodes_of := fnT_of (c.t.d.def_ 8 (d := mkD "nodes_of" 22) rfl)
  g_leaves_of := He.glo_ok X G (c.t.d.fact 9 (f := .glo "leaves_of") rfl)
  f_leaves_of := fnT_of (c.t.d.def_ 9 (d := mkD "leaves_of" 23) rfl)
  g_is_function := He.glo_ok X G (c.t.d.fact 10 (f := .glo "is_function") rfl)
  f_is_function := fnT_of (c.t.d.def_ 10 (d := mkD "is_function" 24) rfl)
  g_is_program := He.glo_ok X G (c.t.d.fact 11 (f := .glo "is_program") rfl)
  f_is_program := fnT_of (c.t.d.def_ 11 (d := mkD "is_program" 25) rfl)
  g_need_program := He.glo_ok X G (c.t.d.fact 12 (f := .glo "need_program") rfl)
  f_need_program := fnT_of (c.t.d.def_ 12 (d := mkD "need_program" 26) rfl)
  g_trees := He.glo_ok X G (c.t.d.fact 13 (f := .glo "trees") rfl)
  f_trees := fnT_of (c.t.d.def_ 13 (d := mkD "trees" 27) rfl)
  g_need_name := He.glo_ok X G (c.t.d.fact 14 (f := .glo "need_name") rfl)
  f_need_name := fnT_of (c.t.d.def_ 14 (d := mkD "need_name" 28) rfl)
  g_functions := He.glo_ok X G (c.t.d.fact 15 (f := .glo "functions") rfl)
  f_functions := fnT_of (c.t.d.def_ 15 (d := mkD "functions" 29) rfl)
  g_node_count := He.glo_ok X G (c.t.d.fact 16 (f := .glo "node_count") rfl)
  f_node_count := fnT_of (c.t.d.def_ 16 (d := mkD "node_count" 30) rfl)
  g_goes := He.glo_ok X G (c.t.d.fact 17 (f := .glo "goes") rfl)
  f_goes := fnT_of (c.t.d.def_ 17 (d := mkD "goes" 31) rfl)
  g_law_taken := He.glo_ok X G (c.t.d.fact 18 (f := .glo "_law_taken") rfl)
  f_law_taken := fnT_of (c.t.d.def_ 18 (d := mkD "_law_taken" 33) rfl)
  g_law_pick := He.glo_ok X G (c.t.d.fact 19 (f := .glo "_law_pick") rfl)
  f_law_pick := fnT_of (c.t.d.def_ 19 (d := mkD "_law_pick" 34) rfl)
  g_law_alike := He.glo_ok X G (c.t.d.fact 20 (f := .glo "_law_alike") rfl)
  f_law_alike := fnT_of (c.t.d.def_ 20 (d := mkD "_law_alike" 35) rfl)
  g_law_worth := He.glo_ok X G (c.t.d.fact 21 (f := .glo "_law_worth") rfl)
  f_law_worth := fnT_of (c.t.d.def_ 21 (d := mkD "_law_worth" 36) rfl)
  g_law_move := He.glo_ok X G (c.t.d.fact 22 (f := .glo "_law_move") rfl)
  f_law_move := fnT_of (c.t.d.def_ 22 (d := mkD "_law_move" 37) rfl)
  g_law_tree := He.glo_ok X G (c.t.d.fact 23 (f := .glo "_law_tree") rfl)
  f_law_tree := fnT_of (c.t.d.def_ 23 (d := mkD "_law_tree" 38) rfl)
  g_law_program := He.glo_ok X G (c.t.d.fact 24 (f := .glo "_law_program") rfl)
  f_law_program := fnT_of (c.t.d.def_ 24 (d := mkD "_law_program" 39) rfl)
  g_law_parts := He.glo_ok X G (c.t.d.fact 25 (f := .glo "_law_parts") rfl)
  f_law_parts := fnT_of (c.t.d.def_ 25 (d := mkD "_law_parts" 40) rfl)
  g_law_nodes := He.glo_ok X G (c.t.d.fact 26 (f := .glo "_law_nodes") rfl)
  f_law_nodes := fnT_of (c.t.d.def_ 26 (d := mkD "_law_nodes" 41) rfl)
  g_law_leaves := He.glo_ok X G (c.t.d.fact 27 (f := .glo "_law_leaves") rfl)
  f_law_leaves := fnT_of (c.t.d.def_ 27 (d := mkD "_law_leaves" 42) rfl)
  g_law_is_int := He.glo_ok X G (c.t.d.fact 28 (f := .glo "_law_is_int") rfl)
  f_law_is_int := fnT_of (c.t.d.def_ 28 (d := mkD "_law_is_int" 51) rfl)
  g_law_is_word := He.glo_ok X G (c.t.d.fact 29 (f := .glo "_law_is_word") rfl)
  f_law_is_word := fnT_of (c.t.d.def_ 29 (d := mkD "_law_is_word" 52) rfl)
  g_law_is_worth := He.glo_ok X G (c.t.d.fact 30 (f := .glo "_law_is_worth") rfl)
  f_law_is_worth := fnT_of (c.t.d.def_ 30 (d := mkD "_law_is_worth" 53) rfl)
  g_law_is_tree := He.glo_ok X G (c.t.d.fact 31 (f := .glo "_law_is_tree") rfl)
  f_law_is_tree := fnT_of (c.t.d.def_ 31 (d := mkD "_law_is_tree" 54) rfl)
  g_law_is_program := He.glo_ok X G (c.t.d.fact 32 (f := .glo "_law_is_program") rfl)
  f_law_is_program := fnT_of (c.t.d.def_ 32 (d := mkD "_law_is_program" 55) rfl)
  g_law_bent := He.glo_ok X G (c.t.d.fact 33 (f := .glo "_law_bent") rfl)
  f_law_bent := fnT_of (c.t.d.def_ 33 (d := mkD "_law_bent" 56) rfl)
  t_is_word := tb ("is_word", none) (List.mem_of_getElem? (i := 0) rfl)
  t_is_expression := tb ("is_expression", none) (List.mem_of_getElem? (i := 1) rfl)
  t_is_test := tb ("is_test", none) (List.mem_of_getElem? (i := 2) rfl)
  t_is_tree := tb ("is_tree", none) (List.mem_of_getElem? (i := 3) rfl)
  t_nodes_of := tb ("nodes_of", none) (List.mem_of_getElem? (i := 4) rfl)
  t_is_program := tb ("is_program", none) (List.mem_of_getElem? (i := 5) rfl)
  t_node_count := tb ("node_count", none) (List.mem_of_getElem? (i := 6) rfl)
end KX
open PySem PySem.W PySem.Calls PyProof.Rows
theorem PySem.Challenge.cw_textstaged_k00_whole_programs_holds : PySem.Challenge.rw_textstaged_k00_whole_programs.Holds := by
  w_on; o_law
  refine HandSHeadRun.head_any (r := OpenLaw.row PySem.Challenge.rw_textstaged_k00_whole_programs) (q := view (OpenLaw.row PySem.Challenge.rw_textstaged_k00_whole_programs).prog [57]) (H := KX.hk) (ob := KX.ob) (M := 4000) (loose := KX.looseL) (d := HandSHeadRun.topDef (OpenLaw.row PySem.Challenge.rw_textstaged_k00_whole_programs).prog 57) (kwd := []) KX.ob_eq
    (by kernel_rfl) (fun s => by kernel_rfl) KX.run (by kernel_rfl) (by kernel_rfl) (by kernel_rfl) (by rfl) (by first | assumption | decide +kernel) (by decide +kernel) ⟨rfl, rfl, rfl, rfl, rfl, by decide +kernel⟩ ?hw ?hc
  case hw => w_witness2
  case hc =>
    refine LamX.walk_ofTsE (l := PySem.Challenge.rw_textstaged_k00_whole_programs) (n := 63) (k := 74) (x := "_law_script") (CX := fun _ => L2.CX0) rfl (by decide) (by kernel_rfl) ⟨rfl, by decide, by decide⟩ ?F (fun _ _ _ _ _ z => z)
    intro w mg fa h Y G hmg0
    obtain ⟨K, KIn, c⟩ := Y
    have hmg : mg ("law" : PySem.Str) = some (.ref fa) := by
      have e : (HandSHeadRun.topDef (OpenLaw.row PySem.Challenge.rw_textstaged_k00_whole_programs).prog 57).name = ("law" : PySem.Str) := by kernel_rfl
      rw [← e]
      exact hmg0
    have FL : KX.Fn K "law" 57 := KX.fnT_of (c.t.d.def_ 34 (d := KX.mkD "law" 57) rfl)
    have e := hmg.symm.trans (He.glo_ok KIn G (c.t.d.fact 34 (f := .glo "law") rfl))
    cases e
    refine ⟨K, KIn, KX.fdOf K "law", KX.tfL.map (He.cT K), KX.spLaw K, ?_, ?_, ?_, ?_, ?_, ?_⟩
    · intro p hp
      obtain ⟨d, hd, rfl⟩ := List.mem_map.mp hp
      exact c.empty d hd
    · intro p hp
      obtain ⟨d, hd, rfl⟩ := List.mem_map.mp hp
      exact c.out d hd
    · intro p hp
      obtain ⟨d, hd, rfl⟩ := List.mem_map.mp hp
      exact codeHd_of_K KIn (c.hd d hd)
    · intro s u
      obtain ⟨fd, F⟩ := c.t.d.def_ 34 (d := KX.mkD "law" 57) rfl
      rw [show KX.fdOf K "law" = fd from KX.fd_of (i := 57) F]
      exact L2.FunD.bindsA (ps := ["_law_script"]) F (fun _ _ _ _ _ _ us hl => match us, hl with | [_], _ => rfl) s [u] rfl
    · intro H a ns hl hb ht hS
      refine ⟨a, ns, rfl, hS, fun P hP => ?_, fun _ => rfl⟩
      have hP2 : P ∈ (KX.tfL.map (He.cT K)).map (·.2) := hP
      obtain ⟨p, hp, rfl⟩ := List.mem_map.mp hP2
      exact ⟨#[], ht p hp, KX.trip_nil⟩
    · intro base hK hG hT
      exact KX.okl_law (KX.tx_of KIn G c fun p hp => KX.tabB_of (hT _ (List.mem_map_of_mem hp))) FL

