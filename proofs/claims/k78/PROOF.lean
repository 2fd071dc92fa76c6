import PyProof.Rows.All
import Wide.All
import OpenK.AllK
import Wide.FinOn
import HandS.ForMost
import HandS.AnyAll
import HandS.JoinGen
import HandS.GenOver
import PyProof.TupleOfGen
import PyProof.JoinWalk
import KE.SortData
import PyProof.SumWalk
import HandS.Iter
import HandS.Zip
import KE.GoesMore
import HandS.TupSets
import HandS.SetFor
import HandS.SetKeys
import HandS.Strs
import HandS.More
import HandS.List
import HandS.TupAny
import HandS.TupMul
import KE.DataEq
import HandS.Wide
import HandS.IsInst
import HandS.Style
import KE.KDictPairs
import HandS.Flow
import HandS.DictTup
import HandS.Conv
import HandS.Comp
import HandS.NoneIn
import HandS.WideMore
import HandS.EndTab
import KE.KNest
import PySem.Challenge.RW_sensehouse_k78_the_nearest_way
set_option Elab.async false
set_option linter.all false
set_option maxRecDepth 100000
set_option maxHeartbeats 0
/-! GE1: a generator expression's frame: its context, its start, its run. -/
namespace CL
open PySem PySem.Spec PyProof.Rows L2
section
variable {X : Cx} {pins : List (Addr × Obj)} {σ : L2.St} {H : Hp} {s : Shared}
theorem inv_gens (I : Inv X pins σ H s) {g' : Array GenState} (hg : AllBare g') : Inv X pins σ H { s with gens := g' } :=
  I.call' (ch := []) rfl Un.refl I.hok hg (fun b hb => nomatch hb)
/-- seen from the frames below -/
theorem inv_down (I : Inv X pins σ H s) {A : Around} (hf : A.frames = some X.outer) (hh : A.handled = none) : Inv { X with A := A, stack := X.outer } pins σ H s :=
  ⟨⟨I.ok.mod, I.ok.kind, I.ok.glob, I.ok.blt, I.ok.above, I.ok.inj, I.ok.has, I.ok.cab, fun _ => hh, hf, .inl rfl, I.ok.exf, I.ok.bs, I.ok.bsz, I.ok.noex, I.ok.exfs, I.ok.funs, I.ok.frf⟩, I.os, I.bare, I.base, I.loc, I.cell, I.free, I.freeC, I.pin, I.hok, I.len⟩

abbrev gEnv (X : Cx) (scope : Scope) (C : Addr) (code : Value) : Env := genEnv scope (cloFrom X.env.cells scope.names []) C code builtinsNs X.env
/-- the generator's own context: A the around in which it is woken; s, H: ahead of its frame; po: its object -/
abbrev genX (X : Cx) (A : Around) (s : Shared) (H : Hp) (scope : Scope) (code : Value) (fp : List Addr) (po : Addr × Obj) : Cx :=
  { X with A := A.deeper (gEnv X scope s.heap.objs.size code), s_0 := s, H_0 := H, env := gEnv X scope s.heap.objs.size code, outer := X.stack, stack := gEnv X scope s.heap.objs.size code :: X.stack, ex := fp, fn := fun _ => false, calm := true, pn := [po], xe := fun _ _ => False }
theorem gen_start {scope : Scope} {own : List (Str × Nat)} {fp : List Addr} {A : Around} {code : Value} {po : Addr × Obj} {h' : Heap} {mm : Str → Option Value} {g' : Array GenState} {t' : Nat}
    (I : Inv X pins σ H s) (ok : BlkOk X.N X.env.scope scope own) (nc : ∀ y ∈ scope.names, y.2 ≠ .cell) (hN : X.N.Nodup) (hfp : ∀ b ∈ fp, FpOk X pins H b ∧ b < s.heap.objs.size)
    (hA : A.frames = some X.stack) (hh : A.handled = none) (hn : h'.Ns s.heap.objs.size mm) (kp : ∀ b o, s.heap.get? b = some o → h'.get? b = some o) (hp0 : h'.get? po.1 = some po.2) (hp1 : s.heap.objs.size < po.1) (hp2 : ∀ v, po.2.data ≠ .cell v) (hg : AllBare g') :
    Inv (genX X A s H scope code fp po) [] (L2.wipe σ (own.map (·.2))) H { s with heap := h', gens := g', toks := t' } := by
  have hfree : ∀ y ∈ scope.names, y.2 = .free → ∃ c, X.env.cells.lookup y.1 = some c := fun y hy e => by
    rcases ok.free y hy e with k | k
    · exact I.ok.has _ (.inl k)
    · exact I.ok.has _ (.inr k)
  have cm : ∀ {y c}, (y, c) ∈ cloFrom X.env.cells scope.names [] → X.env.cells.lookup y = some c ∧ c < s.heap.objs.size := fun {y c} hm => by
    rcases cloFrom_mem hm with hm | ⟨h1, rfl⟩
    · cases hm
    · obtain ⟨c, hc⟩ := hfree _ h1 rfl
      rw [hc]
      obtain ⟨w, z⟩ := I.cell _ _ hc
      exact ⟨rfl, z.lt⟩
  have mem : ∀ {y c}, (cloFrom X.env.cells scope.names []).lookup y = some c → X.env.cells.lookup y = some c ∧ c < s.heap.objs.size := fun {y c} e => cm (PySem.mem_of_lookup e)
  have look : ∀ {y}, scope.names.lookup y = some .free → ∃ c, (cloFrom X.env.cells scope.names []).lookup y = some c ∧ X.env.cells.lookup y = some c := fun {y} hl => by
    obtain ⟨c', e'⟩ := mem_lookup (cloFrom_has (cells := X.env.cells) (acc := []) (PySem.mem_of_lookup hl))
    exact ⟨c', e', (mem e').1⟩
  have okB : (genX X A s H scope code fp po).Ok := by
    refine ⟨I.ok.mod, ok.kind, I.ok.glob, rfl, Nat.le_refl _, fun y z c e1 e2 => I.ok.inj y z c (mem e1).1 (mem e2).1, fun y hy => ?_, fun y c z => absurd z (by simp), fun _ => hh, Around.frames_deeper hA, .inr ⟨rfl, rfl⟩, fun b hb => ⟨Nat.ne_of_lt (hfp b hb).2, fun y c e z => (hfp b hb).1.2.2.2.2.1 y c (mem e).1 z⟩,
      I.bs, Nat.le_trans I.ok.bsz I.sz, fun b o e hb => ?_, fun b hb z => ?_, I.stack, I.stkFree⟩
    · rcases hy with hy | hy
      · exact absurd rfl (nc _ (PySem.mem_of_lookup hy))
      · obtain ⟨c, h1, _⟩ := look hy
        exact ⟨c, h1⟩
    · rcases (hfp b hb).1.2.2.2.1 with z | z
      · exact I.ok.noex b o e z
      · exact absurd (Nat.lt_of_lt_of_le (Heap.lt_size e) (Nat.le_trans I.ok.bsz z)) (Nat.lt_irrefl _)
    · rcases List.mem_cons.mp (I.stkSub b z) with z | z
      · exact (hfp b hb).1.2.1 z
      · exact (hfp b hb).1.2.2.1 z
  refine ⟨okB, rfl, hg, Un.kept kp, ⟨mm, hn, fun i y av e1 e2 e3 => ?_⟩, fun y c e => ?_, I.hok.fresh (Nat.le_refl _), fun y c e => I.freeC y c (mem e).1, fun p hp => ?_, I.hok.kept kp, by rw [L2.wipe_length]; exact I.len⟩
  · obtain ⟨e2, hne⟩ := L2.wipe_some e2
    have no : ∀ k, (y, k) ∈ scope.names → ¬ (k = .local ∨ k = .cell) := fun k hk hh => by
      rcases ok.own _ hk hh with e' | e'
      · obtain ⟨p, hp, hpy⟩ := List.mem_map.mp e'
        have e3 := ok.ix p hp
        have : p.1 = y := hpy
        rw [this] at e3
        exact hne (List.mem_map.mpr ⟨p, hp, nodup_ix hN e3 e1⟩)
      · exact e' (List.mem_of_getElem? e1)
    have hfr : scope.names.lookup y = some .free := by
      rcases e3 with e3 | e3 | e3
      · exact absurd (.inl rfl) (no _ (PySem.mem_of_lookup e3))
      · exact absurd (.inr rfl) (no _ (PySem.mem_of_lookup e3))
      · exact e3
    obtain ⟨m, _, hl⟩ := I.loc
    have hvis : Vis X.env.scope y := (ok.free _ (PySem.mem_of_lookup hfr) rfl).elim (fun k => .inr (.inl k)) (fun k => .inr (.inr k))
    obtain ⟨w, r, q⟩ := hl i y av e1 e2 hvis
    refine ⟨w, r, .inr ⟨.inr hfr, ?_⟩⟩
    obtain ⟨c, h1, h2⟩ := look hfr
    rcases q with ⟨k, _⟩ | ⟨_, c', e', z⟩
    · have k : X.env.scope.names.lookup y = some .local := k
      rcases ok.free _ (PySem.mem_of_lookup hfr) rfl with k' | k' <;> rw [show X.env.scope.names.lookup y = _ from k'] at k <;> cases k
    · rw [h2] at e'; cases e'
      exact ⟨c, h1, z.keeps kp⟩
  · obtain ⟨h1, _⟩ := mem e
    obtain ⟨w, z⟩ := I.cell y c h1
    exact ⟨w, z.keeps kp⟩
  · have e : p = po := by simpa using hp
    subst e
    exact ⟨hp0, I.hok.fresh (Nat.le_of_lt hp1), Nat.ne_of_gt hp1, fun z => by
      rcases List.mem_cons.mp (I.stkSub p.1 z) with z | z
      · rw [z] at hp1; exact absurd (Nat.lt_trans hp1 I.lt) (Nat.lt_irrefl _)
      · exact I.nofs (Nat.le_of_lt hp1) z, hp2⟩
end

/-! ### the run -/
section
variable {X : Cx} {A : Around} {α : Type}
/-- what a consumer waits for: ended -/
def Rg (X : Cx) (σ : L2.St) (pa : List Addr) (tag : Heap → α → Prop) (Fin : α → Hp → Prop) : Nat → Shared → Shared → Prop := fun _ s₀ s₁ => ∃ a H, tag s₀.heap a ∧ Inv X (pinsAt pa s₀.heap) σ H s₁ ∧ Fin a H
/-- .. or handed out -/
def Yg (X : Cx) (σ : L2.St) (pa fp : List Addr) (tn : Nat → Heap → Prop) (tag : Heap → α → Prop) (Yd : α → V → Hp → (α → Hp → Prop) → Prop) : Protocol := fun _ s₀ v s₁ kap =>
  ∃ (a : α) (y : V) (H : Hp) (Nx : α → Hp → Prop) (i : Nat), tag s₀.heap a ∧ RelV y v ∧ Inv X (pinsAt pa s₀.heap) σ H s₁ ∧ tn i s₁.heap ∧ (∀ b ∈ fp, H b = none) ∧ Yd a y H Nx ∧
    ∀ a' H' s₂, Nx a' H' → tag s₂.heap a' → Inv X (pinsAt pa s₂.heap) σ H' s₂ → tn i s₂.heap → (∀ b ∈ fp, H' b = none) → kap (.send .none) s₂
/-- the turns -/
def GTurn (J : It) (g : TG) (tt : TT) (te : TE) (vs : List Nat) (σ : L2.St) (Yd : α → V → Hp → (α → Hp → Prop) → Prop) (Fin : α → Hp → Prop) (W : Nat → Nat → α → Hp → Prop) : Prop := ∀ i m a H, W i m a H →
  (J.stop i H ∧ Fin a H) ∨ (J.go i H ∧ ∃ Nx : α → Hp → Prop, (∀ a' H', Nx a' H' → ∃ m', m' < m ∧ W (i + 1) m' a' H') ∧ ∀ x H', J.yld i H x H' → g x σ H' fun σ2 H2 => L2.wipe σ2 vs = σ ∧ tt σ2 H2 fun b H3 =>
    if b = true then te σ2 H3 fun y H4 => Yd a y H4 Nx else Nx a H3)
theorem over_comp {elt : Expr} {gens : List Comprehension} {scope : Scope} {pos : Pos} {it acc : Value} {env : Env} : A.over (.compLoop (.GeneratorExp elt gens scope pos) 0 it acc env) [] = A.deeper env := by
  first
    | rfl
    | (obtain ⟨hd, d, fr, gs, u⟩ := A; simp [Around.over, Around.deeper, marksOver, frameCount, unitsOf, envsOf, guardsOf, pushEnvs, pushGuards, Code.envs, Code.env?, Code.isFrame, Code.guards, Code.isGuard, Code.weight, Code.frames, Code.isCreation, Code.isCaller, Code.cUnits])
theorem over_compS {elt : Expr} {gens : List Comprehension} {scope : Scope} {pos : Pos} {it acc : Value} {env : Env} : A.over (.compStart (.GeneratorExp elt gens scope pos) 0 it acc env) [] = A.deeper env := by
  first
    | rfl
    | (obtain ⟨hd, d, fr, gs, u⟩ := A; simp [Around.over, Around.deeper, marksOver, frameCount, unitsOf, envsOf, guardsOf, pushEnvs, pushGuards, Code.envs, Code.env?, Code.isFrame, Code.guards, Code.isGuard, Code.weight, Code.frames, Code.isCreation, Code.isCaller, Code.cUnits])
theorem seg_gen {elt tg iter : Expr} {ifs : List Expr} {scope : Scope} {pos : Pos} {it : Addr} {fp pa vsA : List Addr} {vs : List Nat} {tn : Nat → Heap → Prop} {J : It} {g : TG} {tt : TT} {te : TE} {σ : L2.St} {tag : Heap → α → Prop}
    {Yd : α → V → Hp → (α → Hp → Prop) → Prop} {Fin : α → Hp → Prop} {W : Nat → Nat → α → Hp → Prop} (hX : X.A = A.deeper X.env) (hc : X.calm = true) (hxe : X.xe = fun _ _ => False) (hco : X.env.scope.isCoroutine = false) (T : Turn X.prog X.w X.K tg J fp it tn)
    (hg : PG X tg g) (ht : PTs X ifs tt) (he : PE X elt te) (hpf : ∀ b ∈ fp, b ∈ X.ex ∧ (∀ p ∈ X.pn, p.1 ≠ b) ∧ b ∉ pa) (hl : σ.length = X.N.length) (turn : GTurn J g tt te vs σ Yd Fin W) :
    ∀ (m n i : Nat) (a : α) (s₀ s : Shared) (H : Hp), m < n → tag s₀.heap a → Inv X (pinsAt pa s₀.heap) σ H s → tn i s.heap → (∀ b ∈ fp, H b = none) → W i m a H →
      Seg (model X.prog X.w) A (fun n s₀ r s₁ => r = .ok .next ∧ Rg X σ pa tag Fin n s₀ s₁) (Yg X σ pa fp tn tag Yd) n s₀ (.compLoop (.GeneratorExp elt [⟨tg, iter, ifs, 0⟩] scope pos) 0 (.ref it) .none X.env)
        ((model X.prog X.w).den (.compLoop (.GeneratorExp elt [⟨tg, iter, ifs, 0⟩] scope pos) 0 (.ref it) .none X.env)) [] s := by
  have hA : A.over (.compLoop (.GeneratorExp elt [⟨tg, iter, ifs, 0⟩] scope pos) 0 (.ref it) .none X.env) [] = X.A := by rw [hX]; exact over_comp
  have stat : ∀ {σ' : L2.St} {H' : Hp} {s₀ s' : Shared}, Inv X (pinsAt pa s₀.heap) σ' H' s' → (∀ b ∈ fp, H' b = none) → ∀ b ∈ fp, FpOk X (pinsAt pa s₀.heap) H' b := fun {σ' H' s₀ s'} I' hn b hb =>
    ⟨hn b hb, (I'.ok.exf b (hpf b hb).1).1, I'.ok.exfs b (hpf b hb).1, .inl (hpf b hb).1, fun x c e => (I'.ok.exf b (hpf b hb).1).2 x c e, fun p hp z => by
      rcases List.mem_append.mp hp with hp | hp
      · exact (hpf b hb).2.1 p hp z
      · exact (hpf b hb).2.2 (z ▸ (of_pinsAt hp).1)⟩
  intro m
  induction m using Nat.strongRecOn with
  | ind m ih =>
    intro n i a s₀ s H hmn htag I st nf w
    show Seg _ A _ _ n s₀ _ ((compTurn (.GeneratorExp elt [⟨tg, iter, ifs, 0⟩] scope pos) 0 (.ref it) .none X.env).onRaise (leaving X.env)) [] s
    rw [compTurn_gen, Sem.onRaise_eq_wrap]
    refine seg_bind_wrap (wpAny_standAt ?_)
    rcases turn i m a H w with ⟨stop, fin⟩ | ⟨go, Nx, hNx, step⟩
    · refine seg_bind_wrap ?_
      rw [hA]
      refine thn (T.done X rfl rfl rfl hc i _ s σ H _ I (stat I nf) st stop) fun r s1 ⟨hr, I1⟩ => ?_
      subst hr
      exact seg_end (.ok .next) ⟨rfl, a, H, htag, I1, fin⟩
    · refine seg_bind_wrap ?_
      rw [hA]
      refine thn (T.item X rfl rfl rfl hc i _ s σ H _ I (stat I nf) st go) fun r s1 ⟨u, hr, h6⟩ => ?_
      subst hr
      refine seg_bind_wrap ?_
      rw [hA]
      refine thn h6 fun _ s7 ⟨x, H7, I7, r7, y7, st7, n7⟩ => ?_
      have I7' := I7.pinned (stat I7 n7) (T.obj _ _ st7)
      refine seg_bind_wrap ?_
      rw [hA]
      have pgr := hg.run _ s7 _ H7 x u _ I7' r7 (step x H7 y7)
      rw [hxe] at pgr
      refine thnF pgr fun _ s8 ⟨σ8, H8, I8, hw8, q8⟩ => ?_
      refine seg_bind_wrap ?_
      rw [hA]
      have ptr := ht.run _ s8 σ8 H8 _ I8 q8
      rw [hxe] at ptr
      refine thnF ptr fun b s9 ⟨H9, I9, q9⟩ => ?_
      have back : ∀ {s' : Shared} {H' : Hp}, Inv X (pinsAt pa s₀.heap ++ pinsAt fp s7.heap) σ8 H' s' → Inv X (pinsAt pa s₀.heap) σ H' s' ∧ tn (i + 1) s'.heap ∧ (∀ b ∈ fp, H' b = none) := fun {s' H'} I' => by
        have pin' : ∀ b ∈ fp, ∀ o, s7.heap.get? b = some o → s'.heap.get? b = some o ∧ H' b = none := fun b hb o e =>
          let z := I'.pin (b, o) (List.mem_append_right _ (List.mem_append_right _ (mem_pinsAt hb e)))
          ⟨z.1, z.2.1⟩
        refine ⟨(I'.unpinned (pins := pinsAt pa s₀.heap)).weak (by rw [← hw8, L2.wipe_length]) (fun j v e => ?_), T.keep _ _ _ st7 fun b hb o e => (pin' b hb o e).1, fun b hb => ?_⟩
        · rw [← hw8] at e
          exact (L2.wipe_some e).1
        · obtain ⟨o, e, _⟩ := T.obj _ _ st7 b hb
          exact (pin' b hb o e).2
      cases b with
      | false =>
        simp only [Bool.false_eq_true, if_false] at q9 ⊢
        obtain ⟨m', hm', w'⟩ := hNx a H9 q9
        obtain ⟨J1, J2, J3⟩ := back I9
        exact seg_again rfl (ih m' hm' n (i + 1) a s₀ s9 H9 (by omega) htag J1 J2 J3 w')
      | true =>
        simp only [if_true] at q9 ⊢
        have hy : ∀ v, yieldOut X.env v = yieldValue v := fun v => by simp only [yieldOut, hco, Bool.false_eq_true, if_false]
        simp only [hy]
        rw [Sem.bind_eq_wrap', Sem.bind_eq_wrap', Sem.wrap_wrap, Sem.wrap_wrap]
        refine seg_wrap ?_
        rw [hA]
        have per := he.run _ s9 σ8 H9 _ I9 q9
        rw [hxe] at per
        refine thnF per fun z s10 ⟨yv, H10, I10, r10, q10⟩ => ?_
        obtain ⟨J1, J2, J3⟩ := back I10
        obtain ⟨n', rfl⟩ : ∃ n', n = n' + 1 := ⟨n - 1, by omega⟩
        refine seg_at (seg_yield rfl rfl rfl ⟨a, yv, H10, Nx, i + 1, htag, r10, J1, J2, J3, q10, fun a' H' s₂ nx ht' I' st' nf' => ?_⟩)
        obtain ⟨m', hm', w'⟩ := hNx a' H' nx
        exact seg_again rfl (ih m' hm' n' (i + 1) a' s₂ s₂ H' (by omega) ht' I' st' nf' w')
end
end CL

/-! GE2: what asks a generator expression for its items. -/
namespace CL
open PySem PySem.Spec PyProof.Rows L2
section
variable {X : Cx} {A B : Around} {α : Type} {σ : L2.St} {pa fp : List Addr} {tn : Nat → Heap → Prop} {tag : Heap → α → Prop} {Yd : α → V → Hp → (α → Hp → Prop) → Prop} {Fin : α → Hp → Prop}
/-- a value's truth; nothing else is touched -/
theorem truth_of {pins : List (Addr × Obj)} {H : Hp} {s : Shared} {y : V} {u : Value} {k : Bool} {Q : Bool → Shared → Prop} {E : Value → Shared → Prop} (I : Inv X pins σ H s) (r : RelV y u) (hk : TruV X.K y H k) (q : ∀ t, Q k { s with toks := t }) : wpAny (model X.prog X.w) A (truthy u) Q E s := by
  have big : sizeLine = 16777216 := sizeLine_eq
  match y, r, hk with
  | .non, r, hk => cases r; cases hk; exact truthy_none (q s.toks)
  | .bl _, r, hk => cases r; cases hk; exact wpAny_truthy_bool (q s.toks)
  | .int _, r, hk => obtain ⟨t, rfl⟩ := r; cases hk; exact PySem.P.truthy_int (q s.toks)
  | .str _, r, hk => obtain ⟨t, rfl⟩ := r; obtain ⟨hl, rfl⟩ := hk; exact PySem.P.truthy_str (by omega) (q _)
  | .byt _, r, hk => obtain ⟨t, rfl⟩ := r; obtain ⟨hl, rfl⟩ := hk; exact PySem.W.truthy_bytes (by omega) (q _)
  | .ref p, r, hk =>
    cases r
    rcases hk with ⟨xs, hx, rfl⟩ | ⟨xs, hx, rfl⟩ | ⟨kvs, hx, rfl⟩
    · obtain ⟨l, rl, pl, hz⟩ := I.list hx
      have := rl.length
      rw [← isEmpty_of rl] at q
      exact wpAny_truthy_list pl.isList (by simp only [List.size_toArray]; omega) (q _)
    · obtain ⟨l, rl, pl, hz⟩ := I.tuple hx
      have := rl.length
      rw [← isEmpty_of rl] at q
      exact truthy_tuple pl (by simp only [List.size_toArray]; omega) (q _)
    · obtain ⟨hz, hm, l, rl, dl⟩ : kvs.length ≤ sizeLine ∧ (p == sysModules) = false ∧ ∃ l, KV kvs l ∧ s.heap.DictOf (mixKind X.prog X.w) p l := I.hok p _ hx
      have : kvs.length = l.length := Paired.length rl
      rw [← isEmpty_kv rl] at q
      exact wpAny_truthy_dict hm dl (by omega) (q _)
/-- the generator goes on so, if it is waked where Nx holds -/
def Cont (X : Cx) (A : Around) (σ : L2.St) (pa fp : List Addr) (tn : Nat → Heap → Prop) (tag : Heap → α → Prop) (Yd : α → V → Hp → (α → Hp → Prop) → Prop) (Fin : α → Hp → Prop) (n : Nat) (gs : GenState) (i : Nat) (Nx : α → Hp → Prop) : Prop :=
  ∀ a H s, Nx a H → tag s.heap a → Inv X (pinsAt pa s.heap) σ H s → tn i s.heap → (∀ b ∈ fp, H b = none) → match n with
    | 0 => False
    | m + 1 => gs.Goes (model X.prog X.w) A (fun n s₀ r s₁ => r = .ok .next ∧ Rg X σ pa tag Fin n s₀ s₁) (Yg X σ pa fp tn tag Yd) m (.send .none) s
/-- a generator (of the number g) that waits -/
def GAt (X : Cx) (A : Around) (σ : L2.St) (pa fp : List Addr) (tn : Nat → Heap → Prop) (tag : Heap → α → Prop) (Yd : α → V → Hp → (α → Hp → Prop) → Prop) (Fin : α → Hp → Prop) (g : Nat) (n : Nat) (a : α) (s : Shared) : Prop :=
  ∃ gs i Nx H, s.gens[g]? = some gs ∧ Cont X A σ pa fp tn tag Yd Fin n gs i Nx ∧ Nx a H ∧ tag s.heap a ∧ Inv X (pinsAt pa s.heap) σ H s ∧ tn i s.heap ∧ ∀ b ∈ fp, H b = none
theorem seg_genS {elt tg iter : Expr} {ifs : List Expr} {scope : Scope} {pos : Pos} {it : Addr} {vs : List Nat} {J : It} {g : TG} {tt : TT} {te : TE} {W : Nat → Nat → α → Hp → Prop} (hX : X.A = A.deeper X.env) (hc : X.calm = true) (hxe : X.xe = fun _ _ => False) (hco : X.env.scope.isCoroutine = false)
    (T : Turn X.prog X.w X.K tg J fp it tn) (hg : PG X tg g) (ht : PTs X ifs tt) (he : PE X elt te) (hpf : ∀ b ∈ fp, b ∈ X.ex ∧ (∀ p ∈ X.pn, p.1 ≠ b) ∧ b ∉ pa) (hl : σ.length = X.N.length) (turn : GTurn J g tt te vs σ Yd Fin W) (M : Nat) :
    Cont X A σ pa fp tn tag Yd Fin (M + 1) (.fresh (.compStart (.GeneratorExp elt [⟨tg, iter, ifs, 0⟩] scope pos) 0 (.ref it) .none X.env)) 0 (fun a H => ∃ m, m < M ∧ W 0 m a H) := by
  rintro a H s ⟨m, hm, w⟩ htag I st nf
  refine ⟨rfl, ?_⟩
  have loop := seg_gen (A := A) (pos := pos) (scope := scope) (iter := iter) (vsA := []) hX hc hxe hco T hg ht he hpf hl turn m M 0 a s s H hm htag I st nf w
  show Seg _ A _ _ _ s _ ((compStart (.GeneratorExp elt [⟨tg, iter, ifs, 0⟩] scope pos) 0 (.ref it) .none X.env).onRaise (leaving X.env)) [] s
  unfold compStart
  rw [Sem.onRaise_eq_wrap]
  show Seg _ A _ _ _ s _ ((ask >>= _).wrap _ _ _ _) [] s
  refine seg_bind_wrap (wpAny_askSetting ?_)
  split
  · exact seg_again rfl loop
  · first
      | exact seg_bind_wrap (wpAny_rule (seg_bind_wrap (wpAny_standAt (seg_bind_wrap (T.self _ 0 s _ _ st (seg_again rfl loop))))))
      | (refine seg_bind_wrap (wpAny_rule ?_)
         show Seg _ A _ _ _ s _ ((standAt iter.pos >>= _).wrap _ _ _ _) [] s
         exact seg_bind_wrap (wpAny_standAt (seg_bind_wrap (T.self _ 0 s _ _ st (seg_again rfl loop)))))
theorem gens_set {s : Shared} {g : Nat} {gs : GenState} (h : g + 1 ≤ s.gens.size) : (s.setGen g gs).gens[g]? = some gs := by
  simp only [Shared.setGen, Array.getElem?_setIfInBounds, if_true]
  rw [if_pos (by omega)]
theorem bare_set {s : Shared} {g : Nat} {gs : GenState} (h : AllBare s.gens) (hb : gs.bare = true) : AllBare (s.setGen g gs).gens := fun y hy => by
  simp only [Shared.setGen] at hy
  obtain ⟨i, hi, rfl⟩ := Array.mem_iff_getElem.mp hy
  rw [Array.getElem_setIfInBounds]
  · split
    · exact hb
    · exact h _ (Array.getElem_mem (by simpa using hi))
  all_goals simpa using hi
/-- the next item -/
theorem gnext {ga : Addr} {g n : Nat} {a : α} {s : Shared} {Q : Option Value → Shared → Prop} {E : Value → Shared → Prop} (tagF : ∀ h a a', tag h a → tag h a' → a = a') (hA : A = B.in1) (hh : B.handled = none) (hroom : B.depth < recursionLimit) (hga : ∃ po ∈ X.pn, po.1 = ga ∧ ∀ h : Heap, h.get? po.1 = some po.2 → h.IsGen ga g)
    (G : GAt X A σ pa fp tn tag Yd Fin g n a s)
    (hY : ∀ v y H1 s1 Nx1 i1 gs1 n1, n = n1 + 1 → RelV y v → Inv X (pinsAt pa s.heap) σ H1 s1 → (∀ b ∈ fp, H1 b = none) → Yd a y H1 Nx1 → s1.gens[g]? = some gs1 → tn i1 s1.heap → Cont X A σ pa fp tn tag Yd Fin n1 gs1 i1 Nx1 → Q (some v) s1)
    (hD : ∀ H1 s1, Inv X (pinsAt pa s.heap) σ H1 s1 → Fin a H1 → Q none s1) : wpAny (model X.prog X.w) B (pyNext (.ref ga)) Q E s := by
  obtain ⟨gs, i, Nx, H, hgs, C, nx, ht, I, st, nf⟩ := G
  have hlt : g < s.gens.size := (Array.getElem?_eq_some_iff.mp hgs).1
  obtain ⟨po, hpo, rfl, hig⟩ := hga
  have I' : Inv X (pinsAt pa s.heap) σ H (s.setGen g .running) := inv_gens I (bare_set I.bare rfl)
  have go := C a H (s.setGen g .running) nx ht I' st nf
  cases n with
  | zero => exact go.elim
  | succ m =>
    subst hA
    refine GenW.wpAny_gsz (n := g + 1) (by omega) (wpAny_pyNext_genexpQ hh I.nolimit hroom (hig _ (I.pin po (List.mem_append_left _ hpo)).1) hgs go (fun v s₁ gs' hb hv => ?_) (fun s₁ hp h' hk => ?_))
    · obtain ⟨a', y, H1, Nx1, i1, ht', r, I1, st1, nf1, yd, kap⟩ := hv
      obtain rfl := tagF _ _ _ ht ht'
      intro hsz
      have hsz' : g + 1 ≤ s₁.gens.size := by simpa [Shared.setGen] using hsz
      refine hY v y H1 _ Nx1 i1 gs' m rfl r (inv_gens I1 (bare_set I1.bare hb)) nf1 yd (gens_set hsz') st1 fun a2 H2 s2 nx2 t2 I2 st2 nf2 => ?_
      have := kap a2 H2 s2 nx2 t2 I2 st2 nf2
      cases m with
      | zero => exact this
      | succ m => exact this
    · obtain ⟨a', H1, ht', I1, fin⟩ := hp
      obtain rfl := tagF _ _ _ ht ht'
      intro _
      exact hD H1 _ ((inv_gens I1 (bare_set I1.bare rfl)).kept (t' := s₁.toks) hk) fin

/-! ### all, any -/
/-- all: what an item does -/
def YAll (K : PySem.W.Frag) (Fr : Bool → Hp → Prop) : Unit → V → Hp → (Unit → Hp → Prop) → Prop := fun _ y H Nx => ∃ k, TruV K y H k ∧ if k = true then Nx () H else Fr false H
def YAny (K : PySem.W.Frag) (Fr : Bool → Hp → Prop) : Unit → V → Hp → (Unit → Hp → Prop) → Prop := fun _ y H Nx => ∃ k, TruV K y H k ∧ if k = true then Fr true H else Nx () H
def tag0 : Heap → Unit → Prop := fun _ _ => True
theorem lower3 {β : Type} {M : Model} {t : Sem β} {Q : β → Shared → Prop} {E : Value → Shared → Prop} {s : Shared} (h : wpAny M B.in4 t Q E s) : wpAny M B.in1 t Q E s := wpAny_of_in1 (wpAny_of_in1 (wpAny_of_in1 h))
theorem lower2 {β : Type} {M : Model} {t : Sem β} {Q : β → Shared → Prop} {E : Value → Shared → Prop} {s : Shared} (h : wpAny M B.in4 t Q E s) : wpAny M B.in1.in1 t Q E s := wpAny_of_in1 (wpAny_of_in1 h)
theorem lower1 {β : Type} {M : Model} {t : Sem β} {Q : β → Shared → Prop} {E : Value → Shared → Prop} {s : Shared} (h : wpAny M B.in4 t Q E s) : wpAny M B.in1.in1.in1 t Q E s := wpAny_of_in1 h
variable {ga : Addr} {g : Nat} {Fr : Bool → Hp → Prop} {R : Result → Shared → Prop}
theorem all_loop (hA : A = B.in4.in1) (hh : B.handled = none) (hroom : B.depth < recursionLimit) (hga : ∃ po ∈ X.pn, po.1 = ga ∧ ∀ h : Heap, h.get? po.1 = some po.2 → h.IsGen ga g)
    (hR : ∀ b H1 s1, Inv X [] σ H1 s1 → Fr b H1 → R (.ok (.ret (.bool b))) s1) : ∀ (n : Nat) (s : Shared), GAt X A σ [] fp tn tag0 (YAll X.K Fr) (fun _ H => Fr true H) g n () s → codeAny (model X.prog X.w) B (.builtin "all.loop" ⟨[.ref ga], []⟩) R s := by
  intro n
  induction n with
  | zero =>
    rintro s ⟨gs, i, Nx, H, hgs, C, nx, ht, I, st, nf⟩
    exact (C () H s nx ht I st nf).elim
  | succ n ih =>
    intro s G
    refine codeAny_builtin F.entry_all_loop ?_
    rw [Around.under_plainId F.plain_all_loop _]
    show wpAny _ B.in1 (pyNext (.ref ga) >>= _) _ _ s
    refine wpAny_bind (lower3 (gnext (fun _ _ _ _ _ => rfl) hA hh hroom hga G (fun v y H1 s1 Nx1 i1 gs1 n1 en r I1 nf1 yd hg1 st1 C1 => ?_) (fun H1 s1 I1 fin => ?_)))
    · obtain ⟨k, hk, yd⟩ := yd
      refine wpAny_bind (wpAny_holding (truth_of I1 r hk fun t => ?_))
      refine wpAny_bind (wpAny_letGo ?_)
      have I2 := I1.tok t
      cases k with
      | true =>
        simp only [if_true] at yd ⊢
        cases en
        exact wpAny_pure ⟨plainId_quiet F.plain_all_loop _, ih _ ⟨gs1, i1, Nx1, H1, hg1, C1, yd, trivial, I2, st1, nf1⟩⟩
      | false =>
        simp only [Bool.false_eq_true, if_false] at yd ⊢
        exact wpAny_bind (wpAny_rule (wpAny_pure (hR false H1 _ I2 yd)))
    · exact wpAny_bind (wpAny_rule (wpAny_pure (hR true H1 _ I1 fin)))
theorem any_loop (hA : A = B.in4.in1) (hh : B.handled = none) (hroom : B.depth < recursionLimit) (hga : ∃ po ∈ X.pn, po.1 = ga ∧ ∀ h : Heap, h.get? po.1 = some po.2 → h.IsGen ga g)
    (hR : ∀ b H1 s1, Inv X [] σ H1 s1 → Fr b H1 → R (.ok (.ret (.bool b))) s1) : ∀ (n : Nat) (s : Shared), GAt X A σ [] fp tn tag0 (YAny X.K Fr) (fun _ H => Fr false H) g n () s → codeAny (model X.prog X.w) B (.builtin "any.loop" ⟨[.ref ga], []⟩) R s := by
  intro n
  induction n with
  | zero =>
    rintro s ⟨gs, i, Nx, H, hgs, C, nx, ht, I, st, nf⟩
    exact (C () H s nx ht I st nf).elim
  | succ n ih =>
    intro s G
    refine codeAny_builtin F.entry_any_loop ?_
    rw [Around.under_plainId F.plain_any_loop _]
    show wpAny _ B.in1 (pyNext (.ref ga) >>= _) _ _ s
    refine wpAny_bind (lower3 (gnext (fun _ _ _ _ _ => rfl) hA hh hroom hga G (fun v y H1 s1 Nx1 i1 gs1 n1 en r I1 nf1 yd hg1 st1 C1 => ?_) (fun H1 s1 I1 fin => ?_)))
    · obtain ⟨k, hk, yd⟩ := yd
      refine wpAny_bind (wpAny_holding (truth_of I1 r hk fun t => ?_))
      refine wpAny_bind (wpAny_letGo ?_)
      have I2 := I1.tok t
      cases k with
      | false =>
        simp only [Bool.false_eq_true, if_false] at yd ⊢
        cases en
        exact wpAny_pure ⟨plainId_quiet F.plain_any_loop _, ih _ ⟨gs1, i1, Nx1, H1, hg1, C1, yd, trivial, I2, st1, nf1⟩⟩
      | true =>
        simp only [if_true] at yd ⊢
        exact wpAny_bind (wpAny_rule (wpAny_pure (hR true H1 _ I2 yd)))
    · exact wpAny_bind (wpAny_rule (wpAny_pure (hR false H1 _ I1 fin)))
end
end CL

/-! GE3: all, any, tuple of a generator expression. -/
namespace CL
open PySem PySem.Spec PyProof.Rows L2
/-- a generator expression that was just made: X its context, A the around in which it is waked, g its number, ga its object -/
structure GNew (X : Cx) (A : Around) (σ : L2.St) (fp : List Addr) (tn : Nat → Heap → Prop) (J : It) (tg : TG) (tt : TT) (te : TE) (vs : List Nat) (g : Nat) (ga : Addr) (H : Hp) (s : Shared) : Prop where
  inv : Inv X [] σ H s
  gen : ∃ c, s.gens[g]? = some (.fresh c) ∧ ∀ (α : Type) (pa : List Addr) (tag : Heap → α → Prop) (Yd : α → V → Hp → (α → Hp → Prop) → Prop) (Fin : α → Hp → Prop) (W : Nat → Nat → α → Hp → Prop), (∀ b ∈ fp, b ∉ pa) → GTurn J tg tt te vs σ Yd Fin W →
    ∀ M, Cont X A σ pa fp tn tag Yd Fin (M + 1) (.fresh c) 0 (fun a H => ∃ m, m < M ∧ W 0 m a H)
  obj : ∃ po ∈ X.pn, po.1 = ga ∧ ∀ h : Heap, h.get? po.1 = some po.2 → h.IsGen ga g
  one : ∀ po ∈ X.pn, po.1 = ga
  tn0 : tn 0 s.heap
  none : ∀ b ∈ fp, H b = none
  keep : ∀ i h h', tn i h → (∀ b ∈ fp, ∀ o, h.get? b = some o → h'.get? b = some o) → tn i h'
  low : ∀ b ∈ fp, b < X.s_0.heap.objs.size
  cells : ∀ x c, X.env.cells.lookup x = some c → c < X.s_0.heap.objs.size
section
variable {X : Cx} {A B : Around} {σ : L2.St} {fp : List Addr} {tn : Nat → Heap → Prop} {J : It} {tg : TG} {tt : TT} {te : TE} {vs : List Nat} {g : Nat} {ga : Addr} {H : Hp} {s : Shared} {Q : Value → Shared → Prop} {E : Value → Shared → Prop}
theorem GNew.isGen (N : GNew X A σ fp tn J tg tt te vs g ga H s) : s.heap.IsGen ga g := by
  obtain ⟨po, h1, _, h3⟩ := N.obj
  exact h3 _ (N.inv.pin po (List.mem_append_left _ h1)).1
theorem call_all_gen {Fr : Bool → Hp → Prop} {W : Nat → Nat → Unit → Hp → Prop} (N : GNew X A σ fp tn J tg tt te vs g ga H s) (hA : A = B.in4.in1) (hh : B.handled = none) (hroom : B.depth < recursionLimit)
    (turn : GTurn J tg tt te vs σ (YAll X.K Fr) (fun _ H => Fr true H) W) (w : ∃ m, W 0 m () H) (hQ : ∀ b H1 s1, Inv X [] σ H1 s1 → Fr b H1 → Q (.bool b) s1) :
    wpAny (model X.prog X.w) B (call (.builtin "all") [.ref ga]) Q E s := by
  refine call_function_tree F.kind_all F.plain_all F.entry_all (F.args_all1 _) ?_
  unfold Builtin.«all»
  refine wpAny_bind (m := oneArg "all" _) (wpAny_pure ?_)
  refine wpAny_bind (wpAny_pyIter_gen N.isGen ?_)
  obtain ⟨c, hc, C⟩ := N.gen
  obtain ⟨m, w⟩ := w
  exact wpAny_pure ⟨plainId_quiet F.plain_all_loop _, all_loop hA hh hroom N.obj (fun b H1 s1 I1 q => hQ b H1 s1 I1 q) (m + 2) s ⟨_, 0, _, H, hc, C Unit [] tag0 _ _ W (fun _ _ h => nomatch h) turn (m + 1), ⟨m, Nat.lt_succ_self m, w⟩, trivial, N.inv, N.tn0, N.none⟩⟩
theorem call_any_gen {Fr : Bool → Hp → Prop} {W : Nat → Nat → Unit → Hp → Prop} (N : GNew X A σ fp tn J tg tt te vs g ga H s) (hA : A = B.in4.in1) (hh : B.handled = none) (hroom : B.depth < recursionLimit)
    (turn : GTurn J tg tt te vs σ (YAny X.K Fr) (fun _ H => Fr false H) W) (w : ∃ m, W 0 m () H) (hQ : ∀ b H1 s1, Inv X [] σ H1 s1 → Fr b H1 → Q (.bool b) s1) :
    wpAny (model X.prog X.w) B (call (.builtin "any") [.ref ga]) Q E s := by
  refine call_function_tree F.kind_any F.plain_any F.entry_any (F.args_any1 _) ?_
  unfold Builtin.«any»
  refine wpAny_bind (m := oneArg "any" _) (wpAny_pure ?_)
  refine wpAny_bind (wpAny_pyIter_gen N.isGen ?_)
  obtain ⟨c, hc, C⟩ := N.gen
  obtain ⟨m, w⟩ := w
  exact wpAny_pure ⟨plainId_quiet F.plain_any_loop _, any_loop hA hh hroom N.obj (fun b H1 s1 I1 q => hQ b H1 s1 I1 q) (m + 2) s ⟨_, 0, _, H, hc, C Unit [] tag0 _ _ W (fun _ _ h => nomatch h) turn (m + 1), ⟨m, Nat.lt_succ_self m, w⟩, trivial, N.inv, N.tn0, N.none⟩⟩

/-! ### a list that is filled -/
abbrev listO (its : Array Value) (c : Nat) : Obj := { cls := .type "list", dict := none, data := .seq its c, slots := #[] }
def tagS (S : Addr) : Heap → List V → Prop := fun h acc => ∃ its c, h.get? S = some (listO its c) ∧ Vals acc its.toList
theorem tagS_one {S : Addr} (h : Heap) (a b : List V) (x : tagS S h a) (y : tagS S h b) : a = b := by
  obtain ⟨i, c, e, r⟩ := x
  obtain ⟨j, d, e', r'⟩ := y
  rw [e] at e'
  cases e'
  exact Vals.inj r r'
def YCol : List V → V → Hp → (List V → Hp → Prop) → Prop := fun acc y H Nx => acc.length < sizeLine ∧ Nx (acc ++ [y]) H
/-- the list at S is changed by the consumer -/
theorem inv_list {S : Addr} {H1 : Hp} {s1 : Shared} {h' : Heap} {t' : Nat} {its : Array Value} {c : Nat} (I : Inv X [] σ H1 s1) (hS0 : X.s_0.heap.objs.size ≤ S) (hc : ∀ x c, X.env.cells.lookup x = some c → c < X.s_0.heap.objs.size) (hp : ∀ po ∈ X.pn, po.1 ≠ S)
    (hS : H1 S = none) (hl : S ≠ X.env.locals) (hf : S ∉ X.fs) (k : ∀ b o, b ≠ S → s1.heap.get? b = some o → h'.get? b = some o) (e : h'.get? S = some (listO its c)) : Inv X (pinsAt [S] h') σ H1 { s1 with heap := h', toks := t' } := by
  have nc : ∀ x c, X.env.cells.lookup x = some c → c ≠ S := fun x c e z => by
    have := hc x c e
    rw [z] at this
    exact absurd (Nat.lt_of_lt_of_le this hS0) (Nat.lt_irrefl _)
  have np : ∀ p ∈ X.pn ++ ([] : List (Addr × Obj)), p.1 ≠ S := fun p h => hp p (by simpa using h)
  have J := I.turned (t' := t') k hS hl (.inr hS0) nc np
  exact J.pinned (fp := [S]) (pins := []) (fun b hb => by
    obtain rfl : b = S := by simpa using hb
    exact ⟨hS, hl, hf, .inr hS0, nc, np⟩) fun b hb => by
    obtain rfl : b = S := by simpa using hb
    exact ⟨_, e, fun v z => nomatch z⟩
theorem pin_S {S : Addr} {h0 : Heap} {H1 : Hp} {s1 : Shared} {u : Obj} (I : Inv X (pinsAt [S] h0) σ H1 s1) (e : h0.get? S = some u) : s1.heap.get? S = some u ∧ H1 S = none ∧ S ≠ X.env.locals ∧ S ∉ X.fs := by
  have q := I.pin (S, u) (List.mem_append_right _ (mem_pinsAt (by simp) e))
  exact ⟨q.1, q.2.1, q.2.2.1, q.2.2.2.1⟩
theorem ext_loop {Fin : List V → Hp → Prop} {S : Addr} {res : Value} {R : Result → Shared → Prop} {B' : Around} (low : ∀ (Q : Option Value → Shared → Prop) (E : Value → Shared → Prop) (s : Shared), wpAny (model X.prog X.w) B.in4 (pyNext (.ref ga)) Q E s → wpAny (model X.prog X.w) B'.in1 (pyNext (.ref ga)) Q E s)
    (hA : A = B.in4.in1) (hh : B.handled = none) (hroom : B.depth < recursionLimit) (hga : ∃ po ∈ X.pn, po.1 = ga ∧ ∀ h : Heap, h.get? po.1 = some po.2 → h.IsGen ga g)
    (hS0 : X.s_0.heap.objs.size ≤ S) (hc : ∀ x c, X.env.cells.lookup x = some c → c < X.s_0.heap.objs.size) (hp : ∀ po ∈ X.pn, po.1 ≠ S) (hfp : ∀ b ∈ fp, b < X.s_0.heap.objs.size) (kp : ∀ i h h', tn i h → (∀ b ∈ fp, ∀ o, h.get? b = some o → h'.get? b = some o) → tn i h')
    (hR : ∀ acc its c H1 s1, Inv X [] σ H1 s1 → s1.heap.get? S = some (listO its c) → Vals acc its.toList → Fin acc H1 → R (.ok (.ret res)) s1) :
    ∀ (n : Nat) (acc : List V) (s : Shared), GAt X A σ [S] fp tn (tagS S) YCol Fin g n acc s → codeAny (model X.prog X.w) B' (.builtin "list.extend.loop" ⟨[.ref S, .ref ga, res], []⟩) R s := by
  intro n
  induction n with
  | zero =>
    rintro acc s ⟨gs, i, Nx, H, hgs, C, nx, ht, I, st, nf⟩
    exact (C acc H s nx ht I st nf).elim
  | succ n ih =>
    intro acc s G
    obtain ⟨its, c, eS, rS⟩ : tagS S s.heap acc := by obtain ⟨_, _, _, _, _, _, _, ht, _⟩ := G; exact ht
    refine codeAny_builtin F.entry_extend_loop ?_
    rw [Around.under_plainId F.plain_extend_loop _]
    show wpAny _ B'.in1 (pyNext (.ref ga) >>= _) _ _ s
    refine wpAny_bind (low _ _ _ (gnext tagS_one hA hh hroom hga G (fun v y H1 s1 Nx1 i1 gs1 n1 en r I1 nf1 yd hg1 st1 C1 => ?_) (fun H1 s1 I1 fin => ?_)))
    · obtain ⟨hz, yd⟩ := yd
      obtain ⟨e1, hH, hL, hF⟩ := pin_S I1 eS
      have hlen := rS.length
      have hz' : its.size < sizeLine := by rw [← Array.length_toList, ← hlen]; exact hz
      show wpAny _ B'.in1 (updateSeq S (·.push v) >>= _) _ _ _
      cases en
      have I0 : Inv X [] σ H1 s1 := I1.unpinned (pins := [])
      refine wpAny_bind (wpAny_updateSeq e1 rfl (wpAny_pure ⟨plainId_quiet F.plain_extend_loop _, ?_⟩) (by omega) (by show (its.push v).size ≤ sizeLine + 1; rw [Array.size_push]; omega))
      have e2 := Heap.get?_update_self (h := s1.heap) (Obj.mapSeq (·.push v)) e1 rfl
      have oth : ∀ b o, b ≠ S → s1.heap.get? b = some o → (s1.heap.update S (Obj.mapSeq (·.push v))).get? b = some o := fun b o hb e => (Heap.get?_update_other _ _ (Ne.symm hb)).trans e
      refine ih (acc ++ [y]) _ ⟨gs1, i1, Nx1, H1, hg1, C1, yd, ⟨its.push v, _, e2, ?_⟩, inv_list I0 hS0 hc hp hH hL hF oth e2, kp _ _ _ st1 fun b hb o e => oth b o (fun z => ?_) e, nf1⟩
      · rw [Array.toList_push]
        exact rS.append (.cons r .nil)
      · have := hfp b hb
        rw [z] at this
        exact absurd (Nat.lt_of_lt_of_le this hS0) (Nat.lt_irrefl _)
    · obtain ⟨e1, _⟩ := pin_S I1 eS
      exact wpAny_pure (hR acc its c H1 s1 (I1.unpinned (pins := [])) e1 rS fin)
end
end CL

/-! GE4: tuple, list of a generator expression; what collects. -/
namespace CL
open PySem PySem.Spec PyProof.Rows L2
section
variable {X : Cx} {A B : Around} {σ : L2.St} {fp : List Addr} {tn : Nat → Heap → Prop} {J : It} {tg : TG} {tt : TT} {te : TE} {vs : List Nat} {g : Nat} {ga : Addr} {H : Hp} {s : Shared} {Q : Value → Shared → Prop} {E : Value → Shared → Prop}
theorem GNew.kept (N : GNew X A σ fp tn J tg tt te vs g ga H s) {h' : Heap} {t' : Nat} (k : ∀ b o, s.heap.get? b = some o → h'.get? b = some o) : GNew X A σ fp tn J tg tt te vs g ga H { s with heap := h', toks := t' } :=
  ⟨N.inv.kept k, N.gen, N.obj, N.one, N.keep _ _ _ N.tn0 fun b _ o e => k b o e, N.none, N.keep, N.low, N.cells⟩
/-- a new list's place -/
structure SAt (X : Cx) (ga : Addr) (H : Hp) (s : Shared) (S : Addr) : Prop where
  s0 : X.s_0.heap.objs.size ≤ S
  un : H S = none
  fr : S ≠ X.env.locals
  st : S ∉ X.fs
  ga : S ≠ ga
theorem GNew.sAt (N : GNew X A σ fp tn J tg tt te vs g ga H s) {h' : Heap} {t' : Nat} : SAt X ga H { s with heap := h', toks := t' } s.heap.objs.size :=
  ⟨N.inv.sz, N.inv.hok.fresh (Nat.le_refl _), Nat.ne_of_gt N.inv.lt, N.inv.nofs (Nat.le_refl _), Nat.ne_of_gt (by obtain ⟨o, nm, qn, e, _⟩ := N.isGen; exact Heap.lt_size e)⟩
theorem ext_gen {Fin : List V → Hp → Prop} {W : Nat → Nat → List V → Hp → Prop} {S : Addr} {res : Value} {c0 : Nat} {R : Result → Shared → Prop} {B' : Around} (low : ∀ (Q : Option Value → Shared → Prop) (E : Value → Shared → Prop) (s : Shared), wpAny (model X.prog X.w) B.in4 (pyNext (.ref ga)) Q E s → wpAny (model X.prog X.w) B'.in1 (pyNext (.ref ga)) Q E s)
    (N : GNew X A σ fp tn J tg tt te vs g ga H s) (hA : A = B.in4.in1) (hh : B.handled = none) (hroom : B.depth < recursionLimit) (hS : s.heap.get? S = some (listO #[] c0)) (P : SAt X ga H s S)
    (turn : GTurn J tg tt te vs σ YCol Fin W) (w : ∃ m, W 0 m [] H) (hR : ∀ acc its c H1 s1, Inv X [] σ H1 s1 → s1.heap.get? S = some (listO its c) → Vals acc its.toList → Fin acc H1 → R (.ok (.ret res)) s1) :
    wpAny (model X.prog X.w) B'.in1 (Builtin.List.listExtendWith (.ref S) (.ref ga) res)
      (fun fin s' => match fin with | .done f => R (.ok f) s' | .again c' => c'.quiet = true ∧ codeAny (model X.prog X.w) B' c' R s') (fun e s' => R (.error e) s') s := by
  have tyG := N.isGen.typeIs
  unfold Builtin.List.listExtendWith
  refine wpAny_bind (wpAny_typeOf tyG ?_)
  rw [show Builtin.List.listSameRef (.ref S) (.ref ga) = false by simp [Builtin.List.listSameRef, P.ga]]
  simp only [show (Value.type "generator" == Value.type "list") = false by decide, show (Value.type "generator" == Value.type "tuple") = false by decide, Bool.or_false, Bool.false_eq_true, if_false]
  refine wpAny_bind (wpAny_pyIter_gen N.isGen (wpAny_bind (wpAny_holding ?_)))
  unfold Builtin.List.listLengthHint
  refine wpAny_bind (wpAny_specialOf tyG F.gen_no_len ?_)
  show wpAny _ B'.in1 (specialOf (Value.ref ga) (Str.ofString "__length_hint__") >>= _) _ _ _
  refine wpAny_bind (wpAny_specialOf tyG F.gen_no_hint (wpAny_pure ?_))
  show wpAny _ B'.in1 (rule "list.extend.makes-room" >>= fun _ => Builtin.List.listTouch (.ref S) >>= fun _ => again (.builtin "list.extend.loop" ⟨[.ref S, .ref ga, res], []⟩)) _ _ _
  refine wpAny_bind (wpAny_rule (wpAny_bind ?_))
  show wpAny _ B'.in1 (updateSeq S (·.push .none) >>= fun _ => updateSeq S (·.pop)) _ _ _
  refine wpAny_bind (wpAny_updateSeq hS rfl ?_)
  have e2 := Heap.get?_update_self (Obj.mapSeq (·.push Value.none)) hS rfl
  refine wpAny_updateSeq (hz := by seq_fits) e2 rfl ?_
  have e3 := Heap.get?_update_self (Obj.mapSeq (·.pop)) e2 rfl
  have oth : ∀ b o, b ≠ S → s.heap.get? b = some o → ((s.heap.update S (Obj.mapSeq (·.push Value.none))).update S (Obj.mapSeq (·.pop))).get? b = some o :=
    fun b o hb e => (Heap.get?_update_other _ _ (Ne.symm hb)).trans ((Heap.get?_update_other _ _ (Ne.symm hb)).trans e)
  obtain ⟨c, hc, C⟩ := N.gen
  obtain ⟨m, w⟩ := w
  have hnp : ∀ po ∈ X.pn, po.1 ≠ S := fun po h => by rw [N.one po h]; exact P.ga.symm
  have nfp : ∀ b ∈ fp, b ≠ S := fun b hb z => by
    have := N.low b hb
    rw [z] at this
    exact absurd (Nat.lt_of_lt_of_le this P.s0) (Nat.lt_irrefl _)
  refine wpAny_pure ⟨plainId_quiet F.plain_extend_loop _, ext_loop low hA hh hroom N.obj P.s0 N.cells hnp N.low N.keep hR (m + 2) [] _ ⟨_, 0, _, H, hc, C (List V) [S] (tagS S) YCol Fin W (fun b hb z => nfp b hb (by simpa using z)) turn (m + 1), ⟨m, Nat.lt_succ_self m, w⟩, ⟨_, _, e3, .nil⟩, inv_list (s1 := s) (t' := s.toks) N.inv P.s0 N.cells hnp P.un P.fr P.st oth e3, N.keep _ _ _ N.tn0 fun b hb o e => oth b o (nfp b hb) e, N.none⟩⟩
/-- what collects -/
theorem collect_gen {Fin : List V → Hp → Prop} {W : Nat → Nat → List V → Hp → Prop} {Q : List Value → Shared → Prop} {B' : Around} (low : ∀ (Q : Option Value → Shared → Prop) (E : Value → Shared → Prop) (s : Shared), wpAny (model X.prog X.w) B.in4 (pyNext (.ref ga)) Q E s → wpAny (model X.prog X.w) B'.in1 (pyNext (.ref ga)) Q E s)
    (N : GNew X A σ fp tn J tg tt te vs g ga H s) (hA : A = B.in4.in1) (hh : B.handled = none) (hroom : B.depth < recursionLimit) (turn : GTurn J tg tt te vs σ YCol Fin W) (w : ∃ m, W 0 m [] H)
    (hQ : ∀ acc its H1 s1, Inv X [] σ H1 s1 → Vals acc its → Fin acc H1 → Q its s1) : wpAny (model X.prog X.w) B' (collect (.ref ga)) Q E s := by
  unfold collect
  refine wpAny_bind (wpAny_runValue (codeAny_builtin F.entry_proto_collect ?_))
  rw [Around.under_plainId F.plain_proto_collect _]
  show wpAny _ B'.in1 (newList [] >>= fun l => again (.builtin "list.__iadd__" ⟨[l, .ref ga], []⟩)) _ _ s
  have N1 := N.kept (h' := s.heap.push (listO ([] : List Value).toArray 0)) (t' := s.toks) fun b o e => Heap.get?_push_of_some _ e
  have key : ∀ R : Result → Shared → Prop, (∀ acc its c H1 s1, Inv X [] σ H1 s1 → s1.heap.get? s.heap.objs.size = some (listO its c) → Vals acc its.toList → Fin acc H1 → R (.ok (.ret (.ref s.heap.objs.size))) s1) →
      codeAny (model X.prog X.w) B' (.builtin "list.__iadd__" ⟨[.ref s.heap.objs.size, .ref ga], []⟩) R { s with heap := s.heap.push (listO ([] : List Value).toArray 0) } := fun R hR => by
    refine codeAny_builtin F.entry_list_iadd ?_
    rw [Around.under_plainId F.plain_list_iadd _]
    exact ext_gen low N1 hA hh hroom (Heap.get?_push_size _ rfl) N.sAt turn w hR
  refine wpAny_bind (wpAny_newObj_type (wpAny_pure ⟨plainId_quiet F.plain_list_iadd _, key _ fun acc its c H1 s1 I1 e1 r1 fin => ?_⟩))
  show wpAny _ B' (load s.heap.objs.size >>= _) _ _ s1
  exact wpAny_bind (wpAny_load e1 (wpAny_pure (hQ acc its.toList H1 s1 I1 r1 fin)))
theorem new_tuple {acc : List V} {its : List Value} {H1 : Hp} {s1 : Shared} (I : Inv X [] σ H1 s1) (r : Vals acc its) (hz : acc.length ≤ sizeLine) : H1 s1.heap.objs.size = none ∧ Inv X [] σ (upd H1 s1.heap.objs.size (.frz { cls := .type "tuple", data := .seq its.toArray } (.tup acc))) { s1 with heap := s1.heap.push { cls := .type "tuple", data := .seq its.toArray } } :=
  ⟨I.hok.fresh (Nat.le_refl _), I.laid (t' := s1.toks) (o := .frz { cls := .type "tuple", data := .seq its.toArray } (.tup acc)) (fun b o e => Heap.get?_push_of_some _ e) (Nat.le_refl _) ⟨Heap.get?_push_size _ rfl, hz, its, r, ⟨_, Heap.get?_push_size _ rfl, rfl, ⟨_, rfl⟩⟩⟩⟩
theorem call_tuple_gen {Fin : List V → Hp → Prop} {W : Nat → Nat → List V → Hp → Prop} (N : GNew X A σ fp tn J tg tt te vs g ga H s) (hA : A = B.in4.in1) (hh : B.handled = none) (hroom : B.depth < recursionLimit) (turn : GTurn J tg tt te vs σ YCol (fun acc H => acc.length ≤ sizeLine ∧ Fin acc H) W) (w : ∃ m, W 0 m [] H)
    (hQ : ∀ acc H1 p (o : Obj) s1, o.dict = none → H1 p = none → Inv X [] σ (upd H1 p (.frz o (.tup acc))) s1 → Fin acc H1 → Q (.ref p) s1) : wpAny (model X.prog X.w) B (call (.type "tuple") [.ref ga]) Q E s := by
  have codes : codeAny (model X.prog X.w) B.in1 (.call (.builtin "tuple.__new__") ⟨[.type "tuple", .ref ga], []⟩) (wants (fun obj s₁ => s₁.TypeIs obj "tuple" ∧ Q obj s₁) E) s := by
    refine codeAny_of_tree ?_
    show wpAny _ B.in1.in1 (do checkBuiltinCall "tuple.__new__" ⟨[.type "tuple", .ref ga], []⟩; again (.builtin "tuple.__new__" ⟨[.type "tuple", .ref ga], []⟩)) _ _ s
    refine wpAny_bind (wpAny_of_eq (F.newCall_tuple_1 _) (wpAny_pure ⟨plainId_quiet F.plain_tuple_new _, codeAny_builtin F.entry_tuple_new ?_⟩))
    rw [Around.under_plainId F.plain_tuple_new _]
    have f1 := sub_tuple_self
    have f2 := init_tuple_lookup
    have f3 := madeHere_tuple
    have f4 := N.isGen.typeIs
    wp_walk using wpAny_typeOf f4, collect_gen (fun Q E s h => lower1 h) N hA hh hroom turn w
    intro acc its H1 s1 I1 r1 fin
    show wpAny _ _ (Builtin.Tuple.tupleExact its.toArray >>= fun v => ret v) _ _ _
    unfold Builtin.Tuple.tupleExact
    obtain ⟨fz, fq⟩ := fin
    have hz : its.toArray.size ≤ sizeLine := by rw [List.size_toArray, ← r1.length]; exact fz
    refine wpAny_bind (wpAny_newObj_type (wpAny_pure ?_) hz)
    obtain ⟨hn, I2⟩ := new_tuple I1 r1 fz
    exact ⟨⟨_, Heap.get?_push_size _ rfl, rfl⟩, hQ acc H1 _ _ _ rfl hn I2 fq⟩
  refine callType_codes F.called_tuple (F.typeCall_tuple_1 _) F.entry_object_init codes fun obj s₁ h₁ => ?_
  exact ⟨h₁.1, F.args_object_init_2 obj _, object_init_meets F.called_tuple.init.lookup F.called_tuple.made (by decide) X.prog X.w B.in1 _ s₁ ⟨h₁.1, rfl, h₁.2⟩⟩
end
end CL

/-! GE5: a generator expression is made; all, any, tuple of it as readings. -/
namespace CL
open PySem PySem.Spec PyProof.Rows L2
/-- the scope of a generator expression -/
structure GOk (N : List Str) (sc scope : Scope) (own : List (Str × Nat)) : Prop where
  blk : BlkOk N sc scope own
  co : scope.isCoroutine = false
  nc : ∀ y ∈ scope.names, y.2 ≠ .cell
  dot : scope.names.lookup (".0" : Str) = some NameKind.local
section
variable {X : Cx} {σ : L2.St} {H : Hp} {s : Shared} {pins : List (Addr × Obj)} {elt tg iter : Expr} {ifs : List Expr} {scope : Scope} {own : List (Str × Nat)} {pos gpos px : Pos} {c P : Addr} {wi : TI} {g : TG} {tt : TT} {te : TE}
abbrev AllX (X : Cx) (scope : Scope) (p : Cx → Prop) : Prop := ∀ (s : Shared) (H : Hp) (code : Value) (fp : List Addr) (po : Addr × Obj), p (genX X X.A.in4.in1 s H scope code fp po)
theorem gen_make {R : It → Hp → Prop} {Q' : Value → Shared → Prop} (hh : X.A.handled = none) (hroom : X.A.depth < recursionLimit) (hN : X.N.Nodup) (TB : GxR.TabB X.base X.mg c P) (hcode : X.env.code = .ref c) (ok : GOk X.N X.env.scope scope own)
    (hi : PI X tg iter wi) (hg : AllX X scope fun Y => PG Y tg g) (ht : AllX X scope fun Y => PTs Y ifs tt) (he : AllX X scope fun Y => PE Y elt te) (hs : ∀ v, genFold iter X.env v = pure v)
    (I : Inv X pins σ H s) (h : wi σ H fun J H1 => GxR.TabG H1 P ∧ ∀ H2, GxR.Tabbed P H1 H2 → R J H2)
    (hQ : ∀ J H2 fp tn code s4 po n ga s5, R J H2 → GNew (genX X X.A.in4.in1 s4 H2 scope code fp po) X.A.in4.in1 (L2.wipe σ (own.map (·.2))) fp tn J g tt te (own.map (·.2)) n ga H2 s5 →
      (∀ (σ' : L2.St) (H' : Hp) (s' : Shared), Inv (genX X X.A.in4.in1 s4 H2 scope code fp po) [] σ' H' s' → Inv X pins σ H' s') → Q' (.ref ga) s5) :
    wpAny (model X.prog X.w) X.A (eval (.GeneratorExp elt [⟨tg, iter, ifs, 0⟩] scope gpos) X.env) Q' X.xe s := by
  have capt : ∀ y ∈ scope.names, y.2 = .free → ∃ c, X.env.cells.lookup y.1 = some c := fun y yin e => (ok.blk.free y yin e).elim (fun k => I.ok.has _ (.inl k)) fun k => I.ok.has _ (.inr k)
  refine wpAny_GeneratorExp_make ok.co (closure_ok capt) ok.nc ok.dot ok.blk.kind hroom ?_ hs
  refine thn (hi.run pins s σ H _ I h) fun xv s1 hx => thn hx fun itv s2 h2 => ?_
  obtain ⟨it, fp, tn, J, H1, e, I1, T, st1, f1, ⟨ps, hP, htr⟩, q⟩ := h2
  subst e
  refine ⟨I1.nolimit, ?_⟩
  have hPs : s2.heap.get? P = some { cls := .none, data := .fields ps } := I1.hok P _ hP
  have cd : PySem.W.CodeHd s2.heap c P := TB.code.keeps fun b u e => I1.bk b u e
  have nP : ∀ b ∈ fp, b ≠ P := fun b hb z => by
    have := (f1 b hb).1
    rw [z, hP] at this
    cases this
  have cont : ∀ (code : Value) (h3 : Heap) (tk : Nat) (ps' : Array Value), Heap.ExtBut P s2.heap h3 → s2.heap.objs.size ≤ h3.objs.size → h3.get? P = some { cls := .none, data := .fields ps' } → (∃ more, ps' = ps ++ more) → TriplesOk ps'.toList →
      wpAny (model X.prog X.w) X.A (builtinsFor X.env.globals X.env.builtins) (fun bi s₄ => ∀ h', h'.Ns s₄.heap.objs.size (fun y => if y = ".0" then some (.ref it) else none) → Heap.SameBut s₄.heap.objs.size (s₄.heap.push { cls := .type "frame", data := .dict #[] }) h' →
          Q' (.ref h'.objs.size) { s₄ with
            gens := s₄.gens.push (.fresh (.compStart (.GeneratorExp elt [⟨tg, iter, ifs, 0⟩] scope gpos) 0 (.ref it) .none (genEnv scope (cloFrom X.env.cells scope.names []) s₄.heap.objs.size code bi X.env))),
            toks := s₄.toks + 1 + 1 + 1,
            heap := h'.push { cls := .type "generator", data := .fields #[.int s₄.gens.size 0, .str "<genexpr>" (s₄.toks + 1), .str (X.env.qual ++ "<genexpr>") (s₄.toks + 1 + 1)] } }) X.xe { s2 with heap := h3, toks := tk } := by
    intro code h3 tk ps' hx3 hsz hP3 hmore ht3
    obtain ⟨bm, ob, e1, e2, e3, e4, e5, e6, e7, e8⟩ := TB.bm
    obtain ⟨more, rfl⟩ := hmore
    refine wpAny_builtinsFor (m := X.mg) (by rw [I1.ok.glob]; exact (I1.mod.glob.keeps I1.bk).extBut hx3 TB.gP) e1 e2 (hx3 _ _ e4 (I1.bk _ _ e5)) e6 e7 e8 ?_
    intro h' hn sb
    have I3 : Inv X pins σ (upd H1 P (.tbl (ps ++ more))) { s2 with heap := h3, gens := s2.gens, drawn := s2.drawn, toks := tk } := GxR.inv_tab I1 hP (fun b o hb e => hx3 b o hb e) hP3 I1.bare
    have hTb : GxR.Tabbed P H1 (upd H1 P (.tbl (ps ++ more))) := ⟨⟨_, upd_same, ht3⟩, fun b hb => upd_ne hb⟩
    have f3 : ∀ b ∈ fp, FpOk X pins (upd H1 P (.tbl (ps ++ more))) b ∧ b < h3.objs.size := fun b hb => by
      obtain ⟨o, e, _⟩ := T.obj _ _ st1 b hb
      exact ⟨⟨by rw [upd_ne (nP b hb)]; exact (f1 b hb).1, (f1 b hb).2⟩, Nat.lt_of_lt_of_le (Heap.lt_size e) hsz⟩
    have st3 : tn 0 h3 := T.keep _ _ _ st1 fun b hb o e => hx3 b o (nP b hb) e
    have szh : h'.objs.size = h3.objs.size + 1 := by rw [sb.1, Heap.size_push]
    have kp : ∀ (u : Obj) b o, h3.get? b = some o → (h'.push u).get? b = some o := fun u b o e => Heap.get?_push_of_some _ (sb.extBut b o (Nat.ne_of_lt (Heap.lt_size e)) (Heap.get?_push_of_some _ e))
    generalize hgo : ({ cls := .type "generator", data := .fields #[.int s2.gens.size 0, .str "<genexpr>" (tk + 1), .str (X.env.qual ++ "<genexpr>") (tk + 1 + 1)] } : Obj) = go
    have I5 := gen_start (A := X.A.in4.in1) (code := code) (po := (h'.objs.size, go)) (h' := h'.push go) (g' := s2.gens.push (.fresh (.compStart (.GeneratorExp elt [⟨tg, iter, ifs, 0⟩] scope gpos) 0 (.ref it) .none (gEnv X scope h3.objs.size code)))) (t' := tk + 1 + 1 + 1)
      I3 ok.blk ok.nc hN f3 I.ok.frames hh (hn.push _) (kp go) (Heap.get?_push_size _ (by rw [← hgo]; rfl)) (by show h3.objs.size < h'.objs.size; omega) (fun v z => by rw [← hgo] at z; cases z) (I1.bare.push rfl)
    have cells : ∀ x c, (cloFrom X.env.cells scope.names []).lookup x = some c → c < h3.objs.size := fun x c e => by
      rcases cloFrom_mem (PySem.mem_of_lookup e) with z | ⟨z, rfl⟩
      · cases z
      · obtain ⟨c', e'⟩ := capt _ z rfl
        rw [e']
        obtain ⟨w, q⟩ := I3.cell _ _ e'
        exact q.lt
    refine hQ J _ fp tn code { s2 with heap := h3, gens := s2.gens, drawn := s2.drawn, toks := tk } (h'.objs.size, go) s2.gens.size h'.objs.size _ (q _ hTb) ⟨I5, ⟨_, Array.getElem?_push_size .., fun α pa tag Yd Fin W hd turn M => ?_⟩, ⟨_, List.mem_cons_self, rfl, fun h e => ?_⟩, fun po z => ?_, ?_, fun b hb => (f3 b hb).1.1, T.keep, fun b hb => (f3 b hb).2, cells⟩ fun σ' H' s' J' => ?_
    · refine seg_genS (X := genX X X.A.in4.in1 { s2 with heap := h3, gens := s2.gens, drawn := s2.drawn, toks := tk } (upd H1 P (.tbl (ps ++ more))) scope code fp (h'.objs.size, go)) rfl rfl rfl ok.co T (hg _ _ _ _ _) (ht _ _ _ _ _) (he _ _ _ _ _) (fun b hb => ⟨hb, fun p hp z => ?_, hd b hb⟩) (by rw [L2.wipe_length]; exact I.len) turn M
      have hp : p = (h'.objs.size, go) := by simpa using hp
      rw [hp] at z
      have lt := (f3 b hb).2
      have z : h'.objs.size = b := z
      rw [← z, szh] at lt
      exact absurd lt (Nat.not_lt.mpr (Nat.le_succ _))
    · exact ⟨go, _, _, e, by rw [← hgo], by rw [← hgo], by rw [← hgo]⟩
    · have z : po = (h'.objs.size, go) := by simpa using z
      rw [z]
    · exact T.keep _ _ _ st3 fun b hb o e => kp go b o e
    · exact I3.call' (ch := fp) J'.os J'.base J'.hok J'.bare fun b hb => ⟨(f3 b hb).1.2.2.2.1, (f3 b hb).1.2.1, (f3 b hb).1.2.2.2.2.1, (f3 b hb).1.2.2.2.2.2⟩
  cases hf : codeAmong gpos ps.toList with
  | none =>
    refine wpAny_genexprCodeX hcode (cd.code hPs htr) (cd.tab hPs) hf fun c' h' tk hx hge hlt hco' _ htab' _ => ?_
    have hx' := htab'.2
    obtain ⟨_, _, _, _, _, _, _, _, _, _, _, _, _, _, _, _, _, _, _, ht3, _⟩ := hco'
    exact cont _ h' tk _ hx (Nat.le_trans hge (Nat.le_of_lt hlt)) hx' ⟨_, rfl⟩ ht3
  | some cv => exact wpAny_genexprCode_hit hcode (cd.code hPs htr) hf (cont cv s2.heap s2.toks ps (Heap.ExtBut.refl _ _) (Nat.le_refl _) hPs ⟨#[], by simp⟩ htr)
end
/-! ### as readings -/
def tGen {α : Type} (P : Addr) (wi : TI) (g : TG) (tt : TT) (te : TE) (vs : List Nat) (a0 : α) (Yd : α → V → Hp → (α → Hp → Prop) → Prop) (Fin : α → Hp → Prop) : L2.St → Hp → Prop := fun σ H => wi σ H fun J H1 => GxR.TabG H1 P ∧ ∀ H2, GxR.Tabbed P H1 H2 →
  ∃ W : Nat → Nat → α → Hp → Prop, (∃ m, W 0 m a0 H2) ∧ GTurn J g tt te vs (L2.wipe σ vs) Yd Fin W
section
variable {X : Cx} {elt tg iter : Expr} {ifs : List Expr} {scope : Scope} {own : List (Str × Nat)} {pos gpos p : Pos} {c P : Addr} {wi : TI} {g : TG} {tt : TT} {te : TE}
/-- what the context must give -/
structure GCx (X : Cx) (P c : Addr) (scope : Scope) (own : List (Str × Nat)) : Prop where
  hh : X.A.handled = none
  room : X.A.depth < recursionLimit
  nd : X.N.Nodup
  tab : GxR.TabB X.base X.mg c P
  code : X.env.code = .ref c
  ok : GOk X.N X.env.scope scope own
theorem pe_gen_all (C : GCx X P c scope own) (hgl : Gl X "all") (hm : X.mg "all" = none) (hi : PI X tg iter wi) (hg : AllX X scope fun Y => PG Y tg g) (ht : AllX X scope fun Y => PTs Y ifs tt) (he : AllX X scope fun Y => PE Y elt te) (hs : ∀ v, genFold iter X.env v = pure v) :
    PE X (.Call (.Name "all" p) [.GeneratorExp elt [⟨tg, iter, ifs, 0⟩] scope gpos] [] pos) (fun σ H Q => tGen P wi g tt te (own.map (·.2)) () (YAll X.K fun b H' => Q (.bl b) H') (fun _ H' => Q (.bl true) H') σ H) := by
  refine ⟨fun pins s σ H Q I h => ?_⟩
  refine wpAny_Call_Name_kw (ld_blt I hgl hm (show bootBuiltins "all" = some (.builtin "all") by decide +kernel) ?_)
  refine PyProof.Rows.callWith_builtin1 ?_ rfl (by rfl)
  show wpAny _ _ (spliced ((false, eval (.GeneratorExp elt [⟨tg, iter, ifs, 0⟩] scope gpos) X.env) :: backTo pos (starEach [] X.env))) _ _ s
  refine Calls.spliced_cons (gen_make C.hh C.room C.nd C.tab C.code C.ok hi hg ht he hs I h fun J H2 fp tn code s4 po n ga s5 r N back => Calls.spliced_nil ?_)
  obtain ⟨W, w, turn⟩ := r
  exact call_all_gen (X := genX X X.A.in4.in1 s4 H2 scope code fp po) N rfl C.hh C.room turn w fun b H1 s1 I1 q => ⟨.bl b, H1, back _ _ _ I1, rfl, q⟩
theorem pe_gen_any (C : GCx X P c scope own) (hgl : Gl X "any") (hm : X.mg "any" = none) (hi : PI X tg iter wi) (hg : AllX X scope fun Y => PG Y tg g) (ht : AllX X scope fun Y => PTs Y ifs tt) (he : AllX X scope fun Y => PE Y elt te) (hs : ∀ v, genFold iter X.env v = pure v) :
    PE X (.Call (.Name "any" p) [.GeneratorExp elt [⟨tg, iter, ifs, 0⟩] scope gpos] [] pos) (fun σ H Q => tGen P wi g tt te (own.map (·.2)) () (YAny X.K fun b H' => Q (.bl b) H') (fun _ H' => Q (.bl false) H') σ H) := by
  refine ⟨fun pins s σ H Q I h => ?_⟩
  refine wpAny_Call_Name_kw (ld_blt I hgl hm (show bootBuiltins "any" = some (.builtin "any") by decide +kernel) ?_)
  refine PyProof.Rows.callWith_builtin1 ?_ rfl (by rfl)
  show wpAny _ _ (spliced ((false, eval (.GeneratorExp elt [⟨tg, iter, ifs, 0⟩] scope gpos) X.env) :: backTo pos (starEach [] X.env))) _ _ s
  refine Calls.spliced_cons (gen_make C.hh C.room C.nd C.tab C.code C.ok hi hg ht he hs I h fun J H2 fp tn code s4 po n ga s5 r N back => Calls.spliced_nil ?_)
  obtain ⟨W, w, turn⟩ := r
  exact call_any_gen (X := genX X X.A.in4.in1 s4 H2 scope code fp po) N rfl C.hh C.room turn w fun b H1 s1 I1 q => ⟨.bl b, H1, back _ _ _ I1, rfl, q⟩
theorem pe_gen_tuple (C : GCx X P c scope own) (hgl : Gl X "tuple") (hm : X.mg "tuple" = none) (hi : PI X tg iter wi) (hg : AllX X scope fun Y => PG Y tg g) (ht : AllX X scope fun Y => PTs Y ifs tt) (he : AllX X scope fun Y => PE Y elt te) (hs : ∀ v, genFold iter X.env v = pure v) :
    PE X (.Call (.Name "tuple" p) [.GeneratorExp elt [⟨tg, iter, ifs, 0⟩] scope gpos] [] pos) (fun σ H Q => tGen P wi g tt te (own.map (·.2)) ([] : List V) YCol (fun acc H' => acc.length ≤ sizeLine ∧ ∀ (q : Addr) (o : Obj), o.dict = none → H' q = none → Q (.ref q) (upd H' q (.frz o (.tup acc)))) σ H) := by
  refine ⟨fun pins s σ H Q I h => ?_⟩
  refine wpAny_Call_Name_kw (ld_blt I hgl hm (show bootBuiltins "tuple" = some (.type "tuple") by decide +kernel) ?_)
  refine PyProof.Rows.callWith_type1 ?_ rfl (by rfl)
  show wpAny _ _ (spliced ((false, eval (.GeneratorExp elt [⟨tg, iter, ifs, 0⟩] scope gpos) X.env) :: backTo pos (starEach [] X.env))) _ _ s
  refine Calls.spliced_cons (gen_make C.hh C.room C.nd C.tab C.code C.ok hi hg ht he hs I h fun J H2 fp tn code s4 po n ga s5 r N back => Calls.spliced_nil ?_)
  obtain ⟨W, w, turn⟩ := r
  exact call_tuple_gen (X := genX X X.A.in4.in1 s4 H2 scope code fp po) (Fin := fun acc H' => ∀ (q : Addr) (o : Obj), o.dict = none → H' q = none → Q (.ref q) (upd H' q (.frz o (.tup acc)))) N rfl C.hh C.room turn w fun acc H1 q o s1 ho hq I1 fin => ⟨.ref q, _, back _ _ _ I1, rfl, fin q o ho hq⟩
end
end CL

/-! GE6: sorted, sum of a generator expression. -/
namespace CL
open PySem PySem.Spec PyProof.Rows L2
mutual
theorem reads_at {h : Heap} : ∀ {v : Value} {d : PyData} {as : List Addr}, Reads h v d as → ∀ a ∈ as, ∃ o, h.get? a = some o
  | _, _, _, .none, a, m => nomatch m
  | _, _, _, .bool b, a, m => nomatch m
  | _, _, _, .int i t, a, m => nomatch m
  | _, _, _, .str x t, a, m => nomatch m
  | _, _, _, .list h1 h2 h3 h4, a, m => by
    rcases List.mem_cons.mp m with rfl | m
    · exact ⟨_, h1⟩
    · exact readsAll_at h4 a m
  | _, _, _, .tuple h1 h2 h3 h4, a, m => readsAll_at h4 a m
  | _, _, _, .dict h1 h2 h3 h4 h5, a, m => by
    rcases List.mem_cons.mp m with rfl | m
    · exact ⟨_, h1⟩
    · rcases List.mem_append.mp m with m | m
      · exact readsAll_at h4 a m
      · exact readsAll_at h5 a m
theorem readsAll_at {h : Heap} : ∀ {vs : List Value} {ds : List PyData} {as : List Addr}, ReadsAll h vs ds as → ∀ a ∈ as, ∃ o, h.get? a = some o
  | _, _, _, .nil, a, m => nomatch m
  | _, _, _, .cons h1 h2, a, m => by
    rcases List.mem_append.mp m with m | m
    · exact reads_at h1 a m
    · exact readsAll_at h2 a m
end
section
variable {X : Cx} {A B : Around} {σ : L2.St} {fp : List Addr} {tn : Nat → Heap → Prop} {J : It} {tg : TG} {tt : TT} {te : TE} {vs : List Nat} {g : Nat} {ga : Addr} {H : Hp} {s : Shared} {Q : Value → Shared → Prop} {E : Value → Shared → Prop}
/-- sorted lists that read as data -/
structure SortOk {β : Type} (enc : β → PyData) (u : Nat) (h : Heap) (its : List Value) (R : Value → β → Prop) (bs : List β) : Prop where
  len : bs.length ≤ sizeLine
  each : PySem.W.EachIs R its bs
  reads : PySem.W.EachIs (fun v b => ∃ as, Reads h v (enc b) as) its bs
  alike : PySem.W.AllAlike (bs.map enc)
  sort : PySem.W.Sortable (bs.map enc)
  deep : ∀ b ∈ bs, u + 2 + (enc b).depth < cLine
theorem call_sorted_gen {β : Type} (enc : β → PyData) {Fin : List V → Hp → Prop} {W : Nat → Nat → List V → Hp → Prop} (N : GNew X A σ fp tn J tg tt te vs g ga H s) (hA : A = B.in4.in1) (hh : B.handled = none) (hroom : B.depth < recursionLimit) (turn : GTurn J tg tt te vs σ YCol Fin W) (w : ∃ m, W 0 m [] H)
    (hQ : ∀ acc its H1 s1, Inv X [] σ H1 s1 → Vals acc its → Fin acc H1 → ∃ R bs, SortOk enc B.units s1.heap its R bs ∧ ∀ out h' p n, PySem.W.EachIs R out (bs.mergeSort (PySem.W.dataLe false enc)) → out.length = bs.length → H1 p = none → (∀ b o, s1.heap.get? b = some o → h'.get? b = some o) → s1.heap.objs.size ≤ p →
      h'.get? p = some (seqObj "list" out.toArray n) → Q (.ref p) { s1 with heap := h' }) : wpAny (model X.prog X.w) B (call (.builtin "sorted") [.ref ga]) Q E s := by
  refine Calls.call_function_entry PyProof.Rows.kind_sorted PyProof.Rows.plain_sorted PyProof.Rows.entry_sorted (PyProof.Rows.args_sorted1 _) ?_
  unfold Builtin.«sorted»
  refine wpAny_bind (m := checkCount "sorted" 1 1 _) (wpAny_pure ?_)
  refine wpAny_bind (collect_gen (B' := B.in1) (fun Q E s h => lower2 h) N hA hh hroom turn w fun acc its H1 s1 I1 r1 fin => ?_)
  obtain ⟨R, bs, K, q⟩ := hQ acc its H1 s1 I1 r1 fin
  have hl : its.length = bs.length := K.each.length
  refine wpAny_bind (wpAny_newList ?_ (by rw [hl]; exact K.len))
  have hoL : (s1.heap.push (seqObj "list" its.toArray 0)).get? s1.heap.objs.size = some (seqObj "list" its.toArray 0) := Heap.get?_push_size _ rfl
  have er : PySem.W.EachIs (fun v b => ∃ as, Reads (s1.heap.push (seqObj "list" its.toArray 0)) v (enc b) as ∧ s1.heap.objs.size ∉ as) its bs := K.reads.mono fun v b ⟨as, r⟩ => ⟨as, Reads.keeps (fun b o e => Heap.get?_push_of_some _ e) r, fun z => by
    obtain ⟨o, e⟩ := reads_at r _ z
    exact absurd (Heap.lt_size e) (Nat.lt_irrefl _)⟩
  have hu : ∀ b, b ∈ bs → B.in1.units + 1 + (enc b).depth < cLine := fun b hb => by
    have := K.deep b hb
    show B.units + 1 + 1 + (enc b).depth < cLine
    omega
  refine wpAny_bind (wpAny_holding (PySem.W.list_sort_data (enc := enc) (R := R) (bs := bs) (s := { s1 with heap := s1.heap.push (seqObj "list" its.toArray 0) }) hoL K.each er K.alike K.sort K.len hu fun out ho e => ?_))
  obtain ⟨n, hn⟩ := sortedHeap_at (out := out.toArray) hoL
  refine wpAny_pure ⟨_, rfl, q out _ _ n e ho (I1.hok.fresh (Nat.le_refl _)) (fun b o e1 => ?_) (Nat.le_refl _) hn⟩
  have hlt := Heap.lt_size e1
  rw [sortedHeap_old (Nat.ne_of_lt hlt) (by rw [Heap.size_push]; exact Nat.lt_succ_of_lt hlt)]
  exact Heap.get?_push_of_some _ e1
/-! ### sum -/
def tagN (S : Addr) : Heap → Int → Prop := fun h acc => ∃ t c, h.get? S = some (listO #[.int acc t] c)
theorem tagN_one {S : Addr} (h : Heap) (a b : Int) (x : tagN S h a) (y : tagN S h b) : a = b := by
  obtain ⟨i, c, e⟩ := x
  obtain ⟨j, d, e'⟩ := y
  rw [e] at e'
  cases e'
  rfl
def YSum : Int → V → Hp → (Int → Hp → Prop) → Prop := fun acc y H Nx => ∃ b, y = .int b ∧ InLong b ∧ InLong (acc + b) ∧ Nx (acc + b) H
theorem sum_loop {Fin : Int → Hp → Prop} {S : Addr} {R : Result → Shared → Prop} (hA : A = B.in4.in1) (hh : B.handled = none) (hroom : B.depth < recursionLimit) (hga : ∃ po ∈ X.pn, po.1 = ga ∧ ∀ h : Heap, h.get? po.1 = some po.2 → h.IsGen ga g)
    (hS0 : X.s_0.heap.objs.size ≤ S) (hc : ∀ x c, X.env.cells.lookup x = some c → c < X.s_0.heap.objs.size) (hp : ∀ po ∈ X.pn, po.1 ≠ S) (hfp : ∀ b ∈ fp, b < X.s_0.heap.objs.size) (kp : ∀ i h h', tn i h → (∀ b ∈ fp, ∀ o, h.get? b = some o → h'.get? b = some o) → tn i h')
    (hR : ∀ acc t H1 s1, Inv X [] σ H1 s1 → Fin acc H1 → R (.ok (.ret (.int acc t))) s1) :
    ∀ (n : Nat) (acc : Int) (s : Shared), GAt X A σ [S] fp tn (tagN S) YSum Fin g n acc s → codeAny (model X.prog X.w) B (.builtin "sum.loop" ⟨[.ref ga, .ref S, rawInt 0, rawInt 0], []⟩) R s := by
  intro n
  induction n with
  | zero =>
    rintro acc s ⟨gs, i, Nx, H, hgs, C, nx, ht, I, st, nf⟩
    exact (C acc H s nx ht I st nf).elim
  | succ n ih =>
    intro acc s G
    obtain ⟨t0, c, eS⟩ : tagN S s.heap acc := by obtain ⟨_, _, _, _, _, _, _, ht, _⟩ := G; exact ht
    refine codeAny_builtin F.entry_sum_loop ?_
    rw [Around.under_plainId F.plain_sum_loop _]
    show wpAny _ B.in1 (seqItems? (.ref S) >>= _) _ _ s
    refine wpAny_bind (wpAny_seqItems eS rfl ?_)
    show wpAny _ B.in1 (tryCatch (pyNext (.ref ga)) _ >>= _) _ _ s
    refine wpAny_bind (wpAny_tryCatch (lower3 (gnext tagN_one hA hh hroom hga G (fun v y H1 s1 Nx1 i1 gs1 n1 en r I1 nf1 yd hg1 st1 C1 => ?_) (fun H1 s1 I1 fin => ?_))))
    · obtain ⟨b, rfl, ⟨f1, f2⟩, ⟨f3, f4⟩, yd⟩ := yd
      obtain ⟨t, rfl⟩ := r
      obtain ⟨e1, hH, hL, hF⟩ := pin_S I1 eS
      cases en
      have I0 : Inv X [] σ H1 s1 := I1.unpinned (pins := [])
      have hc' : ((decide (-(2 ^ 63) ≤ b) && decide (b < 2 ^ 63)) && (decide (-(2 ^ 63) ≤ acc + b) && decide (acc + b < 2 ^ 63))) = true := by
        simp only [Bool.and_eq_true, decide_eq_true_eq]
        exact ⟨⟨f1, f2⟩, f3, f4⟩
      show wpAny _ B.in1 (if (_ : Bool) = true then (mkInt (acc + b) >>= _) else _) _ _ _
      split
      · refine wpAny_bind (wpAny_mkInt ?_)
        show wpAny _ B.in1 (updateSeq S (fun _ => #[.int (acc + b) s1.toks]) >>= _) _ _ _
        refine wpAny_bind ?_
        have e2 := Heap.get?_update_self (h := s1.heap) (Obj.mapSeq fun _ => #[.int (acc + b) s1.toks]) e1 rfl
        have oth : ∀ p o, p ≠ S → s1.heap.get? p = some o → (s1.heap.update S (Obj.mapSeq fun _ => #[.int (acc + b) s1.toks])).get? p = some o := fun p o hb e => (Heap.get?_update_other _ _ (Ne.symm hb)).trans e
        refine wpAny_updateSeq e1 rfl (wpAny_pure ⟨plainId_quiet F.plain_sum_loop _, ?_⟩)
        refine ih (acc + b) _ ⟨gs1, i1, Nx1, H1, hg1, C1, yd, ⟨_, _, e2⟩, inv_list (s1 := s1) (t' := s1.toks + 1) I0 hS0 hc hp hH hL hF oth e2, kp _ _ _ st1 fun p hb o e => oth p o (fun z => ?_) e, nf1⟩
        have := hfp p hb
        rw [z] at this
        exact absurd (Nat.lt_of_lt_of_le this hS0) (Nat.lt_irrefl _)
      · rename_i hneg
        exact absurd hc' hneg
    · exact wpAny_pure (hR acc t0 H1 s1 (I1.unpinned (pins := [])) fin)
theorem call_sum_gen {Fin : Int → Hp → Prop} {W : Nat → Nat → Int → Hp → Prop} (N : GNew X A σ fp tn J tg tt te vs g ga H s) (hA : A = B.in4.in1) (hh : B.handled = none) (hroom : B.depth < recursionLimit)
    (turn : GTurn J tg tt te vs σ YSum Fin W) (w : ∃ m, W 0 m 0 H) (hQ : ∀ acc t H1 s1, Inv X [] σ H1 s1 → Fin acc H1 → Q (.int acc t) s1) : wpAny (model X.prog X.w) B (call (.builtin "sum") [.ref ga]) Q E s := by
  refine call_function_tree F.kind_sum F.plain_sum F.entry_sum (F.args_sum1 _) ?_
  unfold Builtin.«sum»
  simp only [List.length_cons, List.length_nil]
  rw [if_neg (by decide)]
  refine wpAny_bind (wpAny_of_eq (show Builtin.Builtins.bindParams "sum" ["start"] 0 { } = pure [none] from rfl) ?_)
  refine wpAny_bind (wpAny_pyIter_gen N.isGen ?_)
  refine wpAny_bind (wpAny_mkInt ?_)
  refine wpAny_bind (wpAny_pure ?_)
  simp only [List.forIn_cons, List.forIn_nil]
  refine wpAny_bind (wpAny_bind (wpAny_bind (wpAny_isInstance (T := "int") (b := false) (typeIs_int _ _ _) PySem.sub_int_str ?_)))
  simp only [Bool.false_eq_true, if_false]
  refine wpAny_pure (wpAny_bind (wpAny_bind (wpAny_isInstance (T := "int") (b := false) (typeIs_int _ _ _) PySem.sub_int_bytes ?_)))
  simp only [Bool.false_eq_true, if_false]
  refine wpAny_pure (wpAny_bind (wpAny_bind (wpAny_isInstance (T := "int") (b := false) (typeIs_int _ _ _) PySem.sub_int_bytearray ?_)))
  simp only [Bool.false_eq_true, if_false]
  refine wpAny_pure (wpAny_pure ?_)
  refine wpAny_bind (wpAny_newObj_type ?_)
  have P : SAt X ga H s s.heap.objs.size := N.sAt (h' := s.heap) (t' := s.toks)
  have hnp : ∀ po ∈ X.pn, po.1 ≠ s.heap.objs.size := fun po h => by rw [N.one po h]; exact P.ga.symm
  obtain ⟨c, hc, C⟩ := N.gen
  obtain ⟨m, w⟩ := w
  have keep : ∀ b o, s.heap.get? b = some o → (s.heap.push (listO #[.int 0 s.toks] 0)).get? b = some o := fun b o e => Heap.get?_push_of_some _ e
  have e3 : (s.heap.push (listO #[.int 0 s.toks] 0)).get? s.heap.objs.size = some (listO #[.int 0 s.toks] 0) := Heap.get?_push_size _ rfl
  have nfp : ∀ b ∈ fp, b ≠ s.heap.objs.size := fun b hb z => by
    have := N.low b hb
    rw [z] at this
    exact absurd (Nat.lt_of_lt_of_le this P.s0) (Nat.lt_irrefl _)
  exact wpAny_pure ⟨plainId_quiet F.plain_sum_loop _, sum_loop hA hh hroom N.obj P.s0 N.cells hnp N.low N.keep hQ (m + 2) 0 _ ⟨_, 0, _, H, hc, C Int [s.heap.objs.size] (tagN s.heap.objs.size) YSum Fin W (fun b hb z => nfp b hb (by simpa using z)) turn (m + 1), ⟨m, Nat.lt_succ_self m, w⟩, ⟨_, _, e3⟩,
    inv_list (s1 := s) (t' := s.toks + 1) N.inv P.s0 N.cells hnp P.un P.fr P.st (fun b o _ e => keep b o e) e3, N.keep _ _ _ N.tn0 fun b _ o e => keep b o e, N.none⟩⟩
end
section
variable {X : Cx} {σ : L2.St} {H : Hp} {elt tg iter : Expr} {ifs : List Expr} {scope : Scope} {own : List (Str × Nat)} {pos gpos p : Pos} {c P : Addr} {wi : TI} {g : TG} {tt : TT} {te : TE}
theorem pe_gen_sum (C : GCx X P c scope own) (hgl : Gl X "sum") (hm : X.mg "sum" = none) (hi : PI X tg iter wi) (hg : AllX X scope fun Y => PG Y tg g) (ht : AllX X scope fun Y => PTs Y ifs tt) (he : AllX X scope fun Y => PE Y elt te) (hs : ∀ v, genFold iter X.env v = pure v) :
    PE X (.Call (.Name "sum" p) [.GeneratorExp elt [⟨tg, iter, ifs, 0⟩] scope gpos] [] pos) (fun σ H Q => tGen P wi g tt te (own.map (·.2)) (0 : Int) YSum (fun acc H' => Q (.int acc) H') σ H) := by
  refine ⟨fun pins s σ H Q I h => ?_⟩
  refine wpAny_Call_Name_kw (ld_blt I hgl hm (show bootBuiltins "sum" = some (.builtin "sum") by decide +kernel) ?_)
  refine PyProof.Rows.callWith_builtin1 ?_ rfl (by rfl)
  show wpAny _ _ (spliced ((false, eval (.GeneratorExp elt [⟨tg, iter, ifs, 0⟩] scope gpos) X.env) :: backTo pos (starEach [] X.env))) _ _ s
  refine Calls.spliced_cons (gen_make C.hh C.room C.nd C.tab C.code C.ok hi hg ht he hs I h fun J H2 fp tn code s4 po n ga s5 r N back => Calls.spliced_nil ?_)
  obtain ⟨W, w, turn⟩ := r
  exact call_sum_gen (X := genX X X.A.in4.in1 s4 H2 scope code fp po) (Fin := fun acc H' => Q (.int acc) H') N rfl C.hh C.room turn w fun acc t H1 s1 I1 q => ⟨.int acc, H1, back _ _ _ I1, ⟨t, rfl⟩, q⟩
end
end CL

/-! GE7: enumerate(tuple). -/
namespace CL
open PySem PySem.Spec PyProof.Rows L2
set_option maxHeartbeats 1000000 in
theorem meets_enumerate_newB1 {v : Value} {o : Obj} {H : Heap → Prop} (B : Begins v o H) :
    Meets (Builtin.«enumerate.__new__» ⟨[.type "enumerate", v], []⟩) (fun _ R s => H s.heap ∧
      R (.ok (.ret (.ref (s.heap.push o).objs.size))) { s with heap := (s.heap.push o).push { cls := .type "enumerate", data := .fields #[.none, .bool false, .ref s.heap.objs.size, rawInt 0, .none, .none] } }) :=
  .of_wp fun prog w A R s h => by
    obtain ⟨hp, g, d, tk, os⟩ := s; obtain ⟨h1, h⟩ := h
    have hsub := sub_enumerate
    have q1 : ∀ {A' : Around} {E : Value → Shared → Prop} {Q : Value → Shared → Prop}, Q (.ref hp.objs.size) ⟨hp.push o, g, d, tk, os⟩ → wpAny (model prog w) A' (pyIter v) Q E ⟨hp, g, d, tk, os⟩ :=
      fun q => B.iter prog w _ _ ⟨hp, g, d, tk, os⟩ _ h1 q
    wp_walk using q1
    refine wpAny_stack_any fun st => wpAny_pure ?_
    split
    · rename_i c _ _ _ _ _
      cases (c == Value.type "enumerate")
      · wp_walk using q1
        exact ⟨_, rfl, h⟩
      · wp_walk using q1
        exact ⟨_, rfl, h⟩
    · wp_walk using q1
      exact ⟨_, rfl, h⟩
section
variable {prog : Program} {w : World} {A : Around} {E : Value → Shared → Prop} {s : Shared}
theorem call_enumerate_tuple {l : Addr} {items : Array Value} {Q : Value → Shared → Prop} (hL : s.heap.IsTuple l items)
    (h : ∀ h', IsEnum h' (s.heap.objs.size + 1) s.heap.objs.size 0 .none → h'.IsTupleIter s.heap.objs.size l 0 → h'.objs.size = s.heap.objs.size + 2 →
      (∀ b o, s.heap.get? b = some o → h'.get? b = some o) → Q (.ref (s.heap.objs.size + 1)) { s with heap := h' }) :
    wpAny (model prog w) A (call (.type "enumerate") [.ref l]) Q E s := by
  refine callType_new F.called_enumerate (by decide) (F.typeCall_enumerate_1 _) (F.newCall_enumerate_1 _) (fun obj => F.args_object_init_2 obj _) F.entry_enumerate_new
    (meets_enumerate_newB1 (begins_tuple l items)) ⟨hL, ?_⟩
  have hz : (s.heap.push { cls := .type "tuple_iterator", data := .fields #[.ref l, .int 0 0] }).objs.size = s.heap.objs.size + 1 := Heap.size_push ..
  show _ ∧ _
  rw [hz]
  have he : IsEnum ((s.heap.push { cls := .type "tuple_iterator", data := .fields #[.ref l, .int 0 0] }).push
      { cls := .type "enumerate", data := .fields #[.none, .bool false, .ref s.heap.objs.size, rawInt 0, .none, .none] }) (s.heap.objs.size + 1) s.heap.objs.size 0 .none := by
    have := Heap.get?_push_size (s.heap.push { cls := .type "tuple_iterator", data := .fields #[.ref l, .int 0 0] })
      (o := { cls := .type "enumerate", data := .fields #[.none, .bool false, .ref s.heap.objs.size, rawInt 0, .none, .none] }) rfl
    rw [hz] at this; exact this
  refine ⟨⟨_, he, rfl⟩, h _ he ⟨_, Heap.get?_push_of_some _ (Heap.get?_push_size _ rfl), rfl, rfl⟩ (by rw [Heap.size_push, hz]) fun b o x => Heap.get?_push_of_some _ (Heap.get?_push_of_some _ x)⟩
theorem enumT_end {e it l : Addr} {i : Nat} {items : Array Value} {old : Value} {Q : Option Value → Shared → Prop} (hh : A.handled = none)
    (he : IsEnum s.heap e it i old) (hit : s.heap.IsTupleIter it l i) (hl : s.heap.IsTuple l items) (hx : items[i]? = none)
    (hQ : ∀ h', Heap.ExtBut it s.heap h' → Q none { s with heap := h' }) : wpAny (model prog w) A (pyNext (.ref e)) Q E s := by
  have hT : s.TypeIs (.ref e) "enumerate" := ⟨_, he, rfl⟩
  unfold pyNext
  refine wpAny_bind (wpAny_attempt (wpAny_callSpecial?_slot (name := Str.ofString "__next__") hT F.slot_enumerate_next
    (wpAny_call_entry F.slot_enumerate_next hT F.entry_enumerate_next ?_ (F.args_enumerate_next_1 _))))
  show wpAny _ _ (field (.ref e) 2 >>= _) _ _ _
  refine wpAny_bind (wpAny_field he rfl (x := .ref it) rfl ?_)
  refine wpAny_bind (wpAny_nextOf_tuple_end hh hit hl hx fun h' x he' hx' => ?_)
  obtain ⟨o, ho, hc⟩ := hx'
  refine wpAny_bind (wpAny_isInstance (T := "StopIteration") (b := true) ⟨o, ho, hc⟩ isSubtype_stop ?_)
  exact wpAny_pure (hQ _ he')
end
/-- the tuple at a, each item in a new pair -/
def IteT (K : PySem.W.Frag) (a : Addr) : L2.It :=
  ⟨fun i H => ∃ (xs : List V) (x : V), SqT K H a xs ∧ xs[i]? = some x, fun i H v H' => ∃ T x, v = .ref T ∧ H T = none ∧ H' = upd H T (.tup [.int (i : Nat), x]) ∧ ∀ xs, SqT K H a xs → xs[i]? = some x, fun i H => ∃ xs : List V, SqT K H a xs ∧ xs.length ≤ i⟩
theorem turn_enumT {P : Program} {w : World} {K : PySem.W.Frag} {elts : List Expr} {kk : Nat} {tpos : Pos} (a e it : Addr) :
    Turn P w K (.Tuple elts kk tpos) (IteT K a) [e, it] e (fun i h => (∃ old, IsEnum h e it ((i : Nat) : Int) old) ∧ h.IsTupleIter it a i ∧ e ≠ it ∧ e ≠ a ∧ a ≠ it) where
  mem := by simp
  obj := fun i h st b hb => by
    obtain ⟨⟨old, he⟩, ⟨o, ho, hc, hd⟩, _⟩ := st
    have e' : b = e ∨ b = it := by simpa using hb
    rcases e' with z | z
    · rw [z]; exact ⟨_, he, fun v q => nomatch q⟩
    · rw [z]; exact ⟨o, ho, fun v q => by rw [hd] at q; cases q⟩
  keep := fun i h h' st k => let ⟨⟨old, he⟩, hi, hne⟩ := st; ⟨⟨old, k e (by simp) _ he⟩, hi.at fun o q => k it (by simp) o q, hne⟩
  item := by
    intro X hP hw hK hc i pins s σ H E I hf st hg
    subst hP hw hK
    obtain ⟨⟨old, he⟩, hit, hne, hea, hai⟩ := st
    obtain ⟨xs, x, hq, hx⟩ := hg
    obtain ⟨its, rv, p, hz⟩ := I.tuple hq
    obtain ⟨u, hu, ru⟩ := rv.get hx
    have hel : e < s.heap.objs.size := Heap.lt_size he
    have hil : it < s.heap.objs.size := by obtain ⟨_, q, _⟩ := hit; exact Heap.lt_size q
    have hul : i < its.toArray.size := by
      have := (List.getElem?_eq_some_iff.mp hu).1
      simpa using this
    refine wpAny_pyNext_enum_itemD (Draws.tuple (show X.A.in1.handled = none from I.ok.hd hc) it a hai its.toArray) he ⟨hit, p⟩ hul hne (by simp [hne, hea]) fun x' h' tk hPx ho hit' hT hsz hk => ?_
    have ex : x' = u := by
      replace hPx : its.toArray[i]? = some x' := hPx
      have : its[i]? = some x' := by simpa using hPx
      rw [hu] at this
      cases this
      rfl
    subst ex
    refine ⟨_, rfl, wpAny_letOwnedTupleGo_enum (s := { s with heap := h', toks := tk + 1 }) ho fun h'' he' sb => ?_⟩
    have hT2 : h''.get? s.heap.objs.size = some { cls := .type "tuple", data := .seq #[.int i tk, x'] } := (sb.2 _ (Nat.ne_of_gt hel)).trans hT
    have new : ObjOk X.prog X.w (upd H s.heap.objs.size (.tup [.int (i : Nat), x])) h'' s.heap.objs.size (.tup [.int (i : Nat), x]) :=
      ⟨by show 2 ≤ sizeLine; decide, [.int i tk, x'], .cons ⟨_, rfl⟩ (.cons ru .nil), ⟨_, hT2, rfl, _, rfl⟩⟩
    have I1 : Inv X pins σ (upd H s.heap.objs.size (.tup [.int (i : Nat), x])) { s with heap := h'', toks := tk + 1 } :=
      I.turnedNew (ch := [e, it]) (fun b ob hb q => (sb.2 b (fun z => hb (by simp [z]))).trans (hk b ob (fun z => hb (by simp [z])) (fun z => hb (by simp [z])) q)) hf (Nat.le_refl _) new
    refine ⟨.ref s.heap.objs.size, _, I1, rfl, ⟨_, x, rfl, I.hok.fresh (Nat.le_refl _), rfl, fun ys hy => by rw [I.tuple_inj hy hq]; exact hx⟩, ⟨⟨x', ?_⟩, hit'.1.at fun o q => (sb.2 it (Ne.symm hne)).trans q, hne, hea, hai⟩, fun b hb => ?_⟩
    · have e1 : ((i + 1 : Nat) : Int) = (i : Int) + 1 := by omega
      rw [e1]; exact he'
    · have hb' : b < s.heap.objs.size := by
        have e' : b = e ∨ b = it := by simpa using hb
        rcases e' with z | z
        · rw [z]; exact hel
        · rw [z]; exact hil
      rw [upd_ne (Nat.ne_of_lt hb')]
      exact (hf b hb).1
  done := by
    intro X hP hw hK hc i pins s σ H E I hf st hg
    subst hP hw hK
    obtain ⟨⟨old, he⟩, hit, hne, hea, hai⟩ := st
    obtain ⟨xs, hq, hx⟩ := hg
    obtain ⟨its, rv, p, hz⟩ := I.tuple hq
    obtain ⟨f0, f1, f2, f3, f4, f5⟩ := hf it (by simp)
    have hl := rv.length
    exact enumT_end (I.ok.hd hc) he hit p (by simp; omega) fun h' eb => ⟨rfl, I.turned (t' := s.toks) (fun b o hb q => eb b o hb q) f0 f1 f3 f4 f5⟩
  self := fun A i s Q E st h => let ⟨⟨_, he⟩, _⟩ := st; wpAny_pyIter_enum he h
def iEnumT (K : PySem.W.Frag) (ta : TA) : TI := fun σ H R => ta σ H fun vs H1 => ∃ a xs, vs = [.ref a] ∧ SqT K H1 a xs ∧ R (IteT K a) H1
theorem pi_enumT {X : Cx} {e : Expr} {ta : TA} {p pos tpos : Pos} {elts : List Expr} {kk : Nat} (hg : Gl X "enumerate") (hm : X.mg "enumerate" = none) (ha : PA X [e] ta) (hs : starEach [e] X.env = [(false, eval e X.env)] := by rfl) :
    PI X (.Tuple elts kk tpos) (.Call (.Name "enumerate" p) [e] [] pos) (iEnumT X.K ta) := by
  refine ⟨fun pins s σ H R I h => ?_⟩
  refine Call_ (ld_blt I hg hm boot_enumerate (PyProof.Rows.callWith_type1 (thn (ha.run pos pins s σ H _ I h) fun us s1 ⟨vs, H1, I1, r1, q1⟩ => ?_) hs rfl))
  obtain ⟨a, xs, ex, hq, q⟩ := q1
  subst ex
  cases r1 with
  | cons r rr =>
    cases rr
    cases r
    obtain ⟨its, rv, p', hz⟩ := I1.tuple hq
    have hal : a < s1.heap.objs.size := by obtain ⟨_, q, _⟩ := id p'; exact Heap.lt_size q
    refine call_enumerate_tuple (show s1.heap.IsTuple a its.toArray from p') fun h' he hit hsz hk => wpAny_pyIter_enum he ?_
    have I2 : Inv X pins σ H1 { s1 with heap := h' } := I1.kept (t' := s1.toks) hk
    refine ⟨s1.heap.objs.size + 1, [s1.heap.objs.size + 1, s1.heap.objs.size], _, _, H1, rfl, I2, turn_enumT a (s1.heap.objs.size + 1) s1.heap.objs.size, ⟨⟨.none, he⟩, hit, Nat.succ_ne_self _, Nat.ne_of_gt (Nat.lt_succ_of_lt hal), Nat.ne_of_lt hal⟩, fun b hb => ?_, q⟩
    have e' : b = s1.heap.objs.size + 1 ∨ b = s1.heap.objs.size := by simpa using hb
    have hle : s1.heap.objs.size ≤ b := by
      rcases e' with z | z
      · rw [z]; exact Nat.le_add_right _ _
      · rw [z]; exact Nat.le_refl _
    exact I1.fpOk hle (I1.hok.fresh hle)
end CL

/-! GS1: sets of a kind of keys (texts, whole numbers), made of a list or a tuple; what they hold. -/
namespace GS
open PySem PySem.Spec PyProof.Rows L2
section
variable {P : Program} {w : World} {K : Type} [DecidableEq K] (knd : KeyKind P w K) (kf : Value → K)
/-- a member of such a set -/
def Mem (e : Int × Value) : Prop := knd.is (kf e.2) e.2 = true ∧ e.1 = knd.hash (kf e.2) ∧ e.2.scannable = true
/-- the set at a holds the keys L -/
def Holds (h : Heap) (a : Addr) (L : List K) : Prop :=
  ∃ o es ep t, h.get? a = some o ∧ o.ExactSet ∧ o.data = .set es ep t ∧ (∀ e ∈ es.toList, Mem knd kf e) ∧ (es.toList.map fun e => kf e.2).Perm L ∧ L.Nodup ∧
    es.size < scanBound ∧ t.fits es.size = true ∧ Ris t.place.toList ∧ (w.params.followText "set-order" = true ∨ t.led = true)
/-- a key put to the others -/
def ins (L : List K) (x : K) : List K := if x ∈ L then L else x :: L
variable {knd kf}
theorem Holds.keep {h h' : Heap} {a : Addr} {L : List K} (R : Holds knd kf h a L) (k : ∀ o, h.get? a = some o → h'.get? a = some o) : Holds knd kf h' a L := by
  obtain ⟨o, es, ep, t, ho, r⟩ := R
  exact ⟨o, es, ep, t, k o ho, r⟩
theorem Holds.perm {h : Heap} {a : Addr} {L L' : List K} (R : Holds knd kf h a L) (p : L.Perm L') : Holds knd kf h a L' := by
  obtain ⟨o, es, ep, t, ho, hx, hd, hm, hp, hn, r⟩ := R
  exact ⟨o, es, ep, t, ho, hx, hd, hm, hp.trans p, p.nodup_iff.mp hn, r⟩
theorem mem_elems {l : List (Int × Value)} (g : ∀ e ∈ l, Mem knd kf e) : ElemsOf knd l := fun e he => by
  obtain ⟨h1, h2, h3⟩ := g e he
  exact ⟨⟨_, h1, h2⟩, h3⟩
theorem mem_is {e : Int × Value} (g : Mem knd kf e) {x : K} : knd.is x e.2 = true ↔ kf e.2 = x :=
  ⟨fun q => knd.inj _ _ _ g.1 q, fun q => q ▸ g.1⟩
end
section
variable {P : Program} {w : World} {K : Type} [DecidableEq K] {knd : KeyKind P w K} {kf : Value → K} {A : Around} {E : Value → Shared → Prop} {s : Shared} {a : Addr} {L : List K}
/-- the end of an addition: stored, and laid anew where it grew too full -/
theorem tail_ok {gw : Bool → Sem Unit} (hgw : ∀ (b : Bool) (s1 : Shared) (Q1 : Unit → Shared → Prop), Q1 () s1 → wpAny (model P w) A (gw b) Q1 E s1)
    {ob : Obj} {es0 es1 : Array (Int × Value)} {ep0 : Nat} {t0 t1 : SetTable} (ho : s.heap.get? a = some ob) (hex : ob.ExactSet) (hd : ob.data = .set es0 ep0 t0)
    {L1 : List K} (hm : ∀ e ∈ es1.toList, Mem knd kf e) (hp : (es1.toList.map fun e => kf e.2).Perm L1) (hn : L1.Nodup)
    (hb : es1.size < scanBound) (hf : t1.fits es1.size = true) (hr : Ris t1.place.toList) (hl : w.params.followText "set-order" = true ∨ t1.led = true) {dm : Bool} {R : Option Bool → Shared → Prop}
    (fin : ∀ h', Heap.SameBut a s.heap h' → Holds knd kf h' a L1 → R (some true) { s with heap := h' }) :
    wpAny (model P w) A (storeSet a es1 t1 >>= fun _ => if (!dm && t1.tooFull) = true then (do
            gw (relayAll t1 es1 (SetTable.grown es1.size)).2.2
            storeSet a (relayAll t1 es1 (SetTable.grown es1.size)).1 (relayAll t1 es1 (SetTable.grown es1.size)).2.1
            pure (some true)) else pure (some true)) R E s := by
  refine wpAny_bind (wpAny_storeSet_of ho hd ?_ (fits_of_scanBound hb))
  have get1 := store_at (es' := es1) (t' := t1) ho hd
  have but1 := Heap.SameBut.update s.heap a (Obj.putSet es1 t1)
  split
  · have q1 := relayAll_perm t1 es1 (SetTable.grown es1.size)
    have q2 := relayAll_fits t1 es1 (SetTable.grown es1.size)
    have q3 := relayAll_ris t1 es1 (SetTable.grown es1.size)
    have q4 := relayAll_led t1 es1 (SetTable.grown es1.size)
    revert q1 q2 q3 q4
    generalize relayAll t1 es1 (SetTable.grown es1.size) = Y
    obtain ⟨es2, t2, gv⟩ := Y
    intro q1 q2 q3 q4
    dsimp only at q1 q2 q3 q4 ⊢
    have sz : es2.size = es1.size := by rw [← Array.length_toList, q1.length_eq, Array.length_toList]
    have hb2 : es2.size < scanBound := sz ▸ hb
    refine wpAny_bind (hgw _ _ _ (wpAny_bind (wpAny_storeSet_of get1 rfl ?_ (fits_of_scanBound hb2))))
    have get2 := store_at (es' := es2) (t' := t2) get1 rfl
    exact wpAny_pure (fin _ (but1.trans (Heap.SameBut.update _ a _)) ⟨_, es2, _, t2, get2, hex, rfl, fun e he => hm e (q1.mem_iff.mp he), (q1.map _).trans hp, hn, hb2, q2, q3, hl.imp id fun z => q4.trans z⟩)
  · exact wpAny_pure (fin _ but1 ⟨_, es1, _, t1, get1, hex, rfl, hm, hp, hn, hb, hf, hr, hl⟩)
theorem add_ok {x : K} {v : Value} {Q : Bool → Shared → Prop} (hv : knd.is x v = true) (hkf : kf v = x) (hsc : v.scannable = true) (R : Holds knd kf s.heap a L) (room : L.length + 1 < scanBound)
    (fin : ∀ b h', Heap.SameBut a s.heap h' → Holds knd kf h' a (ins L x) → Q b { s with heap := h' }) :
    wpAny (model P w) A (setAddHashed a v (knd.hash x)) Q E s := by
  obtain ⟨ob, es, ep, t, ho, hex, hd, hm, hp, hn, hb, hf, hr, hl⟩ := R
  have els := mem_elems hm
  have sz : es.size = L.length := by rw [← Array.length_toList, ← List.length_map (f := fun e : Int × Value => kf e.2), hp.length_eq]
  unfold setAddHashed setAddHashedIn
  refine wpAny_holding (wpAny_bind (wpAny_setState_of ho hd hf ?_))
  dsimp only
  rw [byScan_of hsc hb els]
  simp only [↓reduceIte]
  unfold setAddByScan
  refine wpAny_bind (wpAny_bind (wpAny_rule (wpAny_bind (wpAny_setScan_of hv ho hd hf els ?_))))
  cases hfi : List.findIdx? (fun e => knd.is x e.2) es.toList with
  | some j =>
    dsimp only
    obtain ⟨hj, pj, _⟩ := List.findIdx?_eq_some_iff_getElem.mp hfi
    have hx : x ∈ L := hp.mem_iff.mp (List.mem_map.mpr ⟨_, List.getElem_mem hj, (mem_is (hm _ (List.getElem_mem hj))).mp pj⟩)
    refine wpAny_pure (wpAny_pure (fin false s.heap (Heap.SameBut.refl a s.heap) ⟨ob, es, ep, t, ho, hex, hd, hm, ?_, ?_, hb, hf, hr, hl⟩))
    · unfold ins; rw [if_pos hx]; exact hp
    · unfold ins; rw [if_pos hx]; exact hn
  | none =>
    dsimp only
    have hx : x ∉ L := fun z => by
      obtain ⟨e, he, q⟩ := List.mem_map.mp (hp.mem_iff.mpr z)
      have c := List.findIdx?_eq_none_iff.mp hfi e he
      rw [(mem_is (hm e he)).mpr q] at c
      cases c
    have ei : ins L x = x :: L := if_neg hx
    have r1 := layNew_perm t es (knd.hash x) v
    have r2 := layNew_fits t es (knd.hash x) v
    have r3 := layNew_ris t es (knd.hash x) v hr
    have r4 := layNew_led t es (knd.hash x) v
    revert r1 r2 r3 r4
    generalize layNew t es (knd.hash x) v = Y
    obtain ⟨es1, t1, dm, gv⟩ := Y
    intro r1 r2 r3 r4
    dsimp only at r1 r2 r3 r4 ⊢
    rw [Array.toList_push] at r1
    have pc : es1.toList.Perm ((knd.hash x, v) :: es.toList) := r1.trans (List.perm_append_singleton _ _)
    have hm1 : ∀ e ∈ es1.toList, Mem knd kf e := fun e he => by
      rcases List.mem_cons.mp (pc.mem_iff.mp he) with z | z
      · rw [z]; exact ⟨hkf.symm ▸ hv, by rw [hkf], hsc⟩
      · exact hm e z
    have hp1 : (es1.toList.map fun e => kf e.2).Perm (ins L x) := by
      rw [ei]
      have := pc.map fun e : Int × Value => kf e.2
      simp only [List.map_cons, hkf] at this
      exact this.trans (hp.cons x)
    have hn1 : (ins L x).Nodup := ei ▸ List.nodup_cons.mpr ⟨hx, hn⟩
    have sz1 : es1.size = L.length + 1 := by rw [← Array.length_toList, pc.length_eq, List.length_cons, Array.length_toList, sz]
    have hb1 : es1.size < scanBound := sz1 ▸ room
    have hl1 : w.params.followText "set-order" = true ∨ t1.led = true := hl.imp id fun z => r4.trans z
    have gw : ∀ (b : Bool) (s1 : Shared) (Q1 : Unit → Shared → Prop), Q1 () s1 → wpAny (model P w) A (match b with | true => rule "set.scan.the-table-gave-way" | false => pure ()) Q1 E s1 := fun b s1 Q1 q => by
      cases b
      · exact wpAny_pure q
      · exact wpAny_rule q
    refine wpAny_bind (gw _ _ _ ?_)
    split
    · refine wpAny_bind ?_
      rw [hashByValue_scannable 8 hsc]
      refine wpAny_pure ?_
      refine tail_ok (fun b s1 Q1 q => ?_) ho hex hd hm1 hp1 hn1 hb1 ?_ ?_ ?_ fun h' sb r => ?_
      · first | exact gw b s1 Q1 q | (cases b <;> first | exact wpAny_pure q | exact wpAny_rule q)
      · first | exact r2 | (split <;> first | exact r2 | exact SetTable.fits_plain_off r2)
      · first | exact r3 | (split <;> exact r3)
      · first | exact hl1 | (split <;> exact hl1)
      · dsimp only; exact wpAny_pure (fin true h' sb r)
    · refine wpAny_bind (wpAny_pure ?_)
      simp only [↓reduceIte]
      refine tail_ok (fun b s1 Q1 q => ?_) ho hex hd hm1 hp1 hn1 hb1 r2 r3 hl1 fun h' sb r => ?_
      · first | exact gw b s1 Q1 q | (cases b <;> first | exact wpAny_pure q | exact wpAny_rule q)
      · dsimp only; exact wpAny_pure (fin true h' sb r)
end
section
variable {P : Program} {w : World} {K : Type} [DecidableEq K] {knd : KeyKind P w K} {kf : Value → K} {A : Around} {R : Result → Shared → Prop} {I : Addr} {fp wr : List Addr} {G : Array GenState → Array GenState → Prop} {n : Nat} {Pv : Nat → Value → Prop} {St : Nat → Shared → Prop}
theorem ins_len (L : List K) (x : K) : (ins L x).length ≤ L.length + 1 := by
  unfold ins
  split <;> simp
theorem fold_len : ∀ (xs L : List K), (xs.foldl ins L).length ≤ L.length + xs.length
  | [], L => by simp
  | x :: xs, L => by
    have h1 := fold_len xs (ins L x)
    have h2 := ins_len L x
    simp only [List.foldl_cons, List.length_cons]
    omega
/-- the walk of a set's making -/
theorem loop_ok (W : WalksS P w A.in1 I fp wr G n Pv St) (S : Addr) (hSf : S ∉ fp) (xs : List K) (hb : n + 1 < scanBound)
    (hval : ∀ i v, Pv i v → ∃ x, xs[i]? = some x ∧ knd.is x v = true ∧ kf v = x ∧ v.scannable = true) : ∀ (k i : Nat) (s : Shared), n - i = k → i ≤ n → St i s → Holds knd kf s.heap S ((xs.take i).foldl ins []) →
    (∀ s', Moved (S :: wr) G s s' → Holds knd kf s'.heap S ((xs.take n).foldl ins []) → R (.ok (.ret .none)) s') → codeAny (model P w) A (.builtin "set.update.loop" ⟨[.ref S, .ref I], []⟩) R s := by
  have nw : S ∉ wr := fun z => hSf (W.sub _ z)
  have up : ∀ b ∈ wr, b ∈ S :: wr := fun b z => List.mem_cons_of_mem _ z
  intro k
  induction k with
  | zero =>
    intro i s hk hi hst hS fin
    obtain rfl : i = n := by omega
    refine codeAny_builtin PyProof.Rows.F.entry_set_update_loop ?_
    rw [Around.under_plainId PyProof.Rows.F.plain_set_update_loop _]
    refine wpAny_bind (m := pyNext (.ref I)) (W.done s _ _ hst fun s' hm => ?_)
    exact (show wpAny _ _ (ret Value.none) _ _ _ from wpAny_pure (fin s' (hm.mono up) (hS.keep fun o => hm.heap S o nw)))
  | succ k ih =>
    intro i s hk hi hst hS fin
    have lt : i < n := by omega
    refine codeAny_builtin PyProof.Rows.F.entry_set_update_loop ?_
    rw [Around.under_plainId PyProof.Rows.F.plain_set_update_loop _]
    refine wpAny_bind (m := pyNext (.ref I)) (W.item i s _ _ lt hst fun v s' hP hst' hm => ?_)
    obtain ⟨x, hx, h1, h2, h3⟩ := hval i v hP
    have hS' := hS.keep fun o => hm.heap S o nw
    refine wpAny_bind (m := holding [v] (setAdd S v)) (wpAny_holding ?_)
    unfold setAdd
    refine wpAny_holding (wpAny_bind (knd.pyHash h1 ?_))
    have tk : xs.take (i + 1) = xs.take i ++ [x] := by rw [List.take_add_one, hx]; rfl
    have room : ((xs.take i).foldl ins []).length + 1 < scanBound := by
      have := fold_len (xs.take i) ([] : List K)
      have := List.length_take_le i xs
      simp only [List.length_nil] at *
      omega
    refine add_ok (s := { s' with toks := s'.toks + 1 }) h1 h2 h3 hS' room fun b h' hsb hS2 => ?_
    rw [show ins ((xs.take i).foldl ins []) x = (xs.take (i + 1)).foldl ins [] by rw [tk, List.foldl_append]; rfl] at hS2
    refine wpAny_pure ⟨plainId_quiet PyProof.Rows.F.plain_set_update_loop _, ih (i + 1) _ (by omega) lt (W.frame _ s' _ _ hst' (Nat.le_succ _) fun b z o e => ?_) hS2 fun s2 hm2 q2 => ?_⟩
    · exact (hsb.2 b fun y => hSf (y ▸ z)).trans e
    · refine fin s2 (Moved.trans W.gtrans ((hm.mono up).then_heap (Nat.le_succ _) fun b o z e => ?_) hm2) q2
      exact (hsb.2 b fun y => z (y ▸ List.mem_cons_self)).trans e
end
section
variable {P : Program} {w : World} {K : Type} [DecidableEq K] {knd : KeyKind P w K} {kf : Value → K} {A : Around} {E : Value → Shared → Prop} {s : Shared}
/-- a set that holds nothing yet -/
abbrev bare (w : World) : Obj := { cls := .type "set", dict := none, data := .set #[] 0 (.fresh 0 0 (!w.params.followText "set-order")) }
theorem bare_ok {h : Heap} {a : Addr} (e : h.get? a = some (bare w)) : Holds knd kf h a [] :=
  ⟨_, #[], 0, _, e, ⟨rfl, rfl, rfl⟩, rfl, (fun e he => by simp at he), (by simp), List.nodup_nil, (by decide), (by rfl), List.Pairwise.nil, by
    show _ ∨ (!w.params.followText "set-order") = true
    cases w.params.followText "set-order"
    · exact .inr rfl
    · exact .inl rfl⟩
theorem new1 (x : Value) {Q₁ : Value → Shared → Prop} (h : Q₁ (.ref s.heap.objs.size) { s with heap := s.heap.push (bare w) }) :
    codeAny (model P w) A (.call (.builtin "set.__new__") ⟨[.type "set", x], []⟩) (wants Q₁ E) s := by
  refine codeAny_of_tree ?_
  refine wpAny_bind (m := checkBuiltinCall "set.__new__" ⟨[.type "set", x], []⟩) (wpAny_of_eq (PySem.F.newCall_set_1 x) (wpAny_pure ⟨plainId_quiet PySem.F.plain_set_new _, codeAny_builtin PySem.F.entry_set_new ?_⟩))
  rw [Around.under_plainId PySem.F.plain_set_new _]
  unfold Builtin.«set.__new__» Builtin.Frozenset.newClass
  have sub := sub_set_self
  obtain ⟨hp, g, d, tk, os⟩ := s
  dsimp only
  wp_walk
  refine wpAny_askSetting (wpAny_pure ?_)
  dsimp only
  simp only [newObj]
  exact wpAny_bind (wpAny_alloc (wpAny_pure (wpAny_pure h)))

/-- set(a list of keys) -/
theorem of_list {l : Addr} {its : Array Value} {xs : List K} {Q : Value → Shared → Prop} (hh : A.handled = none) (hl : s.heap.IsList l its) (hb : its.size + 1 < scanBound) (hsz : xs.length = its.size)
    (hval : ∀ (i : Nat) (v : Value), its[i]? = some v → ∃ x, xs[i]? = some x ∧ knd.is x v = true ∧ kf v = x ∧ v.scannable = true)
    (fin : ∀ (h' : Heap) (tk : Nat), Holds knd kf h' s.heap.objs.size (xs.foldl ins []) → (∀ b o, b < s.heap.objs.size → s.heap.get? b = some o → h'.get? b = some o) → Q (.ref s.heap.objs.size) { s with heap := h', toks := tk }) :
    wpAny (model P w) A (call (.type "set") [.ref l]) Q E s := by
  obtain ⟨c, tl, mro⟩ := PySem.F.called_set.mro
  have m1 := PySem.F.called_set.made
  have m2 := PySem.F.called_set.sub
  refine wpAny_call (codeAny_of_tree ?_)
  show wpAny _ _ (callAny (.type "set") _) _ _ _
  refine wpAny_pure ⟨Code.quiet_builtin _ (by decide +kernel), codeAny_builtin PySem.F.entry_type_call ?_⟩
  rw [Around.under_plain (weight_type_call_type "set" [.ref l] []) rfl]
  have m3 := PySem.F.called_set.notType
  have m4 := PySem.F.called_set.canCreate
  have m5 := PySem.F.typeCall_set_1 (.ref l)
  repeat (any_goals (first | assumption | wp_step))
  refine codeAny_mono (new1 (w := w) (.ref l) (E := E) (Q₁ := fun y s1 => y = .ref s.heap.objs.size ∧ s1 = { s with heap := s.heap.push (bare w) }) ⟨rfl, rfl⟩) fun r s1 hr => ?_
  cases r with
  | error e => exact hr
  | ok fl =>
    cases fl with
    | ret y =>
      obtain ⟨rfl, rfl⟩ := hr
      have gS : (s.heap.push (bare w)).get? s.heap.objs.size = some (bare w) := Heap.get?_push_size _ rfl
      have tS : Shared.TypeIs { s with heap := s.heap.push (bare w) } (.ref s.heap.objs.size) "set" := ⟨_, gS, rfl⟩
      have m6 := PySem.F.called_set.init.lookup
      have m7 := PySem.F.called_set.init.bind (.ref s.heap.objs.size)
      repeat (any_goals (first | assumption | wp_step))
      refine codeAny_mono (codeAny_call_builtin (R := wants (fun r s2 => r = .none ∧ ∃ h' tk, s2 = { s with heap := h', toks := tk } ∧ Holds knd kf h' s.heap.objs.size (xs.foldl ins []) ∧
          (∀ b o, b < s.heap.objs.size → s.heap.get? b = some o → h'.get? b = some o)) E) PySem.F.called_set.init.plain PySem.F.entry_set_init (check_set_init_1 tS ?_)) fun r2 s2 hr2 => ?_
      · obtain ⟨ol, hol, hcl, nl, hdl⟩ := hl
        obtain ⟨ocls, odict, odata, oslots⟩ := ol
        simp only at hcl hdl
        subst hcl; subst hdl
        have gl : (s.heap.push (bare w)).get? l = some { cls := .type "list", dict := odict, data := .seq its nl, slots := oslots } := Heap.get?_push_of_some _ hol
        have k1 := PySem.F.sub_list_set
        have k2 := PySem.F.sub_list_frozenset
        have k3 : (Value.type "list" == Value.type "dict") = false := by decide
        have sl : (s.heap.push (bare w)).IsList l its := ⟨_, gl, rfl, nl, rfl⟩
        unfold Builtin.«set.__init__» noKeywords Builtin.Frozenset.updateFrom
        generalize hPI : pyIter = PI
        wp_walk
        subst hPI
        refine wpAny_pyIter_list sl (wpAny_bind (wpAny_runValue ?_))
        have below : l < s.heap.objs.size := Heap.lt_size hol
        have h3 : A.in1.in1.in1.handled = none := by simp [hh]
        have ne : l ≠ (s.heap.push (bare w)).objs.size := by rw [Heap.size_push]; exact Nat.ne_of_lt (Nat.lt_succ_of_lt below)
        have nf : s.heap.objs.size ∉ [(s.heap.push (bare w)).objs.size, l] := by
          rw [Heap.size_push]
          simp only [List.mem_cons, List.not_mem_nil, or_false, not_or]
          exact ⟨Nat.ne_of_lt (Nat.lt_succ_self _), Nat.ne_of_gt below⟩
        refine loop_ok ((Walks.list h3 _ l ne its).toS) s.heap.objs.size nf xs hb hval (its.size - 0) 0 _ (by omega) (Nat.zero_le _) ⟨⟨_, Heap.get?_push_size _ rfl, rfl, rfl⟩, (sl.push _)⟩ (bare_ok (Heap.get?_push_of_some _ gS)) fun s' hm hS => ?_
        obtain ⟨h', g', d', tk', os'⟩ := s'
        obtain rfl : g' = s.gens := hm.gens
        obtain rfl : d' = s.drawn := hm.drawn
        obtain rfl : os' = s.os := hm.os
        show wpAny _ _ _ _ _ _
        refine wpAny_pure ?_
        show wpAny _ _ (ret Value.none) _ _ _
        rw [← hsz, List.take_length] at hS
        refine wpAny_pure ⟨rfl, h', tk', rfl, hS, fun b o z e => hm.heap b o ?_ (Heap.get?_push_of_some _ (Heap.get?_push_of_some _ e))⟩
        rw [Heap.size_push]
        simp only [List.mem_cons, List.not_mem_nil, or_false, not_or]
        exact ⟨Nat.ne_of_lt z, Nat.ne_of_lt (Nat.lt_succ_of_lt z)⟩
      · cases r2 with
        | error e => exact hr2
        | ok fl2 =>
          cases fl2 with
          | ret r =>
            obtain ⟨rfl, h', tk, rfl, hS, hk⟩ := hr2
            repeat (any_goals (first | assumption | wp_step))
            exact fin _ _ hS hk
          | _ => exact hr2.elim
    | _ => exact hr.elim

/-- set(a tuple of keys) -/
theorem of_tuple {l : Addr} {its : Array Value} {xs : List K} {Q : Value → Shared → Prop} (hh : A.handled = none) (hl : s.heap.IsTuple l its) (hb : its.size + 1 < scanBound) (hsz : xs.length = its.size)
    (hval : ∀ (i : Nat) (v : Value), its[i]? = some v → ∃ x, xs[i]? = some x ∧ knd.is x v = true ∧ kf v = x ∧ v.scannable = true)
    (fin : ∀ (h' : Heap) (tk : Nat), Holds knd kf h' s.heap.objs.size (xs.foldl ins []) → (∀ b o, b < s.heap.objs.size → s.heap.get? b = some o → h'.get? b = some o) → Q (.ref s.heap.objs.size) { s with heap := h', toks := tk }) :
    wpAny (model P w) A (call (.type "set") [.ref l]) Q E s := by
  obtain ⟨c, tl, mro⟩ := PySem.F.called_set.mro
  have m1 := PySem.F.called_set.made
  have m2 := PySem.F.called_set.sub
  refine wpAny_call (codeAny_of_tree ?_)
  show wpAny _ _ (callAny (.type "set") _) _ _ _
  refine wpAny_pure ⟨Code.quiet_builtin _ (by decide +kernel), codeAny_builtin PySem.F.entry_type_call ?_⟩
  rw [Around.under_plain (weight_type_call_type "set" [.ref l] []) rfl]
  have m3 := PySem.F.called_set.notType
  have m4 := PySem.F.called_set.canCreate
  have m5 := PySem.F.typeCall_set_1 (.ref l)
  repeat (any_goals (first | assumption | wp_step))
  refine codeAny_mono (new1 (w := w) (.ref l) (E := E) (Q₁ := fun y s1 => y = .ref s.heap.objs.size ∧ s1 = { s with heap := s.heap.push (bare w) }) ⟨rfl, rfl⟩) fun r s1 hr => ?_
  cases r with
  | error e => exact hr
  | ok fl =>
    cases fl with
    | ret y =>
      obtain ⟨rfl, rfl⟩ := hr
      have gS : (s.heap.push (bare w)).get? s.heap.objs.size = some (bare w) := Heap.get?_push_size _ rfl
      have tS : Shared.TypeIs { s with heap := s.heap.push (bare w) } (.ref s.heap.objs.size) "set" := ⟨_, gS, rfl⟩
      have m6 := PySem.F.called_set.init.lookup
      have m7 := PySem.F.called_set.init.bind (.ref s.heap.objs.size)
      repeat (any_goals (first | assumption | wp_step))
      refine codeAny_mono (codeAny_call_builtin (R := wants (fun r s2 => r = .none ∧ ∃ h' tk, s2 = { s with heap := h', toks := tk } ∧ Holds knd kf h' s.heap.objs.size (xs.foldl ins []) ∧
          (∀ b o, b < s.heap.objs.size → s.heap.get? b = some o → h'.get? b = some o)) E) PySem.F.called_set.init.plain PySem.F.entry_set_init (check_set_init_1 tS ?_)) fun r2 s2 hr2 => ?_
      · obtain ⟨ol, hol, hcl, nl, hdl⟩ := hl
        obtain ⟨ocls, odict, odata, oslots⟩ := ol
        simp only at hcl hdl
        subst hcl; subst hdl
        have gl : (s.heap.push (bare w)).get? l = some { cls := .type "tuple", dict := odict, data := .seq its nl, slots := oslots } := Heap.get?_push_of_some _ hol
        have k1 := PySem.F.sub_tuple_set
        have k2 := PySem.F.sub_tuple_frozenset
        have k3 : (Value.type "tuple" == Value.type "dict") = false := by decide
        have sl : (s.heap.push (bare w)).IsTuple l its := ⟨_, gl, rfl, nl, rfl⟩
        unfold Builtin.«set.__init__» noKeywords Builtin.Frozenset.updateFrom
        generalize hPI : pyIter = PI
        wp_walk
        subst hPI
        refine wpAny_pyIter_tuple sl (wpAny_bind (wpAny_runValue ?_))
        have below : l < s.heap.objs.size := Heap.lt_size hol
        have h3 : A.in1.in1.in1.handled = none := by simp [hh]
        have ne : l ≠ (s.heap.push (bare w)).objs.size := by rw [Heap.size_push]; exact Nat.ne_of_lt (Nat.lt_succ_of_lt below)
        have nf : s.heap.objs.size ∉ [(s.heap.push (bare w)).objs.size, l] := by
          rw [Heap.size_push]
          simp only [List.mem_cons, List.not_mem_nil, or_false, not_or]
          exact ⟨Nat.ne_of_lt (Nat.lt_succ_self _), Nat.ne_of_gt below⟩
        refine loop_ok ((Walks.tuple h3 _ l ne its).toS) s.heap.objs.size nf xs hb hval (its.size - 0) 0 _ (by omega) (Nat.zero_le _) ⟨⟨_, Heap.get?_push_size _ rfl, rfl, rfl⟩, (sl.push _)⟩ (bare_ok (Heap.get?_push_of_some _ gS)) fun s' hm hS => ?_
        obtain ⟨h', g', d', tk', os'⟩ := s'
        obtain rfl : g' = s.gens := hm.gens
        obtain rfl : d' = s.drawn := hm.drawn
        obtain rfl : os' = s.os := hm.os
        show wpAny _ _ _ _ _ _
        refine wpAny_pure ?_
        show wpAny _ _ (ret Value.none) _ _ _
        rw [← hsz, List.take_length] at hS
        refine wpAny_pure ⟨rfl, h', tk', rfl, hS, fun b o z e => hm.heap b o ?_ (Heap.get?_push_of_some _ (Heap.get?_push_of_some _ e))⟩
        rw [Heap.size_push]
        simp only [List.mem_cons, List.not_mem_nil, or_false, not_or]
        exact ⟨Nat.ne_of_lt z, Nat.ne_of_lt (Nat.lt_succ_of_lt z)⟩
      · cases r2 with
        | error e => exact hr2
        | ok fl2 =>
          cases fl2 with
          | ret r =>
            obtain ⟨rfl, h', tk, rfl, hS, hk⟩ := hr2
            repeat (any_goals (first | assumption | wp_step))
            exact fin _ _ hS hk
          | _ => exact hr2.elim
    | _ => exact hr.elim
end
end GS

/-! GS2: sorted(set(xs)), xs a list or a tuple of texts, of whole numbers. -/
namespace GS
open PySem PySem.Spec PyProof.Rows L2
def tkey : Value → Str
  | .str x _ => x
  | _ => Str.empty
def ikey : Value → Int
  | .int i _ => i
  | _ => 0
section
variable {P : Program} {w : World} {A : Around} {E : Value → Shared → Prop} {s : Shared} {a : Addr}
theorem strs_vals : ∀ {vs : List Value}, (∀ v ∈ vs, ∃ x t, v = Value.str x t) → StrsAre vs (vs.map tkey)
  | [], _ => .nil
  | v :: vs, h => by
    obtain ⟨x, t, rfl⟩ := h v List.mem_cons_self
    exact .cons x t (strs_vals fun u hu => h u (List.mem_cons_of_mem _ hu))
theorem ints_vals : ∀ {vs : List Value}, (∀ v ∈ vs, ∃ i t, v = Value.int i t) → IntsAre vs (vs.map ikey)
  | [], _ => .nil
  | v :: vs, h => by
    obtain ⟨i, t, rfl⟩ := h v List.mem_cons_self
    exact .cons i t (ints_vals fun u hu => h u (List.mem_cons_of_mem _ hu))
theorem is_int {i : Int} {v : Value} (h : (intKind P w).is i v = true) : ∃ t, v = .int i t := by
  cases v with
  | int j t =>
    have : (j == i) = true := h
    rw [beq_iff_eq] at this
    exact ⟨t, by rw [this]⟩
  | _ => cases h
/-- sorted(a set of texts) -/
theorem sorted_txt {L : List Str} {Q : Value → Shared → Prop} (R : Holds (PySem.strKind P w) tkey s.heap a L) (hh : A.handled = none) (h64 : L.length < 64)
    (fin : ∀ s' p (out : Array Value) (c : Nat) (ys : List Str), (∀ b o, s.heap.get? b = some o → s'.heap.get? b = some o) → s'.gens = s.gens → s'.os = s.os → s.heap.objs.size ≤ p →
      s'.heap.get? p = some (seqObj "list" out c) → StrsAre out.toList ys → ys.Perm L → sortedS ys = true → Q (.ref p) s') :
    wpAny (model P w) A (call (.builtin "sorted") [.ref a]) Q E s := by
  obtain ⟨o, es, ep, t, ho, hex, hd, hm, hp, hn, hb, hf, hr, hl⟩ := R
  refine Calls.call_function_entry kind_sorted plain_sorted entry_sorted (args_sorted1 _) ?_
  unfold Builtin.«sorted»
  refine wpAny_bind (m := checkCount "sorted" 1 1 _) (wpAny_pure (wpAny_bind (collect_set (A := A.in1) hh ⟨o, ho, hex.1, hd⟩ hf hb hr hl fun s1 vs k1 hz g1 o1 pm => ?_)))
  have txt : ∀ v ∈ vs, ∃ x t, v = Value.str x t := fun v hv => by
    obtain ⟨e, he, rfl⟩ := List.mem_map.mp (pm.mem_iff.mp hv)
    obtain ⟨t, q⟩ := Value.isStrOf_shape (hm e he).1
    exact ⟨_, t, q⟩
  have hS := strs_vals txt
  have pk : (vs.map tkey).Perm L := by
    have q := pm.map tkey
    rw [List.map_map] at q
    exact q.trans hp
  have len : vs.length < 64 := by
    have q := pk.length_eq
    rw [List.length_map] at q
    omega
  refine wpAny_bind (wpAny_newList ?_ (by rw [sizeLine_eq]; omega))
  have gL : (s1.heap.push (seqObj "list" vs.toArray 0)).get? s1.heap.objs.size = some (seqObj "list" vs.toArray 0) := Heap.get?_push_size _ rfl
  refine wpAny_bind (wpAny_holding (wpAny_call_entry slot_list_sort ⟨_, gL, rfl⟩ entry_list_sort
    (list_sort_treeK strKind_oneLt gL hS.keysOf (fun v₁ v₂ rest e => keyKind_strs (by rw [← e]; exact hS)) len fun st' hp' hs' => ⟨_, rfl, ?_⟩) (args_list_sort _)))
  obtain ⟨ys, q1, q2, q3⟩ := sorted_out_str hS hp' hs'
  obtain ⟨c, hc⟩ := sortedHeap_at (vs := vs) (out := (arrOf st').map (·.2)) gL
  refine wpAny_pure ⟨_, rfl, fin _ s1.heap.objs.size _ c ys (fun b u e => ?_) g1 o1 hz hc q1 (q2.trans pk) q3⟩
  have e' := k1 b u e
  have lt := Heap.lt_size e'
  refine Eq.trans (sortedHeap_old (Nat.ne_of_lt lt) (by rw [size_push']; exact Nat.lt_succ_of_lt lt)) (Heap.get?_push_of_some _ e')
/-- sorted(a set of whole numbers) -/
theorem sorted_num {L : List Int} {Q : Value → Shared → Prop} (R : Holds (intKind P w) ikey s.heap a L) (hh : A.handled = none) (h64 : L.length < 64)
    (fin : ∀ s' p (out : Array Value) (c : Nat) (ns : List Int), (∀ b o, s.heap.get? b = some o → s'.heap.get? b = some o) → s'.gens = s.gens → s'.os = s.os → s.heap.objs.size ≤ p →
      s'.heap.get? p = some (seqObj "list" out c) → IntsAre out.toList ns → ns.Perm L → ns.Pairwise (· ≤ ·) → Q (.ref p) s') :
    wpAny (model P w) A (call (.builtin "sorted") [.ref a]) Q E s := by
  obtain ⟨o, es, ep, t, ho, hex, hd, hm, hp, hn, hb, hf, hr, hl⟩ := R
  refine Calls.call_function_entry kind_sorted plain_sorted entry_sorted (args_sorted1 _) ?_
  unfold Builtin.«sorted»
  refine wpAny_bind (m := checkCount "sorted" 1 1 _) (wpAny_pure (wpAny_bind (collect_set (A := A.in1) hh ⟨o, ho, hex.1, hd⟩ hf hb hr hl fun s1 vs k1 hz g1 o1 pm => ?_)))
  have num : ∀ v ∈ vs, ∃ i t, v = Value.int i t := fun v hv => by
    obtain ⟨e, he, rfl⟩ := List.mem_map.mp (pm.mem_iff.mp hv)
    obtain ⟨t, q⟩ := is_int (hm e he).1
    exact ⟨_, t, q⟩
  have hI := ints_vals num
  have pk : (vs.map ikey).Perm L := by
    have q := pm.map ikey
    rw [List.map_map] at q
    exact q.trans hp
  have len : vs.length < 64 := by
    have q := pk.length_eq
    rw [List.length_map] at q
    omega
  refine wpAny_bind (wpAny_newList ?_ (by rw [sizeLine_eq]; omega))
  have gL : (s1.heap.push (seqObj "list" vs.toArray 0)).get? s1.heap.objs.size = some (seqObj "list" vs.toArray 0) := Heap.get?_push_size _ rfl
  refine wpAny_bind (wpAny_holding (wpAny_call_entry slot_list_sort ⟨_, gL, rfl⟩ entry_list_sort (list_sort_tree gL hI len fun out ns' a1 a2 a3 => ⟨_, rfl, ?_⟩) (args_list_sort _)))
  obtain ⟨c, hc⟩ := sortedHeap_at (vs := vs) (out := out) gL
  refine wpAny_pure ⟨_, rfl, fin _ s1.heap.objs.size out c ns' (fun b u e => ?_) g1 o1 hz hc a1 (a2.trans pk) a3⟩
  have e' := k1 b u e
  have lt := Heap.lt_size e'
  refine Eq.trans (sortedHeap_old (Nat.ne_of_lt lt) (by rw [size_push']; exact Nat.lt_succ_of_lt lt)) (Heap.get?_push_of_some _ e')
end
/-- sorted(set(xs)) -/
def tSset (K : PySem.W.Frag) (ta : TE) : TE := fun σ H Q => ta σ H fun x H1 => ∃ l, x = .ref l ∧
  ((∃ xs : List Str, (SqL K H1 l (xs.map V.str) ∨ SqT K H1 l (xs.map V.str)) ∧ xs.length < 64 ∧ ∀ (ys : List Str) p, ys.Perm (xs.foldl ins []) → sortedS ys = true → H1 p = none → Q (.ref p) (upd H1 p (.lst (ys.map V.str)))) ∨
   (∃ ns : List Int, (SqL K H1 l (ns.map V.int) ∨ SqT K H1 l (ns.map V.int)) ∧ ns.length < 64 ∧ ∀ (ms : List Int) p, ms.Perm (ns.foldl ins []) → ms.Pairwise (· ≤ ·) → H1 p = none → Q (.ref p) (upd H1 p (.lst (ms.map V.int)))))
theorem txt_at : ∀ {xs : List Str} {us : List Value}, Vals (xs.map V.str) us → ∀ (i : Nat) (v : Value), us[i]? = some v → ∃ x t, xs[i]? = some x ∧ v = .str x t
  | [], _, .nil, i, v, h => by simp at h
  | x :: xs, _, .cons r q, 0, v, h => by
    obtain ⟨t, rfl⟩ := r
    cases h
    exact ⟨x, t, rfl, rfl⟩
  | x :: xs, _, .cons r q, i + 1, v, h => by
    obtain ⟨y, t, h1, h2⟩ := txt_at q i v (by simpa using h)
    exact ⟨y, t, by simpa using h1, h2⟩
theorem num_at : ∀ {xs : List Int} {us : List Value}, Vals (xs.map V.int) us → ∀ (i : Nat) (v : Value), us[i]? = some v → ∃ x t, xs[i]? = some x ∧ v = .int x t
  | [], _, .nil, i, v, h => by simp at h
  | x :: xs, _, .cons r q, 0, v, h => by
    obtain ⟨t, rfl⟩ := r
    cases h
    exact ⟨x, t, rfl, rfl⟩
  | x :: xs, _, .cons r q, i + 1, v, h => by
    obtain ⟨y, t, h1, h2⟩ := num_at q i v (by simpa using h)
    exact ⟨y, t, by simpa using h1, h2⟩
section
variable {X : Cx} {a : Expr} {ta : TE} {p p2 q pos : Pos}
theorem pe_sset (hc : X.calm = true) (hg : Gl X "sorted") (hm : X.mg "sorted" = none) (hg2 : Gl X "set") (hm2 : X.mg "set" = none) (ha : PE X a ta)
    (na : starEach [a] X.env = (false, eval a X.env) :: starEach [] X.env) : PE X (.Call (.Name "sorted" p) [.Call (.Name "set" p2) [a] [] q] [] pos) (tSset X.K ta) := by
  refine ⟨fun pins s σ H Q I h => ?_⟩
  refine Call_ (ld_blt I hg hm (show bootBuiltins "sorted" = some (.builtin "sorted") by decide +kernel) ?_)
  refine PyProof.Rows.callWith_builtin1 (PyProof.Rows.args_cons ?_ rfl) rfl rfl
  refine Call_ (ld_blt I hg2 hm2 boot_set ?_)
  refine PyProof.Rows.callWith_type1 (PyProof.Rows.args_cons (thn (ha.run pins s σ H _ I h) fun v s1 ⟨x, H1, I1, r1, q1⟩ => PyProof.Rows.args_nil ?_) na) na rfl
  obtain ⟨l, rfl, q1⟩ := q1
  cases r1
  have hh := I1.ok.hd hc
  have fit : ∀ (s2 : Shared), (∀ b o, s1.heap.get? b = some o → s2.heap.get? b = some o) → s2.gens = s1.gens → s2.os = s1.os → ∀ p0 (vs : List V) (out : Array Value) (c : Nat), s1.heap.objs.size ≤ p0 → vs.length ≤ sizeLine → Vals vs out.toList → s2.heap.get? p0 = some (seqObj "list" out c) → Inv X pins σ (upd H1 p0 (.lst vs)) s2 := fun s2 k g o p0 vs out c hp hlen hv hgt => by
    have hn : H1 p0 = none := I1.hok.fresh hp
    have J : Inv X pins σ (upd H1 p0 (.lst vs)) { s1 with heap := s2.heap, gens := s2.gens, drawn := s2.drawn, toks := s2.toks } :=
      I1.call (ch := []) (Un.laid k hp hn) (I1.hok.laid k hp ⟨hlen, out.toList, c, hv, hgt⟩) (by rw [g]; exact I1.bare) fun _ z => nomatch z
    have e : s2 = { s1 with heap := s2.heap, gens := s2.gens, drawn := s2.drawn, toks := s2.toks } := by
      cases s2
      cases s1
      cases o
      rfl
    rw [e]
    exact J
  rcases q1 with ⟨xs, hq, h64, q1⟩ | ⟨xs, hq, h64, q1⟩
  · have flen : (xs.foldl ins []).length < 64 := by have := fold_len xs ([] : List Str); simp only [List.length_nil] at this; omega
    have fin : ∀ (h' : Heap) (tk : Nat), Holds (PySem.strKind X.prog X.w) tkey h' s1.heap.objs.size (xs.foldl ins []) → (∀ b o, b < s1.heap.objs.size → s1.heap.get? b = some o → h'.get? b = some o) →
        wpAny (model X.prog X.w) X.A (spliced (backTo pos (starEach [] X.env))) (fun vs s₂ => wpAny (model X.prog X.w) X.A (call (.builtin "sorted") (Value.ref s1.heap.objs.size :: vs)) (EP X pins σ Q) X.xe s₂) X.xe { s1 with heap := h', toks := tk } := fun h' tk hS hk => by
      refine PyProof.Rows.args_nil ?_
      refine sorted_txt (s := { s1 with heap := h', toks := tk }) hS hh flen fun s2 p0 out c ys k g o hp hgt hst hpm hso => ?_
      have hk' : ∀ b o, s1.heap.get? b = some o → s2.heap.get? b = some o := fun b o e => k b o (hk b o (Heap.lt_size e) e)
      have hp1 : s1.heap.objs.size ≤ p0 := by
        obtain ⟨ob, _, _, _, hob, _⟩ := hS
        exact Nat.le_of_lt (Nat.lt_of_lt_of_le (Heap.lt_size hob) hp)
      have hlen : (ys.map V.str).length ≤ sizeLine := by rw [List.length_map, hpm.length_eq, sizeLine_eq]; omega
      exact ⟨.ref p0, _, fit s2 hk' g o p0 _ out c hp1 hlen (vals_of_strs hst) hgt, rfl, q1 ys p0 hpm hso (I1.hok.fresh hp1)⟩
    rcases hq with hq | hq
    · obtain ⟨its, r, pl, hz⟩ := I1.list hq
      have hl : xs.length = its.length := by have := r.length; rwa [List.length_map] at this
      exact of_list hh pl.isList (by simp; unfold scanBound; omega) (by simp [hl]) (fun i v e => by
        obtain ⟨x, t, e1, rfl⟩ := txt_at r i v (by simpa using e)
        exact ⟨x, e1, strKind_is _ _ _ _, rfl, rfl⟩) fun h' tk hS hk => fin h' tk hS hk
    · obtain ⟨its, r, pl, hz⟩ := I1.tuple hq
      have hl : xs.length = its.length := by have := r.length; rwa [List.length_map] at this
      exact of_tuple hh pl (by simp; unfold scanBound; omega) (by simp [hl]) (fun i v e => by
        obtain ⟨x, t, e1, rfl⟩ := txt_at r i v (by simpa using e)
        exact ⟨x, e1, strKind_is _ _ _ _, rfl, rfl⟩) fun h' tk hS hk => fin h' tk hS hk
  · have flen : (xs.foldl ins []).length < 64 := by have := fold_len xs ([] : List Int); simp only [List.length_nil] at this; omega
    have fin : ∀ (h' : Heap) (tk : Nat), Holds (intKind X.prog X.w) ikey h' s1.heap.objs.size (xs.foldl ins []) → (∀ b o, b < s1.heap.objs.size → s1.heap.get? b = some o → h'.get? b = some o) →
        wpAny (model X.prog X.w) X.A (spliced (backTo pos (starEach [] X.env))) (fun vs s₂ => wpAny (model X.prog X.w) X.A (call (.builtin "sorted") (Value.ref s1.heap.objs.size :: vs)) (EP X pins σ Q) X.xe s₂) X.xe { s1 with heap := h', toks := tk } := fun h' tk hS hk => by
      refine PyProof.Rows.args_nil ?_
      refine sorted_num (s := { s1 with heap := h', toks := tk }) hS hh flen fun s2 p0 out c ys k g o hp hgt hst hpm hso => ?_
      have hk' : ∀ b o, s1.heap.get? b = some o → s2.heap.get? b = some o := fun b o e => k b o (hk b o (Heap.lt_size e) e)
      have hp1 : s1.heap.objs.size ≤ p0 := by
        obtain ⟨ob, _, _, _, hob, _⟩ := hS
        exact Nat.le_of_lt (Nat.lt_of_lt_of_le (Heap.lt_size hob) hp)
      have hlen : (ys.map V.int).length ≤ sizeLine := by rw [List.length_map, hpm.length_eq, sizeLine_eq]; omega
      exact ⟨.ref p0, _, fit s2 hk' g o p0 _ out c hp1 hlen (vals_of_ints hst) hgt, rfl, q1 ys p0 hpm hso (I1.hok.fresh hp1)⟩
    rcases hq with hq | hq
    · obtain ⟨its, r, pl, hz⟩ := I1.list hq
      have hl : xs.length = its.length := by have := r.length; rwa [List.length_map] at this
      exact of_list hh pl.isList (by simp; unfold scanBound; omega) (by simp [hl]) (fun i v e => by
        obtain ⟨x, t, e1, rfl⟩ := num_at r i v (by simpa using e)
        exact ⟨x, e1, intKind_is _ _ _ _, rfl, rfl⟩) fun h' tk hS hk => fin h' tk hS hk
    · obtain ⟨its, r, pl, hz⟩ := I1.tuple hq
      have hl : xs.length = its.length := by have := r.length; rwa [List.length_map] at this
      exact of_tuple hh pl (by simp; unfold scanBound; omega) (by simp [hl]) (fun i v e => by
        obtain ⟨x, t, e1, rfl⟩ := num_at r i v (by simpa using e)
        exact ⟨x, e1, intKind_is _ _ _ _, rfl, rfl⟩) fun h' tk hS hk => fin h' tk hS hk
end
end GS

/-! CL0: clean values, a clean store, a small language and what it does. -/
namespace CL
open PySem

inductive D where
  | non | bl (b : Bool) | int (i : Int) | str (s : List Nat) | tup (xs : List D) | ref (n : Nat)
  deriving Inhabited

mutual
def D.beq : D → D → Bool
  | .non, .non => true
  | .bl a, .bl b => a == b
  | .int a, .int b => a == b
  | .str a, .str b => a == b
  | .tup a, .tup b => D.beqs a b
  | .ref a, .ref b => a == b
  | _, _ => false
def D.beqs : List D → List D → Bool
  | [], [] => true
  | a :: as, b :: bs => D.beq a b && D.beqs as bs
  | _, _ => false
end
mutual
theorem D.beq_iff : ∀ {a b : D}, D.beq a b = true ↔ a = b
  | .non, b => by cases b <;> simp [D.beq]
  | .bl _, b => by cases b <;> simp [D.beq]
  | .int _, b => by cases b <;> simp [D.beq]
  | .str _, b => by cases b <;> simp [D.beq]
  | .tup xs, b => by
    cases b with
    | tup ys => simp [D.beq, D.beqs_iff (a := xs) (b := ys)]
    | _ => simp [D.beq]
  | .ref _, b => by cases b <;> simp [D.beq]
theorem D.beqs_iff : ∀ {a b : List D}, D.beqs a b = true ↔ a = b
  | [], b => by cases b <;> simp [D.beqs]
  | x :: xs, b => by
    cases b with
    | nil => simp [D.beqs]
    | cons y ys => simp [D.beqs, D.beq_iff (a := x) (b := y), D.beqs_iff (a := xs) (b := ys)]
end
instance : DecidableEq D := fun a b => decidable_of_iff (D.beq a b = true) D.beq_iff

/-! ### python's == on data: True is 1 -/
mutual
def D.norm : D → D
  | .bl b => .int (if b then 1 else 0)
  | .tup xs => .tup (D.norms xs)
  | .non => .non
  | .int i => .int i
  | .str s => .str s
  | .ref n => .ref n
def D.norms : List D → List D
  | [] => []
  | x :: xs => D.norm x :: D.norms xs
end
mutual
/-- no reference within -/
def D.pure : D → Bool
  | .ref _ => false
  | .tup xs => D.pures xs
  | .non => true
  | .bl _ => true
  | .int _ => true
  | .str _ => true
def D.pures : List D → Bool
  | [] => true
  | x :: xs => D.pure x && D.pures xs
end
mutual
def D.dep : D → Nat
  | .tup xs => 1 + D.deps xs
  | .non => 0
  | .bl _ => 0
  | .int _ => 0
  | .str _ => 0
  | .ref _ => 0
def D.deps : List D → Nat
  | [] => 0
  | x :: xs => max (D.dep x) (D.deps xs)
end
mutual
/-- all references below n -/
def D.bel (n : Nat) : D → Bool
  | .ref m => decide (m < n)
  | .tup xs => D.bels n xs
  | .non => true
  | .bl _ => true
  | .int _ => true
  | .str _ => true
def D.bels (n : Nat) : List D → Bool
  | [] => true
  | x :: xs => D.bel n x && D.bels n xs
end
mutual
def D.ren (f : Nat → Nat) : D → D
  | .ref m => .ref (f m)
  | .tup xs => .tup (D.rens f xs)
  | .non => .non
  | .bl b => .bl b
  | .int i => .int i
  | .str s => .str s
def D.rens (f : Nat → Nat) : List D → List D
  | [] => []
  | x :: xs => D.ren f x :: D.rens f xs
end
mutual
def D.refs : D → List Nat
  | .ref m => [m]
  | .tup xs => D.refss xs
  | .non => []
  | .bl _ => []
  | .int _ => []
  | .str _ => []
def D.refss : List D → List Nat
  | [] => []
  | x :: xs => D.refs x ++ D.refss xs
end

/-- what a reference names -/
inductive O where
  /-- a list; one that is only read -/
  | lst (xs : List D) | ro (xs : List D)
  /-- a dict with int and text keys; one that is only read (while it is walked) -/
  | dic (kvs : List (D × D)) | rod (kvs : List (D × D))
  /-- an instance of the class c -/
  | ins (c : Nat) (fs : List (Str × D))
  deriving Inhabited

abbrev Sto := List O
abbrev En := List (Option D)

/-! ### lists by places -/
def at_ {α : Type} (xs : List α) (i : Int) : Option α := L2.atI xs i
def ix_ (n : Nat) (i : Int) : Option Nat := L2.ixN n i
def cut {α : Type} (xs : List α) (lo hi : Option Int) : List α := (xs.drop (HT.sIx xs.length 0 lo)).take (HT.sIx xs.length xs.length hi - HT.sIx xs.length 0 lo)

/-! ### dicts -/
def isKey : D → Bool
  | .int _ => true
  | .str _ => true
  | _ => false
def look {α : Type} (kvs : List (D × α)) (k : D) : Option α := (kvs.find? fun kv => decide (kv.1 = k)).map (·.2)
def put {α : Type} (kvs : List (D × α)) (k : D) (v : α) : List (D × α) :=
  if (kvs.any fun kv => decide (kv.1 = k)) = true then kvs.map (fun kv => if kv.1 = k then (kv.1, v) else kv) else kvs ++ [(k, v)]
def merge {α : Type} (kvs : List (D × α)) : List (D × α) → List (D × α)
  | [] => kvs
  | (k, v) :: r => merge (put kvs k v) r

/-! ### the store -/
def lstAt (st : Sto) : D → Option (List D)
  | .ref r => match st[r]? with
    | some (.lst xs) => some xs
    | some (.ro xs) => some xs
    | _ => none
  | _ => none
def dicAt (st : Sto) : D → Option (List (D × D))
  | .ref r => match st[r]? with
    | some (.dic xs) => some xs
    | some (.rod xs) => some xs
    | _ => none
  | _ => none
/-- a list or a tuple -/
def seqAt (st : Sto) : D → Option (List D)
  | .tup xs => some xs
  | d => lstAt st d

def truth (st : Sto) : D → Option Bool
  | .non => some false
  | .bl b => some b
  | .int i => some (decide (i ≠ 0))
  | .str s => some (!s.isEmpty)
  | .tup xs => some (!xs.isEmpty)
  | .ref r => match st[r]? with
    | some (.lst xs) => some (!xs.isEmpty)
    | some (.ro xs) => some (!xs.isEmpty)
    | some (.dic xs) => some (!xs.isEmpty)
    | _ => none

inductive Bop | add | sub | mul | fdiv | mod | pow
  deriving DecidableEq
inductive Cop | eq | ne | lt | le | gt | ge | is_ | isnot | in_ | notin
  deriving DecidableEq

/-- a pure value against a pure value, or lists of such -/
def eqAt (st : Sto) (a b : D) : Option Bool :=
  if a.pure = true ∧ b.pure = true then (if min a.dep b.dep ≤ 150 then some (decide (a.norm = b.norm)) else none)
  else match lstAt st a, lstAt st b with
    | some xs, some ys => if D.pures xs = true ∧ D.pures ys = true ∧ min (D.deps xs) (D.deps ys) ≤ 150 then some (decide (D.norms xs = D.norms ys)) else none
    | some xs, none => if D.pures xs = true ∧ b.pure = true ∧ min (D.deps xs) b.dep ≤ 150 then some false else none
    | none, some ys => if D.pures ys = true ∧ a.pure = true ∧ min a.dep (D.deps ys) ≤ 150 then some false else none
    | none, none => none

/-- is x in the list xs -/
def isIn (x : D) (xs : List D) : Bool := xs.any fun y => decide (y.norm = x.norm)

def occurs (x y : List Nat) : Bool := !(Builtin.Str.occurrences ⟨y.toArray⟩ ⟨x.toArray⟩ 0 y.length 1).isEmpty

def inAt (st : Sto) (x c : D) : Option Bool :=
  match c with
  | .str y => match x with
    | .str s => some (occurs s y)
    | _ => none
  | c => match seqAt st c with
    | some xs => if D.pures xs = true ∧ x.pure = true ∧ min (D.deps xs) x.dep ≤ 150 then some (isIn x xs) else none
    | none => match dicAt st c with
      | some kvs => if isKey x = true then some (look kvs x).isSome else none
      | none => none

def binop (o : Bop) (a b : D) (st : Sto) : Option (D × Sto) :=
  match o, a, b with
  | .add, .int i, .int j => some (.int (i + j), st)
  | .sub, .int i, .int j => some (.int (i - j), st)
  | .mul, .int i, .int j => if i.natAbs < 2 ^ 64 ∨ j.natAbs < 2 ^ 64 ∨ i.natAbs.log2 + j.natAbs.log2 < 1000000 then some (.int (i * j), st) else none
  | .fdiv, .int i, .int j => if 0 < j ∧ j.natAbs.log2 < 9000 then some (.int (i / j), st) else none
  | .mod, .int i, .int j => if 0 < j then some (.int (i % j), st) else none
  | .pow, .int i, .int j => if 0 ≤ j ∧ j ≤ 1000000 ∧ i.natAbs < 2 ^ 64 then some (.int (i ^ j.toNat), st) else none
  | .add, .str s, .str t => if s.length + t.length ≤ sizeLine then some (.str (s ++ t), st) else none
  | .add, .tup xs, .tup ys => if xs.length + ys.length ≤ sizeLine then some (.tup (xs ++ ys), st) else none
  | .mul, .tup xs, .int k => if xs ≠ [] ∧ 2 ≤ k ∧ k ≤ 1000 ∧ xs.length ≤ 1000 then some (.tup (List.replicate k.toNat xs).flatten, st) else none
  | .add, .ref r, .ref q => match st[r]?, st[q]? with
    | some (.lst xs), some (.lst ys) => if xs.length + ys.length ≤ sizeLine then some (.ref st.length, st ++ [.lst (xs ++ ys)]) else none
    | _, _ => none
  | .mul, .ref r, .int k => match st[r]? with
    | some (.lst xs) => if -(2 ^ 63) ≤ k ∧ k < 2 ^ 63 ∧ xs.length * k.toNat ≤ sizeLine then some (.ref st.length, st ++ [.lst (List.replicate k.toNat xs).flatten]) else none
    | _ => none
  | _, _, _ => none

/-- x op= y -/
def augop (o : Bop) (x y : D) : Option D :=
  match o, x, y with
  | .add, .int a, .int b => some (.int (a + b))
  | .sub, .int a, .int b => some (.int (a - b))
  | .mul, .int i, .int j => if i.natAbs < 2 ^ 64 ∨ j.natAbs < 2 ^ 64 then some (.int (i * j)) else none
  | .fdiv, .int i, .int j => if 0 < j ∧ j.natAbs.log2 < 9000 then some (.int (i / j)) else none
  | .mod, .int i, .int j => if 0 < j then some (.int (i % j)) else none
  | .add, .str s, .str t => if s.length + t.length ≤ sizeLine then some (.str (s ++ t)) else none
  | _, _, _ => none
def cmpop (o : Cop) (a b : D) (st : Sto) : Option Bool :=
  match o with
  | .eq => eqAt st a b
  | .ne => (eqAt st a b).map (!·)
  | .in_ => inAt st a b
  | .notin => (inAt st a b).map (!·)
  | .is_ => match b with
    | .non => some (decide (a = .non))
    | .bl y => match a with
      | .bl x => some (decide (x = y))
      | _ => none
    | _ => none
  | .isnot => match b with
    | .non => some (!decide (a = .non))
    | .bl y => match a with
      | .bl x => some (!decide (x = y))
      | _ => none
    | _ => none
  | .lt => match a, b with
    | .int i, .int j => some (decide (i < j))
    | .str s, .str t => some (decide (s < t))
    | _, _ => none
  | .le => match a, b with
    | .int i, .int j => some (decide (i ≤ j))
    | _, _ => none
  | .gt => match a, b with
    | .int i, .int j => some (decide (j < i))
    | _, _ => none
  | .ge => match a, b with
    | .int i, .int j => some (decide (j ≤ i))
    | _, _ => none

/-- a[i] -/
def idxop (a i : D) (st : Sto) : Option D :=
  match a, i with
  | .tup xs, .int k => at_ xs k
  | .str s, .int k => (at_ s k).map fun c => .str [c]
  | .ref r, k => match lstAt st (.ref r) with
    | some xs => match k with
      | .int j => at_ xs j
      | _ => none
    | none => match dicAt st (.ref r) with
      | some kvs => if isKey k = true then look kvs k else none
      | none => none
  | _, _ => none

def slop (a : D) (lo hi : Option Int) (st : Sto) : Option (D × Sto) :=
  match a with
  | .tup xs => some (.tup (cut xs lo hi), st)
  | .str s => some (.str (cut s lo hi), st)
  | .ref r => match lstAt st (.ref r) with
    | some xs => some (.ref st.length, st ++ [.lst (cut xs lo hi)])
    | none => none
  | _ => none

/-- a[i] = v -/
def setix (a i v : D) (st : Sto) : Option Sto :=
  match a with
  | .ref r => match st[r]? with
    | some (.lst xs) => match i with
      | .int k => match ix_ xs.length k with
        | some j => some (st.set r (.lst (xs.set j v)))
        | none => none
      | _ => none
    | some (.dic kvs) => if isKey i = true ∧ kvs.length < sizeLine then some (st.set r (.dic (put kvs i v))) else none
    | _ => none
  | _ => none

inductive Ty | int | bool | str | tuple | list | dict
  deriving DecidableEq
def isTy (st : Sto) (t : Ty) : D → Option Bool
  | .non => some false
  | .bl _ => some (decide (t = .int ∨ t = .bool))
  | .int _ => some (decide (t = .int))
  | .str _ => some (decide (t = .str))
  | .tup _ => some (decide (t = .tuple))
  | .ref r => match st[r]? with
    | some (.lst _) => some (decide (t = .list))
    | some (.ro _) => some (decide (t = .list))
    | some (.dic _) => some (decide (t = .dict))
    | some (.rod _) => some (decide (t = .dict))
    | _ => none

/-! ### sorted -/
def intsOf : List D → Option (List Int)
  | [] => some []
  | .int i :: r => (intsOf r).map (i :: ·)
  | _ => none
def strsOf : List D → Option (List (List Nat))
  | [] => some []
  | .str i :: r => (strsOf r).map (i :: ·)
  | _ => none
def sortI (xs : List Int) : List Int := xs.mergeSort (fun a b => decide (a ≤ b))
def sortS (xs : List (List Nat)) : List (List Nat) := xs.mergeSort (fun a b => decide (¬ b < a))
mutual
/-- the two can be compared, place by place -/
def D.alk : D → D → Bool
  | .non, .non => true
  | .bl _, .bl _ => true
  | .int _, .int _ => true
  | .str _, .str _ => true
  | .tup xs, .tup ys => D.alks xs ys
  | _, _ => false
def D.alks : List D → List D → Bool
  | x :: xs, y :: ys => D.alk x y && D.alks xs ys
  | [], _ => true
  | _ :: _, [] => true
end
mutual
def D.lt : D → D → Bool
  | .bl a, .bl b => !a && b
  | .int a, .int b => decide (a < b)
  | .str a, .str b => decide (a < b)
  | .tup xs, .tup ys => D.lts xs ys
  | _, _ => false
def D.lts : List D → List D → Bool
  | [], _ :: _ => true
  | x :: xs, y :: ys => if x = y then D.lts xs ys else D.lt x y
  | _, [] => false
end
def sortD (xs : List D) : List D := xs.mergeSort (fun a b => !D.lt b a)
def D.isT1 : D → Bool
  | .tup (_ :: _) => true
  | _ => false
def D.noTN : D → Bool
  | .tup _ => false
  | .non => false
  | _ => true
/-- these can be sorted -/
def sortOk (xs : List D) : Bool := D.pures xs && decide (D.deps xs ≤ 100) && (xs.all fun a => xs.all fun b => D.alk a b) && (xs.all D.isT1 || xs.all D.noTN) && decide (xs.length < sizeLine)
/-- these can be summed -/
def sumOk (ns : List Int) : Bool := decide (ns.length < 2 ^ 20) && ns.all fun n => decide (n.natAbs < 2 ^ 40)

inductive Blt | len | int | abs | max | min | list | tuple | dict | sorted | sum | str | sset | sitems | trng
  deriving DecidableEq
/-- pairs of a list of pairs -/
def pairsOf : List D → Option (List (D × D))
  | [] => some []
  | .tup [k, v] :: r => (pairsOf r).map ((k, v) :: ·)
  | _ => none
def maxI : Int → List Int → Int
  | m, [] => m
  | m, x :: r => maxI (if x > m then x else m) r
def minI : Int → List Int → Int
  | m, [] => m
  | m, x :: r => minI (if x < m then x else m) r
/-- each once -/
def insL {α : Type} [DecidableEq α] (L : List α) (x : α) : List α := if x ∈ L then L else x :: L
def setL {α : Type} [DecidableEq α] (xs : List α) : List α := xs.foldl insL []
def strInt (i : Int) : List Nat := (toString i).toList.map Char.toNat

def blt (b : Blt) (as : List D) (st : Sto) : Option (D × Sto) :=
  match b, as with
  | .len, [d] => match d with
    | .str s => some (.int s.length, st)
    | .tup xs => some (.int xs.length, st)
    | d => match lstAt st d with
      | some xs => some (.int xs.length, st)
      | none => match d with
        | .ref r => match st[r]? with
          | some (.dic kvs) => some (.int kvs.length, st)
          | _ => none
        | _ => none
  | .int, [.int i] => some (.int i, st)
  | .int, [.bl k] => some (.int (if k then 1 else 0), st)
  | .abs, [.int i] => some (.int (if i < 0 then -i else i), st)
  | .max, [.int i, .int j] => some (.int (if j > i then j else i), st)
  | .min, [.int i, .int j] => some (.int (if j < i then j else i), st)
  | .max, [.ref r] => match lstAt st (.ref r) with
    | some xs => match intsOf xs with
      | some (x :: r) => some (.int (maxI x r), st)
      | _ => none
    | none => none
  | .min, [.ref r] => match lstAt st (.ref r) with
    | some xs => match intsOf xs with
      | some (x :: r) => some (.int (minI x r), st)
      | _ => none
    | none => none
  | .sum, [.ref r] => match lstAt st (.ref r) with
    | some xs => match intsOf xs with
      | some ns => some (.int ns.sum, st)
      | _ => none
    | none => none
  | .list, [d] => match seqAt st d with
    | some xs => some (.ref st.length, st ++ [.lst xs])
    | none => match dicAt st d with
      | some kvs => some (.ref st.length, st ++ [.lst (kvs.map (·.1))])
      | none => none
  | .tuple, [d] => match seqAt st d with
    | some xs => some (.tup xs, st)
    | none => none
  | .dict, [d] => match dicAt st d with
    | some kvs => some (.ref st.length, st ++ [.dic kvs])
    | none => match lstAt st d with
      | some xs => match pairsOf xs with
        | some ps => if ps.all (fun p => isKey p.1) = true then some (.ref st.length, st ++ [.dic (merge [] ps)]) else none
        | none => none
      | none => match d with
        | .tup xs => match pairsOf xs with
          | some ps => if ps.all (fun p => isKey p.1) = true then some (.ref st.length, st ++ [.dic (merge [] ps)]) else none
          | none => none
        | _ => none
  | .sorted, [d] => match lstAt st d with
    | some xs => match intsOf xs with
      | some ns => if ns.length < 64 then some (.ref st.length, st ++ [.lst ((sortI ns).map .int)]) else none
      | none => match strsOf xs with
        | some ns => if ns.length < 64 then some (.ref st.length, st ++ [.lst ((sortS ns).map .str)]) else none
        | none => if sortOk xs = true then some (.ref st.length, st ++ [.lst (sortD xs)]) else none
    | none => match dicAt st d with
      | some kvs => match strsOf (kvs.map (·.1)) with
        | some ns => if ns.length < 64 then some (.ref st.length, st ++ [.lst ((sortS ns).map .str)]) else none
        | none => match intsOf (kvs.map (·.1)) with
          | some ns => if ns.length < 64 then some (.ref st.length, st ++ [.lst ((sortI ns).map .int)]) else none
          | none => none
      | none => none
  | .sset, [d] => match seqAt st d with
    | some xs => match strsOf xs with
      | some ns => if ns.length < 64 then some (.ref st.length, st ++ [.lst ((sortS (setL ns)).map .str)]) else none
      | none => match intsOf xs with
        | some ns => if ns.length < 64 then some (.ref st.length, st ++ [.lst ((sortI (setL ns)).map .int)]) else none
        | none => none
    | none => none
  | .trng, [.int n] => if n < 16777216 ∧ -16777216 < n then some (.tup ((List.range n.toNat).map fun k => .int (k : Nat)), st) else none
  | .sitems, [d] => match dicAt st d with
    | some kvs => if sortOk (kvs.map fun p => .tup [p.1, p.2]) = true then some (.ref st.length, st ++ [.lst (sortD (kvs.map fun p => .tup [p.1, p.2]))]) else none
    | none => none
  | .str, [.int i] => if i.natAbs.log2 < 1920 ∧ (strInt i).length ≤ sizeLine then some (.str (strInt i), st) else none
  | _, _ => none

inductive Mth | append | extend | pop | popAt | get1 | get2
  deriving DecidableEq
/-- the receiver is what the method wants -/
def mty (m : Mth) (st : Sto) (d : D) : Bool :=
  match m with
  | .append | .extend | .pop | .popAt => (lstAt st d).isSome
  | .get1 | .get2 => (dicAt st d).isSome
def mth (m : Mth) (o : D) (as : List D) (st : Sto) : Option (D × Sto) :=
  match o with
  | .ref r => match m with
    | .append => match st[r]?, as with
      | some (.lst xs), [d] => if xs.length < sizeLine then some (.non, st.set r (.lst (xs ++ [d]))) else none
      | _, _ => none
    | .extend => match st[r]?, as with
      | some (.lst xs), [d] => match d with
        | .ref q => match st[q]? with
          | some (.lst ys) => if xs.length + ys.length ≤ sizeLine then some (.non, st.set r (.lst (xs ++ ys))) else none
          | _ => none
        | _ => none
      | _, _ => none
    | .pop => match st[r]?, as with
      | some (.lst xs), [] => match xs[xs.length - 1]? with
        | some d => some (d, st.set r (.lst xs.dropLast))
        | none => none
      | _, _ => none
    | .popAt => match st[r]?, as with
      | some (.lst xs), [d] => match d with
        | .int i => match ix_ xs.length i with
          | some j => if -(2 ^ 63) ≤ i ∧ i < 2 ^ 63 then (xs[j]?).map fun d => (d, st.set r (.lst (xs.eraseIdx j))) else none
          | none => none
        | _ => none
      | _, _ => none
    | .get1 => match dicAt st (.ref r), as with
      | some kvs, [k] => if isKey k = true then some ((look kvs k).getD .non, st) else none
      | _, _ => none
    | .get2 => match dicAt st (.ref r), as with
      | some kvs, [k, d] => if isKey k = true then some ((look kvs k).getD d, st) else none
      | _, _ => none
  | _ => none

/-! ### the language -/
/-- who asks a generator expression -/
inductive GK | all | any | tup | srt | sum
  deriving DecidableEq
mutual
inductive E where
  | var (i : Nat)
  | lit (d : D)
  | glo (j : Nat)
  | tup (es : List E)
  | lst (es : List E)
  | dic (ps : Ps)
  | bin (o : Bop) (a b : E)
  | neg (a : E)
  | not (a : E)
  | cmp (o : Cop) (a b : E)
  | chn (o1 o2 : Cop) (a b c : E)
  | and (a b : E)
  | or (a b : E)
  | ite (c : Ts) (a b : E)
  | idx (a i : E)
  | sl (a : E) (lo hi : OE)
  | rev (a : E)
  | call (f : Nat) (es : List E)
  | blt (b : Blt) (es : List E)
  | mth (m : Mth) (o : E) (es : List E)
  | isi (a : E) (t : Ty)
  | lc (vs : List Nat) (elt : E) (tg : Tg) (it : It) (c : OT)
  | lock (i : Nat) (e : E)
  | lc2 (vs vs1 : List Nat) (elt : E) (tg : Tg) (it : It) (c : OT) (tg1 : Tg) (it1 : It) (c1 : OT)
  /-- what is made of a generator expression -/
  | gen (k : GK) (vs : List Nat) (elt : E) (tg : Tg) (it : It) (c : OT)
inductive OE where
  | no | yes (e : E)
inductive OT where
  | no | yes (c : Ts)
/-- tests -/
inductive Ts where
  | tru (e : E)
  | not (c : Ts)
  | and (a b : Ts)
  | or (a b : Ts)
  | cmp (o : Cop) (a b : E)
  | chn (o1 o2 : Cop) (a b c : E)
  | ite (c a b : Ts)
inductive Ps where
  | nil | cons (k v : E) (r : Ps)
inductive It where
  | rng (es : List E)
  | any (e : E)
  | enm (e : E)
  | zip (a b : E)
  | vals (e : E)
  | items (e : E)
inductive Tg where
  | nm (i : Nat)
  | tp (ts : List Tg)
  | ix (o i : E)
end
inductive S where
  | asg (t : Tg) (e : E)
  | aug (i : Nat) (o : Bop) (e : E)
  | exp (e : E)
  | ret (e : E)
  | retN
  | ifs (c : Ts) (a b : List S)
  | whl (c : Ts) (b : List S)
  | frr (t : Tg) (it : It) (b : List S)
  | lock (i : Nat) (s : S)
  | brk | cnt | pas

/-- the dict that the i-th name holds, where it may still be written -/
def dicIn (ρ : En) (i : Nat) (st : Sto) : Option (Nat × List (D × D)) :=
  match ρ[i]? with
  | some (some (.ref r)) => match st[r]? with
    | some (.dic kvs) => some (r, kvs)
    | _ => none
  | _ => none
/-- unlocked again -/
def unlock (r : Nat) (kvs : List (D × D)) (st : Sto) : Option Sto :=
  match st[r]? with
  | some (.rod ks) => if ks = kvs then some (st.set r (.dic kvs)) else none
  | _ => none
/-- what is walked: the items, one by one; the list's reference, whose content must stay -/
structure Wk where
  items : List D
  own : List (Nat × O)
/-- what is walked stands as it stood -/
def Wk.ok (w : Wk) (st : Sto) : Prop := ∀ p ∈ w.own, st[p.1]? = some p.2
open Classical in
noncomputable instance (w : Wk) (st : Sto) : Decidable (w.ok st) := propDecidable _

/-- both are tuples, or both are none -/
def sameKind : D → D → Bool
  | .tup _, .tup _ => true
  | .ref _, .ref _ => true
  | _, _ => false
def ownOf (st : Sto) : D → List (Nat × O)
  | .ref r => match st[r]? with
    | some o => [(r, o)]
    | none => []
  | _ => []
/-- what is walked, of a value; a dict's keys, while it is locked -/
def walkOf (st : Sto) (d : D) : Option Wk :=
  match d with
  | .str s => some ⟨s.map fun c => .str [c], []⟩
  | .tup xs => some ⟨xs, []⟩
  | .ref r => match st[r]? with
    | some (.lst xs) => some ⟨xs, [(r, .lst xs)]⟩
    | some (.ro xs) => some ⟨xs, [(r, .ro xs)]⟩
    | some (.rod kvs) => some ⟨kvs.map (·.1), [(r, .rod kvs)]⟩
    | _ => none
  | _ => none
def walkVals (st : Sto) (d : D) : Option Wk :=
  match d with
  | .ref r => match st[r]? with
    | some (.rod kvs) => some ⟨kvs.map (·.2), [(r, .rod kvs)]⟩
    | _ => none
  | _ => none
def walkItems (st : Sto) (d : D) : Option Wk :=
  match d with
  | .ref r => match st[r]? with
    | some (.rod kvs) => some ⟨kvs.map fun p => .tup [p.1, p.2], [(r, .rod kvs)]⟩
    | _ => none
  | _ => none

def rangeOf (lo hi : Int) : List D := (List.range (hi - lo).toNat).map fun k => .int (lo + (k : Nat))
def enumOf (xs : List D) : List D := (List.range xs.length).zipWith (fun k x => .tup [.int (k : Nat), x]) xs
def walkRng : List D → Option Wk
  | [.int n] => if -(2 ^ 62) ≤ n ∧ n < 2 ^ 62 then some ⟨rangeOf 0 n, []⟩ else none
  | [.int a, .int b] => if -(2 ^ 62) ≤ a ∧ a < 2 ^ 62 ∧ -(2 ^ 62) ≤ b ∧ b < 2 ^ 62 then some ⟨rangeOf a b, []⟩ else none
  | _ => none

/-- a call: the def's number, its arguments, the store -/
abbrev Cl := Nat → List D → Sto → Option (D × Sto)
/-- how a statement ends -/
inductive Fl | nx | rt (d : D) | bk | ct

def wipe (ρ : En) : List Nat → En
  | [] => ρ
  | v :: vs => (wipe ρ vs).set v none

section
variable (G : List D) (C : Cl)
/-- a target takes a value; tuples of targets take tuples and lists -/
abbrev AsgK := D → En → Sto → Option (En × Sto)

noncomputable section
/-- the loop over what is walked: f tells each turn -/
def loopC (w : Wk) (f : D → Sto → Option Sto) : List D → Sto → Option Sto
  | [], st => if w.ok st then some st else none
  | d :: ds, st => if w.ok st then match f d st with
    | some st' => loopC w f ds st'
    | none => none
    else none

/-- a generator expression is asked till an item's truth is b; an item is told, or none passes -/
def loopQ (b : Bool) (w : Wk) (f : D → Sto → Option (Option D × Sto)) : List D → Sto → Option (Bool × Sto)
  | [], st => if w.ok st then some (!b, st) else none
  | d :: ds, st => if w.ok st then match f d st with
    | some (some y, st') => match truth st' y with
      | some t => if t = b then some (b, st') else loopQ b w f ds st'
      | none => none
    | some (none, st') => loopQ b w f ds st'
    | none => none
    else none
/-- .. till its end; acc: what came -/
def loopT (w : Wk) (f : D → Sto → Option (Option D × Sto)) : List D → List D → Sto → Option (List D × Sto)
  | [], acc, st => if w.ok st then some (acc, st) else none
  | d :: ds, acc, st => if w.ok st then match f d st with
    | some (some y, st') => loopT w f ds (acc ++ [y]) st'
    | some (none, st') => loopT w f ds acc st'
    | none => none
    else none
def genK (k : GK) (w : Wk) (f : D → Sto → Option (Option D × Sto)) (st : Sto) : Option (D × Sto) :=
  match k with
  | .all => (loopQ false w f w.items st).map fun p => (.bl p.1, p.2)
  | .any => (loopQ true w f w.items st).map fun p => (.bl p.1, p.2)
  | .tup => match loopT w f w.items [] st with
    | some (ys, s2) => if ys.length < sizeLine then some (.tup ys, s2) else none
    | none => none
  | .srt => match loopT w f w.items [] st with
    | some (ys, s2) => if sortOk ys = true then some (.ref s2.length, s2 ++ [.lst (sortD ys)]) else none
    | none => none
  | .sum => match loopT w f w.items [] st with
    | some (ys, s2) => match intsOf ys with
      | some ns => if sumOk ns = true then some (.int ns.sum, s2) else none
      | none => none
    | none => none

/-- an element goes onto the list at r -/
def push (r : Nat) (d : D) (st : Sto) : Option Sto :=
  match st[r]? with
  | some (.lst xs) => if xs.length < sizeLine then some (st.set r (.lst (xs ++ [d]))) else none
  | _ => none

mutual
def ev : E → En → Sto → Option (D × Sto)
  | .var i, ρ, st => match ρ[i]? with
    | some (some d) => some (d, st)
    | _ => none
  | .lit d, _, st => some (d, st)
  | .glo j, _, st => (G[j]?).map (·, st)
  | .tup es, ρ, st => match evs es ρ st with
    | some (ds, st') => some (.tup ds, st')
    | none => none
  | .lst es, ρ, st => match evs es ρ st with
    | some (ds, st') => some (.ref st'.length, st' ++ [.lst ds])
    | none => none
  | .dic ps, ρ, st => match evps ps ρ (st ++ [.dic []]) with
    | some (ps, st') => match st'[st.length]? with
      | some (.dic []) => if ps.all (fun p => isKey p.1) = true ∧ ps.length ≤ 15 then some (.ref st.length, st'.set st.length (.dic (merge [] ps))) else none
      | _ => none
    | none => none
  | .bin o a b, ρ, st => match ev a ρ st with
    | some (x, s1) => match ev b ρ s1 with
      | some (y, s2) => binop o x y s2
      | none => none
    | none => none
  | .neg a, ρ, st => match ev a ρ st with
    | some (.int i, s1) => some (.int (-i), s1)
    | _ => none
  | .not a, ρ, st => match ev a ρ st with
    | some (x, s1) => (truth s1 x).map fun t => (.bl (!t), s1)
    | none => none
  | .cmp o a b, ρ, st => match ev a ρ st with
    | some (x, s1) => match ev b ρ s1 with
      | some (y, s2) => (cmpop o x y s2).map fun t => (.bl t, s2)
      | none => none
    | none => none
  | .chn o1 o2 a b c, ρ, st => match ev a ρ st with
    | some (x, s1) => match ev b ρ s1 with
      | some (y, s2) => match cmpop o1 x y s2 with
        | some true => match ev c ρ s2 with
          | some (z, s3) => (cmpop o2 y z s3).map fun t => (.bl t, s3)
          | none => none
        | some false => some (.bl false, s2)
        | none => none
      | none => none
    | none => none
  | .and a b, ρ, st => match ev a ρ st with
    | some (x, s1) => match truth s1 x with
      | some true => ev b ρ s1
      | some false => some (x, s1)
      | none => none
    | none => none
  | .or a b, ρ, st => match ev a ρ st with
    | some (x, s1) => match truth s1 x with
      | some true => some (x, s1)
      | some false => ev b ρ s1
      | none => none
    | none => none
  | .ite c a b, ρ, st => match evT c ρ st with
    | some (true, s1) => ev a ρ s1
    | some (false, s1) => ev b ρ s1
    | none => none
  | .idx a i, ρ, st => match ev a ρ st with
    | some (x, s1) => match ev i ρ s1 with
      | some (y, s2) => (idxop x y s2).map (·, s2)
      | none => none
    | none => none
  | .sl a lo hi, ρ, st => match ev a ρ st with
    | some (x, s1) => match evO lo ρ s1 with
      | some (l, s2) => match evO hi ρ s2 with
        | some (h, s3) => slop x l h s3
        | none => none
      | none => none
    | none => none
  | .rev a, ρ, st => match ev a ρ st with
    | some (x, s1) => match lstAt s1 x with
      | some xs => some (.ref s1.length, s1 ++ [.lst xs.reverse])
      | none => none
    | none => none
  | .call f es, ρ, st => match evs es ρ st with
    | some (ds, s1) => C f ds s1
    | none => none
  | .blt b es, ρ, st => match evs es ρ st with
    | some (ds, s1) => blt b ds s1
    | none => none
  | .mth m o es, ρ, st => match ev o ρ st with
    | some (x, s1) => if mty m s1 x = true then match evs es ρ s1 with
        | some (ds, s2) => mth m x ds s2
        | none => none
      else none
    | none => none
  | .isi a t, ρ, st => match ev a ρ st with
    | some (x, s1) => (isTy s1 t x).map fun b => (.bl b, s1)
    | none => none
  | .lc vs elt tg it c, ρ, st => match evI it ρ st with
    | some (w, s1) => match loopC w (fun d s => match asg tg d (wipe ρ vs) s with
        | some (ρ', s') => match evC c ρ' s' with
          | some (true, s'') => match ev elt ρ' s'' with
            | some (y, s3) => push s1.length y s3
            | none => none
          | some (false, s'') => some s''
          | none => none
        | none => none) w.items (s1 ++ [.lst []]) with
      | some s' => some (.ref s1.length, s')
      | none => none
    | none => none
  | .lock i e, ρ, st => match dicIn ρ i st with
    | some (r, kvs) => match ev e ρ (st.set r (.rod kvs)) with
      | some (d, s1) => (unlock r kvs s1).map (d, ·)
      | none => none
    | none => ev e ρ st
  | .lc2 vs vs1 elt tg it c tg1 it1 c1, ρ, st => match evI it ρ st with
    | some (w, s1) => match loopC w (fun d s => match asg tg d (wipe ρ vs) s with
        | some (ρ', s') => match evC c ρ' s' with
          | some (true, s'') => match evI it1 ρ' s'' with
            | some (w1, s3) => loopC w1 (fun d1 s4 => match asg tg1 d1 (wipe ρ' vs1) s4 with
                | some (ρ1, s5) => match evC c1 ρ1 s5 with
                  | some (true, s6) => match ev elt ρ1 s6 with
                    | some (y, s7) => push s1.length y s7
                    | none => none
                  | some (false, s6) => some s6
                  | none => none
                | none => none) w1.items s3
            | none => none
          | some (false, s'') => some s''
          | none => none
        | none => none) w.items (s1 ++ [.lst []]) with
      | some s' => some (.ref s1.length, s')
      | none => none
    | none => none
  | .gen k vs elt tg it c, ρ, st => match evI it ρ st with
    | some (w, s1) => genK k w (fun d s => match asg tg d (wipe ρ vs) s with
        | some (ρ', s') => match evC c ρ' s' with
          | some (true, s'') => match ev elt ρ' s'' with
            | some (y, s3) => some (some y, s3)
            | none => none
          | some (false, s'') => some (none, s'')
          | none => none
        | none => none) s1
    | none => none
/-- a test -/
def evT : Ts → En → Sto → Option (Bool × Sto)
  | .not a, ρ, st => match evT a ρ st with
    | some (t, s1) => some (!t, s1)
    | none => none
  | .and a b, ρ, st => match evT a ρ st with
    | some (true, s1) => evT b ρ s1
    | some (false, s1) => some (false, s1)
    | none => none
  | .or a b, ρ, st => match evT a ρ st with
    | some (true, s1) => some (true, s1)
    | some (false, s1) => evT b ρ s1
    | none => none
  | .cmp o a b, ρ, st => match ev a ρ st with
    | some (x, s1) => match ev b ρ s1 with
      | some (y, s2) => (cmpop o x y s2).map (·, s2)
      | none => none
    | none => none
  | .chn o1 o2 a b c, ρ, st => match ev a ρ st with
    | some (x, s1) => match ev b ρ s1 with
      | some (y, s2) => match cmpop o1 x y s2 with
        | some true => match ev c ρ s2 with
          | some (z, s3) => (cmpop o2 y z s3).map (·, s3)
          | none => none
        | some false => some (false, s2)
        | none => none
      | none => none
    | none => none
  | .ite c a b, ρ, st => match evT c ρ st with
    | some (true, s1) => evT a ρ s1
    | some (false, s1) => evT b ρ s1
    | none => none
  | .tru e, ρ, st => match ev e ρ st with
    | some (x, s1) => (truth s1 x).map (·, s1)
    | none => none
def evC : OT → En → Sto → Option (Bool × Sto)
  | .no, _, st => some (true, st)
  | .yes e, ρ, st => evT e ρ st
def evO : OE → En → Sto → Option (Option Int × Sto)
  | .no, _, st => some (none, st)
  | .yes e, ρ, st => match ev e ρ st with
    | some (.int i, s1) => some (some i, s1)
    | _ => none
def evs : List E → En → Sto → Option (List D × Sto)
  | [], _, st => some ([], st)
  | e :: es, ρ, st => match ev e ρ st with
    | some (d, s1) => match evs es ρ s1 with
      | some (ds, s2) => some (d :: ds, s2)
      | none => none
    | none => none
def evps : Ps → En → Sto → Option (List (D × D) × Sto)
  | .nil, _, st => some ([], st)
  | .cons k v r, ρ, st => match ev k ρ st with
    | some (a, s1) => match ev v ρ s1 with
      | some (b, s2) => match evps r ρ s2 with
        | some (ps, s3) => some ((a, b) :: ps, s3)
        | none => none
      | none => none
    | none => none
def evI : It → En → Sto → Option (Wk × Sto)
  | .rng es, ρ, st => match evs es ρ st with
    | some (ds, s1) => (walkRng ds).map (·, s1)
    | none => none
  | .any e, ρ, st => match ev e ρ st with
    | some (d, s1) => (walkOf s1 d).map (·, s1)
    | none => none
  | .vals e, ρ, st => match ev e ρ st with
    | some (d, s1) => (walkVals s1 d).map (·, s1)
    | none => none
  | .items e, ρ, st => match ev e ρ st with
    | some (d, s1) => (walkItems s1 d).map (·, s1)
    | none => none
  | .enm e, ρ, st => match ev e ρ st with
    | some (d, s1) => match seqAt s1 d with
      | some xs => some (⟨enumOf xs, ownOf s1 d⟩, s1)
      | none => none
    | none => none
  | .zip a b, ρ, st => match ev a ρ st with
    | some (x, s1) => match ev b ρ s1 with
      | some (y, s2) => match seqAt s2 x, seqAt s2 y with
        | some xs, some ys => if sameKind x y = true then some (⟨List.zipWith (fun p q => .tup [p, q]) xs ys, ownOf s2 x ++ ownOf s2 y⟩, s2) else none
        | _, _ => none
      | none => none
    | none => none
def asg : Tg → D → En → Sto → Option (En × Sto)
  | .nm i, d, ρ, st => some (ρ.set i (some d), st)
  | .tp ts, d, ρ, st => match seqAt st d with
    | some xs => if xs.length = ts.length then asgs ts xs ρ st else none
    | _ => none
  | .ix o i, d, ρ, st => match ev o ρ st with
    | some (x, s1) => match ev i ρ s1 with
      | some (y, s2) => (setix x y d s2).map (ρ, ·)
      | none => none
    | none => none
def asgs : List Tg → List D → En → Sto → Option (En × Sto)
  | [], _, ρ, st => some (ρ, st)
  | t :: ts, ds, ρ, st => match ds with
    | d :: ds => match asg t d ρ st with
      | some (ρ', s') => asgs ts ds ρ' s'
      | none => none
    | [] => none
end

abbrev Rs := Fl × En × Sto
/-- n turns of a while at most -/
def whlN (c : En → Sto → Option (Bool × Sto)) (b : En → Sto → Option Rs) : Nat → En → Sto → Option Rs
  | 0, _, _ => none
  | n + 1, ρ, st => match c ρ st with
    | some (true, s1) => match b ρ s1 with
      | some (.nx, ρ', s2) => whlN c b n ρ' s2
      | some (.ct, ρ', s2) => whlN c b n ρ' s2
      | some (.bk, ρ', s2) => some (.nx, ρ', s2)
      | some (.rt d, ρ', s2) => some (.rt d, ρ', s2)
      | none => none
    | some (false, s1) => some (.nx, ρ, s1)
    | none => none
open Classical in
/-- a while: what some number of turns tells -/
def whl (c : En → Sto → Option (Bool × Sto)) (b : En → Sto → Option Rs) (ρ : En) (st : Sto) : Option Rs :=
  if h : ∃ r n, whlN c b n ρ st = some r then some h.choose else none

def loopF (w : Wk) (f : D → En → Sto → Option Rs) : List D → En → Sto → Option Rs
  | [], ρ, st => if w.ok st then some (.nx, ρ, st) else none
  | d :: ds, ρ, st => if w.ok st then match f d ρ st with
    | some (.nx, ρ', s2) => loopF w f ds ρ' s2
    | some (.ct, ρ', s2) => loopF w f ds ρ' s2
    | some (.bk, ρ', s2) => some (.nx, ρ', s2)
    | some (.rt d, ρ', s2) => some (.rt d, ρ', s2)
    | none => none
    else none

mutual
def ex : S → En → Sto → Option Rs
  | .asg t e, ρ, st => match ev G C e ρ st with
    | some (d, s1) => match asg G C t d ρ s1 with
      | some (ρ', s2) => some (.nx, ρ', s2)
      | none => none
    | none => none
  | .aug i o e, ρ, st => match ρ[i]? with
    | some (some x) => match ev G C e ρ st with
      | some (y, s1) => (augop o x y).map fun z => (.nx, ρ.set i (some z), s1)
      | none => none
    | _ => none
  | .exp e, ρ, st => match ev G C e ρ st with
    | some (_, s1) => some (.nx, ρ, s1)
    | none => none
  | .ret e, ρ, st => match ev G C e ρ st with
    | some (d, s1) => some (.rt d, ρ, s1)
    | none => none
  | .retN, ρ, st => some (.rt .non, ρ, st)
  | .ifs c a b, ρ, st => match evT G C c ρ st with
    | some (true, s1) => exs a ρ s1
    | some (false, s1) => exs b ρ s1
    | none => none
  | .whl c b, ρ, st => whl (evT G C c) (exs b) ρ st
  | .frr t it b, ρ, st => match evI G C it ρ st with
    | some (w, s1) => loopF w (fun d ρ' s' => match asg G C t d ρ' s' with
        | some (ρ'', s'') => exs b ρ'' s''
        | none => none) w.items ρ s1
    | none => none
  | .lock i s, ρ, st => match dicIn ρ i st with
    | some (r, kvs) => match ex s ρ (st.set r (.rod kvs)) with
      | some (f, ρ', s1) => (unlock r kvs s1).map fun s2 => (f, ρ', s2)
      | none => none
    | none => ex s ρ st
  | .brk, ρ, st => some (.bk, ρ, st)
  | .cnt, ρ, st => some (.ct, ρ, st)
  | .pas, ρ, st => some (.nx, ρ, st)
def exs : List S → En → Sto → Option Rs
  | [], ρ, st => some (.nx, ρ, st)
  | s :: r, ρ, st => match ex s ρ st with
    | some (.nx, ρ', s') => exs r ρ' s'
    | some (f, ρ', s') => some (f, ρ', s')
    | none => none
end
end
end

/-! ### calls -/
structure Fn where
  name : Str
  np : Nat
  nl : Nat
  body : List S

def O.bel (n : Nat) : O → Bool
  | .lst xs => D.bels n xs
  | .ro xs => D.bels n xs
  | .dic kvs => kvs.all fun p => D.bel n p.2
  | .rod kvs => kvs.all fun p => D.bel n p.2
  | .ins _ fs => fs.all fun p => D.bel n p.2

/-- what stood before a call is not led to what is new -/
def Tidy (st st' : Sto) : Prop := st.length ≤ st'.length ∧ ∀ i o, i < st.length → st'[i]? = some o → st[i]? = some o ∨ o.bel st.length = true
open Classical in
/-- behind a call what is new and not handed back is forgotten -/
noncomputable def gc (st : Sto) (d : D) (st' : Sto) : D × Sto :=
  if Tidy st st' then
    if d.bel st.length = true then (d, st'.take st.length)
    else match d with
      | .ref r => match st'[r]? with
        | some o => if o.bel st.length = true then (.ref st.length, st'.take st.length ++ [o]) else (d, st')
        | none => (d, st')
      | _ => (d, st')
  else (d, st')

noncomputable def call (G : List D) (T : List Fn) : Nat → Cl
  | 0, _, _, _ => none
  | k + 1, f, as, st => match T[f]? with
    | some fn => if as.length = fn.np then
        match exs G (call G T k) fn.body (as.map some ++ List.replicate (fn.nl - fn.np) none) st with
        | some (.rt d, _, st') => some (gc st d st')
        | some (.nx, _, st') => some (gc st .non st')
        | _ => none
      else none
    | none => none

end CL

/-! CT: tuples that are known to have no dict of their own. -/
namespace CL
open PySem PySem.Spec PyProof.Rows L2
abbrev tupO (its : Array Value) : Obj := { cls := .type "tuple", data := .seq its }
/-- a tuple without a dict of its own -/
def SqN (K : PySem.W.Frag) (H : Hp) (a : Addr) (xs : List V) : Prop :=
  (∃ o : Obj, o.dict = none ∧ H a = some (.frz o (.tup xs))) ∨
    ∃ (o : Obj) (its : Array Value) (n : Nat), o.dict = none ∧ K.lookup a = some o ∧ o.cls = .type "tuple" ∧ o.data = .seq its n ∧ its.size ≤ sizeLine ∧ Vals xs its.toList
theorem SqN.sq {K : PySem.W.Frag} {H : Hp} {a : Addr} {xs : List V} (h : SqN K H a xs) : SqT K H a xs := by
  rcases h with ⟨o, _, h⟩ | ⟨o, its, n, _, h⟩
  · exact .inl (.inr ⟨o, h⟩)
  · exact .inr ⟨o, its, n, h⟩
/-- what a new one is -/
abbrev newT (Q : VK) (H : Hp) (xs : List V) : Prop := ∀ (p : Addr) (o : Obj), o.dict = none → H p = none → Q (.ref p) (upd H p (.frz o (.tup xs)))
section
variable {X : Cx} {pins : List (Addr × Obj)} {σ : L2.St} {H : Hp} {s : Shared}
theorem laidN (I : Inv X pins σ H s) {xs : List V} {its : List Value} (r : Vals xs its) (hz : xs.length ≤ sizeLine) : Inv X pins σ (upd H s.heap.objs.size (.frz (tupO its.toArray) (.tup xs))) { s with heap := s.heap.push (tupO its.toArray) } :=
  I.laid (t' := s.toks) (o := .frz (tupO its.toArray) (.tup xs)) (fun b ob q => Heap.get?_push_of_some _ q) (Nat.le_refl _) ⟨Heap.get?_push_size _ rfl, hz, _, r, IsTup.new _ _⟩
theorem newN {Q : VK} (I : Inv X pins σ H s) {xs : List V} {its : List Value} (r : Vals xs its) (hz : xs.length ≤ sizeLine) (q : newT Q H xs) : EP X pins σ Q (.ref s.heap.objs.size) { s with heap := s.heap.push (tupO its.toArray) } :=
  ⟨.ref s.heap.objs.size, _, laidN I r hz, rfl, q _ (tupO its.toArray) rfl (I.hok.fresh (Nat.le_refl _))⟩
variable {es : List Expr} {t : TA} {pos : Pos}
theorem pe_tupN {x1} (h : PA X es t) : PE X (.Tuple es x1 pos) (fun σ H Q => t σ H fun xs H' => xs.length ≤ sizeLine ∧ newT Q H' xs) := by
  refine ⟨fun pins s σ H Q I q => ?_⟩
  exact wpAny_Tuple_spliced (thn (h.run pos pins s σ H _ I q) fun us s1 ⟨xs, H1, I1, r1, hz, q1⟩ => ⟨by rw [← r1.length]; exact hz, newN I1 r1 hz q1⟩)
/-- t + u -/
def rCatN (K : PySem.W.Frag) : R2 := fun x y H Q => ∃ a b xs ys, x = .ref a ∧ y = .ref b ∧ SqT K H a xs ∧ SqT K H b ys ∧ xs.length + ys.length ≤ sizeLine ∧ (xs = [] → Q (.ref b) H) ∧ (xs ≠ [] → ys = [] → Q (.ref a) H) ∧ (xs ≠ [] → ys ≠ [] → newT Q H (xs ++ ys))
theorem op_catN : OpR X (binaryOp .Add) (rCatN X.K) := by
  intro pins s σ H x y v u Q I rx ry h
  obtain ⟨a, b, xs, ys, rfl, rfl, ha, hb, hz, q0, q1, q2⟩ := h
  cases rx
  cases ry
  obtain ⟨its, r1, p1, _⟩ := I.tuple ha
  obtain ⟨its2, r2, p2, _⟩ := I.tuple hb
  by_cases hx : xs = []
  · subst hx
    cases r1
    exact cat_tup0 p1 p2 ⟨.ref b, H, I, rfl, q0 rfl⟩
  · refine HT.cat_tup p1 p2 (fun z => hx (r1.nil_iff.mp z)) (fun z => ⟨.ref a, H, I, rfl, q1 hx (r2.nil_iff.mp z)⟩) (fun z => ?_) (by rw [← r1.length, ← r2.length]; exact hz)
    exact newN I (r1.append r2) (by rw [List.length_append]; exact hz) (q2 hx fun w => z (r2.nil_iff.mpr w))
/-- t[lo:hi] -/
def rSlN (K : PySem.W.Frag) : V → Option Int → Option Int → Hp → VK → Prop := fun x lo hi H Q => ∃ a xs, x = .ref a ∧ SqT K H a xs ∧
  (HT.sIx xs.length 0 lo = 0 ∧ HT.sIx xs.length xs.length hi = xs.length → Q (.ref a) H) ∧ (¬ (HT.sIx xs.length 0 lo = 0 ∧ HT.sIx xs.length xs.length hi = xs.length) → newT Q H (cutV xs lo hi))
theorem sl_tupN : SlR X (rSlN X.K) := by
  intro pins s σ H x v vl vu lo hi sl Q I rx hs pl pu h
  obtain ⟨a, xs, rfl, hx, q1, q2⟩ := h
  cases rx
  obtain ⟨its, r, ht, hz⟩ := I.tuple hx
  have hlen : its.toArray.size = xs.length := by rw [List.size_toArray]; exact r.length.symm
  refine ⟨"tuple", _, PyProof.Rows.slot_tuple_getitem.lookup, ht.typeIs, ?_⟩
  by_cases hw : HT.sIx xs.length 0 lo = 0 ∧ HT.sIx xs.length xs.length hi = xs.length
  · exact getItem_tuple_whole ht hs pl pu (by rw [hlen]; exact hw) ⟨.ref a, H, I, rfl, q1 hw⟩
  · refine HT.getItem_tuple_cut ht hs pl pu (by rw [hlen]; exact hw) ?_ (by rw [hlen]; exact hz)
    rw [hlen]
    exact newN I ((r.drop (HT.sIx xs.length 0 lo)).take (HT.sIx xs.length xs.length hi - HT.sIx xs.length 0 lo)) (Nat.le_trans (cutV_length xs lo hi) hz) (q2 hw)
theorem call_tupleN : CallR X (.type "tuple") (fun xs H Q => ∃ p ys, xs = [.ref p] ∧ ((SqL X.K H p ys ∧ newT Q H ys) ∨ (SqT X.K H p ys ∧ Q (.ref p) H))) := by
  intro pins s σ H xs us Q I r h
  obtain ⟨p, ys, rfl, h⟩ := h
  obtain ⟨u, rfl, rx⟩ := vals1 r
  cases rx
  rcases h with ⟨hq, q⟩ | ⟨hq, q⟩
  · obtain ⟨its, r', pl, hz⟩ := I.list hq
    have hlen := r'.length
    refine call_tuple_list pl.isList (fun h' kp => ?_) (by simp only [List.size_toArray] <;> omega)
    have I1 : Inv X pins σ H { s with heap := h' } := I.kept (t' := s.toks) kp
    exact newN I1 r' hz q
  · obtain ⟨its, r', pl, hz⟩ := I.tuple hq
    exact call_tuple_same pl ⟨.ref p, H, I, rfl, q⟩
/-- t * k -/
def rRepN (K : PySem.W.Frag) : R2 := fun x y H Q => ∃ l k xs, x = .ref l ∧ y = .int k ∧ SqT K H l xs ∧ xs ≠ [] ∧ 2 ≤ k ∧ k ≤ 1000 ∧ xs.length ≤ 1000 ∧ newT Q H (List.replicate k.toNat xs).flatten
theorem op_repN : OpR X (binaryOp .Mult) (rRepN X.K) := by
  intro pins s σ H x y v u Q I rx ry h
  obtain ⟨l, k, xs, rfl, rfl, hT, hne, h1, h2, hz, q⟩ := h
  cases rx
  obtain ⟨t, rfl⟩ := ry
  obtain ⟨its, r, ⟨⟨cls, dd, data, sl⟩, ho, hc, n, hd⟩, hs⟩ := I.tuple hT
  simp only at hc hd
  subst hc hd
  have hle : its.length = xs.length := r.length.symm
  have hi : its.toArray.isEmpty = false := by
    cases its with
    | nil => exact absurd (List.eq_nil_of_length_eq_zero (by rw [← hle]; rfl)) hne
    | cons a b => rfl
  have hsz0 : its.toArray.size = xs.length := by rw [List.size_toArray, hle]
  have big : k.toNat * xs.length ≤ 1000 * 1000 := Nat.mul_le_mul (by omega) hz
  have hm : ((its.toArray.size : Nat) : Int) * k ≤ 1000000 := by
    rw [hsz0]
    have a1 : ((xs.length : Nat) : Int) * k ≤ 1000 * k := Int.mul_le_mul_of_nonneg_right (by omega) (by omega)
    omega
  have flen : ∀ {α : Type} (ys : List α), ys.length = xs.length → (List.replicate k.toNat ys).flatten.length ≤ sizeLine := fun ys e => by
    rw [PyProof.Rows.lm_len_rep_flat, e, sizeLine_eq]
    omega
  have c0 : (decide (k < -(2 ^ 63)) || decide (k ≥ 2 ^ 63)) = false := by rw [decide_eq_false (by omega), decide_eq_false (by omega)] <;> rfl
  have c1 : (its.toArray.isEmpty || k == 1) = false := by rw [hi, Bool.false_or]; exact beq_eq_false_iff_ne.mpr (by omega)
  have c2 : (decide (k ≤ 0) || its.toArray.isEmpty) = false := by rw [hi, Bool.or_false]; exact decide_eq_false (by omega)
  have c4 : Builtin.Tuple.tupleTooMany (((its.toArray.size : Nat) : Int) * k) = false := by
    unfold Builtin.Tuple.tupleTooMany
    rw [sizeLine_eq]
    exact decide_eq_false (by omega)
  refine wpAny_binaryOp_repeat_ref (T := "tuple") (U := "int") (by decide) ⟨_, ho, rfl⟩ (fun s' => typeIs_int s' k t) noFill_tuple_mul F.fills_int_mul F.slot_int_rmul repeat_tuple F.slot_int_index.lookup
    (call_meets F.slot_int_rmul (typeIs_int s k t) F.entry_int_rmul (F.args_int_rmul_2 _ _) (int_rmul_tuple k t l its.toArray n dd sl)
      ⟨ho, rfl, ⟨_, ho, rfl⟩, call_meets F.slot_tuple_mul ⟨_, ho, rfl⟩ F.entry_tuple_mul (F.args_tuple_mul_2 _ _) (tuple_mulW l its.toArray n dd sl k t c0 c1 c2 (by omega) c4 (by rw [size_rep, List.size_toArray]; exact flen its hle)) ⟨ho, ?_⟩⟩)
  rw [size_rep]
  exact newN I (r.rep k.toNat) (flen xs rfl) q
end
end CL

/-! CL1: how clean values and stores lie in the layer's heap. -/
namespace CL
open PySem PySem.Spec PyProof.Rows L2

/-! ### Paired lists -/
section
variable {α β : Type} {R R' : α → β → Prop}
theorem pr_get : ∀ {xs : List α} {ys : List β} {i : Nat} {y : β}, Paired R xs ys → ys[i]? = some y → ∃ x, xs[i]? = some x ∧ R x y
  | _, _, _, _, .nil, e => by simp at e
  | _, _, 0, _, .cons r _, e => by simp at e; subst e; exact ⟨_, rfl, r⟩
  | _, _, i + 1, y, .cons _ t, e => by
    obtain ⟨u, h1, h2⟩ := pr_get (i := i) (y := y) t (by simpa using e)
    exact ⟨u, by simpa using h1, h2⟩
theorem pr_get' : ∀ {xs : List α} {ys : List β} {i : Nat} {x : α}, Paired R xs ys → xs[i]? = some x → ∃ y, ys[i]? = some y ∧ R x y
  | _, _, _, _, .nil, e => by simp at e
  | _, _, 0, _, .cons r _, e => by simp at e; subst e; exact ⟨_, rfl, r⟩
  | _, _, i + 1, y, .cons _ t, e => by
    obtain ⟨u, h1, h2⟩ := pr_get' (i := i) (x := y) t (by simpa using e)
    exact ⟨u, by simpa using h1, h2⟩
theorem pr_append : ∀ {xs xs' : List α} {ys ys' : List β}, Paired R xs ys → Paired R xs' ys' → Paired R (xs ++ xs') (ys ++ ys')
  | _, _, _, _, .nil, s => s
  | _, _, _, _, .cons r t, s => .cons r (pr_append t s)
theorem pr_take : ∀ {xs : List α} {ys : List β} (n : Nat), Paired R xs ys → Paired R (xs.take n) (ys.take n)
  | _, _, 0, _ => by simp; exact .nil
  | _, _, _ + 1, .nil => by simp; exact .nil
  | _, _, n + 1, .cons r t => .cons r (pr_take n t)
theorem pr_drop : ∀ {xs : List α} {ys : List β} (n : Nat), Paired R xs ys → Paired R (xs.drop n) (ys.drop n)
  | _, _, 0, r => r
  | _, _, _ + 1, .nil => .nil
  | _, _, n + 1, .cons _ t => pr_drop n t
theorem pr_set {x : α} {y : β} (r : R x y) : ∀ {xs : List α} {ys : List β} (i : Nat), Paired R xs ys → Paired R (xs.set i x) (ys.set i y)
  | _, _, _, .nil => .nil
  | _, _, 0, .cons _ t => .cons r t
  | _, _, i + 1, .cons q t => .cons q (pr_set r i t)
theorem pr_mono (h : ∀ x y, R x y → R' x y) : ∀ {xs : List α} {ys : List β}, Paired R xs ys → Paired R' xs ys
  | _, _, .nil => .nil
  | _, _, .cons r t => .cons (h _ _ r) (pr_mono h t)
theorem pr_reverse {xs : List α} {ys : List β} (h : Paired R xs ys) : Paired R xs.reverse ys.reverse := by
  induction h with
  | nil => exact .nil
  | cons r t ih => rw [List.reverse_cons, List.reverse_cons]; exact pr_append ih (.cons r .nil)
theorem pr_erase : ∀ {xs : List α} {ys : List β} (i : Nat), Paired R xs ys → Paired R (xs.eraseIdx i) (ys.eraseIdx i)
  | _, _, _, .nil => .nil
  | _, _, 0, .cons _ t => t
  | _, _, i + 1, .cons q t => .cons q (pr_erase i t)
theorem pr_dropLast {xs : List α} {ys : List β} (h : Paired R xs ys) : Paired R xs.dropLast ys.dropLast := by
  rw [List.dropLast_eq_take, List.dropLast_eq_take, h.length]
  exact pr_take _ h
theorem pr_rep {xs : List α} {ys : List β} (h : Paired R xs ys) : ∀ k : Nat, Paired R (List.replicate k xs).flatten (List.replicate k ys).flatten
  | 0 => .nil
  | k + 1 => by
    rw [List.replicate_succ, List.replicate_succ, List.flatten_cons, List.flatten_cons]
    exact pr_append h (pr_rep h k)
theorem pr_nil_iff {xs : List α} {ys : List β} (h : Paired R xs ys) : xs = [] ↔ ys = [] := by cases h <;> simp
theorem pr_isEmpty {xs : List α} {ys : List β} (h : Paired R xs ys) : xs.isEmpty = ys.isEmpty := by cases h <;> rfl
theorem pr_map {γ δ : Type} {f : α → γ} {g : β → δ} {S : γ → δ → Prop} (h : ∀ x y, R x y → S (f x) (g y)) : ∀ {xs : List α} {ys : List β}, Paired R xs ys → Paired S (xs.map f) (ys.map g)
  | _, _, .nil => .nil
  | _, _, .cons r t => .cons (h _ _ r) (pr_map h t)
end

/-! ### values -/
inductive Rep (K : PySem.W.Frag) (H : Hp) (μ : List Addr) : V → D → Prop
  | non : Rep K H μ .non .non
  | bl (b : Bool) : Rep K H μ (.bl b) (.bl b)
  | int (i : Int) : Rep K H μ (.int i) (.int i)
  | str (x : Str) : x.length ≤ sizeLine → Rep K H μ (.str x) (.str x.cps.toList)
  | tup {a : Addr} {vs : List V} {ds : List D} : SqN K H a vs → Paired (Rep K H μ) vs ds → Rep K H μ (.ref a) (.tup ds)
  | ref {a : Addr} {n : Nat} : μ[n]? = some a → Rep K H μ (.ref a) (.ref n)
abbrev Reps (K : PySem.W.Frag) (H : Hp) (μ : List Addr) : List V → List D → Prop := Paired (Rep K H μ)

/-- tuples stay -/
def GrT (K : PySem.W.Frag) (H H' : Hp) : Prop := ∀ a xs, SqN K H a xs → SqN K H' a xs
/-- tuples stay, and what is locked stays locked -/
structure Gr (K : PySem.W.Frag) (H H' : Hp) : Prop where
  tup : GrT K H H'
  sq : ∀ a xs, SqT K H a xs → SqT K H' a xs
  frz : ∀ b o u, H b = some (.frz o u) → H' b = some (.frz o u)
  tab : ∀ P, GxR.TabG H P → GxR.TabG H' P
theorem Gr.refl {K : PySem.W.Frag} {H : Hp} : Gr K H H := ⟨fun _ _ h => h, fun _ _ h => h, fun _ _ _ h => h, fun _ h => h⟩
theorem Gr.trans {K : PySem.W.Frag} {H H1 H2 : Hp} (a : Gr K H H1) (b : Gr K H1 H2) : Gr K H H2 := ⟨fun c o h => b.tup c o (a.tup c o h), fun c o h => b.sq c o (a.sq c o h), fun c o u h => b.frz c o u (a.frz c o u h), fun c h => b.tab c (a.tab c h)⟩
theorem gr_new {K : PySem.W.Frag} {H : Hp} {p : Addr} {o : HO} (h : H p = none) : Gr K H (upd H p o) := ⟨fun a xs q => by
  rcases q with ⟨u, hd, q⟩ | q
  · exact .inl ⟨u, hd, by rw [upd_ne (ne_of_none q h)]; exact q⟩
  · exact .inr q, fun a xs q => by
  rcases q with (q | ⟨u, q⟩) | q
  · exact .inl (.inl (by rw [upd_ne (ne_of_none q h)]; exact q))
  · exact .inl (.inr ⟨u, by rw [upd_ne (ne_of_none q h)]; exact q⟩)
  · exact .inr q, fun b o u q => by rw [upd_ne (ne_of_none q h)]; exact q, fun b ⟨ps, q, t⟩ => ⟨ps, by rw [upd_ne (ne_of_none q h)]; exact q, t⟩⟩
/-- not a tuple -/
def NoTup : HO → Prop
  | .tup _ => False
  | .frz _ (.tup _) => False
  | _ => True
theorem grT_upd {K : PySem.W.Frag} {H : Hp} {p : Addr} {u o : HO} (h : H p = some u) (nt : NoTup u) : GrT K H (upd H p o) := fun a xs q => by
  rcases q with ⟨w, hd, q⟩ | q
  · exact .inl ⟨w, hd, by rw [upd_ne (ne_of q h (by rintro rfl; exact nt))]; exact q⟩
  · exact .inr q
theorem sqT_upd {K : PySem.W.Frag} {H : Hp} {p : Addr} {u o : HO} (h : H p = some u) (nt : NoTup u) {a : Addr} {xs : List V} (q : SqT K H a xs) : SqT K (upd H p o) a xs := by
  rcases q with (q | ⟨w, q⟩) | q
  · exact .inl (.inl (by rw [upd_ne (ne_of q h (by rintro rfl; exact nt))]; exact q))
  · exact .inl (.inr ⟨w, by rw [upd_ne (ne_of q h (by rintro rfl; exact nt))]; exact q⟩)
  · exact .inr q
theorem gr_upd {K : PySem.W.Frag} {H : Hp} {p : Addr} {u o : HO} (h : H p = some u) (nt : NoTup u) (nf : ∀ q w, u ≠ .frz q w) (nb : ∀ q, u ≠ .tbl q) : Gr K H (upd H p o) :=
  ⟨grT_upd h nt, fun a xs q => sqT_upd h nt q, fun b q w e => by rw [upd_ne (ne_of e h (fun hh => nf q w hh.symm))]; exact e, fun b ⟨ps, q, t⟩ => ⟨ps, by rw [upd_ne (ne_of q h (fun hh => nb ps hh.symm))]; exact q, t⟩⟩

def Pre (μ μ' : List Addr) : Prop := ∀ (n : Nat) (a : Addr), μ[n]? = some a → μ'[n]? = some a
theorem Pre.refl {μ : List Addr} : Pre μ μ := fun _ _ h => h
theorem Pre.trans {μ μ1 μ2 : List Addr} (a : Pre μ μ1) (b : Pre μ1 μ2) : Pre μ μ2 := fun n c h => b n c (a n c h)
theorem Pre.snoc {μ l : List Addr} : Pre μ (μ ++ l) := fun n a h => by
  have hn : n < μ.length := (List.getElem?_eq_some_iff.mp h).1
  rw [List.getElem?_append_left hn]; exact h

section
variable {K : PySem.W.Frag} {H H' : Hp} {μ μ' : List Addr}
mutual
theorem Rep.monoT (hp : Pre μ μ') (hg : GrT K H H') : ∀ {d : D} {v : V}, Rep K H μ v d → Rep K H' μ' v d
  | .non, _, h => by cases h; exact .non
  | .bl _, _, h => by cases h; exact .bl _
  | .int _, _, h => by cases h; exact .int _
  | .str _, _, h => by cases h with | str x hx => exact .str x hx
  | .tup ds, _, h => by cases h with | tup h1 h2 => exact .tup (hg _ _ h1) (Reps.monoT hp hg (ds := ds) h2)
  | .ref n, _, h => by cases h with | ref h1 => exact .ref (hp _ _ h1)
theorem Reps.monoT (hp : Pre μ μ') (hg : GrT K H H') : ∀ {ds : List D} {vs : List V}, Reps K H μ vs ds → Reps K H' μ' vs ds
  | [], _, h => by cases h; exact .nil
  | d :: ds, _, h => by cases h with | cons r t => exact .cons (Rep.monoT hp hg (d := d) r) (Reps.monoT hp hg (ds := ds) t)
end
theorem Rep.mono (hp : Pre μ μ') (hg : Gr K H H') {d : D} {v : V} (h : Rep K H μ v d) : Rep K H' μ' v d := h.monoT hp hg.tup
theorem Reps.mono (hp : Pre μ μ') (hg : Gr K H H') {ds : List D} {vs : List V} (h : Reps K H μ vs ds) : Reps K H' μ' vs ds := Reps.monoT hp hg.tup h
mutual
theorem Rep.bel (n : Nat) (hn : μ.length ≤ n) : ∀ {d : D} {v : V}, Rep K H μ v d → d.bel n = true
  | .non, _, _ => rfl
  | .bl _, _, _ => rfl
  | .int _, _, _ => rfl
  | .str _, _, _ => rfl
  | .tup ds, _, h => by cases h with | tup h1 h2 => exact Reps.bel n hn (ds := ds) h2
  | .ref m, _, h => by
    cases h with
    | ref h1 =>
      have := (List.getElem?_eq_some_iff.mp h1).1
      simp only [D.bel]; exact decide_eq_true (by omega)
theorem Reps.bel (n : Nat) (hn : μ.length ≤ n) : ∀ {ds : List D} {vs : List V}, Reps K H μ vs ds → D.bels n ds = true
  | [], _, _ => rfl
  | d :: ds, _, h => by
    cases h with
    | cons r t => simp only [D.bels, Rep.bel n hn (d := d) r, Reps.bel n hn (ds := ds) t, Bool.and_self]
end
mutual
theorem Rep.take {n : Nat} (hp : ∀ (m : Nat) (a : Addr), m < n → μ[m]? = some a → μ'[m]? = some a) : ∀ {d : D} {v : V}, Rep K H μ v d → d.bel n = true → Rep K H μ' v d
  | .non, _, h, _ => by cases h; exact .non
  | .bl _, _, h, _ => by cases h; exact .bl _
  | .int _, _, h, _ => by cases h; exact .int _
  | .str _, _, h, _ => by cases h with | str x hx => exact .str x hx
  | .tup ds, _, h, b => by cases h with | tup h1 h2 => exact .tup h1 (Reps.take hp (ds := ds) h2 b)
  | .ref m, _, h, b => by
    cases h with
    | ref h1 =>
      have hm : m < n := of_decide_eq_true (by simpa [D.bel] using b)
      exact .ref (hp m _ hm h1)
theorem Reps.take {n : Nat} (hp : ∀ (m : Nat) (a : Addr), m < n → μ[m]? = some a → μ'[m]? = some a) : ∀ {ds : List D} {vs : List V}, Reps K H μ vs ds → D.bels n ds = true → Reps K H μ' vs ds
  | [], _, h, _ => by cases h; exact .nil
  | d :: ds, _, h, b => by
    cases h with
    | cons r t =>
      simp only [D.bels, Bool.and_eq_true] at b
      exact .cons (Rep.take hp (d := d) r b.1) (Reps.take hp (ds := ds) t b.2)
end
end

/-! ### objects -/
def kD : Key → D
  | .inl i => .int i
  | .inr x => .str x.cps.toList
def kOk : Key → Prop
  | .inl _ => True
  | .inr x => x.length ≤ sizeLine
theorem kD_inj : ∀ {a b : Key}, kD a = kD b → a = b
  | .inl _, .inl _, h => by cases h; rfl
  | .inr ⟨x⟩, .inr ⟨y⟩, h => by
    have h' : x.toList = y.toList := by injection h
    have : x = y := by rw [← Array.toList_inj]; exact h'
    rw [this]
  | .inl _, .inr _, h => by cases h
  | .inr _, .inl _, h => by cases h
def EnR (K : PySem.W.Frag) (H : Hp) (μ : List Addr) (p : Key × V) (q : D × D) : Prop := kD p.1 = q.1 ∧ kOk p.1 ∧ Rep K H μ p.2 q.2
/-- a list of the written part -/
def KLst (K : PySem.W.Frag) (a : Addr) (xs : List V) : Prop :=
  ∃ (o : Obj) (its : Array Value) (n : Nat), K.lookup a = some o ∧ o.cls = .type "list" ∧ o.dict = none ∧ o.data = .seq its n ∧ its.size ≤ sizeLine ∧ Vals xs its.toList
def OAt (K : PySem.W.Frag) (H : Hp) (μ : List Addr) (a : Addr) : O → Prop
  | .lst xs => ∃ vs, H a = some (.lst vs) ∧ Reps K H μ vs xs
  | .ro xs => ∃ vs, ((∃ o, H a = some (.frz o (.lst vs))) ∨ KLst K a vs) ∧ Reps K H μ vs xs
  | .dic kvs => ∃ ks, H a = some (.dK ks) ∧ Paired (EnR K H μ) ks kvs
  | .rod kvs => ∃ ks o, H a = some (.frz o (.dK ks)) ∧ Paired (EnR K H μ) ks kvs
  | .ins _ _ => False
structure SOk (K : PySem.W.Frag) (μ : List Addr) (st : Sto) (H : Hp) : Prop where
  len : μ.length = st.length
  obj : ∀ (n : Nat) (o : O) (a : Addr), st[n]? = some o → μ[n]? = some a → OAt K H μ a o
  sep : ∀ (i j : Nat) (a : Addr), i ≠ j → μ[i]? = some a → μ[j]? = some a → (∃ xs, st[i]? = some (.ro xs)) ∨ (∃ xs, st[j]? = some (.ro xs))

section
variable {K : PySem.W.Frag} {H H' : Hp} {μ μ' : List Addr} {st : Sto} {a p : Addr} {o : O} {ho : HO}
theorem EnR.monoT (hp : Pre μ μ') (hg : GrT K H H') {x : Key × V} {y : D × D} (h : EnR K H μ x y) : EnR K H' μ' x y := ⟨h.1, h.2.1, h.2.2.monoT hp hg⟩
theorem OAt.monoT (hp : Pre μ μ') (hg : GrT K H H') (he : ∀ u, H a = some u → H' a = some u) : OAt K H μ a o → OAt K H' μ' a o := by
  cases o with
  | lst xs => rintro ⟨vs, h1, h2⟩; exact ⟨vs, he _ h1, Reps.monoT hp hg h2⟩
  | ro xs =>
    rintro ⟨vs, h1, h2⟩
    exact ⟨vs, h1.imp (fun ⟨o, h⟩ => ⟨o, he _ h⟩) id, Reps.monoT hp hg h2⟩
  | dic kvs => rintro ⟨ks, h1, h2⟩; exact ⟨ks, he _ h1, pr_mono (fun _ _ h => h.monoT hp hg) h2⟩
  | rod kvs => rintro ⟨ks, o, h1, h2⟩; exact ⟨ks, o, he _ h1, pr_mono (fun _ _ h => h.monoT hp hg) h2⟩
  | ins c fs => exact fun h => h
theorem EnR.mono (hp : Pre μ μ') (hg : Gr K H H') {x : Key × V} {y : D × D} (h : EnR K H μ x y) : EnR K H' μ' x y := h.monoT hp hg.tup
theorem OAt.mono (hp : Pre μ μ') (hg : Gr K H H') (he : ∀ u, H a = some u → H' a = some u) (h : OAt K H μ a o) : OAt K H' μ' a o := h.monoT hp hg.tup he
theorem SOk.addr (S : SOk K μ st H) {n : Nat} {o : O} (h : st[n]? = some o) : ∃ a, μ[n]? = some a ∧ OAt K H μ a o := by
  have hn : n < st.length := (List.getElem?_eq_some_iff.mp h).1
  have hm : n < μ.length := by rw [S.len]; exact hn
  exact ⟨μ[n], List.getElem?_eq_getElem hm, S.obj n o _ h (List.getElem?_eq_getElem hm)⟩
/-- tuples are laid: nothing changes -/
theorem SOk.grow (S : SOk K μ st H) (hn : H p = none) : SOk K μ st (upd H p ho) := by
  refine ⟨S.len, fun n o a h1 h2 => ?_, S.sep⟩
  exact (S.obj n o a h1 h2).mono Pre.refl (gr_new hn) fun u e => by rw [upd_ne (ne_of_none e hn)]; exact e
/-- a new object -/
theorem SOk.alloc (S : SOk K μ st H) (hn : H p = none) (new : OAt K (upd H p ho) (μ ++ [p]) p o) : SOk K (μ ++ [p]) (st ++ [o]) (upd H p ho) := by
  refine ⟨by simp [S.len], fun n u a h1 h2 => ?_, fun i j a ne h1 h2 => ?_⟩
  · by_cases hlt : n < st.length
    · rw [List.getElem?_append_left hlt] at h1
      rw [List.getElem?_append_left (by rw [S.len]; exact hlt)] at h2
      exact (S.obj n u a h1 h2).mono Pre.snoc (gr_new hn) fun u e => by rw [upd_ne (ne_of_none e hn)]; exact e
    · have e : n = st.length := by
        have := (List.getElem?_eq_some_iff.mp h1).1
        simp at this; omega
      subst e
      simp at h1
      rw [← S.len] at h2
      simp at h2
      subst h1 h2
      exact new
  · have low : ∀ {k : Nat}, k < μ.length → (μ ++ [p])[k]? = some p → ∃ xs, (st ++ [o])[k]? = some (.ro xs) := fun {k} hk hb => by
      rw [List.getElem?_append_left hk] at hb
      have hs : k < st.length := by rw [← S.len]; exact hk
      have oa := S.obj k st[k] p (List.getElem?_eq_getElem hs) hb
      rw [List.getElem?_append_left hs, List.getElem?_eq_getElem hs]
      cases q : st[k] with
      | ro xs => exact ⟨xs, rfl⟩
      | lst xs => rw [q] at oa; obtain ⟨vs, h1, _⟩ := oa; rw [hn] at h1; cases h1
      | dic xs => rw [q] at oa; obtain ⟨vs, h1, _⟩ := oa; rw [hn] at h1; cases h1
      | rod xs => rw [q] at oa; obtain ⟨vs, _, h1, _⟩ := oa; rw [hn] at h1; cases h1
      | ins c fs => rw [q] at oa; exact oa.elim
    have top : ∀ {k : Nat} {b : Addr}, ¬ k < μ.length → (μ ++ [p])[k]? = some b → b = p := fun {k b} hk hb => by
      have := (List.getElem?_eq_some_iff.mp hb).1
      simp at this
      have e : k = μ.length := by omega
      subst e
      simp at hb
      exact hb.symm
    by_cases hi : i < μ.length
    · by_cases hj : j < μ.length
      · have h1' := h1
        have h2' := h2
        rw [List.getElem?_append_left hi] at h1'
        rw [List.getElem?_append_left hj] at h2'
        have is : i < st.length := by rw [← S.len]; exact hi
        have js : j < st.length := by rw [← S.len]; exact hj
        rcases S.sep i j a ne h1' h2' with ⟨xs, e⟩ | ⟨xs, e⟩
        · exact .inl ⟨xs, by rw [List.getElem?_append_left is]; exact e⟩
        · exact .inr ⟨xs, by rw [List.getElem?_append_left js]; exact e⟩
      · have := top hj h2
        subst this
        exact .inl (low hi h1)
    · have := top hi h1
      subst this
      by_cases hj : j < μ.length
      · exact .inr (low hj h2)
      · have hi' := (List.getElem?_eq_some_iff.mp h1).1
        have hj' := (List.getElem?_eq_some_iff.mp h2).1
        simp at hi' hj'
        omega
/-- an object is changed -/
theorem SOk.write (S : SOk K μ st H) {n : Nat} {u : HO} (hm : μ[n]? = some p) (hu : H p = some u) (nt : NoTup u) (nf : ∀ q w, u ≠ .frz q (.lst w)) (hr : ∀ xs, o ≠ .ro xs) (hs : ∀ xs, st[n]? ≠ some (.ro xs)) (new : OAt K (upd H p ho) μ p o) : SOk K μ (st.set n o) (upd H p ho) := by
  refine ⟨by simp [S.len], fun k w a h1 h2 => ?_, fun i j a ne h1 h2 => ?_⟩
  · by_cases hk : k = n
    · subst hk
      have hlt : k < st.length := by have := (List.getElem?_eq_some_iff.mp h1).1; simpa using this
      rw [List.getElem?_set_self hlt] at h1
      cases h1
      rw [hm] at h2; cases h2
      exact new
    · rw [List.getElem?_set_ne (Ne.symm hk)] at h1
      have oa := S.obj k w a h1 h2
      by_cases ha : a = p
      · subst ha
        have isro : ∃ xs, w = .ro xs := by
          rcases S.sep k n a hk h2 hm with ⟨xs, e⟩ | ⟨xs, e⟩
          · rw [h1] at e; cases e; exact ⟨xs, rfl⟩
          · exact absurd e (hs xs)
        obtain ⟨xs, rfl⟩ := isro
        obtain ⟨vs, h3, h4⟩ := oa
        rcases h3 with ⟨q, h3⟩ | h3
        · rw [hu] at h3; cases h3; exact absurd rfl (nf q vs)
        · exact ⟨vs, .inr h3, Reps.monoT Pre.refl (grT_upd hu nt) h4⟩
      · exact oa.monoT Pre.refl (grT_upd hu nt) fun v e => by rw [upd_ne ha]; exact e
  · have conv : ∀ {k : Nat} {xs : List D}, st[k]? = some (.ro xs) → (st.set n o)[k]? = some (.ro xs) := fun {k xs} e => by
      by_cases hk : k = n
      · subst hk; exact absurd e (hs xs)
      · rw [List.getElem?_set_ne (Ne.symm hk)]; exact e
    rcases S.sep i j a ne h1 h2 with ⟨xs, e⟩ | ⟨xs, e⟩
    · exact .inl ⟨xs, conv e⟩
    · exact .inr ⟨xs, conv e⟩
end
end CL

/-! CL2: operations by values. -/
namespace CL
open PySem PySem.Spec PyProof.Rows L2

/-- what follows, wherever the answer and the store lie -/
abbrev Post (K : PySem.W.Frag) (H : Hp) (μ : List Addr) (d : D) (st : Sto) (Q : VK) : Prop :=
  ∀ (μ' : List Addr) (v : V) (H' : Hp), Pre μ μ' → Gr K H H' → SOk K μ' st H' → Rep K H' μ' v d → Q v H'
section
variable {K : PySem.W.Frag} {H : Hp} {μ : List Addr} {st : Sto} {d : D} {Q : VK}
theorem Post.same (q : Post K H μ d st Q) (S : SOk K μ st H) {v : V} (r : Rep K H μ v d) : Q v H := q μ v H Pre.refl Gr.refl S r
theorem Post.tup {ds : List D} (q : Post K H μ (.tup ds) st Q) (S : SOk K μ st H) {vs : List V} (r : Reps K H μ vs ds) : newT Q H vs := fun p o ho hp =>
  q μ _ _ Pre.refl (gr_new hp) (S.grow hp) (.tup (.inl ⟨o, ho, upd_same⟩) (r.mono Pre.refl (gr_new hp)))
theorem top_at {α : Type} {l : List α} {n : Nat} {x : α} (h : l.length = n) : (l ++ [x])[n]? = some x := by subst h; simp
theorem Post.lst {ds : List D} (q : Post K H μ (.ref st.length) (st ++ [.lst ds]) Q) (S : SOk K μ st H) {vs : List V} (r : Reps K H μ vs ds) {p : Addr} (hp : H p = none) : Q (.ref p) (upd H p (.lst vs)) :=
  q (μ ++ [p]) _ _ Pre.snoc (gr_new hp) (S.alloc hp ⟨vs, upd_same, r.mono Pre.snoc (gr_new hp)⟩) (.ref (top_at S.len))
theorem Post.dic {ks : List (D × D)} (q : Post K H μ (.ref st.length) (st ++ [.dic ks]) Q) (S : SOk K μ st H) {kvs : List (Key × V)} (r : Paired (EnR K H μ) kvs ks) {p : Addr} (hp : H p = none) : Q (.ref p) (upd H p (.dK kvs)) :=
  q (μ ++ [p]) _ _ Pre.snoc (gr_new hp) (S.alloc hp ⟨kvs, upd_same, pr_mono (fun _ _ h => h.mono Pre.snoc (gr_new hp)) r⟩) (.ref (top_at S.len))
end

/-! ### shapes of representations -/
section
variable {K : PySem.W.Frag} {H : Hp} {μ : List Addr} {st : Sto} {v : V}
theorem rep_int {i : Int} (h : Rep K H μ v (.int i)) : v = .int i := by cases h; rfl
theorem rep_bl {b : Bool} (h : Rep K H μ v (.bl b)) : v = .bl b := by cases h; rfl
theorem rep_non (h : Rep K H μ v .non) : v = .non := by cases h; rfl
theorem rep_str {s : List Nat} (h : Rep K H μ v (.str s)) : ∃ x : Str, v = .str x ∧ x.cps.toList = s ∧ x.length ≤ sizeLine := by
  cases h with
  | str x hx => exact ⟨x, rfl, rfl, hx⟩
theorem rep_tup {ds : List D} (h : Rep K H μ v (.tup ds)) : ∃ a vs, v = .ref a ∧ SqT K H a vs ∧ Reps K H μ vs ds := by
  cases h with
  | tup h1 h2 => exact ⟨_, _, rfl, h1.sq, h2⟩
theorem rep_tupN {ds : List D} (h : Rep K H μ v (.tup ds)) : ∃ a vs, v = .ref a ∧ SqN K H a vs ∧ Reps K H μ vs ds := by
  cases h with
  | tup h1 h2 => exact ⟨_, _, rfl, h1, h2⟩
theorem rep_ref {n : Nat} (h : Rep K H μ v (.ref n)) : ∃ a, v = .ref a ∧ μ[n]? = some a := by
  cases h with
  | ref h1 => exact ⟨_, rfl, h1⟩
theorem mk_str {s : List Nat} (h : s.length ≤ sizeLine) : Rep K H μ (.str ⟨s.toArray⟩) (.str s) := by
  have : s = (⟨s.toArray⟩ : Str).cps.toList := by simp
  conv => rhs; rw [this]
  exact .str _ (by simpa [Str.length] using h)
/-- a list that is read -/
theorem lst_of (S : SOk K μ st H) {d : D} {xs : List D} (r : Rep K H μ v d) (h : lstAt st d = some xs) : ∃ a vs, v = .ref a ∧ SqL K H a vs ∧ Reps K H μ vs xs := by
  cases d with
  | ref n =>
    obtain ⟨a, rfl, hm⟩ := rep_ref r
    simp only [lstAt] at h
    split at h
    · rename_i ys e
      cases h
      obtain ⟨vs, h1, h2⟩ := S.obj n _ a e hm
      exact ⟨a, vs, rfl, .inl (.inl h1), h2⟩
    · rename_i ys e
      cases h
      obtain ⟨vs, h1, h2⟩ := S.obj n _ a e hm
      refine ⟨a, vs, rfl, ?_, h2⟩
      rcases h1 with ⟨o, h1⟩ | h1
      · exact .inl (.inr ⟨o, h1⟩)
      · exact .inr h1
    · cases h
  | _ => simp [lstAt] at h
theorem seq_ofN (S : SOk K μ st H) {d : D} {xs : List D} (r : Rep K H μ v d) (h : seqAt st d = some xs) : (∃ a vs, v = .ref a ∧ SqL K H a vs ∧ Reps K H μ vs xs) ∨ ∃ a vs, v = .ref a ∧ SqT K H a vs ∧ Rep K H μ (.ref a) (.tup xs) := by
  cases d with
  | tup ds =>
    simp only [seqAt] at h
    cases h
    obtain ⟨a, vs, rfl, h1, h2⟩ := rep_tup r
    exact .inr ⟨a, vs, rfl, h1, r⟩
  | ref n => exact .inl (lst_of S r h)
  | _ => simp [seqAt, lstAt] at h
theorem seq_of (S : SOk K μ st H) {d : D} {xs : List D} (r : Rep K H μ v d) (h : seqAt st d = some xs) : ∃ a vs, v = .ref a ∧ (SqL K H a vs ∨ SqT K H a vs) ∧ Reps K H μ vs xs := by
  cases d with
  | tup ds =>
    simp only [seqAt] at h
    cases h
    obtain ⟨a, vs, e, h1, h2⟩ := rep_tup r
    exact ⟨a, vs, e, .inr h1, h2⟩
  | ref n =>
    obtain ⟨a, vs, e, h1, h2⟩ := lst_of S r h
    exact ⟨a, vs, e, .inl h1, h2⟩
  | _ => simp [seqAt, lstAt] at h
theorem dic_of (S : SOk K μ st H) {d : D} {kvs : List (D × D)} (r : Rep K H μ v d) (h : dicAt st d = some kvs) : ∃ a ks, v = .ref a ∧ Rd H a (.dK ks) ∧ Paired (EnR K H μ) ks kvs := by
  cases d with
  | ref n =>
    obtain ⟨a, rfl, hm⟩ := rep_ref r
    simp only [dicAt] at h
    split at h
    · rename_i ys e
      cases h
      obtain ⟨ks, h1, h2⟩ := S.obj n _ a e hm
      exact ⟨a, ks, rfl, .inl h1, h2⟩
    · rename_i ys e
      cases h
      obtain ⟨ks, o, h1, h2⟩ := S.obj n _ a e hm
      exact ⟨a, ks, rfl, .inr ⟨o, h1⟩, h2⟩
    · cases h
  | _ => simp [dicAt] at h
end

/-! ### data as the library reads it -/
mutual
def D.py : D → PyData
  | .non => .none
  | .bl b => .bool b
  | .int i => .int i
  | .str s => .str ⟨s.toArray⟩
  | .tup xs => .tuple (D.pys xs)
  | .ref _ => .none
def D.pys : List D → List PyData
  | [] => []
  | x :: xs => D.py x :: D.pys xs
end
mutual
theorem py_dep : ∀ d : D, d.py.depth = d.dep
  | .non => rfl
  | .bl _ => rfl
  | .int _ => rfl
  | .str _ => rfl
  | .ref _ => rfl
  | .tup xs => by simp only [D.py, PyData.depth, D.dep, pys_dep xs]; omega
theorem pys_dep : ∀ ds : List D, PyData.depthAll (D.pys ds) = D.deps ds
  | [] => rfl
  | x :: xs => by simp only [D.pys, PyData.depthAll, D.deps, py_dep x, pys_dep xs]
end
mutual
theorem py_plain : ∀ d : D, d.py.plain = true
  | .non => rfl
  | .bl _ => rfl
  | .int _ => rfl
  | .str _ => rfl
  | .ref _ => rfl
  | .tup xs => by simp only [D.py, PyData.plain, pys_plain xs]
theorem pys_plain : ∀ ds : List D, PyData.plainAll (D.pys ds) = true
  | [] => rfl
  | x :: xs => by simp only [D.pys, PyData.plainAll, py_plain x, pys_plain xs, Bool.and_self]
end
mutual
theorem py_alk : ∀ a b : D, a.pure = true → b.pure = true → PySem.W.alike a.py b.py = D.alk a b
  | .non, b, _, h => by cases b <;> first | rfl | simp [D.pure] at h
  | .bl _, b, _, h => by cases b <;> first | rfl | simp [D.pure] at h
  | .int _, b, _, h => by cases b <;> first | rfl | simp [D.pure] at h
  | .str _, b, _, h => by cases b <;> first | rfl | simp [D.pure] at h
  | .ref _, _, h, _ => by simp [D.pure] at h
  | .tup xs, b, h1, h2 => by
    cases b with
    | tup ys =>
      simp only [D.pure] at h1 h2
      simp only [D.py, PySem.W.alike, D.alk, pys_alk xs ys h1 h2]
    | ref _ => simp [D.pure] at h2
    | _ => rfl
theorem pys_alk : ∀ a b : List D, D.pures a = true → D.pures b = true → PySem.W.alikeAll (D.pys a) (D.pys b) = D.alks a b
  | [], b, _, _ => by cases b <;> simp [D.pys, PySem.W.alikeAll, D.alks]
  | x :: xs, b, h1, h2 => by
    cases b with
    | nil => simp [D.pys, PySem.W.alikeAll, D.alks]
    | cons y ys =>
      simp only [D.pures, Bool.and_eq_true] at h1 h2
      simp only [D.pys, PySem.W.alikeAll, D.alks, py_alk x y h1.1 h2.1, pys_alk xs ys h1.2 h2.2]
end
theorem str_beq {a b : List Nat} : ((⟨a.toArray⟩ : Str) == (⟨b.toArray⟩ : Str)) = decide (a = b) := by
  by_cases h : a = b
  · subst h; simp
  · rw [decide_eq_false h]
    apply beq_eq_false_iff_ne.mpr
    intro e
    apply h
    have := congrArg (fun s : Str => s.cps.toList) e
    simpa using this
mutual
theorem py_eqv : ∀ a b : D, a.pure = true → b.pure = true → PyData.eqv a.py b.py = decide (a.norm = b.norm)
  | .non, b, _, h => by cases b <;> simp_all [D.py, PyData.eqv, D.norm, D.pure]
  | .bl x, b, _, h => by
    cases b <;> simp_all [D.py, PyData.eqv, D.norm, D.pure]
    · rename_i y; cases x <;> cases y <;> simp
    · rfl
  | .int i, b, _, h => by
    cases b <;> simp_all [D.py, PyData.eqv, D.norm, D.pure]
    · rfl
    · rfl
  | .str s, b, _, h => by
    cases b <;> simp_all [D.py, PyData.eqv, D.norm, D.pure]
    exact str_beq
  | .ref _, _, h, _ => by simp [D.pure] at h
  | .tup xs, b, h1, h2 => by
    cases b with
    | tup ys =>
      simp only [D.pure] at h1 h2
      simp only [D.py, PyData.eqv, D.norm, D.tup.injEq, pys_eqv xs ys h1 h2]
    | ref _ => simp [D.pure] at h2
    | _ => simp [D.py, PyData.eqv, D.norm]
theorem pys_eqv : ∀ a b : List D, D.pures a = true → D.pures b = true → PyData.eqvAll (D.pys a) (D.pys b) = decide (D.norms a = D.norms b)
  | [], b, _, _ => by cases b <;> simp [D.pys, PyData.eqvAll, D.norms]
  | x :: xs, b, h1, h2 => by
    cases b with
    | nil => simp [D.pys, PyData.eqvAll, D.norms]
    | cons y ys =>
      simp only [D.pures, Bool.and_eq_true] at h1 h2
      simp only [D.pys, PyData.eqvAll, D.norms, List.cons.injEq, py_eqv x y h1.1 h2.1, pys_eqv xs ys h1.2 h2.2]
      by_cases e : x.norm = y.norm <;> simp [e]
end
mutual
/-- what can be compared is equal as it stands -/
theorem alk_norm : ∀ a b : D, D.alk a b = true → (a.norm = b.norm ↔ a = b)
  | .non, b, h => by cases b <;> simp_all [D.alk]
  | .bl x, b, h => by cases b <;> simp_all [D.alk, D.norm]; rename_i y; cases x <;> cases y <;> simp
  | .int _, b, h => by cases b <;> simp_all [D.alk, D.norm]
  | .str _, b, h => by cases b <;> simp_all [D.alk, D.norm]
  | .ref _, b, h => by cases b <;> simp_all [D.alk]
  | .tup xs, b, h => by
    cases b with
    | tup ys =>
      simp only [D.alk] at h
      simp only [D.norm, D.tup.injEq]
      exact alks_norm xs ys h
    | _ => simp [D.alk] at h
theorem alks_norm : ∀ a b : List D, D.alks a b = true → (D.norms a = D.norms b ↔ a = b)
  | [], b, h => by cases b <;> simp [D.norms]
  | x :: xs, b, h => by
    cases b with
    | nil => simp [D.norms]
    | cons y ys =>
      simp only [D.alks, Bool.and_eq_true] at h
      simp only [D.norms, List.cons.injEq, alk_norm x y h.1, alks_norm xs ys h.2]
end
mutual
theorem py_lt : ∀ a b : D, a.pure = true → b.pure = true → D.alk a b = true → PySem.W.dataLt a.py b.py = D.lt a b
  | .non, b, _, h, k => by cases b <;> simp_all [D.alk]; rfl
  | .bl x, b, _, h, k => by
    cases b <;> simp_all [D.alk]
    rename_i y
    cases x <;> cases y <;> decide
  | .int x, b, _, h, k => by
    cases b <;> simp_all [D.alk]
    simp only [D.py, PySem.W.dataLt_int, D.lt]
  | .str x, b, _, h, k => by
    cases b <;> simp_all [D.alk]
    simp only [D.py, PySem.W.dataLt_str, D.lt]
  | .ref _, _, h, _, _ => by simp [D.pure] at h
  | .tup xs, b, h1, h2, k => by
    cases b with
    | tup ys =>
      simp only [D.pure] at h1 h2
      simp only [D.alk] at k
      simp only [D.py, PySem.W.dataLt_tuple, D.lt]
      exact pys_lt xs ys h1 h2 k
    | _ => simp [D.alk] at k
theorem pys_lt : ∀ a b : List D, D.pures a = true → D.pures b = true → D.alks a b = true → PyProof.Rows.lexLt PyProof.Rows.itemOrd (PySem.W.keyToksAll (D.pys a)) (PySem.W.keyToksAll (D.pys b)) = D.lts a b
  | [], b, _, _, _ => by
    cases b with
    | nil =>
      simp only [D.pys, D.lts]
      exact PyProof.Rows.lex_irrefl _
    | cons y ys =>
      simp only [D.pys, D.lts, PySem.W.keyToksAll]
      rfl
  | x :: xs, b, h1, h2, k => by
    cases b with
    | nil =>
      simp only [D.pys, D.lts, PySem.W.keyToksAll]
      rfl
    | cons y ys =>
      simp only [D.pures, Bool.and_eq_true] at h1 h2
      simp only [D.alks, Bool.and_eq_true] at k
      simp only [D.pys, D.lts]
      rw [PySem.W.dataLt_cons (by rw [py_alk x y h1.1 h2.1]; exact k.1), py_eqv x y h1.1 h2.1, py_lt x y h1.1 h2.1 k.1, pys_lt xs ys h1.2 h2.2 k.2]
      simp only [decide_eq_true_eq, alk_norm x y k.1]
end
section
variable {X : Cx} {pins : List (Addr × Obj)} {σ : L2.St} {H : Hp} {s : Shared} {μ : List Addr} {st : Sto}
mutual
theorem rep_reads (I : Inv X pins σ H s) : ∀ {d : D} {v : V} {u : Value}, Rep X.K H μ v d → RelV v u → d.pure = true → ∃ as, Reads s.heap u d.py as
  | .non, _, _, h, r, _ => by cases h; cases r; exact ⟨_, Reads.none⟩
  | .bl b, _, _, h, r, _ => by cases h; cases r; exact ⟨_, Reads.bool b⟩
  | .int i, _, _, h, r, _ => by cases h; obtain ⟨t, rfl⟩ := r; exact ⟨_, Reads.int i t⟩
  | .str x, _, _, h, r, _ => by
    obtain ⟨x, rfl, rfl, _⟩ := rep_str h
    obtain ⟨t, rfl⟩ := r
    exact ⟨_, by simp only [D.py]; exact Reads.str x t⟩
  | .tup ds, _, _, h, r, p => by
    obtain ⟨a, vs, rfl, hs, ha⟩ := rep_tup h
    cases r
    obtain ⟨its, rv, ⟨o, ho, hc, n, hd⟩, _⟩ := I.tuple hs
    obtain ⟨as, hr⟩ := reps_reads I (ds := ds) ha rv p
    exact ⟨_, Reads.tuple ho hc hd hr⟩
  | .ref _, _, _, _, _, p => by simp [D.pure] at p
theorem reps_reads (I : Inv X pins σ H s) : ∀ {ds : List D} {vs : List V} {us : List Value}, Reps X.K H μ vs ds → Vals vs us → D.pures ds = true → ∃ as, ReadsAll s.heap us (D.pys ds) as
  | [], _, _, h, r, _ => by cases h; cases r; exact ⟨_, ReadsAll.nil⟩
  | d :: ds, _, _, h, r, p => by
    simp only [D.pures, Bool.and_eq_true] at p
    cases h with
    | cons h1 h2 =>
      cases r with
      | cons r1 r2 =>
        obtain ⟨as, q1⟩ := rep_reads I (d := d) h1 r1 p.1
        obtain ⟨bs, q2⟩ := reps_reads I (ds := ds) h2 r2 p.2
        exact ⟨_, ReadsAll.cons q1 q2⟩
end
theorem lst_reads (I : Inv X pins σ H s) (S : SOk X.K μ st H) {d : D} {xs : List D} {v : V} {u : Value} (r : Rep X.K H μ v d) (ru : RelV v u) (h : lstAt st d = some xs) (p : D.pures xs = true) : ∃ as, Reads s.heap u (.list (D.pys xs)) as := by
  obtain ⟨a, vs, rfl, h1, h2⟩ := lst_of S r h
  cases ru
  obtain ⟨its, rv, ⟨o, n, ho, hc, _, hd⟩, _⟩ := I.list h1
  obtain ⟨as, hr⟩ := reps_reads I h2 rv p
  exact ⟨_, Reads.list ho hc hd hr⟩
end

/-! ### a op b -/
def opOf : Bop → Operator
  | .add => .Add
  | .sub => .Sub
  | .mul => .Mult
  | .fdiv => .FloorDiv
  | .mod => .Mod
  | .pow => .Pow
def rBin (K : PySem.W.Frag) (o : Bop) : R2 := fun x y H Q => ∃ μ st dx dy d st', SOk K μ st H ∧ Rep K H μ x dx ∧ Rep K H μ y dy ∧ binop o dx dy st = some (d, st') ∧ Post K H μ d st' Q
section
variable {X : Cx}
theorem len_of {s : List Nat} {x : Str} (h : x.cps.toList = s) : x.length = s.length := by rw [← h]; simp [Str.length]
theorem cps_append {x y : Str} : (x ++ y).cps.toList = x.cps.toList ++ y.cps.toList := by
  show (x.cps ++ y.cps).toList = _
  simp
theorem op_bin (o : Bop) : OpR X (binaryOp (opOf o)) (rBin X.K o) := by
  intro pins s σ H x y v u Q I rx ry h
  obtain ⟨μ, st, dx, dy, d, st', S, hx, hy, hb, q⟩ := h
  unfold binop at hb
  split at hb
  · cases hb
    cases rep_int hx; cases rep_int hy
    exact op_add pins s σ H _ _ v u Q I rx ry ⟨_, _, rfl, rfl, q.same S (.int _)⟩
  · cases hb
    cases rep_int hx; cases rep_int hy
    exact op_sub pins s σ H _ _ v u Q I rx ry ⟨_, _, rfl, rfl, q.same S (.int _)⟩
  · split at hb
    · cases hb
      rename_i hc
      cases rep_int hx; cases rep_int hy
      rcases hc with hc | hc | hc
      · exact op_mul pins s σ H _ _ v u Q I rx ry ⟨_, _, rfl, rfl, .inl ⟨by omega, by omega⟩, q.same S (.int _)⟩
      · exact op_mul pins s σ H _ _ v u Q I rx ry ⟨_, _, rfl, rfl, .inr ⟨by omega, by omega⟩, q.same S (.int _)⟩
      · exact op_mulW pins s σ H _ _ v u Q I rx ry ⟨_, _, rfl, rfl, hc, q.same S (.int _)⟩
    · cases hb
  · split at hb
    · cases hb
      rename_i hc
      cases rep_int hx; cases rep_int hy
      exact op_fdivW pins s σ H _ _ v u Q I rx ry ⟨_, _, rfl, rfl, hc, q.same S (.int _)⟩
    · cases hb
  · split at hb
    · cases hb
      rename_i hc
      cases rep_int hx; cases rep_int hy
      exact op_mod pins s σ H _ _ v u Q I rx ry ⟨_, _, rfl, rfl, hc, q.same S (.int _)⟩
    · cases hb
  · split at hb
    · cases hb
      rename_i hc
      cases rep_int hx; cases rep_int hy
      exact op_pow pins s σ H _ _ v u Q I rx ry ⟨_, _, rfl, rfl, hc, q.same S (.int _)⟩
    · cases hb
  · split at hb
    · cases hb
      rename_i hc
      obtain ⟨a, rfl, ea, la⟩ := rep_str hx
      obtain ⟨b, rfl, eb, lb⟩ := rep_str hy
      have hl : a.length + b.length ≤ sizeLine := by rw [len_of ea, len_of eb]; exact hc
      refine op_add_str pins s σ H _ _ v u Q I rx ry ⟨_, _, rfl, rfl, hl, q.same S ?_⟩
      rw [← ea, ← eb, ← cps_append]
      exact .str _ (by rw [strLen_append]; exact hl)
    · cases hb
  · split at hb
    · cases hb
      rename_i hc
      obtain ⟨a, vs, rfl, h1, r1⟩ := rep_tup hx
      obtain ⟨b, ws, rfl, h2, r2⟩ := rep_tup hy
      refine op_catN pins s σ H _ _ v u Q I rx ry ⟨_, _, _, _, rfl, rfl, h1, h2, by rw [r1.length, r2.length]; exact hc, fun e => ?_, fun _ e => ?_, fun _ _ => q.tup S (pr_append r1 r2)⟩
      · have := (pr_nil_iff r1).mp e
        subst this
        exact q.same S hy
      · have := (pr_nil_iff r2).mp e
        subst this
        rw [List.append_nil] at q
        exact q.same S hx
    · cases hb
  · split at hb
    · cases hb
      rename_i hc
      obtain ⟨h0, h2, h3, h4⟩ := hc
      obtain ⟨a, vs, rfl, h1, r1⟩ := rep_tup hx
      cases rep_int hy
      refine op_repN pins s σ H _ _ v u Q I rx ry ⟨_, _, _, rfl, rfl, h1, fun e => h0 ((pr_nil_iff r1).mp e), h2, h3, by rw [r1.length]; exact h4, q.tup S (pr_rep r1 _)⟩
    · cases hb
  · split at hb
    · rename_i e1 e2
      split at hb
      · cases hb
        rename_i hc
        obtain ⟨a, rfl, hm⟩ := rep_ref hx
        obtain ⟨b, rfl, hm2⟩ := rep_ref hy
        obtain ⟨vs, h1, r1⟩ := S.obj _ _ _ e1 hm
        obtain ⟨ws, h2, r2⟩ := S.obj _ _ _ e2 hm2
        exact op_cat pins s σ H _ _ v u Q I rx ry ⟨_, _, _, _, rfl, rfl, h1, h2, by rw [r1.length, r2.length]; exact hc, fun p hp => q.lst S (pr_append r1 r2) hp⟩
      · cases hb
    · cases hb
  · split at hb
    · rename_i e1
      split at hb
      · cases hb
        rename_i hc
        obtain ⟨a, rfl, hm⟩ := rep_ref hx
        cases rep_int hy
        obtain ⟨vs, h1, r1⟩ := S.obj _ _ _ e1 hm
        exact op_rep pins s σ H _ _ v u Q I rx ry ⟨_, _, _, rfl, rfl, h1, hc.1, hc.2.1, by rw [r1.length]; exact hc.2.2, fun p hp => q.lst S (pr_rep r1 _) hp⟩
      · cases hb
    · cases hb
  · cases hb
end
/-! ### what can be sorted -/
section
variable {X : Cx} {pins : List (Addr × Obj)} {σ : L2.St} {H : Hp} {s : Shared} {μ : List Addr} {ds : List D} {vs : List V} {us : List Value}
theorem pures_iff : ∀ {ds : List D}, D.pures ds = true ↔ ∀ d ∈ ds, d.pure = true
  | [] => by simp [D.pures]
  | d :: ds => by simp only [D.pures, Bool.and_eq_true, pures_iff (ds := ds), List.forall_mem_cons]
theorem deps_iff {n : Nat} : ∀ {ds : List D}, D.deps ds ≤ n ↔ ∀ d ∈ ds, d.dep ≤ n
  | [] => by simp [D.deps]
  | d :: ds => by
    simp only [D.deps, List.forall_mem_cons, ← deps_iff (n := n) (ds := ds)]
    omega
structure SortD (ds : List D) : Prop where
  pure : ∀ d ∈ ds, d.pure = true
  dep : ∀ d ∈ ds, d.dep ≤ 100
  alk : ∀ a ∈ ds, ∀ b ∈ ds, D.alk a b = true
  kind : (∀ d ∈ ds, d.isT1 = true) ∨ ∀ d ∈ ds, d.noTN = true
  len : ds.length < sizeLine
theorem sortOk_iff : sortOk ds = true ↔ SortD ds := by
  unfold sortOk
  simp only [Bool.and_eq_true, Bool.or_eq_true, decide_eq_true_eq, List.all_eq_true, pures_iff, deps_iff]
  exact ⟨fun ⟨⟨⟨⟨a, b⟩, c⟩, d⟩, e⟩ => ⟨a, b, c, d, e⟩, fun h => ⟨⟨⟨⟨h.pure, h.dep⟩, h.alk⟩, h.kind⟩, h.len⟩⟩
theorem SortD.alike (h : SortD ds) : PySem.W.AllAlike (ds.map D.py) := by
  intro d hd d' hd'
  obtain ⟨a, ha, rfl⟩ := List.mem_map.mp hd
  obtain ⟨b, hb, rfl⟩ := List.mem_map.mp hd'
  rw [py_alk a b (h.pure a ha) (h.pure b hb)]
  exact h.alk a ha b hb
theorem SortD.sort (h : SortD ds) : PySem.W.Sortable (ds.map D.py) := by
  rcases h.kind with k | k
  · refine .inl fun d hd => ?_
    obtain ⟨a, ha, rfl⟩ := List.mem_map.mp hd
    have := k a ha
    match a, this with
    | .tup (x :: xs), _ => exact ⟨_, _, rfl⟩
  · refine .inr fun d hd => ?_
    obtain ⟨a, ha, rfl⟩ := List.mem_map.mp hd
    have := k a ha
    have hp := h.pure a ha
    cases a <;> simp_all [D.noTN, D.py, D.pure]
theorem SortD.eq (h : SortD ds) : ds.mergeSort (PySem.W.dataLe false D.py) = sortD ds := by
  have := List.map_mergeSort (f := id) (r := PySem.W.dataLe false D.py) (s := fun a b => !D.lt b a) (l := ds) fun a ha b hb => by
    rw [PySem.W.dataLe_eq]
    show (!PySem.W.dataLt b.py a.py) = _
    rw [py_lt b a (h.pure b hb) (h.pure a ha) (h.alk b hb a ha)]
    rfl
  simpa [sortD] using this
theorem each_reps : ∀ {vs : List V} {us : List Value} {ds : List D}, Vals vs us → Reps X.K H μ vs ds → PySem.W.EachIs (fun v d => ∃ x, RelV x v ∧ Rep X.K H μ x d) us ds
  | [], _, _, h, r => by cases h; cases r; exact .nil
  | v :: vs, _, _, h, r => by
    cases h with
    | cons h1 h2 =>
      cases r with
      | cons r1 r2 => exact .cons ⟨v, h1, r1⟩ (each_reps h2 r2)
theorem reps_each : ∀ {us : List Value} {ds : List D}, PySem.W.EachIs (fun v d => ∃ x, RelV x v ∧ Rep X.K H μ x d) us ds → ∃ vs, Vals vs us ∧ Reps X.K H μ vs ds
  | _, _, .nil => ⟨[], .nil, .nil⟩
  | _, _, .cons ⟨x, h1, h2⟩ t => by
    obtain ⟨vs, a, b⟩ := reps_each t
    exact ⟨x :: vs, .cons h1 a, .cons h2 b⟩
theorem each_reads (I : Inv X pins σ H s) : ∀ {vs : List V} {us : List Value} {ds : List D}, Vals vs us → Reps X.K H μ vs ds → (∀ d ∈ ds, d.pure = true) → PySem.W.EachIs (fun v d => ∃ as, Reads s.heap v (D.py d) as) us ds
  | [], _, _, h, r, _ => by cases h; cases r; exact .nil
  | v :: vs, _, _, h, r, p => by
    cases h with
    | cons h1 h2 =>
      cases r with
      | cons r1 r2 => exact .cons (rep_reads I r1 h1 (p _ List.mem_cons_self)) (each_reads I h2 r2 fun d hd => p d (List.mem_cons_of_mem _ hd))
end
end CL

/-! CL3: comparisons, truth, places, types, dicts. -/
namespace CL
open PySem PySem.Spec PyProof.Rows L2

/-! ### dicts -/
section
variable {K : PySem.W.Frag} {H H' : Hp} {μ : List Addr} {st : Sto} {v : V}
theorem key_of_rep {k : D} (hk : isKey k = true) (r : Rep K H μ v k) : ∃ key, v = kV key ∧ kD key = k ∧ kOk key := by
  cases k with
  | int i => exact ⟨.inl i, rep_int r, rfl, True.intro⟩
  | str s => obtain ⟨x, e, h1, h2⟩ := rep_str r; exact ⟨.inr x, e, by simp [kD, h1], h2⟩
  | _ => simp [isKey] at hk
theorem kD_dec (a b : Key) : decide (kD a = kD b) = decide (a = b) := by
  by_cases h : a = b
  · subst h; simp
  · rw [decide_eq_false h, decide_eq_false (fun e => h (kD_inj e))]
def RepO (K : PySem.W.Frag) (H : Hp) (μ : List Addr) : Option V → Option D → Prop
  | some v, some d => Rep K H μ v d
  | none, none => True
  | _, _ => False
theorem look_cons {α : Type} (p : D × α) (r : List (D × α)) (k : D) : look (p :: r) k = if p.1 = k then some p.2 else look r k := by
  unfold look
  rw [List.find?_cons]
  by_cases h : p.1 = k <;> simp [h]
theorem look_nil {α : Type} (k : D) : look ([] : List (D × α)) k = none := rfl
theorem look_rel (key : Key) : ∀ {ks : List (Key × V)} {kvs : List (D × D)}, Paired (EnR K H μ) ks kvs → RepO K H μ (valV ks key) (look kvs (kD key))
  | _, _, .nil => True.intro
  | p :: r, q :: t, .cons h hr => by
    have ih := look_rel key hr
    rw [look_cons]
    by_cases e : p.1 = key
    · rw [valV_pos e]
      have : q.1 = kD key := by rw [← h.1, e]
      rw [if_pos this]
      exact h.2.2
    · rw [valV_neg e]
      have : ¬ q.1 = kD key := fun z => e (kD_inj (h.1.trans z))
      rw [if_neg this]
      exact ih
theorem any_rel (key : Key) : ∀ {ks : List (Key × V)} {kvs : List (D × D)}, Paired (EnR K H μ) ks kvs → (ks.any fun kv => decide (kv.1 = key)) = kvs.any fun kv => decide (kv.1 = kD key)
  | _, _, .nil => rfl
  | p :: r, q :: t, .cons h hr => by
    rw [List.any_cons, List.any_cons, any_rel key hr, ← h.1, kD_dec]
theorem put_rel {key : Key} {d : D} (hk : kOk key) (rv : Rep K H μ v d) {ks : List (Key × V)} {kvs : List (D × D)} (r : Paired (EnR K H μ) ks kvs) : Paired (EnR K H μ) (putK ks key v) (put kvs (kD key) d) := by
  unfold putK put
  rw [any_rel key r]
  split
  · refine pr_map (R := EnR K H μ) (fun p q h => ?_) r
    by_cases e : p.1 = key
    · have : q.1 = kD key := by rw [← h.1, e]
      rw [if_pos e, if_pos this]
      exact ⟨h.1, h.2.1, rv⟩
    · have : ¬ q.1 = kD key := fun z => e (kD_inj (h.1.trans z))
      rw [if_neg e, if_neg this]
      exact h
  · exact pr_append r (.cons ⟨rfl, hk, rv⟩ .nil)
theorem RepO.isSome {o : Option V} {u : Option D} (r : RepO K H μ o u) : o.isSome = u.isSome := by
  cases o <;> cases u <;> first | rfl | exact r.elim
end

/-! ### comparisons -/
def opC : Cop → CmpOp
  | .eq => .Eq
  | .ne => .NotEq
  | .lt => .Lt
  | .le => .LtE
  | .gt => .Gt
  | .ge => .GtE
  | .is_ => .Is
  | .isnot => .IsNot
  | .in_ => .In
  | .notin => .NotIn
def rCmp (K : PySem.W.Frag) (o : Cop) : R2 := fun x y H Q => ∃ μ st dx dy t, SOk K μ st H ∧ Rep K H μ x dx ∧ Rep K H μ y dy ∧ cmpop o dx dy st = some t ∧ Q (.bl t) H
section
variable {X : Cx}
theorem eqAt_ok {pins : List (Addr × Obj)} {s : Shared} {σ : L2.St} {H : Hp} {x y : V} {v u : Value} {μ : List Addr} {st : Sto} {dx dy : D} {t : Bool} (hu : X.A.units + 200 < cLine)
    (I : Inv X pins σ H s) (rx : RelV x v) (ry : RelV y u) (S : SOk X.K μ st H) (hx : Rep X.K H μ x dx) (hy : Rep X.K H μ y dy) (h : eqAt st dx dy = some t) :
    ∃ da db as bs, Reads s.heap v da as ∧ Reads s.heap u db bs ∧ da.plain = true ∧ db.plain = true ∧ X.A.units + min da.depth db.depth < cLine ∧ PyData.eqv da db = t := by
  unfold eqAt at h
  split at h
  · rename_i hp
    split at h
    · rename_i hd
      cases h
      obtain ⟨as, r1⟩ := rep_reads I hx rx hp.1
      obtain ⟨bs, r2⟩ := rep_reads I hy ry hp.2
      exact ⟨_, _, as, bs, r1, r2, py_plain _, py_plain _, by rw [py_dep, py_dep]; omega, py_eqv _ _ hp.1 hp.2⟩
    · cases h
  · split at h
    · rename_i xs ys e1 e2
      split at h
      · rename_i hp
        cases h
        obtain ⟨as, r1⟩ := lst_reads I S hx rx e1 hp.1
        obtain ⟨bs, r2⟩ := lst_reads I S hy ry e2 hp.2.1
        refine ⟨_, _, as, bs, r1, r2, pys_plain _, pys_plain _, ?_, ?_⟩
        · simp only [PyData.depth, pys_dep]; omega
        · simp only [PyData.eqv]; exact pys_eqv _ _ hp.1 hp.2.1
      · cases h
    · rename_i xs e1 e2
      split at h
      · rename_i hp
        cases h
        obtain ⟨as, r1⟩ := lst_reads I S hx rx e1 hp.1
        obtain ⟨bs, r2⟩ := rep_reads I hy ry hp.2.1
        refine ⟨_, _, as, bs, r1, r2, pys_plain _, py_plain _, ?_, ?_⟩
        · simp only [PyData.depth, pys_dep, py_dep]; omega
        · have hp2 := hp.2.1
          cases dy <;> simp_all [D.py, PyData.eqv, D.pure]
      · cases h
    · rename_i ys e1 e2
      split at h
      · rename_i hp
        cases h
        obtain ⟨as, r1⟩ := lst_reads I S hy ry e2 hp.1
        obtain ⟨bs, r2⟩ := rep_reads I hx rx hp.2.1
        refine ⟨_, _, bs, as, r2, r1, py_plain _, pys_plain _, ?_, ?_⟩
        · simp only [PyData.depth, pys_dep, py_dep]; omega
        · have hp2 := hp.2.1
          cases dx <;> simp_all [D.py, PyData.eqv, D.pure]
      · cases h
    · cases h
/-- what in tells of a container -/
theorem isIn_any (x : D) (hx : x.pure = true) : ∀ xs : List D, D.pures xs = true → ((D.pys xs).any fun y => PyData.eqv y x.py) = isIn x xs
  | [], _ => rfl
  | y :: ys, h => by
    simp only [D.pures, Bool.and_eq_true] at h
    have ih := isIn_any x hx ys h.2
    simp only [isIn] at ih
    simp only [D.pys, List.any_cons, isIn, ih, py_eqv y x h.1 hx]
theorem seq_reads {pins : List (Addr × Obj)} {s : Shared} {σ : L2.St} {H : Hp} {μ : List Addr} {st : Sto} (I : Inv X pins σ H s) (S : SOk X.K μ st H) {d : D} {xs : List D} {v : V} {u : Value} (r : Rep X.K H μ v d) (ru : RelV v u) (h : seqAt st d = some xs) (p : D.pures xs = true) :
    ∃ as, Reads s.heap u (.list (D.pys xs)) as ∨ Reads s.heap u (.tuple (D.pys xs)) as := by
  cases d with
  | tup ds =>
    simp only [seqAt] at h
    cases h
    obtain ⟨as, q⟩ := rep_reads I r ru (by simpa [D.pure] using p)
    exact ⟨as, .inr (by simpa [D.py] using q)⟩
  | ref n =>
    obtain ⟨as, q⟩ := lst_reads I S r ru h p
    exact ⟨as, .inl q⟩
  | _ => simp [seqAt, lstAt] at h
theorem op_inAt {pins : List (Addr × Obj)} {s : Shared} {σ : L2.St} {H : Hp} {x y : V} {v u : Value} {μ : List Addr} {st : Sto} {dx dy : D} {t : Bool} {Q : VK} (neg : Bool) (hu : X.A.units + 200 < cLine)
    (I : Inv X pins σ H s) (rx : RelV x v) (ry : RelV y u) (S : SOk X.K μ st H) (hx : Rep X.K H μ x dx) (hy : Rep X.K H μ y dy) (h : inAt st dx dy = some t) (q : Q (.bl (if neg then !t else t)) H) :
    wpAny (model X.prog X.w) X.A (compareOp (if neg then .NotIn else .In) v u) (EP X pins σ Q) X.xe s := by
  unfold inAt at h
  split at h
  · split at h
    · cases h
      obtain ⟨a, rfl, ea, _⟩ := rep_str hx
      obtain ⟨b, rfl, eb, _⟩ := rep_str hy
      subst ea eb
      cases neg with
      | false => exact op_in_str pins s σ H _ _ v u Q I rx ry ⟨_, _, rfl, rfl, by simpa [occurs, Str.length] using q⟩
      | true => exact op_notin_str pins s σ H _ _ v u Q I rx ry ⟨_, _, rfl, rfl, by simpa [occurs, Str.length] using q⟩
    · cases h
  · split at h
    · rename_i xs e1
      split at h
      · rename_i hp
        cases h
        obtain ⟨as, r1⟩ := seq_reads I S hy ry e1 hp.1
        obtain ⟨bs, r2⟩ := rep_reads I hx rx hp.2.1
        have hd : X.A.units + 1 + min (PyData.depthAll (D.pys xs)) dx.py.depth < cLine := by rw [pys_dep, py_dep]; omega
        rw [← isIn_any dx hp.2.1 xs hp.1] at q
        cases neg with
        | false =>
          rcases r1 with r1 | r1
          · exact SeqAt.in_list_data r1 r2 (pys_plain _) (py_plain _) hd ⟨.bl _, H, I, rfl, q⟩
          · exact SeqAt.in_tuple_data r1 r2 (pys_plain _) (py_plain _) hd ⟨.bl _, H, I, rfl, q⟩
        | true =>
          rcases r1 with r1 | r1
          · exact SeqAt.notIn_list_data r1 r2 (pys_plain _) (py_plain _) hd ⟨.bl _, H, I, rfl, q⟩
          · exact SeqAt.notIn_tuple_data r1 r2 (pys_plain _) (py_plain _) hd ⟨.bl _, H, I, rfl, q⟩
      · cases h
    · split at h
      · rename_i kvs e1
        split at h
        · rename_i hk
          cases h
          obtain ⟨a, ks, rfl, hr, rel⟩ := dic_of S hy e1
          obtain ⟨key, rfl, rfl, _⟩ := key_of_rep hk hx
          have g : DGet H a (kV key) (valV ks key) := .inl ⟨ks, key, hr, rfl, rfl⟩
          rw [← (look_rel key rel).isSome] at q
          obtain rfl : u = Value.ref a := ry
          cases neg with
          | false => exact d_in (by omega) I g rx fun s3 I3 => ⟨.bl _, H, I3, rfl, q⟩
          | true => exact d_notIn (by omega) I g rx fun s3 I3 => ⟨.bl _, H, I3, rfl, q⟩
        · cases h
      · cases h
theorem op_cmp (hu : X.A.units + 200 < cLine) (o : Cop) : OpR X (compareOp (opC o)) (rCmp X.K o) := by
  intro pins s σ H x y v u Q I rx ry h
  obtain ⟨μ, st, dx, dy, t, S, hx, hy, h, q⟩ := h
  cases o with
  | eq =>
    obtain ⟨da, db, as, bs, r1, r2, p1, p2, hd, e⟩ := eqAt_ok hu I rx ry S hx hy h
    exact SeqAt.eq_plain r1 r2 p1 p2 hd ⟨.bl _, H, I, rfl, by rw [e]; exact q⟩
  | ne =>
    simp only [cmpop, Option.map_eq_some_iff] at h
    obtain ⟨t', h, rfl⟩ := h
    obtain ⟨da, db, as, bs, r1, r2, p1, p2, hd, e⟩ := eqAt_ok hu I rx ry S hx hy h
    exact SeqAt.ne_plain r1 r2 p1 p2 hd ⟨.bl _, H, I, rfl, by rw [e]; exact q⟩
  | in_ => exact op_inAt (Q := Q) false hu I rx ry S hx hy h q
  | notin =>
    simp only [cmpop, Option.map_eq_some_iff] at h
    obtain ⟨t', h, rfl⟩ := h
    exact op_inAt (Q := Q) true hu I rx ry S hx hy h q
  | lt =>
    simp only [cmpop] at h
    split at h
    · cases h; cases rep_int hx; cases rep_int hy
      exact op_lt pins s σ H _ _ v u Q I rx ry ⟨_, _, rfl, rfl, q⟩
    · cases h
      obtain ⟨a, rfl, rfl, _⟩ := rep_str hx
      obtain ⟨b, rfl, rfl, _⟩ := rep_str hy
      exact op_lt_str pins s σ H _ _ v u Q I rx ry ⟨_, _, rfl, rfl, q⟩
    · cases h
  | le =>
    simp only [cmpop] at h
    split at h
    · cases h; cases rep_int hx; cases rep_int hy
      exact op_le pins s σ H _ _ v u Q I rx ry ⟨_, _, rfl, rfl, q⟩
    · cases h
  | gt =>
    simp only [cmpop] at h
    split at h
    · cases h; cases rep_int hx; cases rep_int hy
      exact op_gt pins s σ H _ _ v u Q I rx ry ⟨_, _, rfl, rfl, q⟩
    · cases h
  | ge =>
    simp only [cmpop] at h
    split at h
    · cases h; cases rep_int hx; cases rep_int hy
      exact op_ge pins s σ H _ _ v u Q I rx ry ⟨_, _, rfl, rfl, q⟩
    · cases h
  | is_ =>
    simp only [cmpop] at h
    split at h
    · cases h; cases rep_non hy
      refine op_isN pins s σ H _ _ v u Q I rx ry ⟨rfl, ?_⟩
      have : decide (x = .non) = decide (dx = .non) := by
        cases hx <;> simp
      rw [this]; exact q
    · split at h
      · cases h; cases rep_bl hx; cases rep_bl hy
        exact op_isBl pins s σ H _ _ v u Q I rx ry ⟨_, _, rfl, rfl, q⟩
      · cases h
    · cases h
  | isnot =>
    simp only [cmpop] at h
    split at h
    · cases h; cases rep_non hy
      refine op_notN pins s σ H _ _ v u Q I rx ry ⟨rfl, ?_⟩
      have : decide (x = .non) = decide (dx = .non) := by
        cases hx <;> simp
      rw [this]; exact q
    · split at h
      · cases h; cases rep_bl hx; cases rep_bl hy
        exact op_notBl pins s σ H _ _ v u Q I rx ry ⟨_, _, rfl, rfl, q⟩
      · cases h
    · cases h

/-! ### truth -/
theorem tru_of {μ : List Addr} {st : Sto} {H : Hp} {x : V} {d : D} {t : Bool} (S : SOk X.K μ st H) (hx : Rep X.K H μ x d) (h : truth st d = some t) : TruV X.K x H t := by
  cases d with
  | non => cases rep_non hx; cases h; rfl
  | bl b => cases rep_bl hx; cases h; rfl
  | int i =>
    cases rep_int hx; cases h
    show decide (i ≠ 0) = (i != 0)
    simp [bne, Bool.beq_eq_decide_eq]
  | str s =>
    obtain ⟨a, rfl, rfl, l⟩ := rep_str hx
    cases h
    refine ⟨l, ?_⟩
    rw [len_of (x := a) rfl]
    generalize a.cps.toList = z
    cases z with
    | nil => rfl
    | cons c z =>
      have : ((z.length : Int) + 1) ≠ 0 := by omega
      simp [this]
  | tup xs =>
    obtain ⟨a, vs, rfl, h1, r1⟩ := rep_tup hx
    cases h
    exact .inr (.inl ⟨vs, h1, by rw [pr_isEmpty r1]⟩)
  | ref n =>
    obtain ⟨a, rfl, hm⟩ := rep_ref hx
    simp only [truth] at h
    split at h
    · rename_i xs e
      cases h
      obtain ⟨vs, h1, r1⟩ := S.obj n _ a e hm
      exact .inl ⟨vs, .inl (.inl h1), by rw [pr_isEmpty r1]⟩
    · rename_i xs e
      cases h
      obtain ⟨vs, h1, r1⟩ := S.obj n _ a e hm
      refine .inl ⟨vs, ?_, by rw [pr_isEmpty r1]⟩
      rcases h1 with ⟨o, h1⟩ | h1
      · exact .inl (.inr ⟨o, h1⟩)
      · exact .inr h1
    · rename_i xs e
      cases h
      obtain ⟨ks, h1, r1⟩ := S.obj n _ a e hm
      exact .inr (.inr ⟨ks, h1, by rw [pr_isEmpty r1]⟩)
    · cases h

/-! ### a[i] -/
def rIdx (K : PySem.W.Frag) : R2 := fun x y H Q => ∃ μ st dx dy d, SOk K μ st H ∧ Rep K H μ x dx ∧ Rep K H μ y dy ∧ idxop dx dy st = some d ∧ ∀ v, Rep K H μ v d → Q v H
theorem ixD (hu : X.A.units + 1 < cLine) {value slice : Expr} {pins : List (Addr × Obj)} {s : Shared} {σ : L2.St} {H : Hp} {a : Addr} {y w : V} {u : Value} {Q : VK} (I : Inv X pins σ H s) (ry : RelV y u) (g : DGet H a y (some w)) (q : Q w H)
    (hs : subscripted slice false (.ref a) u = operate [.ref a, u] (getItem (.ref a) u)) : wpAny (model X.prog X.w) X.A (subscriptTail value slice (.ref a) u) (EP X pins σ Q) X.xe s := by
  have hT := dict_typeIs I g
  unfold subscriptTail
  refine wpAny_bind ?_
  rw [getitemInPython_of_ne hT.not_modules]
  refine wpAny_bind (wpAny_specialOf hT PySem.F.slot_dict_getitem.lookup ?_)
  have fin : wpAny (model X.prog X.w) X.A (subscripted slice false (.ref a) u) (fun r s₃ => wpAny (model X.prog X.w) X.A (letTemporaryGo value (.ref a) r >>= fun _ => pure r) (EP X pins σ Q) X.xe s₃) X.xe s := by
    rw [hs]
    exact wpAny_operating (d_getItem hu I g ry fun w' s3 I3 rw' => wpAny_bind (wpAny_letTemporaryGo (wpAny_pure ⟨w, H, I3, rw', q⟩)))
  first
    | exact wpAny_pure (wpAny_bind fin)
    | exact wpAny_bind (wpAny_pure (wpAny_bind fin))
    | exact wpAny_bind fin
theorem at_rel {K : PySem.W.Frag} {H : Hp} {μ : List Addr} {vs : List V} {ds : List D} {i : Int} {d : D} (r : Reps K H μ vs ds) (h : at_ ds i = some d) : ∃ v, atI vs i = some v ∧ Rep K H μ v d := by
  unfold at_ atI at h
  rw [← r.length] at h
  unfold atI
  cases e : ixN vs.length i with
  | none => rw [e] at h; cases h
  | some j =>
    rw [e] at h
    exact pr_get r h
theorem ix_all (hu : X.A.units + 1 < cLine) : IxR X (rIdx X.K) := by
  intro value slice pins s σ H x y v u Q I rx ry h hs
  obtain ⟨μ, st, dx, dy, d, S, hx, hy, h, q⟩ := h
  unfold idxop at h
  split at h
  · obtain ⟨a, vs, rfl, h1, r1⟩ := rep_tup hx
    cases rep_int hy
    obtain ⟨w, e, rw'⟩ := at_rel r1 h
    exact ix_tup value slice pins s σ H _ _ v u Q I rx ry ⟨_, _, _, _, rfl, rfl, h1, e, q _ rw'⟩ hs
  · obtain ⟨a, rfl, rfl, l⟩ := rep_str hx
    cases rep_int hy
    simp only [Option.map_eq_some_iff] at h
    obtain ⟨c, h, rfl⟩ := h
    exact ix_str value slice pins s σ H _ _ v u Q I rx ry ⟨_, _, _, rfl, rfl, l, h, q _ (mk_str (by rw [sizeLine_eq]; simp))⟩ hs
  · split at h
    · rename_i xs e1
      split at h
      · obtain ⟨a, vs, rfl, h1, r1⟩ := lst_of S hx e1
        cases rep_int hy
        obtain ⟨w, e, rw'⟩ := at_rel r1 h
        exact ix_list value slice pins s σ H _ _ v u Q I rx ry ⟨_, _, _, _, rfl, rfl, h1, e, q _ rw'⟩ hs
      · cases h
    · split at h
      · rename_i kvs e1
        split at h
        · rename_i hk
          obtain ⟨a, ks, rfl, hr, rel⟩ := dic_of S hx e1
          obtain ⟨key, rfl, rfl, _⟩ := key_of_rep hk hy
          have lr := look_rel key rel
          rw [h] at lr
          obtain rfl : v = Value.ref a := rx
          cases e : valV ks key with
          | none => rw [e] at lr; exact lr.elim
          | some w =>
            rw [e] at lr
            exact ixD hu I ry (.inl ⟨ks, key, hr, rfl, e.symm⟩) (q w lr) hs
        · cases h
      · cases h
  · cases h

/-! ### a[lo:hi] -/
def rSl (K : PySem.W.Frag) : V → Option Int → Option Int → Hp → VK → Prop := fun x lo hi H Q => ∃ μ st dx d st', SOk K μ st H ∧ Rep K H μ x dx ∧ slop dx lo hi st = some (d, st') ∧ Post K H μ d st' Q
theorem cut_rel {K : PySem.W.Frag} {H : Hp} {μ : List Addr} {vs : List V} {ds : List D} (r : Reps K H μ vs ds) (lo hi : Option Int) : Reps K H μ (cutV vs lo hi) (cut ds lo hi) := by
  unfold cutV cut
  rw [r.length]
  exact pr_take _ (pr_drop _ r)
theorem cut_length {α : Type} (xs : List α) (lo hi : Option Int) : (cut xs lo hi).length ≤ xs.length := by
  unfold cut
  rw [List.length_take, List.length_drop]
  omega
theorem cut_whole {α : Type} {xs : List α} {lo hi : Option Int} (h : HT.sIx xs.length 0 lo = 0 ∧ HT.sIx xs.length xs.length hi = xs.length) : cut xs lo hi = xs := by
  unfold cut
  rw [h.1, h.2]
  simp
theorem sl_all : SlR X (rSl X.K) := by
  intro pins s σ H x v vl vu lo hi sl Q I rx hs pl pu h
  obtain ⟨μ, st, dx, d, st', S, hx, h, q⟩ := h
  unfold slop at h
  split at h
  · cases h
    obtain ⟨a, vs, rfl, h1, r1⟩ := rep_tup hx
    refine sl_tupN pins s σ H _ v vl vu lo hi sl Q I rx hs pl pu ⟨_, _, rfl, h1, fun hw => ?_, fun _ => q.tup S (cut_rel r1 lo hi)⟩
    rw [r1.length] at hw
    rw [cut_whole hw] at q
    exact q.same S hx
  · cases h
    obtain ⟨a, rfl, rfl, l⟩ := rep_str hx
    refine sl_str pins s σ H _ v vl vu lo hi sl Q I rx hs pl pu ⟨_, rfl, l, ?_⟩
    have e : cut a.cps.toList lo hi = (cutS a lo hi).cps.toList := by
      unfold cutS cut
      simp [Str.length]
    rw [e] at q
    refine q.same S (.str _ (Nat.le_trans (cutS_length a lo hi) l))
  · split at h
    · rename_i xs e1
      cases h
      obtain ⟨a, vs, rfl, h1, r1⟩ := lst_of S hx e1
      exact sl_list pins s σ H _ v vl vu lo hi sl Q I rx hs pl pu ⟨_, _, rfl, h1, fun p hp => q.lst S (cut_rel r1 lo hi) hp⟩
    · cases h
  · cases h

/-! ### a[i] = v -/
def rSet (K : PySem.W.Frag) : TSet := fun x y z H Q => ∃ μ st dx dy dz st', SOk K μ st H ∧ Rep K H μ x dx ∧ Rep K H μ y dy ∧ Rep K H μ z dz ∧ setix dx dy dz st = some st' ∧ ∀ H', Gr K H H' → SOk K μ st' H' → Q H'
theorem lst_write {K : PySem.W.Frag} {H : Hp} {μ : List Addr} {st : Sto} {n : Nat} {a : Addr} {xs ys : List D} {vs ws : List V} (S : SOk K μ st H) (e : st[n]? = some (.lst xs)) (hm : μ[n]? = some a) (h1 : H a = some (.lst vs)) (r : Reps K H μ ws ys) :
    Gr K H (upd H a (.lst ws)) ∧ SOk K μ (st.set n (.lst ys)) (upd H a (.lst ws)) := by
  have g : Gr K H (upd H a (.lst ws)) := gr_upd h1 True.intro (fun _ _ q => by cases q) (fun _ q => by cases q)
  exact ⟨g, S.write hm h1 True.intro (fun _ _ q => by cases q) (fun _ q => by cases q) (fun _ q => by rw [e] at q; cases q) ⟨ws, upd_same, r.mono Pre.refl g⟩⟩
theorem dic_write {K : PySem.W.Frag} {H : Hp} {μ : List Addr} {st : Sto} {n : Nat} {a : Addr} {xs ys : List (D × D)} {vs ws : List (Key × V)} (S : SOk K μ st H) (e : st[n]? = some (.dic xs)) (hm : μ[n]? = some a) (h1 : H a = some (.dK vs)) (r : Paired (EnR K H μ) ws ys) :
    Gr K H (upd H a (.dK ws)) ∧ SOk K μ (st.set n (.dic ys)) (upd H a (.dK ws)) := by
  have g : Gr K H (upd H a (.dK ws)) := gr_upd h1 True.intro (fun _ _ q => by cases q) (fun _ q => by cases q)
  exact ⟨g, S.write hm h1 True.intro (fun _ _ q => by cases q) (fun _ q => by cases q) (fun _ q => by rw [e] at q; cases q) ⟨ws, upd_same, pr_mono (fun _ _ h => h.mono Pre.refl g) r⟩⟩
theorem set_all (hu : X.A.units + 1 < cLine) : PSet X (rSet X.K) := by
  intro pins s σ H x y z ov iv u Q I rx ry rz h
  obtain ⟨μ, st, dx, dy, dz, st', S, hx, hy, hz, h, q⟩ := h
  unfold setix at h
  split at h
  · rename_i n
    obtain ⟨a, rfl, hm⟩ := rep_ref hx
    split at h
    · rename_i xs e
      obtain ⟨vs, h1, r1⟩ := S.obj n _ a e hm
      split at h
      · split at h
        · rename_i k j hj
          cases h
          cases rep_int hy
          obtain ⟨g, S'⟩ := lst_write S e hm h1 (pr_set hz j r1)
          exact set_list pins s σ H _ _ _ ov iv u Q I rx ry rz ⟨_, _, _, _, rfl, rfl, h1, by rw [r1.length]; exact hj, q _ g S'⟩
        · cases h
      · cases h
    · rename_i kvs e
      split at h
      · rename_i hk
        cases h
        obtain ⟨ks, h1, r1⟩ := S.obj n _ a e hm
        obtain ⟨key, rfl, rfl, ok⟩ := key_of_rep hk.1 hy
        obtain ⟨g, S'⟩ := dic_write S e hm h1 (put_rel ok hz r1)
        obtain rfl : ov = Value.ref a := rx
        exact d_setItem hu I (DPut.k h1 (by rw [r1.length]; exact hk.2)) ry rz fun s4 I4 => ⟨_, I4, q _ g S'⟩
      · cases h
    · cases h
  · cases h
end
end CL

/-! CL4: built-in functions, types, methods. -/
namespace CL
open PySem PySem.Spec PyProof.Rows L2
section
variable {X : Cx}

/-! ### isinstance -/
def tyName : Ty → String
  | .int => "int"
  | .bool => "bool"
  | .str => "str"
  | .tuple => "tuple"
  | .list => "list"
  | .dict => "dict"
theorem kit_all : (∀ t, kitB "NoneType" (tyName t) = some false) ∧ (∀ t, kitB "bool" (tyName t) = some (decide (t = .int ∨ t = .bool))) ∧ (∀ t, kitB "int" (tyName t) = some (decide (t = .int))) ∧
    (∀ t, kitB "str" (tyName t) = some (decide (t = .str))) ∧ (∀ t, kitB "tuple" (tyName t) = some (decide (t = .tuple))) ∧ (∀ t, kitB "list" (tyName t) = some (decide (t = .list))) ∧ (∀ t, kitB "dict" (tyName t) = some (decide (t = .dict))) := by
  refine ⟨?_, ?_, ?_, ?_, ?_, ?_, ?_⟩ <;> intro t <;> cases t <;> decide +kernel
theorem isTy_of {μ : List Addr} {st : Sto} {H : Hp} {x : V} {d : D} {t : Ty} {b : Bool} (S : SOk X.K μ st H) (hx : Rep X.K H μ x d) (h : isTy st t d = some b) : ∃ T, TyX X.K H x (.type T) ∧ kitB T (tyName t) = some b := by
  obtain ⟨k0, k1, k2, k3, k4, k5, k6⟩ := kit_all
  cases d with
  | non => cases rep_non hx; cases h; exact ⟨_, .base .non, k0 t⟩
  | bl _ => cases rep_bl hx; cases h; exact ⟨_, .base (.bl _), k1 t⟩
  | int _ => cases rep_int hx; cases h; exact ⟨_, .base (.int _), k2 t⟩
  | str _ => obtain ⟨a, rfl, _, _⟩ := rep_str hx; cases h; exact ⟨_, .base (.str _), k3 t⟩
  | tup _ =>
    obtain ⟨a, vs, rfl, h1, r1⟩ := rep_tup hx
    cases h
    refine ⟨"tuple", ?_, k4 t⟩
    rcases h1 with (h1 | ⟨o, h1⟩) | ⟨o, _, _, h1, h2, _⟩
    · exact .base (.tup h1)
    · exact .fTuple h1
    · exact .kTuple h1 h2
  | ref n =>
    obtain ⟨a, rfl, hm⟩ := rep_ref hx
    simp only [isTy] at h
    split at h
    · rename_i xs e
      cases h
      obtain ⟨vs, h1, _⟩ := S.obj n _ a e hm
      exact ⟨_, .base (.lst h1), k5 t⟩
    · rename_i xs e
      cases h
      obtain ⟨vs, h1, _⟩ := S.obj n _ a e hm
      rcases h1 with ⟨o, h1⟩ | ⟨o, _, _, h1, h2, _⟩
      · exact ⟨_, .base (.frz h1), k5 t⟩
      · exact ⟨_, .kList h1 h2, k5 t⟩
    · rename_i xs e
      cases h
      obtain ⟨vs, h1, _⟩ := S.obj n _ a e hm
      exact ⟨_, .base (.dK h1), k6 t⟩
    · rename_i xs e
      cases h
      obtain ⟨vs, o, h1, _⟩ := S.obj n _ a e hm
      exact ⟨_, .fDict h1, k6 t⟩
    · cases h
def rIsi' (K : PySem.W.Frag) (t : Ty) : List V → Hp → VK → Prop := fun xs H Q => ∃ x μ st d b, xs = [x, .ty (tyName t)] ∧ SOk K μ st H ∧ Rep K H μ x d ∧ isTy st t d = some b ∧ Q (.bl b) H
theorem call_isi' (t : Ty) : CallR X (.builtin "isinstance") (rIsi' X.K t) := by
  intro pins s σ H xs us Q I r h
  obtain ⟨x, μ, st, d, b, rfl, S, hx, h, q⟩ := h
  obtain ⟨T, ty, k⟩ := isTy_of S hx h
  exact call_isi pins s σ H _ us Q I r ⟨x, _, _, _, b, rfl, .ty _, ty, kit_ty k, q⟩

/-! ### built-ins -/
theorem ints_of : ∀ {xs : List D} {ns : List Int}, intsOf xs = some ns → xs = ns.map .int
  | [], ns, h => by simp [intsOf] at h; subst h; rfl
  | d :: xs, ns, h => by
    cases d with
    | int i =>
      simp only [intsOf, Option.map_eq_some_iff] at h
      obtain ⟨r, h, rfl⟩ := h
      rw [List.map_cons, ints_of h]
    | _ => simp [intsOf] at h
theorem strs_of : ∀ {xs : List D} {ns : List (List Nat)}, strsOf xs = some ns → xs = ns.map .str
  | [], ns, h => by simp [strsOf] at h; subst h; rfl
  | d :: xs, ns, h => by
    cases d with
    | str i =>
      simp only [strsOf, Option.map_eq_some_iff] at h
      obtain ⟨r, h, rfl⟩ := h
      rw [List.map_cons, strs_of h]
    | _ => simp [strsOf] at h
section
variable {K : PySem.W.Frag} {H : Hp} {μ : List Addr}
theorem reps_ints : ∀ {ns : List Int} {vs : List V}, Reps K H μ vs (ns.map .int) → vs = ns.map V.int
  | [], _, h => by cases h; rfl
  | n :: ns, _, h => by
    rw [List.map_cons] at h
    cases h with
    | cons r t => rw [rep_int r, reps_ints t, List.map_cons]
theorem reps_of_ints : ∀ (ns : List Int), Reps K H μ (ns.map V.int) (ns.map .int)
  | [] => .nil
  | n :: ns => .cons (.int n) (reps_of_ints ns)
theorem reps_strs : ∀ {ns : List (List Nat)} {vs : List V}, Reps K H μ vs (ns.map .str) → ∃ xs : List Str, vs = xs.map V.str ∧ xs.map (fun x => x.cps.toList) = ns ∧ ∀ x ∈ xs, x.length ≤ sizeLine
  | [], _, h => by cases h; exact ⟨[], rfl, rfl, by simp⟩
  | n :: ns, _, h => by
    rw [List.map_cons] at h
    cases h with
    | cons r t =>
      obtain ⟨x, rfl, e, l⟩ := rep_str r
      obtain ⟨xs, rfl, e', l'⟩ := reps_strs t
      exact ⟨x :: xs, rfl, by rw [List.map_cons, e, e'], by simpa using ⟨l, l'⟩⟩
theorem reps_of_strs : ∀ (xs : List Str), (∀ x ∈ xs, x.length ≤ sizeLine) → Reps K H μ (xs.map V.str) ((xs.map (fun x => x.cps.toList)).map .str)
  | [], _ => .nil
  | x :: xs, h => .cons (.str x (h x (by simp))) (reps_of_strs xs fun y hy => h y (by simp [hy]))
end
theorem maxI_mem : ∀ (m : Int) (r : List Int), maxI m r ∈ m :: r ∧ ∀ y ∈ m :: r, y ≤ maxI m r
  | m, [] => by simp [maxI]
  | m, x :: r => by
    unfold maxI
    have ⟨h1, h2⟩ := maxI_mem (if x > m then x else m) r
    generalize maxI (if x > m then x else m) r = z at *
    simp only [List.mem_cons] at *
    have h3 := h2 _ (.inl rfl)
    refine ⟨?_, ?_⟩
    · rcases h1 with h1 | h1
      · split at h1
        · exact .inr (.inl h1)
        · exact .inl h1
      · exact .inr (.inr h1)
    · intro y hy
      rcases hy with rfl | rfl | hy
      · split at h3 <;> omega
      · split at h3 <;> omega
      · exact h2 y (.inr hy)
theorem minI_mem : ∀ (m : Int) (r : List Int), minI m r ∈ m :: r ∧ ∀ y ∈ m :: r, minI m r ≤ y
  | m, [] => by simp [minI]
  | m, x :: r => by
    unfold minI
    have ⟨h1, h2⟩ := minI_mem (if x < m then x else m) r
    generalize minI (if x < m then x else m) r = z at *
    simp only [List.mem_cons] at *
    have h3 := h2 _ (.inl rfl)
    refine ⟨?_, ?_⟩
    · rcases h1 with h1 | h1
      · split at h1
        · exact .inr (.inl h1)
        · exact .inl h1
      · exact .inr (.inr h1)
    · intro y hy
      rcases hy with rfl | rfl | hy
      · split at h3 <;> omega
      · split at h3 <;> omega
      · exact h2 y (.inr hy)
theorem sortI_eq {ns ns' : List Int} (hp : ns'.Perm ns) (hs : ns'.Pairwise (· ≤ ·)) : ns' = sortI ns := by
  unfold sortI
  refine List.Perm.eq_of_pairwise (le := (· ≤ ·)) (fun _ _ _ _ a b => Int.le_antisymm a b) hs ?_ (hp.trans (List.mergeSort_perm _ _).symm)
  have := List.pairwise_mergeSort (le := fun a b : Int => decide (a ≤ b)) (fun a b c h1 h2 => by simp at *; omega) (fun a b => by simp; omega) ns
  exact this.imp (by simp)

/-- pairs as addresses -/
theorem pairs_rel {K : PySem.W.Frag} {H : Hp} {μ : List Addr} : ∀ {xs : List D} {ps : List (D × D)} {vs : List V}, pairsOf xs = some ps → ps.all (fun p => isKey p.1) = true → Reps K H μ vs xs →
    ∃ (as : List Addr) (kvs : List (Key × V)), vs = as.map V.ref ∧ Paired (fun p (kv : Key × V) => SqT K H p [kV kv.1, kv.2]) as kvs ∧ Paired (EnR K H μ) kvs ps
  | [], ps, vs, h, _, r => by
    simp [pairsOf] at h
    subst h
    cases r
    exact ⟨[], [], rfl, .nil, .nil⟩
  | d :: xs, ps, vs, h, ha, r => by
    unfold pairsOf at h
    split at h
    · rename_i e
      cases e
    · rename_i k v r' e
      cases e
      simp only [Option.map_eq_some_iff] at h
      obtain ⟨ps', h, rfl⟩ := h
      simp only [List.all_cons, Bool.and_eq_true] at ha
      cases r with
      | cons r1 r2 =>
        obtain ⟨as, kvs, rfl, q1, q2⟩ := pairs_rel h ha.2 r2
        obtain ⟨a, ws, rfl, h1, r1⟩ := rep_tup r1
        cases r1 with
        | cons ra rt =>
          cases rt with
          | cons rb rn =>
            cases rn
            obtain ⟨key, rfl, rfl, ok⟩ := key_of_rep ha.1 ra
            exact ⟨a :: as, (key, _) :: kvs, rfl, .cons h1 q1, .cons ⟨rfl, ok, rb⟩ q2⟩
    · cases h
theorem merge_rel {K : PySem.W.Frag} {H : Hp} {μ : List Addr} : ∀ {ps : List (D × D)} {kvs : List (Key × V)} {acc : List (Key × V)} {acc' : List (D × D)}, Paired (EnR K H μ) kvs ps → Paired (EnR K H μ) acc acc' → Paired (EnR K H μ) (mergeK acc kvs) (merge acc' ps)
  | [], _, _, _, .nil, h => h
  | p :: ps, kv :: kvs, acc, acc', .cons h t, r => by
    show Paired _ (mergeK (putK acc kv.1 kv.2) kvs) (merge (put acc' p.1 p.2) ps)
    rw [← h.1]
    exact merge_rel t (put_rel h.2.1 h.2.2 r)

def rBlt (K : PySem.W.Frag) (b : Blt) : List V → Hp → VK → Prop := fun xs H Q => ∃ μ st ds d st', SOk K μ st H ∧ Reps K H μ xs ds ∧ blt b ds st = some (d, st') ∧ Post K H μ d st' Q
theorem c_len : CallR X (.builtin "len") (rBlt X.K .len) := by
  intro pins s σ H xs us Q I r h
  obtain ⟨μ, st, ds, d, st', S, hx, h, q⟩ := h
  unfold blt at h
  split at h
  all_goals try (exact absurd ‹Blt.len = _› (by decide))
  · cases hx with
    | cons r1 rn =>
      cases rn
      split at h
      · cases h
        obtain ⟨a, rfl, e, l⟩ := rep_str r1
        refine call_len pins s σ H _ us Q I r ⟨_, a.length, rfl, ⟨l, rfl⟩, ?_⟩
        rw [len_of e]
        exact q.same S (.int _)
      · cases h
        obtain ⟨a, vs, rfl, h1, r2⟩ := rep_tup r1
        refine call_len pins s σ H _ us Q I r ⟨_, vs.length, rfl, .inr ⟨_, h1, rfl⟩, ?_⟩
        rw [r2.length]
        exact q.same S (.int _)
      · split at h
        · rename_i xs e1
          cases h
          obtain ⟨a, vs, rfl, h1, r2⟩ := lst_of S r1 e1
          refine call_len pins s σ H _ us Q I r ⟨_, vs.length, rfl, .inl ⟨_, h1, rfl⟩, ?_⟩
          rw [r2.length]
          exact q.same S (.int _)
        · split at h
          · split at h
            · rename_i kvs e1
              cases h
              obtain ⟨a, rfl, hm⟩ := rep_ref r1
              obtain ⟨ks, h1, r2⟩ := S.obj _ _ a e1 hm
              obtain ⟨u, rfl, rx⟩ := vals1 r
              obtain rfl : u = Value.ref a := rx
              refine d_len I (.inl h1) fun t s' I' => ⟨.int ks.length, H, I', ⟨t, rfl⟩, ?_⟩
              rw [r2.length]
              exact q.same S (.int _)
            · cases h
          · cases h
  · cases h
theorem c_int : CallR X (.type "int") (rBlt X.K .int) := by
  intro pins s σ H xs us Q I r h
  obtain ⟨μ, st, ds, d, st', S, hx, h, q⟩ := h
  unfold blt at h
  split at h
  all_goals try (exact absurd ‹Blt.int = _› (by decide))
  · cases h
    cases hx with
    | cons r1 rn =>
      cases rn
      cases rep_int r1
      exact call_int1 pins s σ H _ us Q I r (.inl ⟨_, rfl, q.same S (.int _)⟩)
  · cases h
    cases hx with
    | cons r1 rn =>
      cases rn
      cases rep_bl r1
      exact call_int1 pins s σ H _ us Q I r (.inr ⟨_, rfl, q.same S (.int _)⟩)
  · cases h
theorem c_abs : CallR X (.builtin "abs") (rBlt X.K .abs) := by
  intro pins s σ H xs us Q I r h
  obtain ⟨μ, st, ds, d, st', S, hx, h, q⟩ := h
  unfold blt at h
  split at h
  all_goals try (exact absurd ‹Blt.abs = _› (by decide))
  · cases h
    cases hx with
    | cons r1 rn =>
      cases rn
      cases rep_int r1
      exact call_abs pins s σ H _ us Q I r ⟨_, rfl, q.same S (.int _)⟩
  · cases h
theorem c_max (hc : X.calm = true) : CallR X (.builtin "max") (rBlt X.K .max) := by
  intro pins s σ H xs us Q I r h
  obtain ⟨μ, st, ds, d, st', S, hx, h, q⟩ := h
  unfold blt at h
  split at h
  all_goals try (exact absurd ‹Blt.max = _› (by decide))
  · cases h
    cases hx with
    | cons r1 rt =>
      cases rt with
      | cons r2 rn =>
        cases rn
        cases rep_int r1
        cases rep_int r2
        exact call_max2 hc pins s σ H _ us Q I r ⟨_, _, rfl, q.same S (.int _)⟩
  · split at h
    · rename_i xs e1
      split at h
      · rename_i x rr e2
        cases h
        cases hx with
        | cons r1 rn =>
          cases rn
          obtain ⟨a, vs, rfl, h1, r2⟩ := lst_of S r1 e1
          have := ints_of e2
          subst this
          cases reps_ints r2
          refine cr_max hc pins s σ H _ us Q I r ⟨a, _, rfl, h1, by simp, fun m hm hge => ?_⟩
          obtain ⟨k1, k2⟩ := maxI_mem x rr
          have : m = maxI x rr := Int.le_antisymm (k2 m hm) (hge _ k1)
          rw [this]
          exact q.same S (.int _)
      · cases h
    · cases h
  · cases h
theorem c_min (hc : X.calm = true) : CallR X (.builtin "min") (rBlt X.K .min) := by
  intro pins s σ H xs us Q I r h
  obtain ⟨μ, st, ds, d, st', S, hx, h, q⟩ := h
  unfold blt at h
  split at h
  all_goals try (exact absurd ‹Blt.min = _› (by decide))
  · cases h
    cases hx with
    | cons r1 rt =>
      cases rt with
      | cons r2 rn =>
        cases rn
        cases rep_int r1
        cases rep_int r2
        exact call_min2 hc pins s σ H _ us Q I r ⟨_, _, rfl, q.same S (.int _)⟩
  · split at h
    · rename_i xs e1
      split at h
      · rename_i x rr e2
        cases h
        cases hx with
        | cons r1 rn =>
          cases rn
          obtain ⟨a, vs, rfl, h1, r2⟩ := lst_of S r1 e1
          have := ints_of e2
          subst this
          cases reps_ints r2
          refine cr_min hc pins s σ H _ us Q I r ⟨a, _, rfl, h1, by simp, fun m hm hge => ?_⟩
          obtain ⟨k1, k2⟩ := minI_mem x rr
          have : m = minI x rr := Int.le_antisymm (hge _ k1) (k2 m hm)
          rw [this]
          exact q.same S (.int _)
      · cases h
    · cases h
  · cases h
theorem c_sum (hc : X.calm = true) : CallR X (.builtin "sum") (rBlt X.K .sum) := by
  intro pins s σ H xs us Q I r h
  obtain ⟨μ, st, ds, d, st', S, hx, h, q⟩ := h
  unfold blt at h
  split at h
  all_goals try (exact absurd ‹Blt.sum = _› (by decide))
  · split at h
    · rename_i xs e1
      split at h
      · rename_i ns e2
        cases h
        cases hx with
        | cons r1 rn =>
          cases rn
          obtain ⟨a, vs, rfl, h1, r2⟩ := lst_of S r1 e1
          have := ints_of e2
          subst this
          cases reps_ints r2
          exact cr_sum hc pins s σ H _ us Q I r ⟨a, _, rfl, h1, q.same S (.int _)⟩
      · cases h
    · cases h
  · cases h
theorem rep_kV {K : PySem.W.Frag} {H : Hp} {μ : List Addr} {k : Key} (ok : kOk k) : Rep K H μ (kV k) (kD k) := by
  cases k with
  | inl i => exact .int i
  | inr x => exact .str x ok
theorem keys_reps {K : PySem.W.Frag} {H : Hp} {μ : List Addr} : ∀ {ks : List (Key × V)} {kvs : List (D × D)}, Paired (EnR K H μ) ks kvs → Reps K H μ (ks.map fun kv => kV kv.1) (kvs.map (·.1))
  | [], _, r => by
    cases r
    exact .nil
  | e :: ks, _, r => by
    cases r with
    | cons r1 r2 =>
      have := rep_kV (K := K) (H := H) (μ := μ) r1.2.1
      rw [r1.1] at this
      exact .cons this (keys_reps r2)
theorem c_list (hc : X.calm = true) : CallR X (.type "list") (rBlt X.K .list) := by
  intro pins s σ H xs us Q I r h
  obtain ⟨μ, st, ds, d, st', S, hx, h, q⟩ := h
  unfold blt at h
  split at h
  all_goals try (exact absurd ‹Blt.list = _› (by decide))
  · split at h
    · rename_i xs e1
      cases h
      cases hx with
      | cons r1 rn =>
        cases rn
        obtain ⟨a, vs, rfl, h1, r2⟩ := seq_of S r1 e1
        exact call_list_of pins s σ H _ us Q I r ⟨a, _, rfl, h1, fun l hl => q.lst S r2 hl⟩
    · split at h
      · rename_i kvs e1
        cases h
        cases hx with
        | cons r1 rn =>
          cases rn
          obtain ⟨a, ks, rfl, h1, r2⟩ := dic_of S r1 e1
          exact call_listD hc pins s σ H _ us Q I r ⟨a, ks, rfl, h1, fun l hl => q.lst S (keys_reps r2) hl⟩
      · cases h
  · cases h
theorem c_tuple : CallR X (.type "tuple") (rBlt X.K .tuple) := by
  intro pins s σ H xs us Q I r h
  obtain ⟨μ, st, ds, d, st', S, hx, h, q⟩ := h
  unfold blt at h
  split at h
  all_goals try (exact absurd ‹Blt.tuple = _› (by decide))
  · split at h
    · rename_i xs e1
      cases h
      cases hx with
      | cons r1 rn =>
        cases rn
        rcases seq_ofN S r1 e1 with ⟨a, vs, rfl, h1, r2⟩ | ⟨a, vs, rfl, h1, r2⟩
        · exact call_tupleN pins s σ H _ us Q I r ⟨a, vs, rfl, .inl ⟨h1, q.tup S r2⟩⟩
        · exact call_tupleN pins s σ H _ us Q I r ⟨a, vs, rfl, .inr ⟨h1, q.same S r2⟩⟩
    · cases h
  · cases h
theorem pairs_of2 {pins : List (Addr × Obj)} {σ : L2.St} {H : Hp} {s : Shared} (I : Inv X pins σ H s) : ∀ {ps : List Addr} {kvs : List (Key × V)}, Paired (fun p (kv : Key × V) => SqT X.K H p [kV kv.1, kv.2]) ps kvs →
    ∃ (prs : List (Key × Value)) (vv : List (Value × Value)), KV kvs prs ∧ prs.length = ps.length ∧ vv.length = ps.length ∧ ∀ (j : Nat) (k v : Value), vv[j]? = some (k, v) → ∃ (b : Addr) (key : Key), ps[j]? = some b ∧ IsTup s.heap b #[k, v] ∧ prs[j]? = some (key, v) ∧ keyIs key k = true
  | _, _, .nil => ⟨[], [], .nil, rfl, rfl, fun j k v e => by simp at e⟩
  | _, _, .cons (a := p) (b := kv) h t => by
    obtain ⟨prs, vv, r, hl, hl2, hp⟩ := pairs_of2 I t
    obtain ⟨its, rv, ht, _⟩ := I.tuple h
    obtain ⟨u, y, ei, ru, ry⟩ := vals2 rv
    subst ei
    refine ⟨(kv.1, y) :: prs, (u, y) :: vv, .cons ⟨rfl, ry⟩ r, by rw [List.length_cons, List.length_cons, hl], by rw [List.length_cons, List.length_cons, hl2], fun j k v e => ?_⟩
    cases j with
    | zero =>
      simp only [List.getElem?_cons_zero, Option.some.injEq, Prod.mk.injEq] at e
      obtain ⟨rfl, rfl⟩ := e
      exact ⟨p, kv.1, rfl, ht, rfl, kV_is (P := X.prog) (w := X.w) ru⟩
    | succ j =>
      obtain ⟨b, key, e1, e2, e3, e4⟩ := hp j k v (by simpa using e)
      exact ⟨b, key, by simpa using e1, e2, by simpa using e3, e4⟩
/-- dict(t) of a tuple of pairs -/
theorem call_dictT (hcalm : X.calm = true) : CallR X (.type "dict") (fun xs H Q => ∃ (a : Addr) (ps : List Addr) (kvs : List (Key × V)), xs = [.ref a] ∧ SqN X.K H a (ps.map V.ref) ∧ Paired (fun p (kv : Key × V) => SqT X.K H p [kV kv.1, kv.2]) ps kvs ∧
    ∀ p, H p = none → Q (.ref p) (upd H p (.dK (mergeK [] kvs)))) := by
  intro pins s σ H xs us Q I r q
  obtain ⟨a, ps, kvs, rfl, hq, hp, q⟩ := q
  obtain ⟨u, rfl, rx⟩ := vals1 r
  cases rx
  obtain ⟨its, rv, pl, hz⟩ := I.tuple hq.sq
  have ei := refs_at rv
  subst ei
  rw [List.length_map] at hz
  obtain ⟨prs, vv, rel, hl, hl2, hpr⟩ := pairs_of2 I hp
  have hps : PySem.PlainSeq "tuple" s.heap a (ps.map Value.ref).toArray := by
    obtain ⟨o, ho, hc, n, hdat⟩ := pl
    refine ⟨o, n, ho, hc, ?_, hdat⟩
    rcases hq with ⟨o', hd, hf⟩ | ⟨o', its', n', hd, hk, _⟩
    · obtain ⟨e, _⟩ := I.hok _ _ hf
      rw [ho] at e
      cases e
      exact hd
    · have e := I.kIn _ _ hk
      rw [ho] at e
      cases e
      exact hd
  have hpi : PySem.PairItems s.heap (ps.map Value.ref).toArray (fun j => ps.getD j 0) vv := by
    refine ⟨by simp [hl2], fun j k v e => ?_⟩
    obtain ⟨b, key, e1, ⟨o, ho, hc, n, hd⟩, _⟩ := hpr j k v e
    have eb : ps.getD j 0 = b := by rw [List.getD_eq_getElem?_getD, e1]; rfl
    refine ⟨by simp [e1], .inl ?_⟩
    show Heap.IsTuple s.heap (ps.getD j 0) #[k, v]
    rw [eb]
    exact ⟨o, ho, hc, n, hd⟩
  refine PySem.call_dict_pairs (knd := mixKind X.prog X.w) (kvs := prs) (PySem.PairArg.tuple a (ps.map Value.ref).toArray (fun j => ps.getD j 0) vv) (I.ok.hd hcalm) ⟨hps, hpi⟩ ⟨by rw [hl, hl2], fun i key v e => ?_⟩ (by rw [hl2]; exact hz) fun h' tk hd' k => ?_
  · obtain ⟨b, kk, _, _, e3, e4⟩ := hpr i key v e
    exact ⟨kk, e3, e4⟩
  · have hm : (s.heap.objs.size == sysModules) = false := beq_eq_false_iff_ne.mpr (Nat.ne_of_gt I.big)
    have hlen : (mergeK [] kvs).length ≤ sizeLine := by
      refine Nat.le_trans (length_mergeK kvs []) ?_
      rw [List.length_nil, Nat.zero_add, rel.length, hl]
      exact hz
    exact ⟨.ref s.heap.objs.size, upd H s.heap.objs.size (.dK (mergeK [] kvs)), I.laid (t' := tk) (fun b o e => k b o (by simp) e) (Nat.le_refl _) (show ObjOk X.prog X.w _ _ _ (.dK (mergeK [] kvs)) from ⟨hlen, hm, merged [] prs, KV.merge rel .nil, hd'⟩), rfl, q _ (I.hok.fresh (Nat.le_refl _))⟩
theorem c_dict (hc : X.calm = true) : CallR X (.type "dict") (rBlt X.K .dict) := by
  intro pins s σ H xs us Q I r h
  obtain ⟨μ, st, ds, d, st', S, hx, h, q⟩ := h
  unfold blt at h
  split at h
  all_goals try (exact absurd ‹Blt.dict = _› (by decide))
  · split at h
    · rename_i kvs e1
      cases h
      cases hx with
      | cons r1 rn =>
        cases rn
        obtain ⟨a, ks, rfl, h1, r2⟩ := dic_of S r1 e1
        obtain ⟨u, rfl, rx⟩ := vals1 r
        obtain rfl : u = Value.ref a := rx
        exact d_copyOf I h1 fun p s' hp I' => ⟨.ref p, _, I', rfl, q.dic S r2 hp⟩
    · split at h
      · rename_i xs e1
        split at h
        · rename_i ps e2
          split at h
          · rename_i hk
            cases h
            cases hx with
            | cons r1 rn =>
              cases rn
              obtain ⟨a, vs, rfl, h1, r2⟩ := lst_of S r1 e1
              obtain ⟨as, kvs, rfl, q1, q2⟩ := pairs_rel e2 hk r2
              exact call_dictP hc pins s σ H _ us Q I r ⟨a, as, kvs, rfl, h1, q1, fun p hp => q.dic S (merge_rel q2 .nil) hp⟩
          · cases h
        · cases h
      · split at h
        · rename_i xs
          split at h
          · rename_i ps e2
            split at h
            · rename_i hk
              cases h
              cases hx with
              | cons r1 rn =>
                cases rn
                obtain ⟨a, vs, rfl, h1, r2⟩ := rep_tupN r1
                obtain ⟨as, kvs, rfl, q1, q2⟩ := pairs_rel e2 hk r2
                exact call_dictT hc pins s σ H _ us Q I r ⟨a, as, kvs, rfl, h1, q1, fun p hp => q.dic S (merge_rel q2 .nil) hp⟩
            · cases h
          · cases h
        · cases h
  · cases h
theorem keys_strs {K : PySem.W.Frag} {H : Hp} {μ : List Addr} : ∀ {kvs : List (D × D)} {ns : List (List Nat)} {ks : List (Key × V)}, strsOf (kvs.map (·.1)) = some ns → Paired (EnR K H μ) ks kvs → ∃ zs : List Str, ks.map (·.1) = zs.map Sum.inr ∧ ns = zs.map (fun x => x.cps.toList) ∧ ∀ z ∈ zs, z.length ≤ sizeLine
  | [], _, _, h, r => by
    cases r
    simp only [List.map_nil, strsOf, Option.some.injEq] at h
    exact ⟨[], rfl, h.symm, fun z hz => nomatch hz⟩
  | (k, v) :: kvs, ns, _, h, r => by
    cases r with
    | @cons rk _ _ _ r1 r2 =>
      obtain ⟨r1k, r1v⟩ := rk
      simp only [List.map_cons] at h
      cases k with
      | str i =>
        simp only [strsOf, Option.map_eq_some_iff] at h
        obtain ⟨ms, h, rfl⟩ := h
        obtain ⟨zs, e1, e2, hl⟩ := keys_strs h r2
        obtain ⟨x, e3, e4, hx⟩ : ∃ x : Str, r1k = Sum.inr x ∧ i = x.cps.toList ∧ x.length ≤ sizeLine := by
          obtain ⟨a1, a2, _⟩ := r1
          cases r1k with
          | inl j => cases a1
          | inr x => exact ⟨x, rfl, by injection a1 with a1; exact a1.symm, a2⟩
        refine ⟨x :: zs, by rw [List.map_cons, List.map_cons, e1, ← e3], by rw [List.map_cons, ← e2, e4], fun z hz => ?_⟩
        rcases List.mem_cons.mp hz with rfl | hz
        · exact hx
        · exact hl z hz
      | _ => simp [strsOf] at h
theorem rising_pw : ∀ (p : Str) (r : List Str), risingS p r = true → (p :: r).Pairwise fun a b => a.cps.toList ≤ b.cps.toList
  | p, [], _ => by simp
  | p, x :: r, h => by
    simp only [risingS, Bool.and_eq_true] at h
    have ih := rising_pw x r h.2
    have hp : p.cps.toList ≤ x.cps.toList := by
      have := h.1
      rw [ltCps_eq] at this
      simp only [Bool.not_eq_true', decide_eq_false_iff_not, List.not_lt] at this
      exact this
    refine List.pairwise_cons.mpr ⟨fun y hy => ?_, ih⟩
    rcases List.mem_cons.mp hy with rfl | hy
    · exact hp
    · exact List.le_trans hp ((List.pairwise_cons.mp ih).1 y hy)
theorem sortS_eq {xs ys : List Str} (hp : ys.Perm xs) (hs : sortedS ys = true) : ys.map (fun x => x.cps.toList) = sortS (xs.map fun x => x.cps.toList) := by
  unfold sortS
  refine List.Perm.eq_of_pairwise (le := (· ≤ ·)) (fun _ _ _ _ a b => List.le_antisymm a b) ?_ ?_ ((hp.map _).trans (List.mergeSort_perm _ _).symm)
  · rw [List.pairwise_map]
    cases ys with
    | nil => exact .nil
    | cons y ys => exact rising_pw y ys hs
  · have := List.pairwise_mergeSort (le := fun a b : List Nat => decide (¬ b < a)) (fun a b c h1 h2 => by
      simp only [decide_eq_true_eq, List.not_lt] at *; exact List.le_trans h1 h2) (fun a b => by
      simp only [Bool.or_eq_true, decide_eq_true_eq, List.not_lt]; exact List.le_total a b) (xs.map fun x => x.cps.toList)
    exact this.imp (by simp only [decide_eq_true_eq, List.not_lt]; exact fun h => h)
theorem keys_ints {K : PySem.W.Frag} {H : Hp} {μ : List Addr} : ∀ {kvs : List (D × D)} {ns : List Int} {ks : List (Key × V)}, kvs.map (·.1) = ns.map D.int → Paired (EnR K H μ) ks kvs → ks.map (·.1) = ns.map Sum.inl
  | [], ns, _, h, r => by
    cases r
    cases ns with
    | nil => rfl
    | cons _ _ => simp at h
  | (k, v) :: kvs, ns, _, h, r => by
    cases r with
    | @cons rk _ _ _ r1 r2 =>
      obtain ⟨r1k, r1v⟩ := rk
      cases ns with
      | nil => simp at h
      | cons n ns =>
        simp only [List.map_cons, List.cons.injEq] at h
        obtain ⟨rfl, h⟩ := h
        obtain ⟨a1, a2, _⟩ := r1
        have e1 := keys_ints h r2
        rw [List.map_cons, List.map_cons, e1]
        cases r1k with
        | inl i =>
          simp only [kD, D.int.injEq] at a1
          rw [a1]
        | inr x => simp [kD] at a1
theorem c_sorted (hc : X.calm = true) (hu : X.A.units + 200 < cLine) : CallR X (.builtin "sorted") (rBlt X.K .sorted) := by
  intro pins s σ H xs us Q I r h
  obtain ⟨μ, st, ds, d, st', S, hx, h, q⟩ := h
  unfold blt at h
  split at h
  all_goals try (exact absurd ‹Blt.sorted = _› (by decide))
  · split at h
    · rename_i xs e1
      cases hx with
      | cons r1 rn =>
        cases rn
        obtain ⟨a, vs, rfl, h1, r2⟩ := lst_of S r1 e1
        split at h
        · rename_i ns e2
          split at h
          · rename_i h64
            cases h
            have := ints_of e2
            subst this
            cases reps_ints r2
            refine cr_sorted pins s σ H _ us Q I r ⟨a, _, rfl, h1, h64, fun ns' p hp hs hn => ?_⟩
            rw [sortI_eq hp hs]
            exact q.lst S (reps_of_ints _) hn
          · cases h
        · split at h
          · rename_i ns e2
            split at h
            · rename_i h64
              cases h
              have := strs_of e2
              subst this
              obtain ⟨zs, rfl, rfl, hl⟩ := reps_strs r2
              refine cr_sortedS pins s σ H _ us Q I r ⟨a, _, rfl, h1, by simpa using h64, fun ys p hp hs hn => ?_⟩
              rw [← sortS_eq hp hs] at q
              exact q.lst S (reps_of_strs ys fun y hy => hl y (hp.subset hy)) hn
            · cases h
          · split at h
            · rename_i hk
              cases h
              have K := sortOk_iff.mp hk
              obtain ⟨its, rv, hl, hz⟩ := I.list h1
              obtain ⟨u, rfl, ru⟩ := vals1 r
              obtain rfl : u = Value.ref a := ru
              refine PySem.W.sorted_data (enc := D.py) hl.isList (each_reps rv r2) (each_reads I rv r2 K.pure) K.alike K.sort (Nat.le_of_lt K.len) (fun b hb => ?_) fun out ho e => ?_
              · have := K.dep b hb
                rw [py_dep]; omega
              · rw [K.eq] at e
                obtain ⟨vs', v1, v2⟩ := reps_each e
                obtain ⟨ep, he'⟩ := PyProof.Rows.sortedAll_at s.heap its out.toArray
                have hn : H (s.heap.objs.size + 1) = none := I.hok.fresh (Nat.le_succ _)
                have hlen : vs'.length ≤ sizeLine := by rw [v1.length, ho]; exact Nat.le_of_lt K.len
                exact ⟨.ref _, upd H (s.heap.objs.size + 1) (.lst vs'), I.laid (t' := s.toks) (fun _ _ => PyProof.Rows.sortedAll_old) (Nat.le_succ _) ⟨hlen, out, _, v1, he'⟩, rfl, q.lst S v2 hn⟩
            · cases h
    · split at h
      · rename_i kvs e1
        split at h
        · rename_i ns e2
          split at h
          · rename_i h64
            cases h
            cases hx with
            | cons r1 rn =>
              cases rn
              obtain ⟨a, ks, rfl, h1, r2⟩ := dic_of S r1 e1
              obtain ⟨zs, e3, rfl, hl⟩ := keys_strs e2 r2
              refine call_sortedD hc pins s σ H _ us Q I r ⟨a, ks, zs, rfl, h1, e3, by simpa using h64, fun ys p hp hs hn => ?_⟩
              rw [← sortS_eq hp hs] at q
              exact q.lst S (reps_of_strs ys fun y hy => hl y (hp.subset hy)) hn
          · cases h
        · split at h
          · rename_i ns e2
            split at h
            · rename_i h64
              cases h
              cases hx with
              | cons r1 rn =>
                cases rn
                obtain ⟨a, ks, rfl, h1, r2⟩ := dic_of S r1 e1
                have e3 := keys_ints (ints_of e2) r2
                refine call_sortedDI hc pins s σ H _ us Q I r ⟨a, ks, ns, rfl, h1, e3, h64, fun ys p hp hs hn => ?_⟩
                rw [sortI_eq hp hs]
                exact q.lst S (reps_of_ints _) hn
            · cases h
          · cases h
      · cases h
  · cases h
theorem c_str : CallR X (.type "str") (rBlt X.K .str) := by
  intro pins s σ H xs us Q I r h
  obtain ⟨μ, st, ds, d, st', S, hx, h, q⟩ := h
  unfold blt at h
  split at h
  all_goals try (exact absurd ‹Blt.str = _› (by decide))
  · split at h
    · rename_i hc
      cases h
      cases hx with
      | cons r1 rn =>
        cases rn
        cases rep_int r1
        refine call_str_int pins s σ H _ us Q I r ⟨_, rfl, hc.1, ?_⟩
        rw [Str.ofString_eq_toList]
        exact q.same S (mk_str hc.2)
    · cases h
  · cases h
end
end CL

/-! CL5: what the small language's parts ask, as readings of the hand layer; each construct once. -/
namespace CL
open PySem PySem.Spec PyProof.Rows L2

/-- the values of the module's names; the tables of code objects in which generator expressions are noted -/
structure Gp where
  con : List D
  tb : List Addr
structure Sim (tb : List Addr) (K : PySem.W.Frag) (μ : List Addr) (ρ : En) (st : Sto) (σ : L2.St) (H : Hp) : Prop where
  ok : SOk K μ st H
  env : ∀ (i : Nat) (d : D), ρ[i]? = some (some d) → ∃ v, σ[i]? = some (some v) ∧ Rep K H μ v d
  len : ρ.length = σ.length
  tabs : ∀ P ∈ tb, GxR.TabG H P
section
variable {tb : List Addr} {K : PySem.W.Frag} {μ μ' μ1 : List Addr} {ρ : En} {st st' : Sto} {σ : L2.St} {H H' H1 : Hp} {d : D} {Q : VK}
theorem Sim.step (S : Sim tb K μ ρ st σ H) (hp : Pre μ μ') (hg : Gr K H H') (ok : SOk K μ' st' H') : Sim tb K μ' ρ st' σ H' :=
  ⟨ok, fun i d e => let ⟨v, h1, h2⟩ := S.env i d e; ⟨v, h1, h2.mono hp hg⟩, S.len, fun P hP => hg.tab P (S.tabs P hP)⟩
theorem Sim.set (S : Sim tb K μ ρ st σ H) (i : Nat) {v : V} (r : Rep K H μ v d) : Sim tb K μ (ρ.set i (some d)) st (σ.set i (some v)) H := by
  refine ⟨S.ok, fun j d' e => ?_, by simp [S.len], S.tabs⟩
  by_cases hj : i = j
  · subst hj
    have hl : i < ρ.length := by have := (List.getElem?_eq_some_iff.mp e).1; simpa using this
    rw [List.getElem?_set_self hl] at e
    cases e
    exact ⟨v, by rw [List.getElem?_set_self (by rw [← S.len]; exact hl)], r⟩
  · rw [List.getElem?_set_ne hj] at e
    obtain ⟨w, h1, h2⟩ := S.env j d' e
    exact ⟨w, by rw [List.getElem?_set_ne hj]; exact h1, h2⟩
theorem Post.mono (q : Post K H μ d st Q) (hp : Pre μ μ1) (hg : Gr K H H1) : Post K H1 μ1 d st Q := fun μ' v H' p g S r => q μ' v H' (hp.trans p) (hg.trans g) S r
end

section
variable (K : PySem.W.Frag) (G : Gp) (C : Cl)
def tE (e : E) : TE := fun σ H Q => ∃ μ ρ st d st', Sim G.tb K μ ρ st σ H ∧ ev G.con C e ρ st = some (d, st') ∧ Post K H μ d st' Q
def tT (c : Ts) : TT := fun σ H Q => ∃ μ ρ st b st', Sim G.tb K μ ρ st σ H ∧ evT G.con C c ρ st = some (b, st') ∧
  ∀ (μ' : List Addr) (H' : Hp), Pre μ μ' → Gr K H H' → SOk K μ' st' H' → Q b H'
def tAs (es : List E) : TA := fun σ H Q => ∃ μ ρ st ds st', Sim G.tb K μ ρ st σ H ∧ evs G.con C es ρ st = some (ds, st') ∧
  ∀ (μ' : List Addr) (vs : List V) (H' : Hp), Pre μ μ' → Gr K H H' → SOk K μ' st' H' → Reps K H' μ' vs ds → Q vs H'
def tO (e : OE) : TO := fun σ H Q => ∃ μ ρ st o st', Sim G.tb K μ ρ st σ H ∧ evO G.con C e ρ st = some (o, st') ∧
  ∀ (μ' : List Addr) (H' : Hp), Pre μ μ' → Gr K H H' → SOk K μ' st' H' → Q o H'
end

theorem PE.imp {X : Cx} {e : Expr} {t t' : TE} (h : PE X e t) (i : ∀ σ H Q, t' σ H Q → t σ H Q) : PE X e t' := ⟨fun pins s σ H Q I q => h.run pins s σ H Q I (i σ H Q q)⟩
theorem PT.imp {X : Cx} {e : Expr} {t t' : TT} (h : PT X e t) (i : ∀ σ H Q, t' σ H Q → t σ H Q) : PT X e t' := ⟨fun pins s σ H Q I q => h.run pins s σ H Q I (i σ H Q q)⟩
theorem PW.imp {X : Cx} {e : Expr} {t t' : TT} (h : PW X e t) (i : ∀ σ H Q, t' σ H Q → t σ H Q) : PW X e t' := ⟨fun wh pins s σ H Q I q => h.run wh pins s σ H Q I (i σ H Q q)⟩
theorem PA.imp {X : Cx} {es : List Expr} {t t' : TA} (h : PA X es t) (i : ∀ σ H Q, t' σ H Q → t σ H Q) : PA X es t' := ⟨fun pos pins s σ H Q I q => h.run pos pins s σ H Q I (i σ H Q q)⟩
theorem PS.imp {X : Cx} {s : Stmt} {t t' : TS} (h : PS X s t) (i : ∀ D σ H, t' D σ H → t D σ H) : PS X s t' := ⟨fun pins s σ H D I q => h.run pins s σ H D I (i D σ H q)⟩
theorem PSs.imp {X : Cx} {s : List Stmt} {t t' : TS} (h : PSs X s t) (i : ∀ D σ H, t' D σ H → t D σ H) : PSs X s t' := ⟨fun pins s σ H D I q => h.run pins s σ H D I (i D σ H q)⟩
theorem PG.imp {X : Cx} {e : Expr} {t t' : TG} (h : PG X e t) (i : ∀ v σ H Q, t' v σ H Q → t v σ H Q) : PG X e t' := ⟨fun pins s σ H v u Q I r q => h.run pins s σ H v u Q I r (i v σ H Q q)⟩
theorem PGs.imp {X : Cx} {e : List Expr} {t t' : TGs} (h : PGs X e t) (i : ∀ v σ H Q, t' v σ H Q → t v σ H Q) : PGs X e t' := ⟨fun pins s σ H v u Q I r q => h.run pins s σ H v u Q I r (i v σ H Q q)⟩
theorem PO.imp {X : Cx} {e : Option Expr} {t t' : TO} (h : PO X e t) (i : ∀ σ H Q, t' σ H Q → t σ H Q) : PO X e t' := ⟨fun pins s σ H Q I q => h.run pins s σ H Q I (i σ H Q q)⟩

/-! ### what is not starred -/
def noStar : Expr → Bool
  | .Starred _ _ => false
  | _ => true
theorem star_one {e : Expr} (h : noStar e = true) (es : List Expr) (env : Env) : starEach (e :: es) env = (false, eval e env) :: starEach es env := by
  cases e <;> first | rfl | simp [noStar] at h
theorem star_any : ∀ {es : List Expr}, es.all noStar = true → ∀ (env : Env) (pos : Pos), (backTo pos (starEach es env)).any (·.1) = false
  | [], _, _, _ => rfl
  | e :: es, h, env, pos => by
    simp only [List.all_cons, Bool.and_eq_true] at h
    rw [star_one h.1]
    show (false || (backTo pos (starEach es env)).any (·.1)) = false
    rw [star_any h.2]
    rfl
theorem star_all : ∀ {es : List Expr}, es.all noStar = true → ∀ (env : Env) (pos : Pos), (backTo pos (starEach es env)).all (fun x => !x.1) = true
  | [], _, _, _ => rfl
  | e :: es, h, env, pos => by
    simp only [List.all_cons, Bool.and_eq_true] at h
    rw [star_one h.1]
    show (!false && (backTo pos (starEach es env)).all (fun x => !x.1)) = true
    rw [star_all h.2]
    rfl

section
variable {X : Cx} {G : Gp} {C : Cl} {a b c : Expr} {a' b' c' : E} {pos : Pos}
abbrev OkE (X : Cx) (G : Gp) (C : Cl) (e : Expr) (e' : E) : Prop := PE X e (tE X.K G C e')
abbrev OkT (X : Cx) (G : Gp) (C : Cl) (e : Expr) (e' : Ts) : Prop := PT X e (tT X.K G C e')

theorem E_var {i : Nat} {x : Str} (hN : X.N[i]? = some x) (hv : Vis X.env.scope x) (hd : (x == ("__debug__" : Str)) = false) (hcd : (x == ("__classdict__" : Str)) = false) : OkE X G C (.Name x pos) (.var i) := by
  refine PE.imp (pe_var hN hv hd hcd) ?_
  rintro σ H Q ⟨μ, ρ, st, d, st', S, h, q⟩
  simp only [ev] at h
  split at h
  · rename_i d' e
    cases h
    obtain ⟨v, h1, h2⟩ := S.env i _ e
    exact ⟨v, h1, q.same S.ok h2⟩
  · cases h
theorem E_glo {j : Nat} {x : Str} {u : Value} {v : V} {d : D} (hg : Gl X x) (hm : X.mg x = some u) (r : RelV v u) (hG : G.con[j]? = some d) (hr : ∀ H μ, Rep X.K H μ v d) (hd : (x == ("__debug__" : Str)) = false) : OkE X G C (.Name x pos) (.glo j) := by
  refine PE.imp (pe_glob hg hm r hd) ?_
  rintro σ H Q ⟨μ, ρ, st, d', st', S, h, q⟩
  simp only [ev, hG, Option.map_some] at h
  cases h
  exact q.same S.ok (hr _ _)
theorem E_int {i j} : OkE X G C (.Constant (.int i) j pos) (.lit (.int i)) := by
  refine PE.imp pe_int ?_
  rintro σ H Q ⟨μ, ρ, st, d', st', S, h, q⟩
  simp only [ev] at h
  cases h
  exact q.same S.ok (.int _)
theorem E_bl {i j} : OkE X G C (.Constant (.bool i) j pos) (.lit (.bl i)) := by
  refine PE.imp pe_bl ?_
  rintro σ H Q ⟨μ, ρ, st, d', st', S, h, q⟩
  simp only [ev] at h
  cases h
  exact q.same S.ok (.bl _)
theorem E_non {j} : OkE X G C (.Constant .none j pos) (.lit .non) := by
  refine PE.imp pe_non ?_
  rintro σ H Q ⟨μ, ρ, st, d', st', S, h, q⟩
  simp only [ev] at h
  cases h
  exact q.same S.ok .non
theorem E_str {x : Str} {j} (hl : x.length ≤ 1000) : OkE X G C (.Constant (.str x) j pos) (.lit (.str x.cps.toList)) := by
  refine PE.imp pe_str ?_
  rintro σ H Q ⟨μ, ρ, st, d', st', S, h, q⟩
  simp only [ev] at h
  cases h
  exact q.same S.ok (.str _ (by rw [sizeLine_eq]; omega))

/-! ### argument lists -/
theorem A_nil : PA X [] (tAs X.K G C []) := by
  refine PA.imp pa_nil ?_
  rintro σ H Q ⟨μ, ρ, st, d', st', S, h, q⟩
  simp only [evs] at h
  cases h
  exact q μ _ H Pre.refl Gr.refl S.ok .nil
theorem A_cons {es : List Expr} {es' : List E} (ha : OkE X G C a a') (hr : PA X es (tAs X.K G C es')) (hs : noStar a = true) : PA X (a :: es) (tAs X.K G C (a' :: es')) := by
  refine PA.imp (pa_cons ha hr (star_one hs es X.env)) ?_
  rintro σ H Q ⟨μ, ρ, st, d', st', S, h, q⟩
  simp only [evs] at h
  split at h
  · rename_i d s1 e1
    split at h
    · rename_i ds s2 e2
      cases h
      refine ⟨μ, ρ, st, d, s1, S, e1, fun μ1 v1 H1 p1 g1 S1 r1 => ?_⟩
      refine ⟨μ1, ρ, s1, _, _, S.step p1 g1 S1, e2, fun μ2 v2 H2 p2 g2 S2 r2 => ?_⟩
      exact q μ2 _ H2 (p1.trans p2) (g1.trans g2) S2 (.cons (r1.mono p2 g2) r2)
    · cases h
  · cases h
theorem evs_length : ∀ {es : List E} {ρ : En} {st st' : Sto} {ds : List D}, evs G.con C es ρ st = some (ds, st') → ds.length = es.length
  | [], _, _, _, _, h => by simp only [evs] at h; cases h; rfl
  | e :: es, ρ, st, st', ds, h => by
    simp only [evs] at h
    split at h
    · split at h
      · cases h
        rename_i e2
        simp [evs_length e2]
      · cases h
    · cases h
theorem E_tup {es : List Expr} {es' : List E} {k : Nat} (h : PA X es (tAs X.K G C es')) (hl : es'.length ≤ 1000) : OkE X G C (.Tuple es k pos) (.tup es') := by
  refine PE.imp (pe_tupN h) ?_
  rintro σ H Q ⟨μ, ρ, st, d', st', S, h, q⟩
  simp only [ev] at h
  split at h
  · rename_i ds s1 e1
    cases h
    refine ⟨μ, ρ, st, ds, _, S, e1, fun μ1 vs H1 p1 g1 S1 r1 => ⟨by rw [r1.length, evs_length e1, sizeLine_eq]; omega, (q.mono p1 g1).tup S1 r1⟩⟩
  · cases h
theorem E_lst {es : List Expr} {es' : List E} (h : PA X es (tAs X.K G C es')) (hl : es'.length ≤ 1000) : OkE X G C (.List es pos) (.lst es') := by
  refine PE.imp (pe_lst h) ?_
  rintro σ H Q ⟨μ, ρ, st, d', st', S, h, q⟩
  simp only [ev] at h
  split at h
  · rename_i ds s1 e1
    cases h
    refine ⟨μ, ρ, st, ds, _, S, e1, fun μ1 vs H1 p1 g1 S1 r1 => ⟨by rw [r1.length, evs_length e1, sizeLine_eq]; omega, fun p hp => ?_⟩⟩
    exact (q.mono p1 g1).lst S1 r1 hp
  · cases h

/-! ### operators -/
theorem E_bin (o : Bop) (ha : OkE X G C a a') (hb : OkE X G C b b') : OkE X G C (.BinOp a (opOf o) b pos) (.bin o a' b') := by
  refine PE.imp (pe_op (op_bin o) ha hb) ?_
  rintro σ H Q ⟨μ, ρ, st, d', st', S, h, q⟩
  simp only [ev] at h
  split at h
  · rename_i x s1 e1
    split at h
    · rename_i y s2 e2
      refine ⟨μ, ρ, st, x, s1, S, e1, fun μ1 v1 H1 p1 g1 S1 r1 => ?_⟩
      refine ⟨μ1, ρ, s1, y, _, S.step p1 g1 S1, e2, fun μ2 v2 H2 p2 g2 S2 r2 => ?_⟩
      exact ⟨μ2, s2, x, y, _, _, S2, r1.mono p2 g2, r2, h, q.mono (p1.trans p2) (g1.trans g2)⟩
    · cases h
  · cases h
theorem E_neg (ha : OkE X G C a a') : OkE X G C (.UnaryOp .USub a pos) (.neg a') := by
  refine PE.imp (pe_un un_neg ha) ?_
  rintro σ H Q ⟨μ, ρ, st, d', st', S, h, q⟩
  simp only [ev] at h
  split at h
  · rename_i i s1 e1
    cases h
    refine ⟨μ, ρ, st, _, _, S, e1, fun μ1 v1 H1 p1 g1 S1 r1 => ?_⟩
    cases rep_int r1
    exact ⟨_, rfl, (q.mono p1 g1).same S1 (.int _)⟩
  · cases h
theorem E_not (ha : OkE X G C a a') : OkE X G C (.UnaryOp .Not a pos) (.not a') := by
  refine PE.imp (pe_notT ha) ?_
  rintro σ H Q ⟨μ, ρ, st, d', st', S, h, q⟩
  simp only [ev] at h
  split at h
  · rename_i x s1 e1
    simp only [Option.map_eq_some_iff] at h
    obtain ⟨t, h, e⟩ := h
    cases e
    refine ⟨μ, ρ, st, _, _, S, e1, fun μ1 v1 H1 p1 g1 S1 r1 => ?_⟩
    exact ⟨t, tru_of S1 r1 h, (q.mono p1 g1).same S1 (.bl _)⟩
  · cases h
theorem E_cmp (hu : X.A.units + 200 < cLine) (o : Cop) (ha : OkE X G C a a') (hb : OkE X G C b b') (hm : behindInMarks (opC o) b = false) : OkE X G C (.Compare a [opC o] [b] pos) (.cmp o a' b') := by
  refine PE.imp (pe_cmpR (op_cmp hu o) ha hb hm) ?_
  rintro σ H Q ⟨μ, ρ, st, d', st', S, h, q⟩
  simp only [ev] at h
  split at h
  · rename_i x s1 e1
    split at h
    · rename_i y s2 e2
      simp only [Option.map_eq_some_iff] at h
      obtain ⟨t, h, e⟩ := h
      cases e
      refine ⟨μ, ρ, st, x, s1, S, e1, fun μ1 v1 H1 p1 g1 S1 r1 => ?_⟩
      refine ⟨μ1, ρ, s1, y, _, S.step p1 g1 S1, e2, fun μ2 v2 H2 p2 g2 S2 r2 => ?_⟩
      exact ⟨μ2, _, x, y, _, S2, r1.mono p2 g2, r2, h, (q.mono (p1.trans p2) (g1.trans g2)).same S2 (.bl _)⟩
    · cases h
  · cases h
theorem T_cmp (hu : X.A.units + 200 < cLine) (o : Cop) (ha : OkE X G C a a') (hb : OkE X G C b b') (hm : behindInMarks (opC o) b = false) : OkT X G C (.Compare a [opC o] [b] pos) (.cmp o a' b') := by
  refine PT.imp (pt_cmpR (op_cmp hu o) ha hb hm) ?_
  rintro σ H Q ⟨μ, ρ, st, d', st', S, h, q⟩
  simp only [evT] at h
  split at h
  · rename_i x s1 e1
    split at h
    · rename_i y s2 e2
      simp only [Option.map_eq_some_iff] at h
      obtain ⟨t, h, e⟩ := h
      cases e
      refine ⟨μ, ρ, st, x, s1, S, e1, fun μ1 v1 H1 p1 g1 S1 r1 => ?_⟩
      refine ⟨μ1, ρ, s1, y, _, S.step p1 g1 S1, e2, fun μ2 v2 H2 p2 g2 S2 r2 => ?_⟩
      exact ⟨μ2, _, x, y, _, S2, r1.mono p2 g2, r2, h, _, rfl, q μ2 H2 (p1.trans p2) (g1.trans g2) S2⟩
    · cases h
  · cases h
theorem E_chn (hu : X.A.units + 200 < cLine) (o o' : Cop) (ha : OkE X G C a a') (hb : OkE X G C b b') (hc : OkE X G C c c') (hm : lastMarks [opC o, opC o'] [b, c] = false) : OkE X G C (.Compare a [opC o, opC o'] [b, c] pos) (.chn o o' a' b' c') := by
  refine PE.imp (pe_chain (op_cmp hu o) (op_cmp hu o') ha hb hc hm) ?_
  rintro σ H Q ⟨μ, ρ, st, d', st', S, h, q⟩
  simp only [ev] at h
  split at h
  · rename_i x s1 e1
    split at h
    · rename_i y s2 e2
      refine ⟨μ, ρ, st, x, s1, S, e1, fun μ1 v1 H1 p1 g1 S1 r1 => ?_⟩
      refine ⟨μ1, ρ, s1, y, _, S.step p1 g1 S1, e2, fun μ2 v2 H2 p2 g2 S2 r2 => ?_⟩
      split at h
      · rename_i e3
        refine ⟨μ2, _, x, y, _, S2, r1.mono p2 g2, r2, e3, true, rfl, ?_⟩
        refine iteT ?_
        split at h
        · rename_i z s3 e4
          simp only [Option.map_eq_some_iff] at h
          obtain ⟨t, h, e⟩ := h
          cases e
          refine ⟨μ2, ρ, _, z, _, (S.step p1 g1 S1).step p2 g2 S2, e4, fun μ3 v3 H3 p3 g3 S3 r3 => ?_⟩
          exact ⟨μ3, _, y, z, _, S3, r2.mono p3 g3, r3, h, (q.mono (p1.trans (p2.trans p3)) (g1.trans (g2.trans g3))).same S3 (.bl _)⟩
        · cases h
      · rename_i e3
        cases h
        refine ⟨μ2, _, x, y, _, S2, r1.mono p2 g2, r2, e3, false, rfl, ?_⟩
        refine iteF ?_
        exact (q.mono (p1.trans p2) (g1.trans g2)).same S2 (.bl _)
      · cases h
    · cases h
  · cases h
theorem T_chn (hu : X.A.units + 200 < cLine) (o o' : Cop) (ha : OkE X G C a a') (hb : OkE X G C b b') (hc : OkE X G C c c') (hm : lastMarks [opC o, opC o'] [b, c] = false) : OkT X G C (.Compare a [opC o, opC o'] [b, c] pos) (.chn o o' a' b' c') := by
  refine PT.imp (pt_chain (op_cmp hu o) (op_cmp hu o') ha hb hc hm) ?_
  rintro σ H Q ⟨μ, ρ, st, d', st', S, h, q⟩
  simp only [evT] at h
  split at h
  · rename_i x s1 e1
    split at h
    · rename_i y s2 e2
      refine ⟨μ, ρ, st, x, s1, S, e1, fun μ1 v1 H1 p1 g1 S1 r1 => ?_⟩
      refine ⟨μ1, ρ, s1, y, _, S.step p1 g1 S1, e2, fun μ2 v2 H2 p2 g2 S2 r2 => ?_⟩
      split at h
      · rename_i e3
        refine ⟨μ2, _, x, y, _, S2, r1.mono p2 g2, r2, e3, true, rfl, ?_⟩
        refine iteT ?_
        split at h
        · rename_i z s3 e4
          simp only [Option.map_eq_some_iff] at h
          obtain ⟨t, h, e⟩ := h
          cases e
          refine ⟨μ2, ρ, _, z, _, (S.step p1 g1 S1).step p2 g2 S2, e4, fun μ3 v3 H3 p3 g3 S3 r3 => ?_⟩
          exact ⟨μ3, _, y, z, _, S3, r2.mono p3 g3, r3, h, _, rfl, q μ3 H3 (p1.trans (p2.trans p3)) (g1.trans (g2.trans g3)) S3⟩
        · cases h
      · rename_i e3
        cases h
        refine ⟨μ2, _, x, y, _, S2, r1.mono p2 g2, r2, e3, false, rfl, ?_⟩
        refine iteF ?_
        exact ⟨false, rfl, q μ2 H2 (p1.trans p2) (g1.trans g2) S2⟩
      · cases h
    · cases h
  · cases h

/-! ### and, or, not, if -/
theorem E_and {rest : List Expr} (ha : OkE X G C a a') (hb : OkE X G C (.BoolOp .And (b :: rest) pos) b') : OkE X G C (.BoolOp .And (a :: b :: rest) pos) (.and a' b') := by
  refine PE.imp (pe_andT ha hb) ?_
  rintro σ H Q ⟨μ, ρ, st, d', st', S, h, q⟩
  simp only [ev] at h
  split at h
  · rename_i x s1 e1
    refine ⟨μ, ρ, st, x, s1, S, e1, fun μ1 v1 H1 p1 g1 S1 r1 => ?_⟩
    split at h
    · rename_i e2
      refine ⟨true, tru_of S1 r1 e2, ?_⟩
      refine iteT ?_
      exact ⟨μ1, ρ, s1, _, _, S.step p1 g1 S1, h, q.mono p1 g1⟩
    · rename_i e2
      cases h
      refine ⟨false, tru_of S1 r1 e2, ?_⟩
      refine iteF ?_
      exact (q.mono p1 g1).same S1 r1
    · cases h
  · cases h
theorem E_or {rest : List Expr} (ha : OkE X G C a a') (hb : OkE X G C (.BoolOp .Or (b :: rest) pos) b') : OkE X G C (.BoolOp .Or (a :: b :: rest) pos) (.or a' b') := by
  refine PE.imp (pe_orT ha hb) ?_
  rintro σ H Q ⟨μ, ρ, st, d', st', S, h, q⟩
  simp only [ev] at h
  split at h
  · rename_i x s1 e1
    refine ⟨μ, ρ, st, x, s1, S, e1, fun μ1 v1 H1 p1 g1 S1 r1 => ?_⟩
    split at h
    · rename_i e2
      cases h
      refine ⟨true, tru_of S1 r1 e2, ?_⟩
      refine iteT ?_
      exact (q.mono p1 g1).same S1 r1
    · rename_i e2
      refine ⟨false, tru_of S1 r1 e2, ?_⟩
      refine iteF ?_
      exact ⟨μ1, ρ, s1, _, _, S.step p1 g1 S1, h, q.mono p1 g1⟩
    · cases h
  · cases h
variable {tc ta tb : Ts}
theorem T_tru (ha : OkE X G C a a') (he : ∀ whole, isTrue a X.env whole = (do let v ← whole; standAt a.pos; holding [v] (truthy v))) : OkT X G C a (.tru a') := by
  refine PT.imp (pt_truth ha he) ?_
  rintro σ H Q ⟨μ, ρ, st, d', st', S, h, q⟩
  simp only [evT] at h
  split at h
  · rename_i x s1 e1
    simp only [Option.map_eq_some_iff] at h
    obtain ⟨t, h, e⟩ := h
    cases e
    refine ⟨μ, ρ, st, x, _, S, e1, fun μ1 v1 H1 p1 g1 S1 r1 => ?_⟩
    exact ⟨_, tru_of S1 r1 h, q μ1 H1 p1 g1 S1⟩
  · cases h
theorem T_not (ha : OkT X G C a ta) : OkT X G C (.UnaryOp .Not a pos) (.not ta) := by
  refine PT.imp (pt_not ha) ?_
  rintro σ H Q ⟨μ, ρ, st, d', st', S, h, q⟩
  simp only [evT] at h
  split at h
  · rename_i t s1 e1
    cases h
    exact ⟨μ, ρ, st, _, _, S, e1, fun μ1 H1 p1 g1 S1 => q μ1 H1 p1 g1 S1⟩
  · cases h
theorem W_and {rest : List Expr} (ha : OkT X G C a ta) (hb : PW X (.BoolOp .And (b :: rest) pos) (tT X.K G C tb)) : PW X (.BoolOp .And (a :: b :: rest) pos) (tT X.K G C (.and ta tb)) := by
  refine PW.imp (pw_and ha hb) ?_
  rintro σ H Q ⟨μ, ρ, st, d', st', S, h, q⟩
  simp only [evT] at h
  split at h
  · rename_i s1 e1
    refine ⟨μ, ρ, st, true, s1, S, e1, fun μ1 H1 p1 g1 S1 => ?_⟩
    refine iteT ?_
    exact ⟨μ1, ρ, s1, _, _, S.step p1 g1 S1, h, fun μ2 H2 p2 g2 S2 => q μ2 H2 (p1.trans p2) (g1.trans g2) S2⟩
  · rename_i s1 e1
    cases h
    refine ⟨μ, ρ, st, false, _, S, e1, fun μ1 H1 p1 g1 S1 => ?_⟩
    refine iteF ?_
    exact q μ1 H1 p1 g1 S1
  · cases h
theorem W_or {rest : List Expr} (ha : OkT X G C a ta) (hb : PW X (.BoolOp .Or (b :: rest) pos) (tT X.K G C tb)) : PW X (.BoolOp .Or (a :: b :: rest) pos) (tT X.K G C (.or ta tb)) := by
  refine PW.imp (pw_or ha hb) ?_
  rintro σ H Q ⟨μ, ρ, st, d', st', S, h, q⟩
  simp only [evT] at h
  split at h
  · rename_i s1 e1
    cases h
    refine ⟨μ, ρ, st, true, _, S, e1, fun μ1 H1 p1 g1 S1 => ?_⟩
    refine iteT ?_
    exact q μ1 H1 p1 g1 S1
  · rename_i s1 e1
    refine ⟨μ, ρ, st, false, s1, S, e1, fun μ1 H1 p1 g1 S1 => ?_⟩
    refine iteF ?_
    exact ⟨μ1, ρ, s1, _, _, S.step p1 g1 S1, h, fun μ2 H2 p2 g2 S2 => q μ2 H2 (p1.trans p2) (g1.trans g2) S2⟩
  · cases h
theorem E_ite (hc : OkT X G C c tc) (ha : OkE X G C a a') (hb : OkE X G C b b') : OkE X G C (.IfExp c a b pos) (.ite tc a' b') := by
  refine PE.imp (pe_ifExp hc ha hb) ?_
  rintro σ H Q ⟨μ, ρ, st, d', st', S, h, q⟩
  simp only [ev] at h
  split at h
  · rename_i s1 e1
    refine ⟨μ, ρ, st, true, s1, S, e1, fun μ1 H1 p1 g1 S1 => ?_⟩
    refine iteT ?_
    exact ⟨μ1, ρ, s1, _, _, S.step p1 g1 S1, h, q.mono p1 g1⟩
  · rename_i s1 e1
    refine ⟨μ, ρ, st, false, s1, S, e1, fun μ1 H1 p1 g1 S1 => ?_⟩
    refine iteF ?_
    exact ⟨μ1, ρ, s1, _, _, S.step p1 g1 S1, h, q.mono p1 g1⟩
  · cases h
theorem T_ite (hc : OkT X G C c tc) (ha : OkT X G C a ta) (hb : OkT X G C b tb) : OkT X G C (.IfExp c a b pos) (.ite tc ta tb) := by
  refine ⟨fun pins s σ H Q I h0 => ?_⟩
  obtain ⟨μ, ρ, st, d', st', S, h, q⟩ := h0
  simp only [evT] at h
  split at h
  · rename_i s1 e1
    refine isTrue_IfExp (thn (hc.run pins s σ H (fun b H1 => b = true ∧ ∃ μ1, Pre μ μ1 ∧ Gr X.K H H1 ∧ SOk X.K μ1 s1 H1) I ⟨μ, ρ, st, true, s1, S, e1, fun μ1 H1 p1 g1 S1 => ⟨rfl, μ1, p1, g1, S1⟩⟩) fun t s2 ⟨H1, I1, e, μ1, p1, g1, S1⟩ => ?_)
    subst e
    exact ha.run pins s2 σ H1 Q I1 ⟨μ1, ρ, s1, _, _, S.step p1 g1 S1, h, fun μ2 H2 p2 g2 S2 => q μ2 H2 (p1.trans p2) (g1.trans g2) S2⟩
  · rename_i s1 e1
    refine isTrue_IfExp (thn (hc.run pins s σ H (fun b H1 => b = false ∧ ∃ μ1, Pre μ μ1 ∧ Gr X.K H H1 ∧ SOk X.K μ1 s1 H1) I ⟨μ, ρ, st, false, s1, S, e1, fun μ1 H1 p1 g1 S1 => ⟨rfl, μ1, p1, g1, S1⟩⟩) fun t s2 ⟨H1, I1, e, μ1, p1, g1, S1⟩ => ?_)
    subst e
    exact hb.run pins s2 σ H1 Q I1 ⟨μ1, ρ, s1, _, _, S.step p1 g1 S1, h, fun μ2 H2 p2 g2 S2 => q μ2 H2 (p1.trans p2) (g1.trans g2) S2⟩
  · cases h

/-! ### places -/
theorem E_idx (hu : X.A.units + 1 < cLine) (ha : OkE X G C a a') (hb : OkE X G C b b') (hs : PlainIx b) : OkE X G C (.Subscript a b pos) (.idx a' b') := by
  refine PE.imp (pe_ix (ix_all hu) ha hb hs) ?_
  rintro σ H Q ⟨μ, ρ, st, d', st', S, h, q⟩
  simp only [ev] at h
  split at h
  · rename_i x s1 e1
    split at h
    · rename_i y s2 e2
      simp only [Option.map_eq_some_iff] at h
      obtain ⟨t, h, e⟩ := h
      cases e
      refine ⟨μ, ρ, st, x, s1, S, e1, fun μ1 v1 H1 p1 g1 S1 r1 => ?_⟩
      refine ⟨μ1, ρ, s1, y, _, S.step p1 g1 S1, e2, fun μ2 v2 H2 p2 g2 S2 r2 => ?_⟩
      exact ⟨μ2, _, x, y, _, S2, r1.mono p2 g2, r2, h, fun v rv => (q.mono (p1.trans p2) (g1.trans g2)).same S2 rv⟩
    · cases h
  · cases h
theorem O_no : PO X none (tO X.K G C .no) := by
  refine PO.imp po_none ?_
  rintro σ H Q ⟨μ, ρ, st, d', st', S, h, q⟩
  simp only [evO] at h
  cases h
  exact q μ H Pre.refl Gr.refl S.ok
theorem O_yes (ha : OkE X G C a a') : PO X (some a) (tO X.K G C (.yes a')) := by
  refine PO.imp (po_some ha) ?_
  rintro σ H Q ⟨μ, ρ, st, d', st', S, h, q⟩
  simp only [evO] at h
  split at h
  · rename_i i s1 e1
    cases h
    refine ⟨μ, ρ, st, _, _, S, e1, fun μ1 v1 H1 p1 g1 S1 r1 => ?_⟩
    cases rep_int r1
    exact ⟨i, rfl, q μ1 H1 p1 g1 S1⟩
  · cases h
theorem E_sl {lo hi : Option Expr} {lo' hi' : OE} {p2 : Pos} (ha : OkE X G C a a') (hl : PO X lo (tO X.K G C lo')) (hh : PO X hi (tO X.K G C hi')) : OkE X G C (.Subscript a (.Slice lo hi none p2) pos) (.sl a' lo' hi') := by
  refine PE.imp (pe_slice sl_all ha hl hh) ?_
  rintro σ H Q ⟨μ, ρ, st, d', st', S, h, q⟩
  simp only [ev] at h
  split at h
  · rename_i x s1 e1
    split at h
    · rename_i l s2 e2
      split at h
      · rename_i u s3 e3
        refine ⟨μ, ρ, st, x, s1, S, e1, fun μ1 v1 H1 p1 g1 S1 r1 => ?_⟩
        refine ⟨μ1, ρ, s1, l, s2, S.step p1 g1 S1, e2, fun μ2 H2 p2 g2 S2 => ?_⟩
        refine ⟨μ2, ρ, s2, u, s3, (S.step p1 g1 S1).step p2 g2 S2, e3, fun μ3 H3 p3 g3 S3 => ?_⟩
        exact ⟨μ3, s3, x, _, _, S3, r1.mono (p2.trans p3) (g2.trans g3), h, q.mono (p1.trans (p2.trans p3)) (g1.trans (g2.trans g3))⟩
      · cases h
    · cases h
  · cases h
theorem E_rev {k : Nat} {p1 p2 p3 : Pos} (ha : OkE X G C a a') : OkE X G C (.Subscript a (.Slice none none (some (.UnaryOp .USub (.Constant (.int 1) k p1) p2)) p3) pos) (.rev a') := by
  refine PE.imp (pe_revL ha) ?_
  rintro σ H Q ⟨μ, ρ, st, d', st', S, h, q⟩
  simp only [ev] at h
  split at h
  · rename_i x s1 e1
    split at h
    · rename_i xs e2
      cases h
      refine ⟨μ, ρ, st, x, s1, S, e1, fun μ1 v1 H1 p1 g1 S1 r1 => ?_⟩
      obtain ⟨a, vs, rfl, h1, r2⟩ := lst_of S1 r1 e2
      exact ⟨a, vs, rfl, h1, fun p hp => (q.mono p1 g1).lst S1 (pr_reverse r2) hp⟩
    · cases h
  · cases h
end
end CL

/-! CL6: calls, built-ins, methods, dicts, locks. -/
namespace CL
open PySem PySem.Spec PyProof.Rows L2

/-- what a def promises: what its call in the clean store tells -/
def spC (tb : List Addr) (K : PySem.W.Frag) (C : Cl) (f : Nat) : Sp := fun vs H Q _ => (∀ P ∈ tb, GxR.TabG H P) ∧ ∃ μ st ds d st', SOk K μ st H ∧ Reps K H μ vs ds ∧ C f ds st = some (d, st') ∧ Post K H μ d st' Q

section
variable {X : Cx} {G : Gp} {C : Cl} {a b c : Expr} {a' b' c' : E} {pos : Pos}
theorem E_call {k f : Nat} {fa : Addr} {fd : FuncData} {ps : List Str} {x : Str} {e : Expr} {es : List Expr} {es' : List E} {p : Pos}
    (F : FnOk X.prog X.w X.K X.mg X.base CX0 k fa fd ps (spC G.tb X.K C f)) (hr : Room k X.A) (hg : Gl X x) (hm : X.mg x = some (.ref fa)) (hk : PySem.W.keepIn X.K (.ref fa) = true) (hb : Binds X.K fd ps [])
    (ha : PA X (e :: es) (tAs X.K G C es')) (hs : (e :: es).all noStar = true) (hd : (x == ("__debug__" : Str)) = false) : OkE X G C (.Call (.Name x p) (e :: es) [] pos) (.call f es') := by
  simp only [List.all_cons, Bool.and_eq_true] at hs
  refine PE.imp (pe_call F hr hg hm hk hb .nil pass0 ha hd (star_one hs.1 es X.env) (star_any hs.2 X.env pos)) ?_
  rintro σ H Q ⟨μ, ρ, st, d', st', S, h, q⟩
  simp only [ev] at h
  split at h
  · rename_i ds s1 e1
    refine ⟨μ, ρ, st, ds, _, S, e1, fun μ1 vs H1 p1 g1 S1 r1 => ?_⟩
    show spC G.tb X.K C f (vs ++ []) H1 Q E0
    rw [List.append_nil]
    exact ⟨fun P hP => g1.tab P (S.tabs P hP), μ1, _, ds, _, _, S1, r1, h, q.mono p1 g1⟩
  · cases h
theorem E_call0 {k f : Nat} {fa : Addr} {fd : FuncData} {ps : List Str} {x : Str} {p : Pos}
    (F : FnOk X.prog X.w X.K X.mg X.base CX0 k fa fd ps (spC G.tb X.K C f)) (hr : Room k X.A) (hg : Gl X x) (hm : X.mg x = some (.ref fa)) (hk : PySem.W.keepIn X.K (.ref fa) = true) (hb : Binds X.K fd ps [])
    (hd : (x == ("__debug__" : Str)) = false) : OkE X G C (.Call (.Name x p) [] [] pos) (.call f []) := by
  refine PE.imp (pe_call0 F hr hg hm hk hb .nil pass0 hd) ?_
  rintro σ H Q ⟨μ, ρ, st, d', st', S, h, q⟩
  simp only [ev, evs] at h
  exact ⟨S.tabs, μ, st, [], _, _, S.ok, .nil, h, q⟩
theorem E_bltF {bl : Blt} {id : String} {x : Str} {e : Expr} {es : List Expr} {es' : List E} {p : Pos} (hc : CallR X (.builtin id) (rBlt X.K bl)) (hg : Gl X x) (hm : X.mg x = none) (hv : bootBuiltins x = some (.builtin id))
    (ha : PA X (e :: es) (tAs X.K G C es')) (hs : (e :: es).all noStar = true) (hn : x ≠ "__name__") (hd : (x == ("__debug__" : Str)) = false) : OkE X G C (.Call (.Name x p) (e :: es) [] pos) (.blt bl es') := by
  simp only [List.all_cons, Bool.and_eq_true] at hs
  refine PE.imp (pe_callB hc hg hm hv ha hn hd (star_one hs.1 es X.env) (star_any hs.2 X.env pos)) ?_
  rintro σ H Q ⟨μ, ρ, st, d', st', S, h, q⟩
  simp only [ev] at h
  split at h
  · rename_i ds s1 e1
    refine ⟨μ, ρ, st, ds, _, S, e1, fun μ1 vs H1 p1 g1 S1 r1 => ?_⟩
    exact ⟨μ1, _, ds, _, _, S1, r1, h, q.mono p1 g1⟩
  · cases h
theorem E_bltT {bl : Blt} {T : String} {x : Str} {e : Expr} {es : List Expr} {es' : List E} {p : Pos} (hc : CallR X (.type T) (rBlt X.K bl)) (hg : Gl X x) (hm : X.mg x = none) (hv : bootBuiltins x = some (.type T))
    (ha : PA X (e :: es) (tAs X.K G C es')) (hs : (e :: es).all noStar = true) (hn : x ≠ "__name__") (hd : (x == ("__debug__" : Str)) = false) : OkE X G C (.Call (.Name x p) (e :: es) [] pos) (.blt bl es') := by
  simp only [List.all_cons, Bool.and_eq_true] at hs
  refine PE.imp (pe_callTy hc hg hm hv ha hn hd (star_one hs.1 es X.env) (star_any hs.2 X.env pos)) ?_
  rintro σ H Q ⟨μ, ρ, st, d', st', S, h, q⟩
  simp only [ev] at h
  split at h
  · rename_i ds s1 e1
    refine ⟨μ, ρ, st, ds, _, S, e1, fun μ1 vs H1 p1 g1 S1 r1 => ?_⟩
    exact ⟨μ1, _, ds, _, _, S1, r1, h, q.mono p1 g1⟩
  · cases h
theorem mem_ins {α : Type} [DecidableEq α] {y : α} : ∀ (xs L : List α), y ∈ xs.foldl GS.ins L → y ∈ L ∨ y ∈ xs
  | [], L, h => .inl h
  | x :: xs, L, h => by
    rcases mem_ins xs (GS.ins L x) h with h | h
    · unfold GS.ins at h
      split at h
      · exact .inl h
      · rcases List.mem_cons.mp h with rfl | h
        · exact .inr List.mem_cons_self
        · exact .inl h
    · exact .inr (List.mem_cons_of_mem _ h)
theorem ins_map : ∀ (xs L : List Str), (xs.foldl GS.ins L).map (fun x => x.cps.toList) = (xs.map fun x => x.cps.toList).foldl insL (L.map fun x => x.cps.toList)
  | [], L => rfl
  | x :: xs, L => by
    have inj : ∀ {x y : Str}, x.cps.toList = y.cps.toList → x = y := fun {x y} h => by
      cases x
      cases y
      simp only at h
      rw [Array.toList_inj.mp h]
    have key : (GS.ins L x).map (fun x => x.cps.toList) = insL (L.map fun x => x.cps.toList) x.cps.toList := by
      unfold GS.ins insL
      by_cases h : x ∈ L
      · rw [if_pos h, if_pos (List.mem_map.mpr ⟨x, h, rfl⟩)]
      · rw [if_neg h, if_neg fun z => by
          obtain ⟨y, hy, e⟩ := List.mem_map.mp z
          exact h (inj e ▸ hy)]
        rfl
    rw [List.foldl_cons, ins_map xs, List.map_cons, List.foldl_cons, key]
theorem E_sset {p p2 qp : Pos} (hc : X.calm = true) (ha : OkE X G C a a') (hs : noStar a = true) (hg : Gl X "sorted") (hm : X.mg "sorted" = none) (hg2 : Gl X "set") (hm2 : X.mg "set" = none) :
    OkE X G C (.Call (.Name "sorted" p) [.Call (.Name "set" p2) [a] [] qp] [] pos) (.blt .sset [a']) := by
  refine PE.imp (GS.pe_sset hc hg hm hg2 hm2 ha (star_one hs [] X.env)) ?_
  rintro σ H Q ⟨μ, ρ, st, d', st', S, h, q⟩
  simp only [ev, evs] at h
  split at h
  · rename_i ds s1 e1
    split at e1
    · rename_i x s2 e2
      simp only [Option.some.injEq, Prod.mk.injEq] at e1
      obtain ⟨rfl, rfl⟩ := e1
      refine ⟨μ, ρ, st, x, _, S, e2, fun μ1 v1 H1 p1 g1 S1 r1 => ?_⟩
      simp only [blt] at h
      split at h
      · rename_i xs e3
        obtain ⟨b, vs, rfl, h1, r2⟩ := seq_of S1 r1 e3
        refine ⟨b, rfl, ?_⟩
        split at h
        · rename_i ns e4
          split at h
          · rename_i h64
            cases h
            obtain rfl := strs_of e4
            obtain ⟨zs, rfl, rfl, hl⟩ := reps_strs r2
            refine .inl ⟨zs, h1, by simpa using h64, fun ys pp hp hs hn => ?_⟩
            have e5 : ys.map (fun x => x.cps.toList) = sortS (setL (zs.map fun x => x.cps.toList)) := by
              rw [sortS_eq hp hs, ins_map]
              rfl
            rw [← e5] at q
            exact (q.mono p1 g1).lst S1 (reps_of_strs ys fun y hy => hl y (by simpa using mem_ins zs [] (hp.subset hy))) hn
          · cases h
        · split at h
          · rename_i ns e4
            split at h
            · rename_i h64
              cases h
              obtain rfl := ints_of e4
              obtain rfl := reps_ints r2
              refine .inr ⟨ns, h1, h64, fun ys pp hp hs hn => ?_⟩
              have e5 : ys = sortI (setL ns) := sortI_eq hp hs
              rw [← e5] at q
              exact (q.mono p1 g1).lst S1 (reps_of_ints ys) hn
            · cases h
          · cases h
      · cases h
    · cases e1
  · cases h
theorem E_isi {t : Ty} {x : Str} {p p2 : Pos} (ha : OkE X G C a a') (hs : noStar a = true) (hg : Gl X "isinstance") (hm : X.mg "isinstance" = none) (hg2 : Gl X x) (hm2 : X.mg x = none) (hv2 : bootBuiltins x = some (.type (tyName t)))
    (hn : x ≠ "__name__") (hd : (x == ("__debug__" : Str)) = false) : OkE X G C (.Call (.Name "isinstance" p) [a, .Name x p2] [] pos) (.isi a' t) := by
  refine PE.imp (pe_callB (call_isi' t) hg hm (by decide +kernel) (pa_cons ha (pa_cons (pe_bltn (v := .ty (tyName t)) hg2 hm2 hv2 rfl hn hd) pa_nil) (star_one hs _ _)) (by decide) (by decide) (star_one hs _ _)) ?_
  rintro σ H Q ⟨μ, ρ, st, d', st', S, h, q⟩
  simp only [ev] at h
  split at h
  · rename_i x s1 e1
    simp only [Option.map_eq_some_iff] at h
    obtain ⟨t, h, e⟩ := h
    cases e
    refine ⟨μ, ρ, st, x, _, S, e1, fun μ1 v1 H1 p1 g1 S1 r1 => ?_⟩
    exact ⟨v1, μ1, _, x, t, rfl, S1, r1, h, (q.mono p1 g1).same S1 (.bl _)⟩
  · cases h

/-! ### methods -/
/-- where a method's receiver is no call of super -/
def notCall0 : Expr → Bool
  | .Call _ [] [] _ => false
  | _ => true
theorem base_of {o : Expr} (h : notCall0 o = true) (m : Str) (env : Env) (w : Sem Value) : attributeBase o m env w = w := by
  unfold attributeBase
  cases o <;> first | rfl | skip
  rename_i f as kws p
  cases as with
  | cons _ _ => cases f <;> rfl
  | nil =>
    cases kws with
    | cons _ _ => cases f <;> rfl
    | nil => simp [notCall0] at h
theorem starEach_length : ∀ (es : List Expr) (env : Env), (starEach es env).length = es.length
  | [], _ => rfl
  | e :: es, env => by cases e <;> simp [starEach, starEach_length es env]
def rMth (K : PySem.W.Frag) (m : Mth) : V → List V → Hp → VK → Prop := fun x xs H Q => ∃ μ st dx ds d st', SOk K μ st H ∧ Rep K H μ x dx ∧ Reps K H μ xs ds ∧ mth m dx ds st = some (d, st') ∧ Post K H μ d st' Q
def mthT : Mth → String
  | .append => "list"
  | .extend => "list"
  | .pop => "list"
  | .popAt => "list"
  | .get1 => "dict"
  | .get2 => "dict"
def mthId : Mth → String
  | .append => "list.append"
  | .extend => "list.extend"
  | .pop => "list.pop"
  | .popAt => "list.pop"
  | .get1 => "dict.get"
  | .get2 => "dict.get"
def mthName : Mth → Str
  | .append => "append"
  | .extend => "extend"
  | .pop => "pop"
  | .popAt => "pop"
  | .get1 => "get"
  | .get2 => "get"
theorem mth_plain (m : Mth) : PlainAttrs (mthT m) := by
  cases m <;> first | exact PySem.F.plainAttrs_list | exact PySem.F.plainAttrs_dict
theorem mth_slot (m : Mth) : Slot (mthT m) (mthName m) (mthId m) := by
  cases m
  · exact PySem.F.slot_list_append
  · exact PySem.F.slot_list_extend
  · exact PySem.F.slot_list_pop
  · exact PySem.F.slot_list_pop
  · exact PySem.F.slot_dict_get
  · exact PySem.F.slot_dict_get
theorem mth_ty (m : Mth) : typeOf (.builtin (mthId m)) = pure (.type "method_descriptor") := by
  cases m
  · exact PySem.F.type_list_append
  · exact PySem.F.type_list_extend
  · exact PySem.F.type_list_pop
  · exact PySem.F.type_list_pop
  · exact PySem.F.type_dict_get
  · exact PySem.F.type_dict_get
theorem c_mth (hu : X.A.units + 1 < cLine) (m : Mth) : MtR X (mthId m) (rMth X.K m) := by
  intro pins s σ H x xs v us Q I rx rxs h
  obtain ⟨μ, st, dx, ds, d, st', S, hx, hxs, h, q⟩ := h
  cases dx with
  | ref n =>
    have hx0 := hx
    obtain ⟨a, rfl, hm⟩ := rep_ref hx
    cases m with
    | append =>
      simp only [mth] at h
      split at h
      · rename_i xs' d' e
        split at h
        · rename_i hl
          cases h
          cases hxs with
          | cons r1 rn =>
            cases rn
            obtain ⟨vs, h1, r2⟩ := S.obj n _ a e hm
            obtain ⟨g, S'⟩ := lst_write S e hm h1 (pr_append r2 (.cons r1 .nil))
            exact mt_append pins s σ H _ _ v us Q I rx rxs ⟨a, vs, _, rfl, rfl, h1, by rw [r2.length]; exact hl, q μ _ _ Pre.refl g S' .non⟩
        · cases h
      · cases h
    | extend =>
      simp only [mth] at h
      split at h
      · rename_i xs' d' e
        split at h
        · rename_i q'
          split at h
          · rename_i ys e2
            split at h
            · rename_i hl
              cases h
              cases hxs with
              | cons r1 rn =>
                cases rn
                obtain ⟨b, rfl, hm2⟩ := rep_ref r1
                obtain ⟨vs, h1, r2⟩ := S.obj n _ a e hm
                obtain ⟨ws, h2, r3⟩ := S.obj q' _ b e2 hm2
                obtain ⟨g, S'⟩ := lst_write S e hm h1 (pr_append r2 r3)
                exact mt_extend pins s σ H _ _ v us Q I rx rxs ⟨a, b, vs, ws, rfl, rfl, h1, h2, by rw [r2.length, r3.length]; exact hl, q μ _ _ Pre.refl g S' .non⟩
            · cases h
          · cases h
        · cases h
      · cases h
    | pop =>
      simp only [mth] at h
      split at h
      · rename_i xs' e
        split at h
        · rename_i d' e2
          cases h
          cases hxs
          obtain ⟨vs, h1, r2⟩ := S.obj n _ a e hm
          rw [← r2.length] at e2
          obtain ⟨y, e3, ry⟩ := pr_get r2 e2
          obtain ⟨g, S'⟩ := lst_write S e hm h1 (pr_dropLast r2)
          exact mt_pop pins s σ H _ _ v us Q I rx rxs ⟨a, vs, y, rfl, rfl, h1, e3, q μ _ _ Pre.refl g S' (ry.mono Pre.refl g)⟩
        · cases h
      · cases h
    | popAt =>
      simp only [mth] at h
      split at h
      · rename_i xs' d' e
        split at h
        · rename_i i
          split at h
          · rename_i j e2
            split at h
            · rename_i hb
              simp only [Option.map_eq_some_iff] at h
              obtain ⟨y, e3, h⟩ := h
              cases h
              cases hxs with
              | cons r1 rn =>
                cases rn
                cases rep_int r1
                obtain ⟨vs, h1, r2⟩ := S.obj n _ a e hm
                obtain ⟨w, e4, rw'⟩ := pr_get r2 e3
                obtain ⟨g, S'⟩ := lst_write S e hm h1 (pr_erase j r2)
                exact mt_popAt pins s σ H _ _ v us Q I rx rxs ⟨a, vs, i, j, w, rfl, rfl, h1, hb.1, hb.2, by rw [r2.length]; exact (ixN_seq e2).1, e4, q μ _ _ Pre.refl g S' (rw'.mono Pre.refl g)⟩
            · cases h
          · cases h
        · cases h
      · cases h
    | get1 =>
      simp only [mth] at h
      split at h
      · rename_i kvs k e
        split at h
        · rename_i hk
          cases h
          cases hxs with
          | cons r1 rn =>
            cases rn
            obtain ⟨a', ks, e', hr, rel⟩ := dic_of S hx0 e
            cases e'
            obtain ⟨key, rfl, rfl, _⟩ := key_of_rep hk r1
            obtain ⟨u, rfl, ru⟩ := Vals.one rxs
            obtain rfl : v = Value.ref a := rx
            have lr := look_rel (μ := μ) key rel
            refine d_get1 hu I (.inl ⟨ks, key, hr, rfl, rfl⟩) ru fun w' s' I' rw' => ⟨_, H, I', rw', ?_⟩
            cases e1 : valV ks key with
            | none =>
              cases e2 : look kvs (kD key) with
              | none => rw [e2] at q; exact q.same S .non
              | some d' => rw [e1, e2] at lr; exact lr.elim
            | some w =>
              cases e2 : look kvs (kD key) with
              | none => rw [e1, e2] at lr; exact lr.elim
              | some d' => rw [e2] at q; rw [e1, e2] at lr; exact q.same S lr
        · cases h
      · cases h
    | get2 =>
      simp only [mth] at h
      split at h
      · rename_i kvs k dd e
        split at h
        · rename_i hk
          cases h
          cases hxs with
          | cons r1 rt =>
            cases rt with
            | cons r2 rn =>
              cases rn
              obtain ⟨a', ks, e', hr, rel⟩ := dic_of S hx0 e
              cases e'
              obtain ⟨key, rfl, rfl, _⟩ := key_of_rep hk r1
              obtain ⟨u, w, rfl, ru, rw2⟩ := Vals.two rxs
              obtain rfl : v = Value.ref a := rx
              have lr := look_rel (μ := μ) key rel
              refine d_get2 hu I (.inl ⟨ks, key, hr, rfl, rfl⟩) ru rw2 fun w' s' I' rw' => ⟨_, H, I', rw', ?_⟩
              cases e1 : valV ks key with
              | none =>
                cases e2 : look kvs (kD key) with
                | none => rw [e2] at q; exact q.same S r2
                | some d' => rw [e1, e2] at lr; exact lr.elim
              | some w =>
                cases e2 : look kvs (kD key) with
                | none => rw [e1, e2] at lr; exact lr.elim
                | some d' => rw [e2] at q; rw [e1, e2] at lr; exact q.same S lr
        · cases h
      · cases h
  | _ => simp [mth] at h
/-- the receiver's type as the layer asks it -/
theorem mty_ty {μ : List Addr} {st : Sto} {H : Hp} {x : V} {d : D} {m : Mth} (S : SOk X.K μ st H) (hx : Rep X.K H μ x d) (h : mty m st d = true) : ∃ a, x = .ref a ∧ ((mthT m = "list" ∧ ∃ xs, SqL X.K H a xs) ∨ (mthT m = "dict" ∧ ∃ ks, Rd H a (.dK ks))) := by
  have l : ∀ d', (lstAt st d').isSome = true → d' = d → ∃ a, x = .ref a ∧ ∃ xs, SqL X.K H a xs := fun d' hh e => by
    subst e
    obtain ⟨xs, e⟩ := Option.isSome_iff_exists.mp hh
    obtain ⟨a, vs, e1, e2, _⟩ := lst_of S hx e
    exact ⟨a, e1, vs, e2⟩
  have k : ∀ d', (dicAt st d').isSome = true → d' = d → ∃ a, x = .ref a ∧ ∃ ks, Rd H a (.dK ks) := fun d' hh e => by
    subst e
    obtain ⟨xs, e⟩ := Option.isSome_iff_exists.mp hh
    obtain ⟨a, vs, e1, e2, _⟩ := dic_of S hx e
    exact ⟨a, e1, vs, e2⟩
  cases m
  · obtain ⟨a, e, z⟩ := l d h rfl; exact ⟨a, e, .inl ⟨rfl, z⟩⟩
  · obtain ⟨a, e, z⟩ := l d h rfl; exact ⟨a, e, .inl ⟨rfl, z⟩⟩
  · obtain ⟨a, e, z⟩ := l d h rfl; exact ⟨a, e, .inl ⟨rfl, z⟩⟩
  · obtain ⟨a, e, z⟩ := l d h rfl; exact ⟨a, e, .inl ⟨rfl, z⟩⟩
  · obtain ⟨a, e, z⟩ := k d h rfl; exact ⟨a, e, .inr ⟨rfl, z⟩⟩
  · obtain ⟨a, e, z⟩ := k d h rfl; exact ⟨a, e, .inr ⟨rfl, z⟩⟩
theorem ty_is {pins : List (Addr × Obj)} {s : Shared} {σ : L2.St} {H : Hp} {T : String} {a : Addr} {v : Value} (I : Inv X pins σ H s) (r : RelV (.ref a) v) (ty : (T = "list" ∧ ∃ xs, SqL X.K H a xs) ∨ (T = "dict" ∧ ∃ ks, Rd H a (.dK ks))) :
    s.TypeIs v T ∧ ∀ a, v = .ref a → ∃ ob, s.heap.get? a = some ob ∧ ob.dict = none := by
  obtain rfl : v = Value.ref a := r
  rcases ty with ⟨rfl, xs, h⟩ | ⟨rfl, ks, h⟩
  · exact tyV_is (x := .ref a) I rfl (.inl ⟨rfl, xs, h⟩)
  · obtain ⟨h1, h2, _⟩ := isD_at I (.inl ⟨ks, h⟩)
    exact ⟨h1, h2⟩
theorem E_mth {m : Mth} {o e : Expr} {es : List Expr} {o' : E} {es' : List E} {apos cpos : Pos} (hu : X.A.units + 1 < cLine) (ho : OkE X G C o o') (ha : PA X (e :: es) (tAs X.K G C es')) (hs : (e :: es).all noStar = true)
    (hn : notCall0 o = true) (hl : (apos.endLine == cpos.line) = true) (hlen : (e :: es).length < 20) : OkE X G C (.Call (.Attribute o (mthName m) apos) (e :: es) [] cpos) (.mth m o' es') := by
  have hs' := hs
  simp only [List.all_cons, Bool.and_eq_true] at hs'
  refine ⟨fun pins s σ H Q I h0 => ?_⟩
  obtain ⟨μ, ρ, st, d', st', S, h, q⟩ := h0
  simp only [ev] at h
  split at h
  · rename_i x s1 e1
    split at h
    · rename_i ht
      split at h
      · rename_i ds s2 e2
        refine wpAny_Call_method_late (base_of hn _ _ _) ?_ hl rfl (thn (ho.run pins s σ H (fun v1 H1 => ∃ μ1, Pre μ μ1 ∧ Gr X.K H H1 ∧ SOk X.K μ1 s1 H1 ∧ Rep X.K H1 μ1 v1 x) I ⟨μ, ρ, st, x, s1, S, e1, fun μ1 v1 H1 p1 g1 S1 r1 => ⟨μ1, p1, g1, S1, r1⟩⟩) fun v s3 ⟨y, H1, I1, ry, μ1, p1, g1, S1, r1⟩ => ?_)
        · rw [star_all hs]
          simp only [backToKw, keywordEach, List.map_nil, List.all_nil, Bool.true_and, List.isEmpty_nil, if_true, List.length_nil, decide_eq_true_eq]
          omega
        · obtain ⟨a, rfl, ty⟩ := mty_ty S1 r1 ht
          obtain ⟨t1, t2⟩ := ty_is I1 ry ty
          refine ⟨mthT m, mthId m, mth_plain m, mth_slot m, mth_ty m, t1, t2, ?_⟩
          have hA := ha.run cpos pins s3 σ H1 (fun vs H2 => ∃ μ2, Pre μ1 μ2 ∧ Gr X.K H1 H2 ∧ SOk X.K μ2 s2 H2 ∧ Reps X.K H2 μ2 vs ds) I1 ⟨μ1, ρ, s1, ds, s2, S.step p1 g1 S1, e2, fun μ2 vs H2 p2 g2 S2 r2 => ⟨μ2, p2, g2, S2, r2⟩⟩
          rw [star_one hs'.1] at hA ⊢
          refine Calls.callWith_builtin (by show (false || (backTo cpos (starEach es X.env)).any (·.1)) = false; rw [star_any hs'.2] <;> rfl) (Calls.evalArgs_plain ?_)
          exact thn hA fun us s4 ⟨vs, H2, I2, r2, μ2, p2, g2, S2, rr⟩ => c_mth hu m pins s4 σ H2 _ vs v us Q I2 ry r2 ⟨μ2, s2, x, ds, _, _, S2, r1.mono p2 g2, rr, h, q.mono (p1.trans p2) (g1.trans g2)⟩
      · cases h
    · cases h
  · cases h
theorem E_mth0 {m : Mth} {o : Expr} {o' : E} {apos cpos : Pos} (hu : X.A.units + 1 < cLine) (ho : OkE X G C o o') (hn : notCall0 o = true) (hl : (apos.endLine == cpos.line) = true) : OkE X G C (.Call (.Attribute o (mthName m) apos) [] [] cpos) (.mth m o' []) := by
  refine ⟨fun pins s σ H Q I h0 => ?_⟩
  obtain ⟨μ, ρ, st, d', st', S, h, q⟩ := h0
  simp only [ev, evs] at h
  split at h
  · rename_i x s1 e1
    split at h
    · rename_i ht
      refine wpAny_Call_method0_late (base_of hn _ _ _) hl (thn (ho.run pins s σ H (fun v1 H1 => ∃ μ1, Pre μ μ1 ∧ Gr X.K H H1 ∧ SOk X.K μ1 s1 H1 ∧ Rep X.K H1 μ1 v1 x) I ⟨μ, ρ, st, x, s1, S, e1, fun μ1 v1 H1 p1 g1 S1 r1 => ⟨μ1, p1, g1, S1, r1⟩⟩) fun v s3 ⟨y, H1, I1, ry, μ1, p1, g1, S1, r1⟩ => ?_)
      obtain ⟨a, rfl, ty⟩ := mty_ty S1 r1 ht
      obtain ⟨t1, t2⟩ := ty_is I1 ry ty
      refine ⟨mthT m, mthId m, mth_plain m, mth_slot m, mth_ty m, t1, t2, ?_⟩
      exact Calls.callWith_builtin rfl (PySem.evalArgs_none (c_mth hu m pins s3 σ H1 _ [] v [] Q I1 ry .nil ⟨μ1, s1, x, [], _, _, S1, r1, .nil, h, q.mono p1 g1⟩))
    · cases h
  · cases h

/-! ### displays of dicts -/
/-- the pairs of a display as one reading -/
structure PPt (X : Cx) (pos : Pos) (keys : List (Option Expr)) (values : List Expr) (t : L2.St → Hp → (List (V × V) → Hp → Prop) → Prop) : Prop where
  run : ∀ (pins : List (Addr × Obj)) (s : Shared) (σ : L2.St) (H : Hp) (Q : List (V × V) → Hp → Prop), Inv X pins σ H s → t σ H Q →
    wpAny (model X.prog X.w) X.A (evalPairs (pairTrees keys values X.env pos)) (fun vs s' => ∃ ps H', Inv X pins σ H' s' ∧ VV ps vs ∧ Q ps H') X.xe s
def tPs (K : PySem.W.Frag) (G : Gp) (C : Cl) (ps : Ps) : L2.St → Hp → (List (V × V) → Hp → Prop) → Prop := fun σ H Q => ∃ μ ρ st ds st', Sim G.tb K μ ρ st σ H ∧ evps G.con C ps ρ st = some (ds, st') ∧
  ∀ (μ' : List Addr) (vs : List (V × V)) (H' : Hp), Pre μ μ' → Gr K H H' → SOk K μ' st' H' → Paired (fun (p : V × V) (q : D × D) => Rep K H' μ' p.1 q.1 ∧ Rep K H' μ' p.2 q.2) vs ds → Q vs H'
theorem PP_nil : PPt X pos [] [] (tPs X.K G C .nil) := by
  refine ⟨fun pins s σ H Q I h => ?_⟩
  obtain ⟨μ, ρ, st, ds, st', S, h, q⟩ := h
  simp only [evps] at h
  cases h
  exact pairTrees_nil_walk ⟨[], H, I, .nil, q μ [] H Pre.refl Gr.refl S.ok .nil⟩
theorem PP_cons {ks : List (Option Expr)} {vs : List Expr} {r : Ps} (ha : OkE X G C a a') (hb : OkE X G C b b') (hr : PPt X pos ks vs (tPs X.K G C r)) : PPt X pos (some a :: ks) (b :: vs) (tPs X.K G C (.cons a' b' r)) := by
  refine ⟨fun pins s σ H Q I h => ?_⟩
  obtain ⟨μ, ρ, st, ds, st', S, h, q⟩ := h
  simp only [evps] at h
  split at h
  · rename_i x s1 e1
    split at h
    · rename_i y s2 e2
      split at h
      · rename_i ps s3 e3
        cases h
        refine pairTrees_cons_walk (thn (ha.run pins s σ H (fun v1 H1 => ∃ μ1, Pre μ μ1 ∧ Gr X.K H H1 ∧ SOk X.K μ1 s1 H1 ∧ Rep X.K H1 μ1 v1 x) I ⟨μ, ρ, st, x, s1, S, e1, fun μ1 v1 H1 p1 g1 S1 r1 => ⟨μ1, p1, g1, S1, r1⟩⟩) fun u t1 ⟨v1, H1, I1, ru, μ1, p1, g1, S1, r1⟩ => ?_)
        refine thn (hb.run pins t1 σ H1 (fun v2 H2 => ∃ μ2, Pre μ1 μ2 ∧ Gr X.K H1 H2 ∧ SOk X.K μ2 s2 H2 ∧ Rep X.K H2 μ2 v2 y) I1 ⟨μ1, ρ, s1, y, s2, S.step p1 g1 S1, e2, fun μ2 v2 H2 p2 g2 S2 r2 => ⟨μ2, p2, g2, S2, r2⟩⟩) fun u2 t2 ⟨v2, H2, I2, ru2, μ2, p2, g2, S2, r2⟩ => ?_
        refine thn (hr.run pins t2 σ H2 (fun vs H3 => Q ((v1, v2) :: vs) H3) I2 ⟨μ2, ρ, s2, ps, _, (S.step p1 g1 S1).step p2 g2 S2, e3, fun μ3 vs H3 p3 g3 S3 r3 => ?_⟩) fun ws t3 ⟨vs, H3, I3, rel, q3⟩ => ⟨_, H3, I3, .cons ⟨ru, ru2⟩ rel, q3⟩
        exact q μ3 _ H3 (p1.trans (p2.trans p3)) (g1.trans (g2.trans g3)) S3 (.cons ⟨r1.mono (p2.trans p3) (g2.trans g3), r2.mono p3 g3⟩ r3)
      · cases h
    · cases h
  · cases h
theorem keys_rel {K : PySem.W.Frag} {H : Hp} {μ : List Addr} : ∀ {ds : List (D × D)} {vs : List (V × V)}, ds.all (fun p => isKey p.1) = true → Paired (fun (p : V × V) (q : D × D) => Rep K H μ p.1 q.1 ∧ Rep K H μ p.2 q.2) vs ds →
    ∃ kvs : List (Key × V), vs = kvs.map (fun kv => (kV kv.1, kv.2)) ∧ Paired (EnR K H μ) kvs ds
  | [], _, _, .nil => ⟨[], rfl, .nil⟩
  | d :: ds, v :: vs, h, .cons r t => by
    simp only [List.all_cons, Bool.and_eq_true] at h
    obtain ⟨kvs, rfl, q⟩ := keys_rel h.2 t
    obtain ⟨key, e1, e2, ok⟩ := key_of_rep h.1 r.1
    obtain ⟨v1, v2⟩ := v
    cases e1
    exact ⟨(key, v2) :: kvs, rfl, .cons ⟨e2, ok, r.2⟩ q⟩
theorem E_dic0 : OkE X G C (.Dict [] [] pos) (.dic .nil) := by
  refine PE.imp pe_dnewK ?_
  rintro σ H Q ⟨μ, ρ, st, d', st', S, h, q⟩
  intro p hp
  have e : (st ++ [O.dic []])[st.length]? = some (.dic []) := top_at rfl
  simp only [ev, evps, e, List.all_nil, List.length_nil, Nat.zero_le, and_self, if_true] at h
  cases h
  have : (st ++ [O.dic []]).set st.length (O.dic (merge [] [])) = st ++ [O.dic []] := by
    simp [merge]
  rw [this] at q
  exact q.dic S.ok .nil hp
theorem E_dic {keys : List (Option Expr)} {values : List Expr} {ps : Ps} (h : PPt X pos keys values (tPs X.K G C ps)) (hall : keys.all (·.isSome) = true) (hl : keys.length = values.length) (h0 : keys ≠ []) (h15 : keys.length ≤ 15) : OkE X G C (.Dict keys values pos) (.dic ps) := by
  refine ⟨fun pins s σ H Q I h1 => ?_⟩
  obtain ⟨μ, ρ, st, d', st', S, h1, q⟩ := h1
  simp only [ev] at h1
  split at h1
  · rename_i ds s1 e1
    split at h1
    · rename_i e2
      split at h1
      · rename_i hk
        cases h1
        have hn := I.hok.fresh (Nat.le_refl s.heap.objs.size)
        have I1 := I.laid (a := s.heap.objs.size) (o := .dK []) (h' := s.heap.push { cls := .type "dict", data := .dict #[] }) (t' := s.toks) (fun _ _ q => Heap.get?_push_of_some _ q) (Nat.le_refl _) (dk_empty s.heap I.big)
        generalize hp : s.heap.objs.size = p at *
        have S1 : SOk X.K (μ ++ [p]) (st ++ [.dic []]) (upd H p (.dK [])) := S.ok.alloc hn ⟨[], upd_same, .nil⟩
        have g0 : Gr X.K H (upd H p (.dK [])) := gr_new hn
        rw [← hp] at I1
        refine wpAny_Dict_walk (knd := mixKind X.prog X.w) hall hl h0 h15 (thn (h.run pins _ σ _ (fun vs H2 => ∃ μ2, Pre (μ ++ [p]) μ2 ∧ Gr X.K (upd H p (.dK [])) H2 ∧ SOk X.K μ2 s1 H2 ∧ Paired (fun (p : V × V) (q : D × D) => Rep X.K H2 μ2 p.1 q.1 ∧ Rep X.K H2 μ2 p.2 q.2) vs ds) I1 ?_) fun ws s2 ⟨vs, H2, I2, rel, μ2, p2, g2, S2, r2⟩ => ?_)
        · rw [hp]
          exact ⟨μ ++ [p], ρ, _, ds, s1, S.step Pre.snoc g0 S1, e1, fun μ2 vs H2 p2 g2 S2 r2 => ⟨μ2, p2, g2, S2, r2⟩⟩
        · obtain ⟨kvs, rfl, q2⟩ := keys_rel hk.1 r2
          have hm : μ2[st.length]? = some p := p2 _ _ (top_at S.ok.len)
          obtain ⟨ks0, hd, r0⟩ := S2.obj _ _ p e2 hm
          cases r0
          obtain ⟨rs, c, rk⟩ := carries_of (P := X.prog) (w := X.w) rel
          obtain ⟨z, hdd, vs0, r0, dd⟩ := dk_of I2.hok hd
          cases r0
          rw [← hp] at hd hdd dd
          obtain ⟨gg, SS⟩ := dic_write S2 e2 hm (by rw [← hp]; exact hd) (merge_rel q2 .nil)
          refine ⟨rs, c, dd, fun h' dd' hs => ⟨.ref s.heap.objs.size, upd H2 s.heap.objs.size (.dK (mergeK [] kvs)), ?_, rfl, ?_⟩⟩
          · have hz : (mergeK [] kvs).length ≤ sizeLine := by
              have h1 := length_mergeK kvs []
              have h2 := q2.length
              rw [List.length_nil] at h1
              rw [sizeLine_eq]; omega
            have he : ∃ q, h'.get? s.heap.objs.size = some q := let ⟨q, _, _, hq, _⟩ := dd'; ⟨q, hq⟩
            exact d_write I2 (by rw [hd]; exact True.intro) hs he (dk_new hz hdd (rk.merge .nil) dd')
          · rw [hp]
            exact q μ2 _ _ (Pre.snoc.trans p2) (g0.trans (g2.trans gg)) SS (.ref hm)
      · cases h1
    · cases h1
  · cases h1

/-! ### locks -/
theorem PE.or {e : Expr} {t t' : TE} (h : PE X e t) (h' : PE X e t') : PE X e (fun σ H Q => t σ H Q ∨ t' σ H Q) := ⟨fun pins s σ H Q I q => q.elim (h.run pins s σ H Q I) (h'.run pins s σ H Q I)⟩
theorem PS.or {st : Stmt} {t t' : TS} (h : PS X st t) (h' : PS X st t') : PS X st (fun D σ H => t D σ H ∨ t' D σ H) := ⟨fun pins s σ H D I q => q.elim (h.run pins s σ H D I) (h'.run pins s σ H D I)⟩
theorem dicIn_of {ρ : En} {i : Nat} {st : Sto} {r : Nat} {kvs : List (D × D)} (h : dicIn ρ i st = some (r, kvs)) : st[r]? = some (.dic kvs) := by
  unfold dicIn at h
  split at h
  · split at h
    · cases h; assumption
    · cases h
  · cases h
theorem gr_unlock {K : PySem.W.Frag} {H H1 : Hp} {a : Addr} {u w w' : HO} {od : Obj} (h : H a = some u) (nf : ∀ q w, u ≠ .frz q w) (g : Gr K H H1) (h1 : H1 a = some (.frz od w)) (nt : NoTup (.frz od w)) : Gr K H (upd H1 a w') :=
  ⟨fun c xs q => grT_upd h1 nt c xs (g.tup c xs q), fun c xs q => sqT_upd h1 nt (g.sq c xs q), fun b q v e => by rw [upd_ne (ne_of e h (fun hh => nf q v hh.symm))]; exact g.frz b q v e, fun b t => let ⟨ps, q, z⟩ := g.tab b t; ⟨ps, by rw [upd_ne (ne_of q h1 (fun hh => nomatch hh))]; exact q, z⟩⟩
theorem sim_lock {tb : List Addr} {K : PySem.W.Frag} {μ : List Addr} {ρ : En} {st : Sto} {σ : L2.St} {H : Hp} {r : Nat} {kvs : List (D × D)} (S : Sim tb K μ ρ st σ H) (e : st[r]? = some (.dic kvs)) :
    ∃ a ks, μ[r]? = some a ∧ H a = some (.dK ks) ∧ ∀ od, Gr K H (upd H a (.frz od (.dK ks))) ∧ Sim tb K μ ρ (st.set r (.rod kvs)) σ (upd H a (.frz od (.dK ks))) := by
  obtain ⟨a, hm, ks, h1, rel⟩ := S.ok.addr e
  refine ⟨a, ks, hm, h1, fun od => ?_⟩
  have g : Gr K H (upd H a (.frz od (.dK ks))) := gr_upd h1 True.intro (fun _ _ q => by cases q) (fun _ q => by cases q)
  exact ⟨g, S.step Pre.refl g (S.ok.write hm h1 True.intro (fun _ _ q => by cases q) (fun _ q => by cases q) (fun _ q => by rw [e] at q; cases q) ⟨ks, od, upd_same, pr_mono (fun _ _ h => h.mono Pre.refl g) rel⟩)⟩
theorem sim_unlock {K : PySem.W.Frag} {μ : List Addr} {st st' : Sto} {H : Hp} {r : Nat} {kvs : List (D × D)} {a : Addr} {od : Obj} {ks : List (Key × V)} (S : SOk K μ st H) (hm : μ[r]? = some a) (hf : H a = some (.frz od (.dK ks))) (h : unlock r kvs st = some st') :
    GrT K H (upd H a (.dK ks)) ∧ SOk K μ st' (upd H a (.dK ks)) := by
  unfold unlock at h
  split at h
  · rename_i ks' e
    split at h
    · rename_i ek
      cases h
      subst ek
      obtain ⟨ks2, od2, h1, rel⟩ := S.obj r _ a e hm
      rw [hf] at h1
      cases h1
      have g : GrT K H (upd H a (.dK ks)) := grT_upd hf True.intro
      refine ⟨g, S.write hm hf True.intro (fun _ _ q => by cases q) (fun _ q => by cases q) (fun _ q => by rw [e] at q; cases q) ⟨ks, upd_same, pr_mono (fun _ _ h => h.monoT Pre.refl g) rel⟩⟩
    · cases h
  · cases h
theorem E_lock {i : Nat} (ha : OkE X G C a a') : OkE X G C a (.lock i a') := by
  refine PE.imp (PE.or (pe_lock ha) ha) ?_
  rintro σ H Q ⟨μ, ρ, st, d', st', S, h, q⟩
  simp only [ev] at h
  split at h
  · rename_i r kvs e
    have e' := dicIn_of e
    obtain ⟨a, ks, hm, h1, lk⟩ := sim_lock S e'
    split at h
    · rename_i d s1 e1
      simp only [Option.map_eq_some_iff] at h
      obtain ⟨s2, h, e2⟩ := h
      cases e2
      refine .inl ⟨a, _, h1, True.intro, fun od => ?_⟩
      obtain ⟨g, S'⟩ := lk od
      refine ⟨μ, ρ, _, _, s1, S', e1, fun μ1 v1 H1 p1 g1 S1 r1 => ?_⟩
      have hf : H1 a = some (.frz od (.dK ks)) := g1.frz _ _ _ upd_same
      obtain ⟨g2, S2⟩ := sim_unlock S1 (p1 _ _ hm) hf h
      exact ⟨hf, q μ1 _ _ p1 (gr_unlock h1 (fun _ _ q => by cases q) (g.trans g1) hf True.intro) S2 (r1.monoT Pre.refl g2)⟩
    · cases h
  · exact .inr ⟨μ, ρ, st, _, _, S, h, q⟩
end
end CL

/-! CS: sorted(d.items()). -/
namespace CL
open PySem PySem.Spec PyProof.Rows L2
section
variable {X : Cx} {G : Gp} {C : Cl} {a b c : Expr} {a' b' c' : E} {pos : Pos} {μ : List Addr} {st : Sto} {pins : List (Addr × Obj)} {σ : L2.St}
theorem repKey {H : Hp} {μ : List Addr} {k : Key} (ok : kOk k) : Rep X.K H μ (kV k) (kD k) := by
  cases k with
  | inl i => exact .int i
  | inr x => exact .str x ok
theorem enR_mono {K : PySem.W.Frag} {H H' : Hp} (g : Gr K H H') {p : Key × V} {q : D × D} (r : EnR K H μ p q) : EnR K H' μ p q := ⟨r.1, r.2.1, r.2.2.mono Pre.refl g⟩
/-- pairs that are made, laid one by one -/
theorem lay_pairs {s : Shared} {h' : Heap} {tk : Nat} : ∀ (L : List Addr) (ks : List (Key × V)) (kd : List (D × D)) (H1 : Hp), Inv X pins σ H1 { s with heap := h', toks := tk } → SOk X.K μ st H1 → L.Nodup → L.length = ks.length → Paired (EnR X.K H1 μ) ks kd →
    (∀ b ∈ L, FpOk X pins H1 b ∧ H1 b = none) → (∀ (j : Nat) (b : Addr) (kv : Key × V), L[j]? = some b → ks[j]? = some kv → ∃ u v, h'.get? b = some { cls := .type "tuple", data := .seq #[u, v] } ∧ RelV (kV kv.1) u ∧ RelV kv.2 v) →
    ∃ H2, Inv X pins σ H2 { s with heap := h', toks := tk } ∧ Gr X.K H1 H2 ∧ SOk X.K μ st H2 ∧ (∀ b, b ∉ L → H2 b = H1 b) ∧ Reps X.K H2 μ (L.map V.ref) (kd.map fun p => .tup [p.1, p.2])
  | [], ks, kd, H1, I1, S1, _, hl, r, _, _ => by
    cases ks with
    | cons _ _ => simp at hl
    | nil =>
      cases r
      exact ⟨H1, I1, Gr.refl, S1, fun _ _ => rfl, .nil⟩
  | b :: L, ks, kd, H1, I1, S1, hn, hl, r, hf, hg => by
    cases ks with
    | nil => simp at hl
    | cons kv ks =>
      cases r with
      | cons r0 r =>
        rename_i q kd
        obtain ⟨u, v, e, ru, rv⟩ := hg 0 b kv rfl rfl
        obtain ⟨fp, hb⟩ := hf b List.mem_cons_self
        rw [List.nodup_cons] at hn
        have ok : ∀ H2 : Hp, ObjOk X.prog X.w H2 h' b (.frz (tupO #[u, v]) (.tup [kV kv.1, kv.2])) := fun H2 => ⟨e, by show 2 ≤ sizeLine; decide, [u, v], .cons ru (.cons rv .nil), ⟨_, e, rfl, _, rfl⟩⟩
        have I2 : Inv X pins σ (upd H1 b (.frz (tupO #[u, v]) (.tup [kV kv.1, kv.2]))) { s with heap := h', toks := tk } := I1.take (h' := h') (t' := tk) (fun b ob _ e => e) fp (ok _)
        have g1 : Gr X.K H1 (upd H1 b (.frz (tupO #[u, v]) (.tup [kV kv.1, kv.2]))) := gr_new hb
        obtain ⟨H2, I3, g2, S3, same, r3⟩ := lay_pairs L ks kd (upd H1 b (.frz (tupO #[u, v]) (.tup [kV kv.1, kv.2]))) I2 (S1.grow hb) hn.2 (by simpa using hl) (pr_mono (fun _ _ => enR_mono g1) r) (fun c hc => by
            obtain ⟨c1, c2⟩ := hf c (List.mem_cons_of_mem _ hc)
            have ne : c ≠ b := fun z => hn.1 (z ▸ hc)
            exact ⟨by
              have : upd H1 b (.frz (tupO #[u, v]) (.tup [kV kv.1, kv.2])) c = H1 c := upd_ne ne
              exact ⟨by rw [this]; exact c1.1, c1.2⟩, by rw [upd_ne ne]; exact c2⟩) (fun j c kv' hj hk => hg (j + 1) c kv' (by simpa using hj) (by simpa using hk))
        refine ⟨H2, I3, g1.trans g2, S3, fun c hc => ?_, .cons ?_ r3⟩
        · simp only [List.mem_cons, not_or] at hc
          rw [same c hc.2, upd_ne hc.1]
        · obtain ⟨e1, e2, e3⟩ := r0
          have hb2 : H2 b = some (.frz (tupO #[u, v]) (.tup [kV kv.1, kv.2])) := by rw [same b hn.1]; exact upd_same
          refine .tup (.inl ⟨tupO #[u, v], rfl, hb2⟩) ?_
          rw [← e1]
          exact .cons (repKey e2) (.cons (e3.mono Pre.refl (g1.trans g2)) .nil)
theorem pairs_at {P : Program} {w : World} : ∀ {es : List DictEntry} {vs : List (Key × Value)}, Pairs (mixKind P w) es vs → ∀ {j : Nat} {e : DictEntry}, es[j]? = some e → ∃ kv, vs[j]? = some kv ∧ keyIs kv.1 e.key = true ∧ e.val = kv.2
  | _, _, .nil, j, e, h => by simp at h
  | _, _, .cons h1 h2 t, 0, e, h => by
    cases h
    exact ⟨_, rfl, h1, h2⟩
  | _, _, .cons h1 h2 t, j + 1, e, h => by
    obtain ⟨kv, a, b⟩ := pairs_at t (j := j) (by simpa using h)
    exact ⟨kv, by simpa using a, b⟩
theorem rel_key {k : Key} {v : Value} (h : keyIs k v = true) : RelV (kV k) v := by
  rcases keyIs_shape h with ⟨i, t, rfl, rfl⟩ | ⟨x, t, rfl, rfl⟩
  · exact ⟨t, rfl⟩
  · exact ⟨t, rfl⟩
theorem vals_refs : ∀ L : List Addr, Vals (L.map V.ref) (L.map Value.ref)
  | [] => .nil
  | _ :: L => .cons rfl (vals_refs L)
theorem E_sitems {p ap qp : Pos} (hc : X.calm = true) (hu : X.A.units + 200 < cLine) (ha : OkE X G C a a') (hn : notCall0 a = true) (hl : (ap.endLine == qp.line) = true) (hg : Gl X "sorted") (hm : X.mg "sorted" = none) :
    OkE X G C (.Call (.Name "sorted" p) [.Call (.Attribute a "items" ap) [] [] qp] [] pos) (.blt .sitems [a']) := by
  refine ⟨fun pins s σ H Q I h0 => ?_⟩
  obtain ⟨μ, ρ, st, d', st', S, h, q⟩ := h0
  simp only [ev, evs] at h
  split at h
  · rename_i ds s1 e1
    split at e1
    · rename_i x s2 e2
      simp only [Option.some.injEq, Prod.mk.injEq] at e1
      obtain ⟨rfl, rfl⟩ := e1
      simp only [blt] at h
      split at h
      · rename_i kvs e3
        split at h
        · rename_i hk
          cases h
          have K := sortOk_iff.mp hk
          refine Call_ (ld_blt I hg hm (show bootBuiltins "sorted" = some (.builtin "sorted") by decide +kernel) ?_)
          refine PyProof.Rows.callWith_builtin1 (PyProof.Rows.args_cons ?_ rfl) rfl rfl
          refine wpAny_Call_method (T := "dict") (id := "dict.items") (base_of hn _ _ _) rfl hl F.plainAttrs_dict F.slot_dict_items F.type_dict_items (thn (ha.run pins s σ H (fun v1 H1 => ∃ μ1, Pre μ μ1 ∧ Gr X.K H H1 ∧ SOk X.K μ1 s2 H1 ∧ Rep X.K H1 μ1 v1 x) I ⟨μ, ρ, st, x, s2, S, e2, fun μ1 v1 H1 p1 g1 S1 r1 => ⟨μ1, p1, g1, S1, r1⟩⟩) fun v s3 ⟨y, H1, I1, ry, μ1, p1, g1, S1, r1⟩ => ?_)
          obtain ⟨d, ks, rfl, h1, r2⟩ := dic_of S1 r1 e3
          obtain rfl : v = Value.ref d := ry
          obtain ⟨hz, hd, vs, rel, dd⟩ := dk_rd I1.hok h1
          obtain ⟨o, es, ep, ho, hx, hdat, hkeys, hpr, hnd⟩ := id dd
          have raw : DT.Raw s3.heap d es ep := ⟨o, ho, hx, hdat⟩
          have hh := I1.ok.hd hc
          refine ⟨raw.typeIs, dd.mapOf.noDict, ?_⟩
          show wpAny _ _ (callWith qp (.builtin "dict.items") [.ref d] [] []) _ X.xe s3
          refine method_meetsIn F.slot_dict_items F.entry_dict_items rfl (PySem.evalArgs_none ⟨rfl, raw.typeIs, F.args_dict_items_1 _, _, DT.meetsItems (es := es) (ep := ep) hd, raw, ?_⟩)
          refine PyProof.Rows.args_nil ?_
          have raw2 : DT.Raw (s3.heap.push { cls := .type "dict_items", data := .fields #[.ref d] }) d es ep := raw.push _
          have lz : es.size = ks.length := by
            have a1 := hpr.length
            have a2 := rel.length
            rw [Array.length_toList] at a1
            omega
          have view : (s3.heap.push { cls := .type "dict_items", data := .fields #[.ref d] }).IsItemsView s3.heap.objs.size d := ⟨_, Heap.get?_push_size _ rfl, rfl, rfl⟩
          have I2 : Inv X pins σ H1 { s3 with heap := s3.heap.push { cls := .type "dict_items", data := .fields #[.ref d] } } := I1.kept (t' := s3.toks) fun b ob q => Heap.get?_push_of_some _ q
          obtain ⟨s4, hs4⟩ : ∃ s4 : Shared, s4 = { s3 with heap := s3.heap.push { cls := .type "dict_items", data := .fields #[.ref d] } } := ⟨_, rfl⟩
          have rawS : DT.Raw s4.heap d es ep := by rw [hs4]; exact raw2
          have viewS : s4.heap.IsItemsView s3.heap.objs.size d := by rw [hs4]; exact view
          have IS : Inv X pins σ H1 s4 := by rw [hs4]; exact I2
          show wpAny _ _ (PySem.call (.builtin "sorted") [.ref s3.heap.objs.size]) _ _ { s3 with heap := s3.heap.push { cls := .type "dict_items", data := .fields #[.ref d] } }
          rw [← hs4]
          refine DT.sortedI (es := es) (ep := ep) hh viewS rawS (by omega) fun h' tk as hkp hlt hlen hG => ?_
          have I3 : Inv X pins σ H1 { s4 with heap := h', toks := tk } := IS.kept hkp
          have nd : as.Nodup := List.Pairwise.imp (fun h => Nat.ne_of_lt h) hG.rise
          obtain ⟨H2, I4, g2, S2, same, rp⟩ := lay_pairs as ks kvs H1 I3 S1 nd (by omega) r2 (fun b hb => by
              have hle : s4.heap.objs.size ≤ b := Nat.le_of_lt (hG.above b hb)
              have hn1 : H1 b = none := IS.hok.fresh hle
              exact ⟨IS.fpOk hle hn1, hn1⟩) (fun j b kv hj hkv => by
              obtain ⟨e, he, hgt⟩ := hG.pairs j b hj
              rw [← Array.getElem?_toList] at he
              obtain ⟨kv', a1, a2, a3⟩ := pairs_at hpr he
              obtain ⟨k', v'⟩ := kv'
              obtain ⟨x', b1, b2⟩ := KV.at' rel a1
              rw [hkv] at b1
              cases b1
              exact ⟨_, _, hgt, rel_key a2, by rw [a3]; exact b2⟩)
          have hoL : (h'.push (seqObj "list" (as.map Value.ref).toArray 0)).get? h'.objs.size = some (seqObj "list" (as.map Value.ref).toArray 0) := Heap.get?_push_size _ rfl
          have each := each_reps (vals_refs as) rp
          have reads : PySem.W.EachIs (fun v b => ∃ l, Reads (h'.push (seqObj "list" (as.map Value.ref).toArray 0)) v (D.py b) l ∧ h'.objs.size ∉ l) (as.map Value.ref) (kvs.map fun p => D.tup [p.1, p.2]) := (each_reads I4 (vals_refs as) rp K.pure).mono fun v b ⟨l, r⟩ => ⟨l, Reads.keeps (fun b o e => Heap.get?_push_of_some _ e) r, fun z => by
            obtain ⟨o, e⟩ := reads_at r _ z
            exact absurd (Heap.lt_size e) (Nat.lt_irrefl _)⟩
          refine PySem.W.list_sort_data (enc := D.py) (s := { s4 with heap := h'.push (seqObj "list" (as.map Value.ref).toArray 0), toks := tk }) hoL each reads K.alike K.sort (Nat.le_of_lt K.len) (fun b hb => ?_) fun out ho e => ?_
          · have := K.dep b hb
            show X.A.units + 1 + 1 + (D.py b).depth < cLine
            rw [py_dep]; omega
          · rw [K.eq] at e
            obtain ⟨vs', v1, v2⟩ := reps_each e
            obtain ⟨n, hn'⟩ := sortedHeap_at (out := out.toArray) hoL
            have hlen' : vs'.length ≤ sizeLine := by rw [v1.length, ho]; exact Nat.le_of_lt K.len
            have hnn : H2 h'.objs.size = none := I4.hok.fresh (Nat.le_refl _)
            refine ⟨.ref _, upd H2 h'.objs.size (.lst vs'), I4.laid (t' := tk) (fun b o e1 => ?_) (Nat.le_refl _) ⟨hlen', out, n, v1, hn'⟩, rfl, (q.mono p1 (g1.trans g2)).lst S2 v2 hnn⟩
            have hlt := Heap.lt_size e1
            rw [sortedHeap_old (Nat.ne_of_lt hlt) (by rw [Heap.size_push]; exact Nat.lt_succ_of_lt hlt)]
            exact Heap.get?_push_of_some _ e1
        · cases h
      · cases h
    · cases e1
  · cases h
def tTupRgN (te : L2.St → Hp → (Int → Int → Hp → Prop) → Prop) : TE := fun σ H Q => te σ H fun a b H1 => RgOk a b ∧ newT Q H1 (rgV a b)
theorem pe_tupRgN {e : Expr} {te : L2.St → Hp → (Int → Int → Hp → Prop) → Prop} {p pos : Pos} (hc : X.calm = true) (hg : Gl X "tuple") (hm : X.mg "tuple" = none) (he : PRg X e te) (na : starEach [e] X.env = (false, eval e X.env) :: starEach [] X.env := by rfl) : PE X (.Call (.Name "tuple" p) [e] [] pos) (tTupRgN te) := by
  refine ⟨fun pins s σ H Q I h => ?_⟩
  refine Call_ (ld_blt I hg hm boot_tuple (PyProof.Rows.callWith_type1 (PyProof.Rows.args_cons (thn (he pins s σ H _ I h) fun x s1 ⟨r, a, b, t, u, v, H1, ex, hr, I1, ok, q⟩ => PyProof.Rows.args_nil ?_) na) na))
  subst ex
  obtain ⟨b1, b2, b3, b4, b5⟩ := ok
  refine call_tuple_range (n := (b - a).toNat) (I1.ok.hd hc) hr (small_one b1 b2 b3 b4) (rangeSize_nat a b) b5 fun h' tk acc hk hi => ?_
  have I2 : Inv X pins σ H1 { s1 with heap := h', toks := tk } := I1.kept hk
  have := newN (Q := Q) I2 (vals_rg hi) (by rw [rgV_length, sizeLine_eq]; omega) q
  rwa [Array.toArray_toList] at this
theorem E_trng {p p2 qp : Pos} (hc : X.calm = true) (ha : OkE X G C a a') (hs : noStar a = true) (hg : Gl X "tuple") (hm : X.mg "tuple" = none) (hg2 : Gl X "range") (hm2 : X.mg "range" = none) :
    OkE X G C (.Call (.Name "tuple" p) [.Call (.Name "range" p2) [a] [] qp] [] pos) (.blt .trng [a']) := by
  refine PE.imp (pe_tupRgN hc hg hm (prg_1 hg2 hm2 ha (star_one hs [] X.env))) ?_
  rintro σ H Q ⟨μ, ρ, st, d', st', S, h, q⟩
  simp only [ev, evs] at h
  split at h
  · rename_i ds s1 e1
    split at e1
    · rename_i x s2 e2
      simp only [Option.some.injEq, Prod.mk.injEq] at e1
      obtain ⟨rfl, rfl⟩ := e1
      refine ⟨μ, ρ, st, x, _, S, e2, fun μ1 v1 H1 p1 g1 S1 r1 => ?_⟩
      cases x with
      | int n =>
        simp only [blt] at h
        split at h
        · rename_i hb
          cases h
          refine ⟨n, rep_int r1, ⟨by omega, by omega, by omega, by omega, by omega⟩, ?_⟩
          refine (q.mono p1 g1).tup S1 ?_
          unfold rgV
          rw [Int.sub_zero]
          have : ∀ l : List Nat, Reps X.K H1 μ1 (l.map fun i => V.int (0 + (i : Nat))) (l.map fun k => D.int (k : Nat)) := fun l => by
            induction l with
            | nil => exact .nil
            | cons i l ih =>
              refine .cons ?_ ih
              show Rep X.K H1 μ1 (V.int (0 + (i : Nat))) (D.int (i : Nat))
              rw [Int.zero_add]
              exact .int _
          exact this _
        · cases h
      | _ => simp [blt] at h
    · cases e1
  · cases h
end
end CL

/-! CL7: what is walked, targets, comprehensions, statements. -/
namespace CL
open PySem PySem.Spec PyProof.Rows L2

/-- a value; where f says so, perhaps a tuple that is handed on at once -/
def RepF (f : Bool) (K : PySem.W.Frag) (H : Hp) (μ : List Addr) (x : V) (d : D) : Prop := Rep K H μ x d ∨ (f = true ∧ ∃ a vs ds, x = .ref a ∧ d = .tup ds ∧ SqT K H a vs ∧ Reps K H μ vs ds)
theorem RepF.rep {K : PySem.W.Frag} {H : Hp} {μ : List Addr} {x : V} {d : D} (h : RepF false K H μ x d) : Rep K H μ x d := h.elim id fun ⟨z, _⟩ => nomatch z
theorem RepF.mono {f : Bool} {K : PySem.W.Frag} {H H' : Hp} {μ μ' : List Addr} (hp : Pre μ μ') (hg : Gr K H H') {x : V} {d : D} (h : RepF f K H μ x d) : RepF f K H' μ' x d :=
  h.imp (fun r => r.mono hp hg) fun ⟨z, a, vs, ds, e1, e2, sq, rs⟩ => ⟨z, a, vs, ds, e1, e2, hg.sq _ _ sq, rs.mono hp hg⟩
def isTupE : Expr → Bool
  | .Tuple _ _ _ => true
  | _ => false
/-- the iterator gives w's items one by one, as long as what is walked stands -/
def Wlk (f : Bool) (K : PySem.W.Frag) (J : L2.It) (w : Wk) (μ0 : List Addr) (H0 : Hp) : Prop := ∀ (i : Nat) (H : Hp) (μ : List Addr) (st : Sto), Pre μ0 μ → Gr K H0 H → SOk K μ st H → w.ok st →
  (∀ d, w.items[i]? = some d → J.go i H ∧ ∀ x H', J.yld i H x H' → Gr K H H' ∧ SOk K μ st H' ∧ RepF f K H' μ x d) ∧ (w.items.length ≤ i → J.stop i H)
def tI (f : Bool) (K : PySem.W.Frag) (G : Gp) (C : Cl) (it : CL.It) : TI := fun σ H R => ∃ μ ρ st w st', Sim G.tb K μ ρ st σ H ∧ evI G.con C it ρ st = some (w, st') ∧
  ∀ (μ' : List Addr) (H' : Hp) (J : L2.It), Pre μ μ' → Gr K H H' → SOk K μ' st' H' → Wlk f K J w μ' H' → R J H'
theorem PI.imp {X : Cx} {tg it : Expr} {t t' : TI} (h : PI X tg it t) (i : ∀ σ H R, t' σ H R → t σ H R) : PI X tg it t' := ⟨fun pins s σ H R I q => h.run pins s σ H R I (i σ H R q)⟩
theorem PI.or {X : Cx} {tg it : Expr} {t t' : TI} (h : PI X tg it t) (h' : PI X tg it t') : PI X tg it (fun σ H R => t σ H R ∨ t' σ H R) := ⟨fun pins s σ H R I q => q.elim (h.run pins s σ H R I) (h'.run pins s σ H R I)⟩

section
variable {K : PySem.W.Frag} {μ0 : List Addr} {H0 : Hp} {ff : Bool}
theorem rep_key {H : Hp} {μ : List Addr} {k : Key} (ok : kOk k) : Rep K H μ (kV k) (kD k) := by
  cases k with
  | inl i => exact .int i
  | inr x => exact .str x ok
theorem wlk_lst {r : Nat} {a : Addr} {xs : List D} {own : List (Nat × O)} (hm : μ0[r]? = some a) (hl : ∀ st, Wk.ok ⟨xs, own⟩ st → lstAt st (.ref r) = some xs) : Wlk ff K (Itl K a) ⟨xs, own⟩ μ0 H0 := by
  intro i H μ st hp hg S ok
  have rr : Rep K H μ (.ref a) (.ref r) := .ref (hp _ _ hm)
  obtain ⟨a', vs, e, sq, rs⟩ := lst_of S rr (hl st ok)
  cases e
  refine ⟨fun d hd => ?_, fun hi => ⟨vs, sq, by rw [rs.length]; exact hi⟩⟩
  obtain ⟨v, hv, rv⟩ := pr_get rs hd
  refine ⟨⟨vs, v, sq, hv⟩, fun x H' y => ?_⟩
  obtain ⟨rfl, hy⟩ := y
  have := hy vs sq
  rw [hv] at this
  cases this
  exact ⟨Gr.refl, S, .inl rv⟩
theorem itt_uniq {a : Addr} {vs : List V} {i : Nat} {H : Hp} {v x : V} {H' : Hp} (sq : SqT K H a vs) (hv : vs[i]? = some v) (y : (Itt K a).yld i H x H') : H' = H ∧ x = v := by
  obtain ⟨rfl, hy⟩ := y
  have := hy vs sq
  rw [hv] at this
  cases this
  exact ⟨rfl, rfl⟩
theorem wlk_tup {a : Addr} {vs : List V} {xs : List D} {own : List (Nat × O)} (sq : SqT K H0 a vs) (rs : Reps K H0 μ0 vs xs) : Wlk ff K (Itt K a) ⟨xs, own⟩ μ0 H0 := by
  intro i H μ st hp hg S ok
  have sq' := hg.sq _ _ sq
  have rs' := rs.mono hp hg
  refine ⟨fun d hd => ?_, fun hi => ⟨vs, sq', by rw [rs.length]; exact hi⟩⟩
  obtain ⟨v, hv, rv⟩ := pr_get rs' hd
  refine ⟨⟨vs, v, sq', hv⟩, fun x H' y => ?_⟩
  obtain ⟨rfl, hx⟩ := itt_uniq sq' hv y
  subst hx
  exact ⟨Gr.refl, S, .inl rv⟩
theorem wlk_str {x : Str} : Wlk ff K (Its x) ⟨x.cps.toList.map fun c => .str [c], []⟩ μ0 H0 := by
  intro i H μ st hp hg S ok
  refine ⟨fun d hd => ?_, fun hi => by simpa [Its] using hi⟩
  simp only [List.getElem?_map, Option.map_eq_some_iff] at hd
  obtain ⟨c, hc, rfl⟩ := hd
  have hc' : x.cps[i]? = some c := by simpa using hc
  refine ⟨(Array.getElem?_eq_some_iff.mp hc').1, fun y H' q => ?_⟩
  obtain ⟨rfl, c', h1, rfl⟩ := q
  rw [hc'] at h1
  cases h1
  refine ⟨Gr.refl, S, .inl ?_⟩
  exact .str ⟨#[c]⟩ (by show 1 ≤ sizeLine; decide)
theorem wlk_rng {lo : Int} {n : Nat} : Wlk ff K (Itr lo n) ⟨(List.range n).map fun k => .int (lo + (k : Nat)), []⟩ μ0 H0 := by
  intro i H μ st hp hg S ok
  refine ⟨fun d hd => ?_, fun hi => by simpa [Itr] using hi⟩
  simp only [List.getElem?_map, Option.map_eq_some_iff] at hd
  obtain ⟨c, hc, rfl⟩ := hd
  obtain ⟨h1, h2⟩ := List.getElem?_eq_some_iff.mp hc
  simp at h1 h2
  subst h2
  refine ⟨h1, fun y H' q => ?_⟩
  obtain ⟨rfl, rfl⟩ := q
  exact ⟨Gr.refl, S, .inl (.int _)⟩
/-- the dict stands as it stood -/
theorem rod_at {r : Nat} {a : Addr} {o : Obj} {ks : List (Key × V)} {kvs : List (D × D)} {items : List D} (hm : μ0[r]? = some a) (hf : H0 a = some (.frz o (.dK ks))) {H : Hp} {μ : List Addr} {st : Sto} (hp : Pre μ0 μ) (hg : Gr K H0 H) (S : SOk K μ st H) (ok : Wk.ok ⟨items, [(r, .rod kvs)]⟩ st) :
    H a = some (.frz o (.dK ks)) ∧ Paired (EnR K H μ) ks kvs := by
  have e : st[r]? = some (.rod kvs) := ok (r, .rod kvs) (by simp)
  obtain ⟨ks', o', h1, rel⟩ := S.obj r _ a e (hp _ _ hm)
  have h2 := hg.frz _ _ _ hf
  rw [h2] at h1
  cases h1
  exact ⟨h2, rel⟩
theorem wlk_keys {r : Nat} {a : Addr} {o : Obj} {ks : List (Key × V)} {kvs : List (D × D)} (hm : μ0[r]? = some a) (hf : H0 a = some (.frz o (.dK ks))) : Wlk ff K (Itk a o ks) ⟨kvs.map (·.1), [(r, .rod kvs)]⟩ μ0 H0 := by
  intro i H μ st hp hg S ok
  obtain ⟨h, rel⟩ := rod_at hm hf hp hg S ok
  refine ⟨fun d hd => ?_, fun hi => ⟨h, by rw [rel.length]; simpa using hi⟩⟩
  simp only [List.getElem?_map, Option.map_eq_some_iff] at hd
  obtain ⟨p, hc, rfl⟩ := hd
  obtain ⟨kv, hk, rk⟩ := pr_get rel hc
  refine ⟨⟨h, (List.getElem?_eq_some_iff.mp hk).1⟩, fun y H' q => ?_⟩
  obtain ⟨rfl, k, v, h1, rfl⟩ := q
  rw [hk] at h1
  cases h1
  refine ⟨Gr.refl, S, .inl ?_⟩
  obtain ⟨e1, e2, _⟩ := rk
  rw [← e1]
  exact rep_key e2
theorem wlk_vals {r : Nat} {a : Addr} {o : Obj} {ks : List (Key × V)} {kvs : List (D × D)} (hm : μ0[r]? = some a) (hf : H0 a = some (.frz o (.dK ks))) : Wlk ff K (Itd a o ks) ⟨kvs.map (·.2), [(r, .rod kvs)]⟩ μ0 H0 := by
  intro i H μ st hp hg S ok
  obtain ⟨h, rel⟩ := rod_at hm hf hp hg S ok
  refine ⟨fun d hd => ?_, fun hi => ⟨h, by rw [rel.length]; simpa using hi⟩⟩
  simp only [List.getElem?_map, Option.map_eq_some_iff] at hd
  obtain ⟨p, hc, rfl⟩ := hd
  obtain ⟨kv, hk, rk⟩ := pr_get rel hc
  refine ⟨⟨h, (List.getElem?_eq_some_iff.mp hk).1⟩, fun y H' q => ?_⟩
  obtain ⟨rfl, k, h1⟩ := q
  rw [hk] at h1
  cases h1
  exact ⟨Gr.refl, S, .inl rk.2.2⟩
theorem wlk_items {r : Nat} {a : Addr} {o : Obj} {ks : List (Key × V)} {kvs : List (D × D)} (hm : μ0[r]? = some a) (hf : H0 a = some (.frz o (.dK ks))) : Wlk true K (Iti a o ks) ⟨kvs.map fun p => .tup [p.1, p.2], [(r, .rod kvs)]⟩ μ0 H0 := by
  intro i H μ st hp hg S ok
  obtain ⟨h, rel⟩ := rod_at hm hf hp hg S ok
  refine ⟨fun d hd => ?_, fun hi => ⟨h, by rw [rel.length]; simpa using hi⟩⟩
  simp only [List.getElem?_map, Option.map_eq_some_iff] at hd
  obtain ⟨p, hc, rfl⟩ := hd
  obtain ⟨kv, hk, rk⟩ := pr_get rel hc
  refine ⟨⟨h, (List.getElem?_eq_some_iff.mp hk).1⟩, fun y H' q => ?_⟩
  obtain ⟨T, k, v, h1, rfl, hn, rfl⟩ := q
  rw [hk] at h1
  cases h1
  refine ⟨gr_new hn, S.grow hn, .inr ⟨rfl, _, _, _, rfl, rfl, SqT.of upd_same, ?_⟩⟩
  obtain ⟨e1, e2, e3⟩ := rk
  rw [← e1]
  exact .cons (rep_key e2) (.cons (e3.mono Pre.refl (gr_new hn)) .nil)
theorem wlk_enum {r : Nat} {a : Addr} {xs : List D} {own : List (Nat × O)} (hm : μ0[r]? = some a) (hl : ∀ st, Wk.ok ⟨enumOf xs, own⟩ st → lstAt st (.ref r) = some xs) : Wlk true K (Ite K a) ⟨enumOf xs, own⟩ μ0 H0 := by
  intro i H μ st hp hg S ok
  have rr : Rep K H μ (.ref a) (.ref r) := .ref (hp _ _ hm)
  obtain ⟨a', vs, e, sq, rs⟩ := lst_of S rr (hl st ok)
  cases e
  refine ⟨fun d hd => ?_, fun hi => ⟨vs, sq, by rw [rs.length]; simpa [enumOf] using hi⟩⟩
  simp only [enumOf, List.getElem?_zipWith_eq_some] at hd
  obtain ⟨k, x, h1, h2, rfl⟩ := hd
  obtain ⟨h3, h4⟩ := List.getElem?_eq_some_iff.mp h1
  simp at h4
  subst h4
  obtain ⟨v, hv, rv⟩ := pr_get rs h2
  refine ⟨⟨vs, v, sq, hv⟩, fun y H' q => ?_⟩
  obtain ⟨T, x', rfl, hn, rfl, hy⟩ := q
  have := hy vs sq
  rw [hv] at this
  cases this
  exact ⟨gr_new hn, S.grow hn, .inr ⟨rfl, _, _, _, rfl, rfl, SqT.of upd_same, (.cons (.int _) (.cons (rv.mono Pre.refl (gr_new hn)) .nil))⟩⟩
theorem wlk_enumT {a : Addr} {vs : List V} {xs : List D} {own : List (Nat × O)} (sq : SqT K H0 a vs) (rs : Reps K H0 μ0 vs xs) : Wlk true K (IteT K a) ⟨enumOf xs, own⟩ μ0 H0 := by
  intro i H μ st hp hg S ok
  have sq' := hg.sq _ _ sq
  have rs' := rs.mono hp hg
  refine ⟨fun d hd => ?_, fun hi => ⟨vs, sq', by rw [rs.length]; simpa [enumOf] using hi⟩⟩
  simp only [enumOf, List.getElem?_zipWith_eq_some] at hd
  obtain ⟨k, x, h1, h2, rfl⟩ := hd
  obtain ⟨h3, h4⟩ := List.getElem?_eq_some_iff.mp h1
  simp at h4
  subst h4
  obtain ⟨v, hv, rv⟩ := pr_get rs' h2
  refine ⟨⟨vs, v, sq', hv⟩, fun y H' q => ?_⟩
  obtain ⟨T, x', rfl, hn, rfl, hy⟩ := q
  have := hy vs sq'
  rw [hv] at this
  cases this
  exact ⟨gr_new hn, S.grow hn, .inr ⟨rfl, _, _, _, rfl, rfl, SqT.of upd_same, (.cons (.int _) (.cons (rv.mono Pre.refl (gr_new hn)) .nil))⟩⟩
theorem wlk_zipL {r q : Nat} {a b : Addr} {xs ys : List D} {own : List (Nat × O)} (hm : μ0[r]? = some a) (hm2 : μ0[q]? = some b) (hl : ∀ st, Wk.ok ⟨List.zipWith (fun p q => .tup [p, q]) xs ys, own⟩ st → lstAt st (.ref r) = some xs ∧ lstAt st (.ref q) = some ys) :
    Wlk true K (Itz K a b) ⟨List.zipWith (fun p q => .tup [p, q]) xs ys, own⟩ μ0 H0 := by
  intro i H μ st hp hg S ok
  have r1 : Rep K H μ (.ref a) (.ref r) := .ref (hp _ _ hm)
  have r2 : Rep K H μ (.ref b) (.ref q) := .ref (hp _ _ hm2)
  obtain ⟨l1, l2⟩ := hl st ok
  obtain ⟨a', vs, e, sq, rs⟩ := lst_of S r1 l1
  cases e
  obtain ⟨b', ws, e, sq2, rs2⟩ := lst_of S r2 l2
  cases e
  refine ⟨fun d hd => ?_, fun hi => ⟨vs, ws, sq, sq2, by rw [rs.length, rs2.length]; simp only [List.length_zipWith] at hi; omega⟩⟩
  simp only [List.getElem?_zipWith_eq_some] at hd
  obtain ⟨x, y, h1, h2, rfl⟩ := hd
  obtain ⟨v, hv, rv⟩ := pr_get rs h1
  obtain ⟨w, hw, rw'⟩ := pr_get rs2 h2
  refine ⟨⟨vs, ws, v, w, sq, sq2, hv, hw⟩, fun z H' q => ?_⟩
  obtain ⟨T, x', y', rfl, hn, rfl, hy1, hy2⟩ := q
  have e1 := hy1 vs sq
  rw [hv] at e1
  cases e1
  have e2 := hy2 ws sq2
  rw [hw] at e2
  cases e2
  exact ⟨gr_new hn, S.grow hn, .inr ⟨rfl, _, _, _, rfl, rfl, SqT.of upd_same, (.cons (rv.mono Pre.refl (gr_new hn)) (.cons (rw'.mono Pre.refl (gr_new hn)) .nil))⟩⟩
theorem wlk_zipT {a b : Addr} {vs ws : List V} {xs ys : List D} {own : List (Nat × O)} (sq : SqT K H0 a vs) (rs : Reps K H0 μ0 vs xs) (sq2 : SqT K H0 b ws) (rs2 : Reps K H0 μ0 ws ys) :
    Wlk true K (RZ.ItzT K a b) ⟨List.zipWith (fun p q => .tup [p, q]) xs ys, own⟩ μ0 H0 := by
  intro i H μ st hp hg S ok
  have sq' := hg.sq _ _ sq
  have rs' := rs.mono hp hg
  have sq2' := hg.sq _ _ sq2
  have rs2' := rs2.mono hp hg
  refine ⟨fun d hd => ?_, fun hi => ⟨vs, ws, sq', sq2', by rw [rs.length, rs2.length]; simp only [List.length_zipWith] at hi; omega⟩⟩
  simp only [List.getElem?_zipWith_eq_some] at hd
  obtain ⟨x, y, h1, h2, rfl⟩ := hd
  obtain ⟨v, hv, rv⟩ := pr_get rs' h1
  obtain ⟨w, hw, rw'⟩ := pr_get rs2' h2
  refine ⟨⟨vs, ws, v, w, sq', sq2', hv, hw⟩, fun z H' q => ?_⟩
  obtain ⟨T, x', y', rfl, hn, rfl, hy1, hy2⟩ := q
  have e1 := hy1 vs sq'
  rw [hv] at e1
  cases e1
  have e2 := hy2 ws sq2'
  rw [hw] at e2
  cases e2
  exact ⟨gr_new hn, S.grow hn, .inr ⟨rfl, _, _, _, rfl, rfl, SqT.of upd_same, (.cons (rv.mono Pre.refl (gr_new hn)) (.cons (rw'.mono Pre.refl (gr_new hn)) .nil))⟩⟩
end

section
variable {X : Cx} {G : Gp} {C : Cl} {tg a b : Expr} {a' b' : E} {pos : Pos}
abbrev OkI (X : Cx) (G : Gp) (C : Cl) (tg it : Expr) (it' : CL.It) : Prop := PI X tg it (tI (isTupE tg) X.K G C it')
theorem I_any (ha : OkE X G C a a') : OkI X G C tg a (.any a') := by
  refine PI.imp (PI.or (pi_list ha) (PI.or (pi_tup ha) (PI.or (pi_str ha) (pi_keys ha)))) ?_
  rintro σ H R ⟨μ, ρ, st, w, st', S, h, q⟩
  simp only [evI] at h
  split at h
  · rename_i d s1 e1
    simp only [Option.map_eq_some_iff] at h
    obtain ⟨w', h, e⟩ := h
    cases e
    unfold walkOf at h
    split at h
    · rename_i s
      cases h
      refine .inr (.inr (.inl ⟨μ, ρ, st, _, _, S, e1, fun μ1 v1 H1 p1 g1 S1 r1 => ?_⟩))
      obtain ⟨x, rfl, rfl, _⟩ := rep_str r1
      exact ⟨x, rfl, q μ1 H1 _ p1 g1 S1 wlk_str⟩
    · rename_i xs
      cases h
      refine .inr (.inl ⟨μ, ρ, st, _, _, S, e1, fun μ1 v1 H1 p1 g1 S1 r1 => ?_⟩)
      obtain ⟨a, vs, rfl, sq, rs⟩ := rep_tup r1
      exact ⟨a, rfl, ⟨vs, sq⟩, q μ1 H1 _ p1 g1 S1 (wlk_tup sq rs)⟩
    · rename_i r
      split at h
      · rename_i xs e
        cases h
        refine .inl ⟨μ, ρ, st, _, _, S, e1, fun μ1 v1 H1 p1 g1 S1 r1 => ?_⟩
        obtain ⟨a, rfl, hm⟩ := rep_ref r1
        obtain ⟨a', vs, e', sq, rs⟩ := lst_of S1 r1 (xs := xs) (by simp only [lstAt, e])
        cases e'
        refine ⟨a, rfl, ⟨vs, sq⟩, q μ1 H1 _ p1 g1 S1 (wlk_lst hm fun st ok => ?_)⟩
        have z : st[r]? = some (.lst xs) := ok (r, .lst xs) (by simp)
        simp only [lstAt, z]
      · rename_i xs e
        cases h
        refine .inl ⟨μ, ρ, st, _, _, S, e1, fun μ1 v1 H1 p1 g1 S1 r1 => ?_⟩
        obtain ⟨a, rfl, hm⟩ := rep_ref r1
        obtain ⟨a', vs, e', sq, rs⟩ := lst_of S1 r1 (xs := xs) (by simp only [lstAt, e])
        cases e'
        refine ⟨a, rfl, ⟨vs, sq⟩, q μ1 H1 _ p1 g1 S1 (wlk_lst hm fun st ok => ?_)⟩
        have z : st[r]? = some (.ro xs) := ok (r, .ro xs) (by simp)
        simp only [lstAt, z]
      · rename_i kvs e
        cases h
        refine .inr (.inr (.inr ⟨μ, ρ, st, _, _, S, e1, fun μ1 v1 H1 p1 g1 S1 r1 => ?_⟩))
        obtain ⟨a, rfl, hm⟩ := rep_ref r1
        obtain ⟨ks, o, hf, rel⟩ := S1.obj r _ a e hm
        exact ⟨a, o, rfl, .inl ⟨ks, hf, q μ1 H1 _ p1 g1 S1 (wlk_keys hm hf)⟩⟩
      · cases h
    · cases h
  · cases h
theorem rod_of {K : PySem.W.Frag} {μ : List Addr} {st : Sto} {H : Hp} {v : V} {d : D} {r : Nat} {kvs : List (D × D)} (S : SOk K μ st H) (rv : Rep K H μ v (.ref r)) (e : st[r]? = some (.rod kvs)) : ∃ a ks o, v = .ref a ∧ μ[r]? = some a ∧ H a = some (.frz o (.dK ks)) := by
  obtain ⟨a, rfl, hm⟩ := rep_ref rv
  obtain ⟨ks, o, hf, rel⟩ := S.obj r _ a e hm
  exact ⟨a, ks, o, rfl, hm, hf⟩
theorem I_vals {apos cpos : Pos} (ha : OkE X G C a a') (hn : notCall0 a = true) (hl : (apos.endLine == cpos.line) = true) : OkI X G C tg (.Call (.Attribute a "values" apos) [] [] cpos) (.vals a') := by
  refine PI.imp (pi_values ha (base_of hn _ _ _) hl) ?_
  rintro σ H R ⟨μ, ρ, st, w, st', S, h, q⟩
  simp only [evI] at h
  split at h
  · rename_i d s1 e1
    simp only [Option.map_eq_some_iff] at h
    obtain ⟨w', h, e⟩ := h
    cases e
    unfold walkVals at h
    split at h
    · split at h
      · rename_i r kvs e
        cases h
        refine ⟨μ, ρ, st, _, _, S, e1, fun μ1 v1 H1 p1 g1 S1 r1 => ?_⟩
        obtain ⟨a, ks, o, rfl, hm, hf⟩ := rod_of (d := .non) S1 r1 e
        exact ⟨a, o, ks, rfl, hf, q μ1 H1 _ p1 g1 S1 (wlk_vals hm hf)⟩
      · cases h
    · cases h
  · cases h
theorem I_items {apos cpos tpos : Pos} {elts : List Expr} {kk : Nat} (ha : OkE X G C a a') (hn : notCall0 a = true) (hl : (apos.endLine == cpos.line) = true) : OkI X G C (.Tuple elts kk tpos) (.Call (.Attribute a "items" apos) [] [] cpos) (.items a') := by
  refine PI.imp (pi_items ha (base_of hn _ _ _) hl) ?_
  rintro σ H R ⟨μ, ρ, st, w, st', S, h, q⟩
  simp only [evI] at h
  split at h
  · rename_i d s1 e1
    simp only [Option.map_eq_some_iff] at h
    obtain ⟨w', h, e⟩ := h
    cases e
    unfold walkItems at h
    split at h
    · split at h
      · rename_i r kvs e
        cases h
        refine ⟨μ, ρ, st, _, _, S, e1, fun μ1 v1 H1 p1 g1 S1 r1 => ?_⟩
        obtain ⟨a, ks, o, rfl, hm, hf⟩ := rod_of (d := .non) S1 r1 e
        exact ⟨a, o, ks, rfl, hf, q μ1 H1 _ p1 g1 S1 (wlk_items hm hf)⟩
      · cases h
    · cases h
  · cases h
theorem evs_one {e : E} {ρ : En} {st st' : Sto} {ds : List D} (h : evs G.con C [e] ρ st = some (ds, st')) : ∃ d, ds = [d] := by
  have := evs_length h
  match ds, this with
  | [d], _ => exact ⟨d, rfl⟩
theorem evs_two {e e2 : E} {ρ : En} {st st' : Sto} {ds : List D} (h : evs G.con C [e, e2] ρ st = some (ds, st')) : ∃ d d2, ds = [d, d2] := by
  have := evs_length h
  match ds, this with
  | [d, d2], _ => exact ⟨d, d2, rfl⟩
theorem I_rng1 {p : Pos} (ha : OkE X G C a a') (hs : noStar a = true) (hg : Gl X "range") (hm : X.mg "range" = none) : OkI X G C tg (.Call (.Name "range" p) [a] [] pos) (.rng [a']) := by
  refine PI.imp (pi_range1 hg hm (A_cons ha A_nil hs) (star_one hs _ _)) ?_
  rintro σ H R ⟨μ, ρ, st, w, st', S, h, q⟩
  simp only [evI] at h
  split at h
  · rename_i ds s1 e1
    simp only [Option.map_eq_some_iff] at h
    obtain ⟨w', h, e⟩ := h
    cases e
    refine ⟨μ, ρ, st, _, _, S, e1, fun μ1 vs H1 p1 g1 S1 r1 => ?_⟩
    obtain ⟨d, rfl⟩ := evs_one e1
    unfold walkRng at h
    split at h
    · rename_i n hd
      cases hd
      split at h
      · rename_i hc
        cases h
        cases r1 with
        | cons r rr =>
          cases rr
          cases rep_int r
          refine ⟨n, rfl, hc.1, hc.2, q μ1 H1 _ p1 g1 S1 ?_⟩
          have := wlk_rng (ff := isTupE tg) (K := X.K) (μ0 := μ1) (H0 := H1) (lo := 0) (n := n.toNat)
          simpa [rangeOf] using this
      · cases h
    · rename_i hd; cases hd
    · cases h
  · cases h
theorem I_rng2 {p : Pos} (ha : OkE X G C a a') (hs : noStar a = true) (hb : OkE X G C b b') (hs2 : noStar b = true) (hg : Gl X "range") (hm : X.mg "range" = none) : OkI X G C tg (.Call (.Name "range" p) [a, b] [] pos) (.rng [a', b']) := by
  refine PI.imp (pi_range2 hg hm (A_cons ha (A_cons hb A_nil hs2) hs) (by rw [star_one hs, star_one hs2]; rfl) (star_one hs2 _ _)) ?_
  rintro σ H R ⟨μ, ρ, st, w, st', S, h, q⟩
  simp only [evI] at h
  split at h
  · rename_i ds s1 e1
    simp only [Option.map_eq_some_iff] at h
    obtain ⟨w', h, e⟩ := h
    cases e
    refine ⟨μ, ρ, st, _, _, S, e1, fun μ1 vs H1 p1 g1 S1 r1 => ?_⟩
    obtain ⟨d, d2, rfl⟩ := evs_two e1
    unfold walkRng at h
    split at h
    · rename_i hd; cases hd
    · rename_i n m hd
      cases hd
      split at h
      · rename_i hc
        cases h
        cases r1 with
        | cons r rr =>
          cases rr with
          | cons r' rr =>
            cases rr
            cases rep_int r
            cases rep_int r'
            exact ⟨n, m, rfl, hc, q μ1 H1 _ p1 g1 S1 wlk_rng⟩
      · cases h
    · cases h
  · cases h
theorem lst_own {st st1 : Sto} {r : Nat} {xs : List D} (h : lstAt st (.ref r) = some xs) (ok : ∀ p ∈ ownOf st (.ref r), st1[p.1]? = some p.2) : lstAt st1 (.ref r) = some xs := by
  simp only [lstAt] at h
  split at h
  · rename_i ys e
    cases h
    have := ok (r, .lst xs) (by simp [ownOf, e])
    simp only [lstAt, this]
  · rename_i ys e
    cases h
    have := ok (r, .ro xs) (by simp [ownOf, e])
    simp only [lstAt, this]
  · cases h
theorem I_enm {p tpos : Pos} {elts : List Expr} {kk : Nat} (ha : OkE X G C a a') (hs : noStar a = true) (hg : Gl X "enumerate") (hm : X.mg "enumerate" = none) : OkI X G C (.Tuple elts kk tpos) (.Call (.Name "enumerate" p) [a] [] pos) (.enm a') := by
  refine PI.imp (PI.or (pi_enum hg hm (pa_cons ha pa_nil (star_one hs _ _)) (star_one hs _ _)) (pi_enumT hg hm (pa_cons ha pa_nil (star_one hs _ _)) (star_one hs _ _))) ?_
  rintro σ H R ⟨μ, ρ, st, w, st', S, h, q⟩
  simp only [evI] at h
  split at h
  · rename_i d s1 e1
    split at h
    · rename_i xs e2
      cases h
      cases d with
      | ref r =>
        refine .inl ⟨μ, ρ, st, _, _, S, e1, fun μ1 v H1 p1 g1 S1 r1 => ?_⟩
        obtain ⟨a, rfl, hm⟩ := rep_ref r1
        have e2' : lstAt _ (.ref r) = some xs := e2
        obtain ⟨a', vs, e', sq, rs⟩ := lst_of S1 r1 e2'
        cases e'
        exact ⟨a, vs, rfl, sq, q μ1 H1 _ p1 g1 S1 (wlk_enum hm fun st1 ok => lst_own e2' ok)⟩
      | tup ds =>
        cases e2
        refine .inr ⟨μ, ρ, st, _, _, S, e1, fun μ1 v H1 p1 g1 S1 r1 => ?_⟩
        obtain ⟨a, vs, rfl, sq, rs⟩ := rep_tup r1
        exact ⟨a, vs, rfl, sq, q μ1 H1 _ p1 g1 S1 (wlk_enumT sq rs)⟩
      | _ => simp [seqAt, lstAt] at e2
    · cases h
  · cases h
theorem I_zip {p tpos : Pos} {elts : List Expr} {kk : Nat} (ha : OkE X G C a a') (hs : noStar a = true) (hb : OkE X G C b b') (hs2 : noStar b = true) (hg : Gl X "zip") (hm : X.mg "zip" = none) : OkI X G C (.Tuple elts kk tpos) (.Call (.Name "zip" p) [a, b] [] pos) (.zip a' b') := by
  refine PI.imp (RZ.pi_zipA hg hm (A_cons ha (A_cons hb A_nil hs2) hs) (star_one hs _ _) (by rw [star_one hs2]; rfl)) ?_
  rintro σ H R ⟨μ, ρ, st, w, st', S, h, q⟩
  simp only [evI] at h
  split at h
  · rename_i x s1 e1
    split at h
    · rename_i y s2 e2
      split at h
      · rename_i xs ys e3 e4
        split at h
        · rename_i hk
          cases h
          refine ⟨μ, ρ, st, [x, y], st', S, by simp only [evs, e1, e2], fun μ1 vs H1 p1 g1 S1 r1 => ?_⟩
          cases r1 with
          | cons r rr =>
            cases rr with
            | cons r' rr =>
              cases rr
              cases x with
              | tup xs' =>
                cases y with
                | tup ys' =>
                  simp only [seqAt] at e3 e4
                  cases e3; cases e4
                  obtain ⟨a, vs, rfl, sq, rs⟩ := rep_tup r
                  obtain ⟨b, ws, rfl, sq2, rs2⟩ := rep_tup r'
                  exact ⟨a, b, vs, ws, rfl, .inr ⟨sq, sq2, q μ1 H1 _ p1 g1 S1 (wlk_zipT sq rs sq2 rs2)⟩⟩
                | _ => simp [sameKind] at hk
              | ref i =>
                cases y with
                | ref j =>
                  simp only [seqAt] at e3 e4
                  obtain ⟨a, rfl, hm⟩ := rep_ref r
                  obtain ⟨b, rfl, hm2⟩ := rep_ref r'
                  obtain ⟨a', vs, e', sq, rs⟩ := lst_of S1 r e3
                  cases e'
                  obtain ⟨b', ws, e', sq2, rs2⟩ := lst_of S1 r' e4
                  cases e'
                  refine ⟨a, b, vs, ws, rfl, .inl ⟨sq, sq2, q μ1 H1 _ p1 g1 S1 (wlk_zipL hm hm2 fun st1 ok => ⟨lst_own e3 fun p hp => ok p (List.mem_append_left _ hp), lst_own e4 fun p hp => ok p (List.mem_append_right _ hp)⟩)⟩⟩
                | _ => simp [sameKind] at hk
              | _ => simp [sameKind] at hk
        · cases h
      · cases h
    · cases h
  · cases h

/-! ### targets -/
mutual
def Tg.slots : Tg → List Nat
  | .nm i => [i]
  | .tp ts => Tgs.slots ts
  | .ix _ _ => []
def Tgs.slots : List Tg → List Nat
  | [] => []
  | t :: ts => Tg.slots t ++ Tgs.slots ts
end
/-- the store to a target; slots other than the target's stay -/
def tG (f : Bool) (K : PySem.W.Frag) (G : Gp) (C : Cl) (t : Tg) : TG := fun v σ H Q => ∃ μ ρ st d ρ' st', Sim G.tb K μ ρ st σ H ∧ RepF f K H μ v d ∧ CL.asg G.con C t d ρ st = some (ρ', st') ∧
  ∀ (μ' : List Addr) (σ' : L2.St) (H' : Hp), Pre μ μ' → Gr K H H' → Sim G.tb K μ' ρ' st' σ' H' → (∀ i, i ∉ t.slots → σ'[i]? = σ[i]?) → σ'.length = σ.length → Q σ' H'
def tGs (K : PySem.W.Frag) (G : Gp) (C : Cl) (ts : List Tg) : TGs := fun vs σ H Q => ∃ μ ρ st ds ρ' st', Sim G.tb K μ ρ st σ H ∧ Reps K H μ vs ds ∧ ds.length = ts.length ∧ CL.asgs G.con C ts ds ρ st = some (ρ', st') ∧
  ∀ (μ' : List Addr) (σ' : L2.St) (H' : Hp), Pre μ μ' → Gr K H H' → Sim G.tb K μ' ρ' st' σ' H' → (∀ i, i ∉ Tgs.slots ts → σ'[i]? = σ[i]?) → σ'.length = σ.length → Q σ' H'
abbrev OkG (X : Cx) (G : Gp) (C : Cl) (e : Expr) (t : Tg) : Prop := PG X e (tG (isTupE e) X.K G C t)
abbrev OkGs (X : Cx) (G : Gp) (C : Cl) (e : List Expr) (t : List Tg) : Prop := PGs X e (tGs X.K G C t)
theorem G_nm {i : Nat} {x : Str} (hN : X.N.Nodup) (hi : X.N[i]? = some x) (hx : Loc X.env.scope x) (hf : X.fn x = true ∨ X.env.scope.names.lookup x = some .local) : OkG X G C (.Name x pos) (.nm i) := by
  refine PG.imp (pg_name hN hi hx hf) ?_
  rintro v σ H Q ⟨μ, ρ, st, d, ρ', st', S, r, h, q⟩
  replace r := RepF.rep r
  simp only [CL.asg] at h
  cases h
  refine q μ _ H Pre.refl Gr.refl (S.set i r) (fun j hj => ?_) (by simp)
  simp only [Tg.slots, List.mem_singleton] at hj
  exact List.getElem?_set_ne (fun e => hj e.symm)
theorem Gs_nil : OkGs X G C [] [] := by
  refine PGs.imp pgs_nil ?_
  rintro v σ H Q ⟨μ, ρ, st, ds, ρ', st', S, r, hl, h, q⟩
  simp only [CL.asgs] at h
  cases h
  have : ds = [] := by simpa using hl
  subst this
  cases r
  exact ⟨rfl, q μ _ H Pre.refl Gr.refl S (fun _ _ => rfl) rfl⟩
theorem asg_each_one {e : Expr} (h : noStar e = true) (es : List Expr) (env : Env) : assignEach (e :: es) env = (false, assign e env) :: assignEach es env := by
  cases e <;> first | rfl | simp [noStar] at h
theorem Gs_cons {e : Expr} {es : List Expr} {t : Tg} {ts : List Tg} (h1 : OkG X G C e t) (h2 : OkGs X G C es ts) (hs : noStar e = true) : OkGs X G C (e :: es) (t :: ts) := by
  refine PGs.imp (pgs_cons h1 h2 (by rw [asg_each_one hs]; rfl)) ?_
  rintro v σ H Q ⟨μ, ρ, st, ds, ρ', st', S, r, hl, h, q⟩
  simp only [CL.asgs] at h
  split at h
  · rename_i d ds
    split at h
    · rename_i ρ1 s1 e1
      cases r with
      | cons r rr =>
        refine ⟨_, _, rfl, μ, ρ, st, d, ρ1, s1, S, .inl r, e1, fun μ1 σ1 H1 p1 g1 S1 f1 l1 => ?_⟩
        refine ⟨μ1, ρ1, s1, ds, ρ', st', S1, Reps.mono p1 g1 rr, by simpa using hl, h, fun μ2 σ2 H2 p2 g2 S2 f2 l2 => ?_⟩
        refine q μ2 σ2 H2 (p1.trans p2) (g1.trans g2) S2 (fun i hi => ?_) (l2.trans l1)
        simp only [Tgs.slots, List.mem_append, not_or] at hi
        exact (f2 i hi.2).trans (f1 i hi.1)
    · cases h
  · simp at hl
theorem asg_each_len : ∀ {es : List Expr} (env : Env), es.all noStar = true → (assignEach es env).length = es.length ∧ (assignEach es env).findIdx? (·.1) = none
  | [], _, _ => ⟨rfl, rfl⟩
  | e :: es, env, h => by
    simp only [List.all_cons, Bool.and_eq_true] at h
    obtain ⟨h1, h2⟩ := asg_each_len (es := es) env h.2
    rw [asg_each_one h.1]
    refine ⟨by simp [h1], ?_⟩
    rw [List.findIdx?_cons]
    simp [h2]
theorem PG.or {e : Expr} {t t' : TG} (h : PG X e t) (h' : PG X e t') : PG X e (fun v σ H Q => t v σ H Q ∨ t' v σ H Q) := ⟨fun pins s σ H v u Q I r q => q.elim (h.run pins s σ H v u Q I r) (h'.run pins s σ H v u Q I r)⟩
theorem G_tp {es : List Expr} {ts : List Tg} {k : Nat} (hc : X.calm = true) (h : OkGs X G C es ts) (hs : es.all noStar = true) (hl : es.length = ts.length) : OkG X G C (.Tuple es k pos) (.tp ts) := by
  obtain ⟨l1, l2⟩ := asg_each_len X.env hs
  refine PG.imp (PG.or (pg_tup hc h (l1.trans hl) l2) (pg_unl hc h (l1.trans hl) l2)) ?_
  rintro v σ H Q ⟨μ, ρ, st, d, ρ', st', S, r, h, q⟩
  simp only [CL.asg] at h
  split at h
  · rename_i xs hq
    split at h
    · rename_i hl'
      obtain ⟨a, vs, rfl, sq, rs⟩ : ∃ a vs, v = .ref a ∧ (SqL X.K H a vs ∨ SqT X.K H a vs) ∧ Reps X.K H μ vs xs := by
        rcases r with r | ⟨_, a, vs, ds, rfl, rfl, sq, rs⟩
        · exact seq_of S.ok r hq
        · simp only [seqAt] at hq
          cases hq
          exact ⟨a, vs, rfl, .inr sq, rs⟩
      rcases sq with sq | sq
      · exact .inr ⟨a, vs, rfl, sq, by rw [rs.length]; exact hl', μ, ρ, st, xs, ρ', st', S, rs, hl', h, q⟩
      · exact .inl ⟨a, vs, rfl, sq, by rw [rs.length]; exact hl', μ, ρ, st, xs, ρ', st', S, rs, hl', h, q⟩
    · cases h
  · cases h
theorem G_ix (hu : X.A.units + 1 < cLine) (ha : OkE X G C a a') (hb : OkE X G C b b')
    (hs : ∀ v, assign (.Subscript a b pos) X.env v = (do
      let ov ← holding [v] (eval a X.env)
      let iv ← holding [v, ov] (eval b X.env)
      standAt pos
      holding [v, ov, iv] (setItem ov iv v)
      release [v, ov, iv] [])) : OkG X G C (.Subscript a b pos) (.ix a' b') := by
  refine PG.imp (pg_sub ha hb (set_all hu) hs) ?_
  rintro v σ H Q ⟨μ, ρ, st, d, ρ', st', S, r, h, q⟩
  replace r := RepF.rep r
  simp only [CL.asg] at h
  split at h
  · rename_i x s1 e1
    split at h
    · rename_i y s2 e2
      simp only [Option.map_eq_some_iff] at h
      obtain ⟨s3, h, e⟩ := h
      cases e
      refine ⟨μ, ρ, st, x, s1, S, e1, fun μ1 v1 H1 p1 g1 S1 r1 => ?_⟩
      refine ⟨μ1, ρ, s1, y, s2, S.step p1 g1 S1, e2, fun μ2 v2 H2 p2 g2 S2 r2 => ?_⟩
      refine ⟨μ2, s2, x, y, d, _, S2, r1.mono p2 g2, r2, r.mono (p1.trans p2) (g1.trans g2), h, fun H3 g3 S3 => ?_⟩
      exact q μ2 σ H3 (p1.trans p2) (g1.trans (g2.trans g3)) (S.step (p1.trans p2) (g1.trans (g2.trans g3)) S3) (fun _ _ => rfl) rfl
    · cases h
  · cases h
end
end CL

/-! CL8: comprehensions, statements. -/
namespace CL
open PySem PySem.Spec PyProof.Rows L2

section
variable {tb : List Addr} {K : PySem.W.Frag} {μ : List Addr} {ρ : En} {st : Sto} {σ σ2 : L2.St} {H : Hp}
theorem Sim.unset (S : Sim tb K μ ρ st σ H) (i : Nat) : Sim tb K μ (ρ.set i none) st (σ.set i none) H := by
  refine ⟨S.ok, fun j d e => ?_, by simp [S.len], S.tabs⟩
  by_cases hj : i = j
  · subst hj
    have hl : i < ρ.length := by have := (List.getElem?_eq_some_iff.mp e).1; simpa using this
    rw [List.getElem?_set_self hl] at e
    cases e
  · rw [List.getElem?_set_ne hj] at e ⊢
    exact S.env j d e
theorem Sim.wipe (S : Sim tb K μ ρ st σ H) : ∀ vs : List Nat, Sim tb K μ (CL.wipe ρ vs) st (L2.wipe σ vs) H
  | [] => S
  | v :: vs => (S.wipe vs).unset v
theorem wipe_in {i : Nat} : ∀ {vs : List Nat}, i ∈ vs → (L2.wipe σ vs)[i]? = if i < σ.length then some none else none
  | v :: vs, h => by
    unfold L2.wipe
    by_cases hv : v = i
    · subst hv
      by_cases hl : v < σ.length
      · rw [List.getElem?_set_self (by rw [wipe_length]; exact hl), if_pos hl]
      · rw [List.getElem?_eq_none (by rw [List.length_set, wipe_length]; omega), if_neg hl]
    · rw [List.getElem?_set_ne hv]
      exact wipe_in ((List.mem_cons.mp h).resolve_left (fun e => hv e.symm))
theorem wipe_same {vs : List Nat} (hf : ∀ i, i ∉ vs → σ2[i]? = (L2.wipe σ vs)[i]?) (hl : σ2.length = (L2.wipe σ vs).length) : L2.wipe σ2 vs = L2.wipe σ vs := by
  rw [wipe_length] at hl
  apply List.ext_getElem?
  intro i
  by_cases hi : i ∈ vs
  · rw [wipe_in hi, wipe_in hi, hl]
  · rw [wipe_out hi, hf i hi]
end

section
variable {X : Cx} {G : Gp} {C : Cl} {tg a b : Expr} {a' b' : E} {pos : Pos}
def tC (K : PySem.W.Frag) (G : Gp) (C : Cl) (c : OT) : TT := fun σ H Q => ∃ μ ρ st b st', Sim G.tb K μ ρ st σ H ∧ evC G.con C c ρ st = some (b, st') ∧
  ∀ (μ' : List Addr) (H' : Hp), Pre μ μ' → Gr K H H' → SOk K μ' st' H' → Q b H'
theorem PTs.imp {ifs : List Expr} {t t' : TT} (h : PTs X ifs t) (i : ∀ σ H Q, t' σ H Q → t σ H Q) : PTs X ifs t' := ⟨fun pins s σ H Q I q => h.run pins s σ H Q I (i σ H Q q)⟩
theorem C_no : PTs X [] (tC X.K G C .no) := by
  refine PTs.imp pts_nil ?_
  rintro σ H Q ⟨μ, ρ, st, b, st', S, h, q⟩
  simp only [evC] at h
  cases h
  exact q μ H Pre.refl Gr.refl S.ok
theorem C_yes {c : Expr} {c' : Ts} (h : OkT X G C c c') : PTs X [c] (tC X.K G C (.yes c')) := by
  refine PTs.imp (pts_one h) ?_
  rintro σ H Q ⟨μ, ρ, st, b, st', S, h, q⟩
  simp only [evC] at h
  exact ⟨μ, ρ, st, b, st', S, h, q⟩
theorem push_ok {K : PySem.W.Frag} {H : Hp} {μ : List Addr} {st st' : Sto} {r : Nat} {a : Addr} {d : D} {y : V} (S : SOk K μ st H) (hm : μ[r]? = some a) (ry : Rep K H μ y d) (h : push r d st = some st') :
    ∃ acc, H a = some (.lst acc) ∧ acc.length < sizeLine ∧ Gr K H (upd H a (.lst (acc ++ [y]))) ∧ SOk K μ st' (upd H a (.lst (acc ++ [y]))) := by
  unfold push at h
  split at h
  · rename_i xs e
    split at h
    · rename_i hl
      cases h
      obtain ⟨vs, h1, r2⟩ := S.obj r _ a e hm
      obtain ⟨g, S'⟩ := lst_write S e hm h1 (pr_append r2 (.cons ry .nil))
      exact ⟨vs, h1, by rw [r2.length]; exact hl, g, S'⟩
    · cases h
  · cases h
theorem drop_cons {α : Type} {xs : List α} {i : Nat} {d : α} {ds : List α} (h : xs.drop i = d :: ds) : xs[i]? = some d ∧ ds = xs.drop (i + 1) := by
  have h1 : xs[i]? = (xs.drop i)[0]? := by simp
  rw [h] at h1
  refine ⟨by simpa using h1, ?_⟩
  rw [← List.drop_drop, h]
  rfl
theorem drop_nil {α : Type} {xs : List α} {i : Nat} (h : xs.drop i = []) : xs.length ≤ i := by simpa using h
theorem lc_imp {ff : Bool} {vs : List Nat} {elt : E} {t : Tg} {it : CL.It} {c : OT} (hsub : ∀ i ∈ t.slots, i ∈ vs) : ∀ σ H Q, tE X.K G C (.lc vs elt t it c) σ H Q → tLc (tI ff X.K G C it) (tG ff X.K G C t) (tC X.K G C c) (tE X.K G C elt) vs σ H Q := by
  rintro σ H Q ⟨μ, ρ, st, d', st', S, h, q⟩
  simp only [ev] at h
  split at h
  · rename_i w s1 e1
    split at h
    · rename_i s' e2
      cases h
      refine ⟨μ, ρ, st, w, s1, S, e1, fun μ1 H1 J p1 g1 S1 wk D hD => ?_⟩
      have g2 : Gr X.K H1 (upd H1 D (.lst [])) := gr_new hD
      have S2 : SOk X.K (μ1 ++ [D]) (s1 ++ [.lst []]) (upd H1 D (.lst [])) := S1.alloc hD ⟨[], upd_same, .nil⟩
      have S0 : Sim G.tb X.K μ1 ρ s1 σ H1 := S.step p1 g1 S1
      have hDm : ∀ {μ' : List Addr}, Pre (μ1 ++ [D]) μ' → μ'[s1.length]? = some D := fun p => p _ _ (top_at S1.len)
      let f : CL.D → Sto → Option Sto := (fun d s => match CL.asg G.con C t d (CL.wipe ρ vs) s with
        | some (ρ', s') => match evC G.con C c ρ' s' with
          | some (true, s'') => match ev G.con C elt ρ' s'' with
            | some (y, s3) => push s1.length y s3
            | none => none
          | some (false, s'') => some s''
          | none => none
        | none => none)
      have hf : f = (fun d s => match CL.asg G.con C t d (CL.wipe ρ vs) s with
        | some (ρ', s') => match evC G.con C c ρ' s' with
          | some (true, s'') => match ev G.con C elt ρ' s'' with
            | some (y, s3) => push s1.length y s3
            | none => none
          | some (false, s'') => some s''
          | none => none
        | none => none) := rfl
      have e2' : loopC w f w.items (s1 ++ [.lst []]) = some st' := e2
      clear e2
      let Nn : Nat → Hp → Prop := fun i H' => ∃ μ' st2, Pre (μ1 ++ [D]) μ' ∧ Gr X.K (upd H1 D (.lst [])) H' ∧ SOk X.K μ' st2 H' ∧ loopC w f (w.items.drop i) st2 = some st'
      let W : Nat → Nat → Hp → Prop := fun i m H' => m = w.items.length - i ∧ Nn i H'
      refine ⟨W, ⟨w.items.length, by simp, μ1 ++ [D], _, Pre.refl, Gr.refl, S2, e2'⟩, ?_⟩
      rintro i m H3 ⟨rfl, μ3, s3, p3, g3, S3, h3⟩
      cases hd : w.items.drop i with
      | nil =>
        rw [hd] at h3
        unfold loopC at h3
        split at h3
        · rename_i ok
          cases h3
          refine .inl ⟨(wk i H3 μ3 _ (Pre.snoc.trans p3) (g2.trans g3) S3 ok).2 (drop_nil hd), ?_⟩
          exact q μ3 _ H3 (p1.trans (Pre.snoc.trans p3)) (g1.trans (g2.trans g3)) S3 (.ref (hDm p3))
        · cases h3
      | cons d ds =>
        rw [hd] at h3
        obtain ⟨hi, rfl⟩ := drop_cons hd
        have hlt : i < w.items.length := (List.getElem?_eq_some_iff.mp hi).1
        unfold loopC at h3
        split at h3
        · rename_i ok
          split at h3
          · rename_i s4 e4
            obtain ⟨go, yl⟩ := (wk i H3 μ3 s3 (Pre.snoc.trans p3) (g2.trans g3) S3 ok).1 d hi
            refine .inr ⟨go, Nn (i + 1), fun H' z => ⟨w.items.length - (i + 1), by omega, rfl, z⟩, fun x H4 y => ?_⟩
            obtain ⟨g4, S4, r4⟩ := yl x H4 y
            have S4' : Sim G.tb X.K μ3 ρ s3 σ H4 := S0.step (Pre.snoc.trans p3) (g2.trans (g3.trans g4)) S4
            rw [hf] at e4
            dsimp only at e4
            split at e4
            · rename_i ρ5 s5 e5
              refine ⟨μ3, CL.wipe ρ vs, s3, d, ρ5, s5, S4'.wipe vs, r4, e5, fun μ5 σ5 H5 p5 g5 S5 f5 l5 => ⟨wipe_same (fun j hj => f5 j fun z => hj (hsub j z)) l5, ?_⟩⟩
              split at e4
              · rename_i s6 e6
                refine ⟨μ5, ρ5, s5, true, s6, S5, e6, fun μ6 H6 p6 g6 S6 => ?_⟩
                refine iteT ?_
                split at e4
                · rename_i y s7 e7
                  refine ⟨μ6, ρ5, s6, y, s7, S5.step p6 g6 S6, e7, fun μ7 v7 H7 p7 g7 S7 r7 => ?_⟩
                  have pp : Pre (μ1 ++ [D]) μ7 := p3.trans (p5.trans (p6.trans p7))
                  obtain ⟨acc, hA, hl, g8, S8⟩ := push_ok S7 (hDm pp) r7 e4
                  exact ⟨acc, hA, hl, μ7, s4, pp, g3.trans (g4.trans (g5.trans (g6.trans (g7.trans g8)))), S8, h3⟩
                · cases e4
              · rename_i s6 e6
                cases e4
                refine ⟨μ5, ρ5, s5, false, s4, S5, e6, fun μ6 H6 p6 g6 S6 => ?_⟩
                refine iteF ?_
                exact ⟨μ6, s4, p3.trans (p5.trans p6), g3.trans (g4.trans (g5.trans g6)), S6, h3⟩
              · cases e4
            · cases e4
          · cases h3
        · cases h3
    · cases h
  · cases h
theorem lc2_imp {ff ff1 : Bool} {vs vs1 : List Nat} {elt : E} {t t1 : Tg} {it it1 : CL.It} {c c1 : OT} (hsub : ∀ i ∈ t.slots, i ∈ vs) (hsub1 : ∀ i ∈ t1.slots, i ∈ vs1) : ∀ σ H Q, tE X.K G C (.lc2 vs vs1 elt t it c t1 it1 c1) σ H Q →
    tLc2 (tI ff X.K G C it) (tG ff X.K G C t) (tC X.K G C c) (tI ff1 X.K G C it1) (tG ff1 X.K G C t1) (tC X.K G C c1) (tE X.K G C elt) vs vs1 σ H Q := by
  rintro σ H Q ⟨μ, ρ, st, d', st', S, h, q⟩
  simp only [ev] at h
  split at h
  · rename_i w s1 e1
    split at h
    · rename_i s' e2
      cases h
      refine ⟨μ, ρ, st, w, s1, S, e1, fun μ1 H1 J p1 g1 S1 wk D hD => ?_⟩
      have g2 : Gr X.K H1 (upd H1 D (.lst [])) := gr_new hD
      have S2 : SOk X.K (μ1 ++ [D]) (s1 ++ [.lst []]) (upd H1 D (.lst [])) := S1.alloc hD ⟨[], upd_same, .nil⟩
      have S0 : Sim G.tb X.K μ1 ρ s1 σ H1 := S.step p1 g1 S1
      have hDm : ∀ {μ' : List Addr}, Pre (μ1 ++ [D]) μ' → μ'[s1.length]? = some D := fun p => p _ _ (top_at S1.len)
      let f1 : En → CL.D → Sto → Option Sto := fun ρ' d1 s4 => match CL.asg G.con C t1 d1 (CL.wipe ρ' vs1) s4 with
        | some (ρ1, s5) => match evC G.con C c1 ρ1 s5 with
          | some (true, s6) => match ev G.con C elt ρ1 s6 with
            | some (y, s7) => push s1.length y s7
            | none => none
          | some (false, s6) => some s6
          | none => none
        | none => none
      have hf1 : f1 = fun ρ' d1 s4 => match CL.asg G.con C t1 d1 (CL.wipe ρ' vs1) s4 with
        | some (ρ1, s5) => match evC G.con C c1 ρ1 s5 with
          | some (true, s6) => match ev G.con C elt ρ1 s6 with
            | some (y, s7) => push s1.length y s7
            | none => none
          | some (false, s6) => some s6
          | none => none
        | none => none := rfl
      let f : CL.D → Sto → Option Sto := (fun d s => match CL.asg G.con C t d (CL.wipe ρ vs) s with
        | some (ρ', s') => match evC G.con C c ρ' s' with
          | some (true, s'') => match evI G.con C it1 ρ' s'' with
            | some (w1, s3) => loopC w1 (f1 ρ') w1.items s3
            | none => none
          | some (false, s'') => some s''
          | none => none
        | none => none)
      have hf : f = (fun d s => match CL.asg G.con C t d (CL.wipe ρ vs) s with
        | some (ρ', s') => match evC G.con C c ρ' s' with
          | some (true, s'') => match evI G.con C it1 ρ' s'' with
            | some (w1, s3) => loopC w1 (f1 ρ') w1.items s3
            | none => none
          | some (false, s'') => some s''
          | none => none
        | none => none) := rfl
      have e2' : loopC w f w.items (s1 ++ [.lst []]) = some st' := e2
      clear e2
      let Nn : Nat → Hp → Prop := fun i H' => ∃ μ' st2, Pre (μ1 ++ [D]) μ' ∧ Gr X.K (upd H1 D (.lst [])) H' ∧ SOk X.K μ' st2 H' ∧ loopC w f (w.items.drop i) st2 = some st'
      let W : Nat → Nat → Hp → Prop := fun i m H' => m = w.items.length - i ∧ Nn i H'
      refine ⟨W, ⟨w.items.length, by simp, μ1 ++ [D], _, Pre.refl, Gr.refl, S2, e2'⟩, ?_⟩
      rintro i m H3 ⟨rfl, μ3, s3, p3, g3, S3, h3⟩
      cases hd : w.items.drop i with
      | nil =>
        rw [hd] at h3
        unfold loopC at h3
        split at h3
        · rename_i ok
          cases h3
          refine .inl ⟨(wk i H3 μ3 _ (Pre.snoc.trans p3) (g2.trans g3) S3 ok).2 (drop_nil hd), ?_⟩
          exact q μ3 _ H3 (p1.trans (Pre.snoc.trans p3)) (g1.trans (g2.trans g3)) S3 (.ref (hDm p3))
        · cases h3
      | cons d ds =>
        rw [hd] at h3
        obtain ⟨hi, rfl⟩ := drop_cons hd
        have hlt : i < w.items.length := (List.getElem?_eq_some_iff.mp hi).1
        unfold loopC at h3
        split at h3
        · rename_i ok
          split at h3
          · rename_i s4 e4
            obtain ⟨go, yl⟩ := (wk i H3 μ3 s3 (Pre.snoc.trans p3) (g2.trans g3) S3 ok).1 d hi
            refine .inr ⟨go, Nn (i + 1), fun H' z => ⟨w.items.length - (i + 1), by omega, rfl, z⟩, fun x H4 y => ?_⟩
            obtain ⟨g4, S4, r4⟩ := yl x H4 y
            have S4' : Sim G.tb X.K μ3 ρ s3 σ H4 := S0.step (Pre.snoc.trans p3) (g2.trans (g3.trans g4)) S4
            rw [hf] at e4
            dsimp only at e4
            split at e4
            · rename_i ρ5 s5 e5
              refine ⟨μ3, CL.wipe ρ vs, s3, d, ρ5, s5, S4'.wipe vs, r4, e5, fun μ5 σ5 H5 p5 g5 S5 f5 l5 => ⟨wipe_same (fun j hj => f5 j fun z => hj (hsub j z)) l5, ?_⟩⟩
              split at e4
              · rename_i s6 e6
                refine ⟨μ5, ρ5, s5, true, s6, S5, e6, fun μ6 H6 p6 g6 S6 => ?_⟩
                refine iteT ?_
                split at e4
                · rename_i w1 s7 e7
                  have S6' : Sim G.tb X.K μ6 ρ5 s6 σ5 H6 := S5.step p6 g6 S6
                  refine ⟨μ6, ρ5, s6, w1, s7, S6', e7, fun μ7 H7 J1 p7 g7 S7 wk1 => ?_⟩
                  have S7' : Sim G.tb X.K μ7 ρ5 s7 σ5 H7 := S6'.step p7 g7 S7
                  have pa7 : Pre (μ1 ++ [D]) μ7 := p3.trans (p5.trans (p6.trans p7))
                  have ga7 : Gr X.K (upd H1 D (.lst [])) H7 := g3.trans (g4.trans (g5.trans (g6.trans g7)))
                  let N1 : Nat → Hp → Prop := fun j H' => ∃ μ' st2, Pre μ7 μ' ∧ Gr X.K H7 H' ∧ SOk X.K μ' st2 H' ∧ loopC w1 (f1 ρ5) (w1.items.drop j) st2 = some s4
                  refine ⟨fun j k H' => k = w1.items.length - j ∧ N1 j H', ⟨w1.items.length, by simp, μ7, _, Pre.refl, Gr.refl, S7, e4⟩, ?_⟩
                  rintro j k H8 ⟨rfl, μ8, s8, p8, g8, S8, h8⟩
                  cases hd1 : w1.items.drop j with
                  | nil =>
                    rw [hd1] at h8
                    unfold loopC at h8
                    split at h8
                    · rename_i ok1
                      cases h8
                      exact .inl ⟨(wk1 j H8 μ8 _ p8 g8 S8 ok1).2 (drop_nil hd1), μ8, _, pa7.trans p8, ga7.trans g8, S8, h3⟩
                    · cases h8
                  | cons d1 ds1 =>
                    rw [hd1] at h8
                    obtain ⟨hi1, rfl⟩ := drop_cons hd1
                    have hlt1 : j < w1.items.length := (List.getElem?_eq_some_iff.mp hi1).1
                    unfold loopC at h8
                    split at h8
                    · rename_i ok1
                      split at h8
                      · rename_i s9 e9
                        obtain ⟨go1, yl1⟩ := (wk1 j H8 μ8 s8 p8 g8 S8 ok1).1 d1 hi1
                        refine .inr ⟨go1, N1 (j + 1), fun H' z => ⟨w1.items.length - (j + 1), by omega, rfl, z⟩, fun x1 H9 y1 => ?_⟩
                        obtain ⟨g9, S9, r9⟩ := yl1 x1 H9 y1
                        have S9' : Sim G.tb X.K μ8 ρ5 s8 σ5 H9 := S7'.step p8 (g8.trans g9) S9
                        rw [hf1] at e9
                        dsimp only at e9
                        split at e9
                        · rename_i ρa sa ea
                          refine ⟨μ8, CL.wipe ρ5 vs1, s8, d1, ρa, sa, S9'.wipe vs1, r9, ea, fun μa σa Ha pa ga Sa fa la => ⟨wipe_same (fun j hj => fa j fun z => hj (hsub1 j z)) la, ?_⟩⟩
                          split at e9
                          · rename_i sb eb
                            refine ⟨μa, ρa, sa, true, sb, Sa, eb, fun μb Hb pb gb Sb => ?_⟩
                            refine iteT ?_
                            split at e9
                            · rename_i yy sc ec
                              refine ⟨μb, ρa, sb, yy, sc, Sa.step pb gb Sb, ec, fun μc vc Hc pc gc Sc rc => ?_⟩
                              have pp : Pre μ7 μc := p8.trans (pa.trans (pb.trans pc))
                              obtain ⟨acc, hA, hl, gd, Sd⟩ := push_ok Sc (hDm (pa7.trans pp)) rc e9
                              exact ⟨acc, hA, hl, μc, s9, pp, g8.trans (g9.trans (ga.trans (gb.trans (gc.trans gd)))), Sd, h8⟩
                            · cases e9
                          · rename_i sb eb
                            cases e9
                            refine ⟨μa, ρa, sa, false, s9, Sa, eb, fun μb Hb pb gb Sb => ?_⟩
                            refine iteF ?_
                            exact ⟨μb, s9, p8.trans (pa.trans pb), g8.trans (g9.trans (ga.trans gb)), Sb, h8⟩
                          · cases e9
                        · cases e9
                      · cases h8
                    · cases h8
                · cases e4
              · rename_i s6 e6
                cases e4
                refine ⟨μ5, ρ5, s5, false, s4, S5, e6, fun μ6 H6 p6 g6 S6 => ?_⟩
                refine iteF ?_
                exact ⟨μ6, s4, p3.trans (p5.trans p6), g3.trans (g4.trans (g5.trans g6)), S6, h3⟩
              · cases e4
            · cases e4
          · cases h3
        · cases h3
    · cases h
  · cases h
/-- the block's context -/
abbrev blkX (X : Cx) (scope : Scope) (s : Shared) (H : Hp) (Ca : Addr) (cl : List (Str × Addr)) (fp : List Addr) : Cx := X.blk s H scope (compEnvC scope cl Ca X.env) fp
theorem E_lc {elt iter : Expr} {ifs : List Expr} {scope : Scope} {own : List (Str × Nat)} {elt' : E} {t : Tg} {it : CL.It} {c : OT} (hc : X.calm = true) (hN : X.N.Nodup) (hi : OkI X G C tg iter it) (ok : BlkOk X.N X.env.scope scope own)
    (hg : ∀ s H Ca cl fp, OkG (blkX X scope s H Ca cl fp) G C tg t) (ht : ∀ s H Ca cl fp, PTs (blkX X scope s H Ca cl fp) ifs (tC X.K G C c)) (he : ∀ s H Ca cl fp, OkE (blkX X scope s H Ca cl fp) G C elt elt') (hs : ∀ x, foldedSetIterable iter X.env x = pure x)
    (hsub : ∀ i ∈ t.slots, i ∈ own.map (·.2)) : OkE X G C (.ListComp elt [⟨tg, iter, ifs, 0⟩] scope pos) (.lc (own.map (·.2)) elt' t it c) :=
  PE.imp (pe_lc hc hN hi ok hg ht he hs) (lc_imp hsub)
theorem E_lc2 {elt iter tg1 iter1 : Expr} {ifs ifs1 : List Expr} {scope : Scope} {own : List (Str × Nat)} {vs1 : List Nat} {elt' : E} {t t1 : Tg} {it it1 : CL.It} {c c1 : OT} (hc : X.calm = true) (hN : X.N.Nodup) (hi : OkI X G C tg iter it) (ok : BlkOk X.N X.env.scope scope own) (hv : ∀ i ∈ vs1, i ∈ own.map (·.2))
    (hg : ∀ s H Ca cl fp, OkG (blkX X scope s H Ca cl fp) G C tg t) (ht : ∀ s H Ca cl fp, PTs (blkX X scope s H Ca cl fp) ifs (tC X.K G C c)) (hi1 : ∀ s H Ca cl fp, OkI (blkX X scope s H Ca cl fp) G C tg1 iter1 it1)
    (hg1 : ∀ s H Ca cl fp, OkG (blkX X scope s H Ca cl fp) G C tg1 t1) (ht1 : ∀ s H Ca cl fp, PTs (blkX X scope s H Ca cl fp) ifs1 (tC X.K G C c1)) (he : ∀ s H Ca cl fp, OkE (blkX X scope s H Ca cl fp) G C elt elt') (hs : ∀ x, foldedSetIterable iter X.env x = pure x)
    (hs1 : ∀ env x, foldedSetIterable iter1 env x = pure x) (hsub : ∀ i ∈ t.slots, i ∈ own.map (·.2)) (hsub1 : ∀ i ∈ t1.slots, i ∈ vs1) : OkE X G C (.ListComp elt [⟨tg, iter, ifs, 0⟩, ⟨tg1, iter1, ifs1, 0⟩] scope pos) (.lc2 (own.map (·.2)) vs1 elt' t it c t1 it1 c1) :=
  PE.imp (pe_lc2 hc hN hi ok hv hg ht hi1 hg1 ht1 he hs hs1) (lc2_imp hsub hsub1)
end
end CL

/-! CL8G: generator expressions: what the clean store tells is what the run does. -/
namespace CL
open PySem PySem.Spec PyProof.Rows L2
section
variable {K : PySem.W.Frag} {μ : List Addr} {st : Sto} {H H' : Hp} {P : Addr}
theorem tabbed_gr (h : GxR.TabG H P) (t : GxR.Tabbed P H H') : Gr K H H' := by
  obtain ⟨ps, hP, _⟩ := h
  have other : ∀ {b u}, H b = some u → (∀ q, u ≠ .tbl q) → H' b = some u := fun {b u} e n => by
    rw [t.2 b fun z => by rw [z, hP] at e; cases e; exact n ps rfl]; exact e
  refine ⟨fun a xs q => ?_, fun a xs q => ?_, fun b o u q => other q (fun _ z => nomatch z), fun b q => ?_⟩
  · rcases q with ⟨u, hd, q⟩ | q
    · exact .inl ⟨u, hd, other q fun _ z => nomatch z⟩
    · exact .inr q
  · rcases q with (q | ⟨u, q⟩) | q
    · exact .inl (.inl (other q fun _ z => nomatch z))
    · exact .inl (.inr ⟨u, other q fun _ z => nomatch z⟩)
    · exact .inr q
  · by_cases hb : b = P
    · rw [hb]; exact t.1
    · obtain ⟨qs, e, r⟩ := q
      exact ⟨qs, by rw [t.2 b hb]; exact e, r⟩
theorem tabbed_ok (h : GxR.TabG H P) (t : GxR.Tabbed P H H') (S : SOk K μ st H) : SOk K μ st H' := by
  have g : Gr K H H' := tabbed_gr h t
  obtain ⟨ps, hP, _⟩ := h
  have other : ∀ {b u}, H b = some u → (∀ q, u ≠ .tbl q) → H' b = some u := fun {b u} e n => by
    rw [t.2 b fun z => by rw [z, hP] at e; cases e; exact n ps rfl]; exact e
  refine ⟨S.len, fun n o a e1 e2 => ?_, S.sep⟩
  have q := S.obj n o a e1 e2
  cases o with
  | lst xs => obtain ⟨vs, h1, r⟩ := q; exact ⟨vs, other h1 (fun _ z => nomatch z), r.mono Pre.refl g⟩
  | ro xs => obtain ⟨vs, h1, r⟩ := q; exact ⟨vs, h1.imp (fun ⟨o, z⟩ => ⟨o, other z fun _ z => nomatch z⟩) id, r.mono Pre.refl g⟩
  | dic xs => obtain ⟨vs, h1, r⟩ := q; exact ⟨vs, other h1 (fun _ z => nomatch z), pr_mono (fun _ _ h => h.mono Pre.refl g) r⟩
  | rod xs => obtain ⟨vs, o, h1, r⟩ := q; exact ⟨vs, o, other h1 (fun _ z => nomatch z), pr_mono (fun _ _ h => h.mono Pre.refl g) r⟩
  | ins c fs => exact q
end
section
variable {X : Cx} {G : Gp} {C : Cl} {α : Type}
/-- what a turn asks of a generator -/
noncomputable def gstep (G : List D) (C : Cl) (t : Tg) (c : OT) (elt : E) (ρ : En) : CL.D → Sto → Option (Option CL.D × Sto) := fun d s => match CL.asg G C t d ρ s with
  | some (ρ', s') => match evC G C c ρ' s' with
    | some (true, s'') => match ev G C elt ρ' s'' with
      | some (y, s3) => some (some y, s3)
      | none => none
    | some (false, s'') => some (none, s'')
    | none => none
  | none => none
theorem turn_of {ff : Bool} {vs : List Nat} {elt : E} {t : Tg} {c : OT} {ρ : En} {σ : L2.St} {μ : List Addr} {H4 : Hp} {st s4 : Sto} {x : V} {d : CL.D} {o : Option CL.D} {a : α} {Yd : α → V → Hp → (α → Hp → Prop) → Prop} {Nx : α → Hp → Prop} (hsub : ∀ i ∈ t.slots, i ∈ vs)
    (S : Sim G.tb X.K μ ρ st σ H4) (r : RepF ff X.K H4 μ x d) (hf : gstep G.con C t c elt (CL.wipe ρ vs) d st = some (o, s4))
    (post : ∀ (μ' : List Addr) (H' : Hp), Pre μ μ' → Gr X.K H4 H' → SOk X.K μ' s4 H' → match o with
      | some y => ∀ v, Rep X.K H' μ' v y → Yd a v H' Nx
      | none => Nx a H') :
    tG ff X.K G C t x (L2.wipe σ vs) H4 fun σ2 H2 => L2.wipe σ2 vs = L2.wipe σ vs ∧ tC X.K G C c σ2 H2 fun b H3 => if b = true then tE X.K G C elt σ2 H3 fun y H5 => Yd a y H5 Nx else Nx a H3 := by
  unfold gstep at hf
  split at hf
  · rename_i ρ5 s5 e5
    refine ⟨μ, CL.wipe ρ vs, st, d, ρ5, s5, S.wipe vs, r, e5, fun μ5 σ5 H5 p5 g5 S5 f5 l5 => ⟨wipe_same (fun j hj => f5 j fun z => hj (hsub j z)) l5, ?_⟩⟩
    split at hf
    · rename_i s6 e6
      refine ⟨μ5, ρ5, s5, true, s6, S5, e6, fun μ6 H6 p6 g6 S6 => iteT ?_⟩
      split at hf
      · rename_i y s7 e7
        cases hf
        exact ⟨μ6, ρ5, s6, y, s4, S5.step p6 g6 S6, e7, fun μ7 v7 H7 p7 g7 S7 r7 => post μ7 H7 (p5.trans (p6.trans p7)) (g5.trans (g6.trans g7)) S7 v7 r7⟩
      · cases hf
    · rename_i s6 e6
      cases hf
      exact ⟨μ5, ρ5, s5, false, s4, S5, e6, fun μ6 H6 p6 g6 S6 => iteF (post μ6 H6 (p5.trans p6) (g5.trans g6) S6)⟩
    · cases hf
  · cases hf
theorem gen_ev {k : GK} {vs : List Nat} {elt : E} {t : Tg} {it : CL.It} {c : OT} {ρ : En} {st : Sto} {r : CL.D × Sto} (h : ev G.con C (.gen k vs elt t it c) ρ st = some r) : ∃ w s1, evI G.con C it ρ st = some (w, s1) ∧ genK k w (gstep G.con C t c elt (CL.wipe ρ vs)) s1 = some r := by
  simp only [ev] at h
  split at h
  · rename_i w s1 e1
    exact ⟨w, s1, e1, h⟩
  · cases h
theorem quant_imp {ff b : Bool} {vs : List Nat} {elt : E} {t : Tg} {it : CL.It} {c : OT} {P : Addr} (hP : P ∈ G.tb) (hsub : ∀ i ∈ t.slots, i ∈ vs) {Yd : Unit → V → Hp → (Unit → Hp → Prop) → Prop} {Q : VK} {σ : L2.St} {H : Hp} {μ : List Addr} {ρ : En} {st s1 st' : Sto} {w : Wk} {res : Bool}
    (hY : ∀ y k H' (Nx : Unit → Hp → Prop), TruV X.K y H' k → (k = b → Q (.bl b) H') → (k ≠ b → Nx () H') → Yd () y H' Nx)
    (S : Sim G.tb X.K μ ρ st σ H) (e1 : evI G.con C it ρ st = some (w, s1)) (e2 : loopQ b w (gstep G.con C t c elt (CL.wipe ρ vs)) w.items s1 = some (res, st')) (q : Post X.K H μ (.bl res) st' Q) :
    tGen P (tI ff X.K G C it) (tG ff X.K G C t) (tC X.K G C c) (tE X.K G C elt) vs () Yd (fun _ H' => Q (.bl (!b)) H') σ H := by
  refine ⟨μ, ρ, st, w, s1, S, e1, fun μ1 H1 J p1 g1 S1 wk => ?_⟩
  have tb1 : GxR.TabG H1 P := g1.tab P (S.tabs P hP)
  refine ⟨tb1, fun H2 tb2 => ?_⟩
  have g2 : Gr X.K H1 H2 := tabbed_gr tb1 tb2
  have S2 : SOk X.K μ1 s1 H2 := tabbed_ok tb1 tb2 S1
  have S0 : Sim G.tb X.K μ1 ρ s1 σ H1 := S.step p1 g1 S1
  let Nn : Nat → Unit → Hp → Prop := fun i _ H' => ∃ μ' st2, Pre μ1 μ' ∧ Gr X.K H2 H' ∧ SOk X.K μ' st2 H' ∧ loopQ b w (gstep G.con C t c elt (CL.wipe ρ vs)) (w.items.drop i) st2 = some (res, st')
  refine ⟨fun i m a H' => m = w.items.length - i ∧ Nn i a H', ⟨w.items.length, by simp, μ1, s1, Pre.refl, Gr.refl, S2, e2⟩, ?_⟩
  rintro i m a H3 ⟨rfl, μ3, s3, p3, g3, S3, h3⟩
  cases hd : w.items.drop i with
  | nil =>
    rw [hd] at h3
    unfold loopQ at h3
    split at h3
    · rename_i ok
      cases h3
      exact .inl ⟨(wk i H3 μ3 _ p3 (g2.trans g3) S3 ok).2 (drop_nil hd), q μ3 _ H3 (p1.trans p3) (g1.trans (g2.trans g3)) S3 (.bl _)⟩
    · cases h3
  | cons d ds =>
    rw [hd] at h3
    obtain ⟨hi, rfl⟩ := drop_cons hd
    have hlt : i < w.items.length := (List.getElem?_eq_some_iff.mp hi).1
    unfold loopQ at h3
    split at h3
    · rename_i ok
      obtain ⟨go, yl⟩ := (wk i H3 μ3 s3 p3 (g2.trans g3) S3 ok).1 d hi
      refine .inr ⟨go, Nn (i + 1), fun a' H' z => ⟨w.items.length - (i + 1), by omega, rfl, z⟩, fun x H4 y => ?_⟩
      obtain ⟨g4, S4, r4⟩ := yl x H4 y
      have S4' : Sim G.tb X.K μ3 ρ s3 σ H4 := S0.step p3 (g2.trans (g3.trans g4)) S4
      split at h3
      · rename_i y s5 e5
        refine turn_of hsub S4' r4 e5 fun μ5 H5 p5 g5 S5 v rv => ?_
        split at h3
        · rename_i k ek
          refine hY v k H5 _ (tru_of S5 rv ek) (fun hk => ?_) (fun hk => ?_)
          · rw [if_pos hk] at h3
            cases h3
            exact q μ5 _ H5 (p1.trans (p3.trans p5)) (g1.trans (g2.trans (g3.trans (g4.trans g5)))) S5 (.bl _)
          · rw [if_neg hk] at h3
            exact ⟨μ5, s5, p3.trans p5, g3.trans (g4.trans g5), S5, h3⟩
        · cases h3
      · rename_i s5 e5
        exact turn_of hsub S4' r4 e5 fun μ5 H5 p5 g5 S5 => ⟨μ5, s5, p3.trans p5, g3.trans (g4.trans g5), S5, h3⟩
      · cases h3
    · cases h3
theorem loopT_le {w : Wk} {f : CL.D → Sto → Option (Option CL.D × Sto)} : ∀ {l acc : List CL.D} {st st' : Sto} {ys : List CL.D}, loopT w f l acc st = some (ys, st') → acc.length ≤ ys.length
  | [], acc, st, st', ys, h => by
    unfold loopT at h
    split at h
    · cases h; exact Nat.le_refl _
    · cases h
  | d :: l, acc, st, st', ys, h => by
    unfold loopT at h
    split at h
    · split at h
      · have := loopT_le h
        rw [List.length_append] at this
        exact Nat.le_trans (Nat.le_add_right _ _) this
      · exact loopT_le h
      · cases h
    · cases h
theorem coll_imp {ff : Bool} {vs : List Nat} {elt : E} {t : Tg} {it : CL.It} {c : OT} {P : Addr} (hP : P ∈ G.tb) (hsub : ∀ i ∈ t.slots, i ∈ vs) {Fin : List V → Hp → Prop} {σ : L2.St} {H : Hp} {μ : List Addr} {ρ : En} {st s1 st' : Sto} {w : Wk} {ys : List CL.D} (hl : ys.length < sizeLine)
    (S : Sim G.tb X.K μ ρ st σ H) (e1 : evI G.con C it ρ st = some (w, s1)) (e2 : loopT w (gstep G.con C t c elt (CL.wipe ρ vs)) w.items [] s1 = some (ys, st')) (q : ∀ μ' H' vs', Pre μ μ' → Gr X.K H H' → SOk X.K μ' st' H' → Reps X.K H' μ' vs' ys → Fin vs' H') :
    tGen P (tI ff X.K G C it) (tG ff X.K G C t) (tC X.K G C c) (tE X.K G C elt) vs [] YCol Fin σ H := by
  refine ⟨μ, ρ, st, w, s1, S, e1, fun μ1 H1 J p1 g1 S1 wk => ?_⟩
  have tb1 : GxR.TabG H1 P := g1.tab P (S.tabs P hP)
  refine ⟨tb1, fun H2 tb2 => ?_⟩
  have g2 : Gr X.K H1 H2 := tabbed_gr tb1 tb2
  have S2 : SOk X.K μ1 s1 H2 := tabbed_ok tb1 tb2 S1
  have S0 : Sim G.tb X.K μ1 ρ s1 σ H1 := S.step p1 g1 S1
  let Nn : Nat → List V → Hp → Prop := fun i a H' => ∃ μ' st2 acc, Pre μ1 μ' ∧ Gr X.K H2 H' ∧ SOk X.K μ' st2 H' ∧ Reps X.K H' μ' a acc ∧ loopT w (gstep G.con C t c elt (CL.wipe ρ vs)) (w.items.drop i) acc st2 = some (ys, st')
  refine ⟨fun i m a H' => m = w.items.length - i ∧ Nn i a H', ⟨w.items.length, by simp, μ1, s1, [], Pre.refl, Gr.refl, S2, .nil, e2⟩, ?_⟩
  rintro i m a H3 ⟨rfl, μ3, s3, acc, p3, g3, S3, ra, h3⟩
  cases hd : w.items.drop i with
  | nil =>
    rw [hd] at h3
    unfold loopT at h3
    split at h3
    · rename_i ok
      cases h3
      exact .inl ⟨(wk i H3 μ3 _ p3 (g2.trans g3) S3 ok).2 (drop_nil hd), q μ3 H3 a (p1.trans p3) (g1.trans (g2.trans g3)) S3 ra⟩
    · cases h3
  | cons d ds =>
    rw [hd] at h3
    obtain ⟨hi, rfl⟩ := drop_cons hd
    have hlt : i < w.items.length := (List.getElem?_eq_some_iff.mp hi).1
    unfold loopT at h3
    split at h3
    · rename_i ok
      obtain ⟨go, yl⟩ := (wk i H3 μ3 s3 p3 (g2.trans g3) S3 ok).1 d hi
      refine .inr ⟨go, Nn (i + 1), fun a' H' z => ⟨w.items.length - (i + 1), by omega, rfl, z⟩, fun x H4 y => ?_⟩
      obtain ⟨g4, S4, r4⟩ := yl x H4 y
      have S4' : Sim G.tb X.K μ3 ρ s3 σ H4 := S0.step p3 (g2.trans (g3.trans g4)) S4
      split at h3
      · rename_i y s5 e5
        refine turn_of hsub S4' r4 e5 fun μ5 H5 p5 g5 S5 v rv => ?_
        have hle := loopT_le h3
        refine ⟨by rw [ra.length]; rw [List.length_append, List.length_singleton] at hle; omega, μ5, s5, acc ++ [y], p3.trans p5, g3.trans (g4.trans g5), S5, pr_append (ra.mono p5 (g4.trans g5)) (.cons rv .nil), h3⟩
      · rename_i s5 e5
        exact turn_of hsub S4' r4 e5 fun μ5 H5 p5 g5 S5 => ⟨μ5, s5, acc, p3.trans p5, g3.trans (g4.trans g5), S5, ra.mono p5 (g4.trans g5), h3⟩
      · cases h3
    · cases h3
theorem loopT_pre {w : Wk} {f : CL.D → Sto → Option (Option CL.D × Sto)} : ∀ {l acc : List CL.D} {st st' : Sto} {ys : List CL.D}, loopT w f l acc st = some (ys, st') → ∃ zs, ys = acc ++ zs
  | [], acc, st, st', ys, h => by
    unfold loopT at h
    split at h
    · cases h; exact ⟨[], by simp⟩
    · cases h
  | d :: l, acc, st, st', ys, h => by
    unfold loopT at h
    split at h
    · split at h
      · obtain ⟨zs, e⟩ := loopT_pre h
        exact ⟨_ :: zs, by rw [e, List.append_assoc]; rfl⟩
      · exact loopT_pre h
      · cases h
    · cases h
theorem ints_app : ∀ {xs ys : List CL.D} {ns : List Int}, intsOf (xs ++ ys) = some ns → ∃ ms ks, intsOf xs = some ms ∧ intsOf ys = some ks ∧ ns = ms ++ ks
  | [], ys, ns, h => ⟨[], ns, rfl, h, rfl⟩
  | x :: xs, ys, ns, h => by
    cases x with
    | int i =>
      simp only [List.cons_append, intsOf, Option.map_eq_some_iff] at h
      obtain ⟨ps, h, rfl⟩ := h
      obtain ⟨ms, ks, h1, h2, rfl⟩ := ints_app h
      exact ⟨i :: ms, ks, by simp [intsOf, h1], h2, rfl⟩
    | _ => simp [intsOf] at h
theorem sum_le : ∀ {ns : List Int}, (∀ n ∈ ns, n.natAbs < 2 ^ 40) → ns.sum.natAbs ≤ ns.length * 2 ^ 40
  | [], _ => by simp
  | n :: ns, h => by
    have h1 := h n List.mem_cons_self
    have h2 := sum_le fun m hm => h m (List.mem_cons_of_mem _ hm)
    simp only [List.sum_cons, List.length_cons]
    rw [Nat.add_mul]
    omega
theorem sum_imp {ff : Bool} {vs : List Nat} {elt : E} {t : Tg} {it : CL.It} {c : OT} {P : Addr} (hP : P ∈ G.tb) (hsub : ∀ i ∈ t.slots, i ∈ vs) {Fin : Int → Hp → Prop} {σ : L2.St} {H : Hp} {μ : List Addr} {ρ : En} {st s1 st' : Sto} {w : Wk} {ys : List CL.D} {ns : List Int} (hns : intsOf ys = some ns) (hok : sumOk ns = true)
    (S : Sim G.tb X.K μ ρ st σ H) (e1 : evI G.con C it ρ st = some (w, s1)) (e2 : loopT w (gstep G.con C t c elt (CL.wipe ρ vs)) w.items [] s1 = some (ys, st')) (q : ∀ μ' H', Pre μ μ' → Gr X.K H H' → SOk X.K μ' st' H' → Fin ns.sum H') :
    tGen P (tI ff X.K G C it) (tG ff X.K G C t) (tC X.K G C c) (tE X.K G C elt) vs (0 : Int) YSum Fin σ H := by
  refine ⟨μ, ρ, st, w, s1, S, e1, fun μ1 H1 J p1 g1 S1 wk => ?_⟩
  have tb1 : GxR.TabG H1 P := g1.tab P (S.tabs P hP)
  refine ⟨tb1, fun H2 tb2 => ?_⟩
  have g2 : Gr X.K H1 H2 := tabbed_gr tb1 tb2
  have S2 : SOk X.K μ1 s1 H2 := tabbed_ok tb1 tb2 S1
  have S0 : Sim G.tb X.K μ1 ρ s1 σ H1 := S.step p1 g1 S1
  simp only [sumOk, Bool.and_eq_true, decide_eq_true_eq, List.all_eq_true] at hok
  let Nn : Nat → Int → Hp → Prop := fun i a H' => ∃ μ' st2 acc ms, Pre μ1 μ' ∧ Gr X.K H2 H' ∧ SOk X.K μ' st2 H' ∧ intsOf acc = some ms ∧ a = ms.sum ∧ loopT w (gstep G.con C t c elt (CL.wipe ρ vs)) (w.items.drop i) acc st2 = some (ys, st')
  refine ⟨fun i m a H' => m = w.items.length - i ∧ Nn i a H', ⟨w.items.length, by simp, μ1, s1, [], [], Pre.refl, Gr.refl, S2, rfl, rfl, e2⟩, ?_⟩
  rintro i m a H3 ⟨rfl, μ3, s3, acc, ms, p3, g3, S3, ra, rfl, h3⟩
  cases hd : w.items.drop i with
  | nil =>
    rw [hd] at h3
    unfold loopT at h3
    split at h3
    · rename_i ok
      cases h3
      rw [hns] at ra
      cases ra
      exact .inl ⟨(wk i H3 μ3 _ p3 (g2.trans g3) S3 ok).2 (drop_nil hd), q μ3 H3 (p1.trans p3) (g1.trans (g2.trans g3)) S3⟩
    · cases h3
  | cons d ds =>
    rw [hd] at h3
    obtain ⟨hi, rfl⟩ := drop_cons hd
    have hlt : i < w.items.length := (List.getElem?_eq_some_iff.mp hi).1
    unfold loopT at h3
    split at h3
    · rename_i ok
      obtain ⟨go, yl⟩ := (wk i H3 μ3 s3 p3 (g2.trans g3) S3 ok).1 d hi
      refine .inr ⟨go, Nn (i + 1), fun a' H' z => ⟨w.items.length - (i + 1), by omega, rfl, z⟩, fun x H4 y => ?_⟩
      obtain ⟨g4, S4, r4⟩ := yl x H4 y
      have S4' : Sim G.tb X.K μ3 ρ s3 σ H4 := S0.step p3 (g2.trans (g3.trans g4)) S4
      split at h3
      · rename_i y s5 e5
        refine turn_of hsub S4' r4 e5 fun μ5 H5 p5 g5 S5 v rv => ?_
        obtain ⟨zs, hz⟩ := loopT_pre h3
        rw [hz] at hns
        obtain ⟨m1, m2, h1, h2, rfl⟩ := ints_app hns
        obtain ⟨m3, m4, h4, h5, rfl⟩ := ints_app h1
        rw [ra] at h4
        cases h4
        obtain ⟨b, hb, hm4⟩ : ∃ b, y = .int b ∧ m4 = [b] := by
          cases y <;> simp [intsOf] at h5
          exact ⟨_, rfl, h5.symm⟩
        subst hb hm4
        have bb := hok.2 b (by simp)
        have b1 := sum_le (ns := ms) fun n hn => hok.2 n (by simp [hn])
        have b2 := hok.1
        simp only [List.length_append, List.length_cons, List.length_nil] at b2
        have b3 : ms.length * 2 ^ 40 ≤ 2 ^ 20 * 2 ^ 40 := Nat.mul_le_mul_right _ (by omega)
        have b4 : (2 : Nat) ^ 20 * 2 ^ 40 = 1152921504606846976 := by decide
        have b5 : (2 : Nat) ^ 40 = 1099511627776 := by decide
        have b6 : (2 : Int) ^ 63 = 9223372036854775808 := by decide
        cases rv
        refine ⟨b, rfl, ⟨?_, ?_⟩, ⟨?_, ?_⟩, μ5, s5, acc ++ [.int b], ms ++ [b], p3.trans p5, g3.trans (g4.trans g5), S5, h1, ?_, h3⟩
        · omega
        · omega
        · omega
        · omega
        · simp
      · rename_i s5 e5
        exact turn_of hsub S4' r4 e5 fun μ5 H5 p5 g5 S5 => ⟨μ5, s5, acc, ms, p3.trans p5, g3.trans (g4.trans g5), S5, ra, rfl, h3⟩
      · cases h3
    · cases h3
/-! ### the five -/
variable {elt tg iter : Expr} {ifs : List Expr} {scope : Scope} {own : List (Str × Nat)} {pos gpos p : Pos} {cc P : Addr} {elt' : E} {t : Tg} {it : CL.It} {c : OT}
abbrev gkName : GK → Str
  | .all => "all"
  | .any => "any"
  | .tup => "tuple"
  | .srt => "sorted"
  | .sum => "sum"
theorem pe_gen_sorted {wi : TI} {g : TG} {tt : TT} {te : TE} (hu : X.A.units + 200 < cLine) (C : GCx X P cc scope own) (hgl : Gl X "sorted") (hm : X.mg "sorted" = none) (hi : PI X tg iter wi) (hg : AllX X scope fun Y => PG Y tg g) (ht : AllX X scope fun Y => PTs Y ifs tt) (he : AllX X scope fun Y => PE Y elt te) (hs : ∀ v, genFold iter X.env v = pure v) :
    PE X (.Call (.Name "sorted" p) [.GeneratorExp elt [⟨tg, iter, ifs, 0⟩] scope gpos] [] pos) (fun σ H Q => tGen P wi g tt te (own.map (·.2)) ([] : List V) YCol (fun acc H' => ∃ μ ds, Reps X.K H' μ acc ds ∧ SortD ds ∧ ∀ p vs', H' p = none → Reps X.K H' μ vs' (sortD ds) → Q (.ref p) (upd H' p (.lst vs'))) σ H) := by
  refine ⟨fun pins s σ H Q I h => ?_⟩
  refine wpAny_Call_Name_kw (ld_blt I hgl hm (show bootBuiltins "sorted" = some (.builtin "sorted") by decide +kernel) ?_)
  refine PyProof.Rows.callWith_builtin1 ?_ rfl (by rfl)
  show wpAny _ _ (spliced ((false, eval (.GeneratorExp elt [⟨tg, iter, ifs, 0⟩] scope gpos) X.env) :: backTo pos (starEach [] X.env))) _ _ s
  refine Calls.spliced_cons (gen_make C.hh C.room C.nd C.tab C.code C.ok hi hg ht he hs I h fun J H2 fp tn code s4 po n ga s5 r N back => Calls.spliced_nil ?_)
  obtain ⟨W, w, turn⟩ := r
  refine call_sorted_gen (X := genX X X.A.in4.in1 s4 H2 scope code fp po) D.py N rfl C.hh C.room turn w fun acc its H1 s1 I1 r1 fin => ?_
  obtain ⟨μ, ds, rd, K, q⟩ := fin
  refine ⟨_, ds, ⟨Nat.le_of_lt K.len, each_reps (X := genX X X.A.in4.in1 s4 H2 scope code fp po) r1 rd, each_reads I1 r1 rd K.pure, K.alike, K.sort, fun b hb => ?_⟩, fun out h' pp n e ho hn kp hle hat => ?_⟩
  · have := K.dep b hb
    rw [py_dep]; omega
  · rw [K.eq] at e
    obtain ⟨vs', v1, v2⟩ := reps_each e
    have hlen : vs'.length ≤ sizeLine := by rw [v1.length, ho]; exact Nat.le_of_lt K.len
    exact ⟨.ref pp, upd H1 pp (.lst vs'), back _ _ _ (I1.laid (t' := s1.toks) kp hle ⟨hlen, out, n, v1, hat⟩), rfl, q pp vs' hn v2⟩
theorem E_gen (hu : X.A.units + 200 < cLine) (k : GK) (Cx' : GCx X P cc scope own) (hP : P ∈ G.tb) (hgl : Gl X (gkName k)) (hm : X.mg (gkName k) = none) (hi : OkI X G C tg iter it) (hg : AllX X scope fun Y => OkG Y G C tg t) (ht : AllX X scope fun Y => PTs Y ifs (tC Y.K G C c)) (he : AllX X scope fun Y => OkE Y G C elt elt') (hs : ∀ v, genFold iter X.env v = pure v)
    (hsub : ∀ i ∈ t.slots, i ∈ own.map (·.2)) : OkE X G C (.Call (.Name (gkName k) p) [.GeneratorExp elt [⟨tg, iter, ifs, 0⟩] scope gpos] [] pos) (.gen k (own.map (·.2)) elt' t it c) := by
  cases k with
  | all =>
    refine PE.imp (pe_gen_all (g := tG (isTupE tg) X.K G C t) (tt := tC X.K G C c) (te := tE X.K G C elt') Cx' hgl hm hi hg ht he hs) ?_
    rintro σ H Q ⟨μ, ρ, st, d', st', S, h, q⟩
    obtain ⟨w, s1, e1, e2⟩ := gen_ev h
    simp only [genK, Option.map_eq_some_iff] at e2
    obtain ⟨⟨res, s2⟩, e2, e3⟩ := e2
    cases e3
    exact quant_imp hP hsub (fun y k H' Nx tr h1 h2 => ⟨k, tr, by cases k; exact iteF (h1 rfl); exact iteT (h2 (by decide))⟩) S e1 e2 q
  | any =>
    refine PE.imp (pe_gen_any (g := tG (isTupE tg) X.K G C t) (tt := tC X.K G C c) (te := tE X.K G C elt') Cx' hgl hm hi hg ht he hs) ?_
    rintro σ H Q ⟨μ, ρ, st, d', st', S, h, q⟩
    obtain ⟨w, s1, e1, e2⟩ := gen_ev h
    simp only [genK, Option.map_eq_some_iff] at e2
    obtain ⟨⟨res, s2⟩, e2, e3⟩ := e2
    cases e3
    exact quant_imp hP hsub (fun y k H' Nx tr h1 h2 => ⟨k, tr, by cases k; exact iteF (h2 (by decide)); exact iteT (h1 rfl)⟩) S e1 e2 q
  | tup =>
    refine PE.imp (pe_gen_tuple (g := tG (isTupE tg) X.K G C t) (tt := tC X.K G C c) (te := tE X.K G C elt') Cx' hgl hm hi hg ht he hs) ?_
    rintro σ H Q ⟨μ, ρ, st, d', st', S, h, q⟩
    obtain ⟨w, s1, e1, e2⟩ := gen_ev h
    simp only [genK] at e2
    split at e2
    · rename_i ys s2 e3
      split at e2
      · rename_i hl
        cases e2
        exact coll_imp hP hsub hl S e1 e3 fun μ' H' vs' p1 g1 S1 r1 => ⟨by rw [r1.length]; exact Nat.le_of_lt hl, (q.mono p1 g1).tup S1 r1⟩
      · cases e2
    · cases e2
  | srt =>
    refine PE.imp (pe_gen_sorted (g := tG (isTupE tg) X.K G C t) (tt := tC X.K G C c) (te := tE X.K G C elt') hu Cx' hgl hm hi hg ht he hs) ?_
    rintro σ H Q ⟨μ, ρ, st, d', st', S, h, q⟩
    obtain ⟨w, s1, e1, e2⟩ := gen_ev h
    simp only [genK] at e2
    split at e2
    · rename_i ys s2 e3
      split at e2
      · rename_i hk
        cases e2
        have K := sortOk_iff.mp hk
        exact coll_imp hP hsub K.len S e1 e3 fun μ' H' vs' p1 g1 S1 r1 => ⟨μ', ys, r1, K, fun pp vs2 hn r2 => (q.mono p1 g1).lst S1 r2 hn⟩
      · cases e2
    · cases e2
  | sum =>
    refine PE.imp (pe_gen_sum (g := tG (isTupE tg) X.K G C t) (tt := tC X.K G C c) (te := tE X.K G C elt') Cx' hgl hm hi hg ht he hs) ?_
    rintro σ H Q ⟨μ, ρ, st, d', st', S, h, q⟩
    obtain ⟨w, s1, e1, e2⟩ := gen_ev h
    simp only [genK] at e2
    split at e2
    · rename_i ys s2 e3
      split at e2
      · rename_i ns hn
        split at e2
        · rename_i hk
          cases e2
          exact sum_imp hP hsub hn hk S e1 e3 fun μ' H' p1 g1 S1 => q μ' _ H' p1 g1 S1 (.int _)
        · cases e2
      · cases e2
    · cases e2
end
end CL

/-! CL9: statements. -/
namespace CL
open PySem PySem.Spec PyProof.Rows L2

/-- what a statement's end asks of the ends -/
def EndsR (tb : List Addr) (K : PySem.W.Frag) (Dn : Ends) (μ : List Addr) (H : Hp) : Rs → Prop
  | (.nx, ρ', st') => ∀ (μ' : List Addr) (σ' : L2.St) (H' : Hp), Pre μ μ' → Gr K H H' → Sim tb K μ' ρ' st' σ' H' → Dn.nx σ' H'
  | (.bk, ρ', st') => ∀ (μ' : List Addr) (σ' : L2.St) (H' : Hp), Pre μ μ' → Gr K H H' → Sim tb K μ' ρ' st' σ' H' → Dn.bk σ' H'
  | (.ct, ρ', st') => ∀ (μ' : List Addr) (σ' : L2.St) (H' : Hp), Pre μ μ' → Gr K H H' → Sim tb K μ' ρ' st' σ' H' → Dn.ct σ' H'
  | (.rt d, _, st') => ∀ (μ' : List Addr) (v : V) (H' : Hp), Pre μ μ' → Gr K H H' → SOk K μ' st' H' → Rep K H' μ' v d → Dn.rt v H'
def tS (K : PySem.W.Frag) (G : Gp) (C : Cl) (s : S) : TS := fun Dn σ H => ∃ μ ρ st r, Sim G.tb K μ ρ st σ H ∧ ex G.con C s ρ st = some r ∧ EndsR G.tb K Dn μ H r
def tSs (K : PySem.W.Frag) (G : Gp) (C : Cl) (s : List S) : TS := fun Dn σ H => ∃ μ ρ st r, Sim G.tb K μ ρ st σ H ∧ exs G.con C s ρ st = some r ∧ EndsR G.tb K Dn μ H r
theorem EndsR.mono {tb : List Addr} {K : PySem.W.Frag} {Dn : Ends} {μ μ1 : List Addr} {H H1 : Hp} {r : Rs} (q : EndsR tb K Dn μ H r) (hp : Pre μ μ1) (hg : Gr K H H1) : EndsR tb K Dn μ1 H1 r := by
  obtain ⟨f, ρ, st⟩ := r
  cases f with
  | nx => exact fun μ' σ' H' p g S => q μ' σ' H' (hp.trans p) (hg.trans g) S
  | bk => exact fun μ' σ' H' p g S => q μ' σ' H' (hp.trans p) (hg.trans g) S
  | ct => exact fun μ' σ' H' p g S => q μ' σ' H' (hp.trans p) (hg.trans g) S
  | rt d => exact fun μ' v H' p g S => q μ' v H' (hp.trans p) (hg.trans g) S
section
variable {X : Cx} {G : Gp} {C : Cl} {tg a b : Expr} {a' b' : E} {pos : Pos}
abbrev OkS (X : Cx) (G : Gp) (C : Cl) (s : Stmt) (s' : S) : Prop := PS X s (tS X.K G C s')
abbrev OkSs (X : Cx) (G : Gp) (C : Cl) (s : List Stmt) (s' : List S) : Prop := PSs X s (tSs X.K G C s')
theorem Ss_nil : OkSs X G C [] [] := by
  refine PSs.imp pss_nil ?_
  rintro Dn σ H ⟨μ, ρ, st, r, S, h, q⟩
  simp only [exs] at h
  cases h
  exact q μ σ H Pre.refl Gr.refl S
theorem Ss_cons {s : Stmt} {r : List Stmt} {s' : S} {r' : List S} (h1 : OkS X G C s s') (h2 : OkSs X G C r r') : OkSs X G C (s :: r) (s' :: r') := by
  refine PSs.imp (pss_cons h1 h2) ?_
  rintro Dn σ H ⟨μ, ρ, st, r, S, h, q⟩
  simp only [exs] at h
  split at h
  · rename_i ρ1 s1 e1
    refine ⟨μ, ρ, st, _, S, e1, fun μ1 σ1 H1 p1 g1 S1 => ?_⟩
    exact ⟨μ1, ρ1, s1, r, S1, h, q.mono p1 g1⟩
  · rename_i f ρ1 s1 nf e1
    cases h
    refine ⟨μ, ρ, st, _, S, e1, ?_⟩
    cases f with
    | nx => exact (nf rfl).elim
    | rt d => exact q
    | bk => exact q
    | ct => exact q
  · cases h
theorem S_pas : OkS X G C (.Pass pos) .pas := by
  refine PS.imp ps_pass ?_
  rintro Dn σ H ⟨μ, ρ, st, r, S, h, q⟩
  simp only [ex] at h
  cases h
  exact q μ σ H Pre.refl Gr.refl S
theorem S_doc {x j pos'} : OkS X G C (.Expr (.Constant (.str x) j pos) pos') .pas := by
  refine PS.imp ps_doc ?_
  rintro Dn σ H ⟨μ, ρ, st, r, S, h, q⟩
  simp only [ex] at h
  cases h
  exact q μ σ H Pre.refl Gr.refl S
theorem S_brk : OkS X G C (.Break pos) .brk := by
  refine PS.imp ps_break ?_
  rintro Dn σ H ⟨μ, ρ, st, r, S, h, q⟩
  simp only [ex] at h
  cases h
  exact q μ σ H Pre.refl Gr.refl S
theorem S_cnt : OkS X G C (.Continue pos) .cnt := by
  refine PS.imp ps_continue ?_
  rintro Dn σ H ⟨μ, ρ, st, r, S, h, q⟩
  simp only [ex] at h
  cases h
  exact q μ σ H Pre.refl Gr.refl S
theorem S_ret (ha : OkE X G C a a') : OkS X G C (.Return (some a) pos) (.ret a') := by
  refine PS.imp (ps_ret ha) ?_
  rintro Dn σ H ⟨μ, ρ, st, r, S, h, q⟩
  simp only [ex] at h
  split at h
  · rename_i d s1 e1
    cases h
    exact ⟨μ, ρ, st, d, s1, S, e1, fun μ1 v1 H1 p1 g1 S1 r1 => q μ1 v1 H1 p1 g1 S1 r1⟩
  · cases h
theorem S_retN : OkS X G C (.Return none pos) .retN := by
  refine PS.imp ps_retN ?_
  rintro Dn σ H ⟨μ, ρ, st, r, S, h, q⟩
  simp only [ex] at h
  cases h
  exact q μ _ H Pre.refl Gr.refl S.ok .non
theorem S_exp (ha : OkE X G C a a') (hs : swapsWith a none pos.line X.env = pure false) : OkS X G C (.Expr a pos) (.exp a') := by
  refine PS.imp (ps_expr ha hs) ?_
  rintro Dn σ H ⟨μ, ρ, st, r, S, h, q⟩
  simp only [ex] at h
  split at h
  · rename_i d s1 e1
    cases h
    exact ⟨μ, ρ, st, d, s1, S, e1, fun μ1 v1 H1 p1 g1 S1 r1 => q μ1 σ H1 p1 g1 (S.step p1 g1 S1)⟩
  · cases h
theorem S_if {c : Expr} {c' : Ts} {x y : List Stmt} {x' y' : List S} (hc : OkT X G C c c') (hx : OkSs X G C x x') (hy : OkSs X G C y y') : OkS X G C (.If c x y pos) (.ifs c' x' y') := by
  refine PS.imp (ps_if hc hx hy) ?_
  rintro Dn σ H ⟨μ, ρ, st, r, S, h, q⟩
  simp only [ex] at h
  split at h
  · rename_i s1 e1
    refine ⟨μ, ρ, st, true, s1, S, e1, fun μ1 H1 p1 g1 S1 => ?_⟩
    refine iteT ?_
    exact ⟨μ1, ρ, s1, r, S.step p1 g1 S1, h, q.mono p1 g1⟩
  · rename_i s1 e1
    refine ⟨μ, ρ, st, false, s1, S, e1, fun μ1 H1 p1 g1 S1 => ?_⟩
    refine iteF ?_
    exact ⟨μ1, ρ, s1, r, S.step p1 g1 S1, h, q.mono p1 g1⟩
  · cases h
theorem S_asg {t : Tg} (ha : OkE X G C a a') (hg : OkG X G C tg t) (hs : swapsWithSole [tg] a pos.line X.env = pure false) (hw : swappedStores [tg] a X.env = pure none) (h1 : noStar tg = true) : OkS X G C (.Assign [tg] a pos) (.asg t a') := by
  refine PS.imp (ps_asg ha hg hs hw (by rw [asg_each_one h1]; rfl)) ?_
  rintro Dn σ H ⟨μ, ρ, st, r, S, h, q⟩
  simp only [ex] at h
  split at h
  · rename_i d s1 e1
    split at h
    · rename_i ρ2 s2 e2
      cases h
      refine ⟨μ, ρ, st, d, s1, S, e1, fun μ1 v1 H1 p1 g1 S1 r1 => ?_⟩
      exact ⟨μ1, ρ, s1, d, ρ2, s2, S.step p1 g1 S1, .inl r1, e2, fun μ2 σ2 H2 p2 g2 S2 _ _ => q μ2 σ2 H2 (p1.trans p2) (g1.trans g2) S2⟩
    · cases h
  · cases h
/-- a name's store behind any reading of its value -/
theorem asg_name {te : TE} {i : Nat} (h : ∀ σ H Q, tE X.K G C a' σ H Q → te σ H Q) : ∀ Dn σ H, tS X.K G C (.asg (.nm i) a') Dn σ H → tAsg te (gName i) Dn σ H := by
  rintro Dn σ H ⟨μ, ρ, st, r, S, h', q⟩
  simp only [ex] at h'
  split at h'
  · rename_i d s1 e1
    simp only [CL.asg] at h'
    cases h'
    exact h σ H _ ⟨μ, ρ, st, d, s1, S, e1, fun μ1 v1 H1 p1 g1 S1 r1 => q μ1 _ H1 p1 g1 ((S.step p1 g1 S1).set i r1)⟩
  · cases h'
theorem S_setLc {i : Nat} {y : Str} {py spos : Pos} {elt iter : Expr} {ifs : List Expr} {scope : Scope} {own : List (Str × Nat)} {elt' : E} {t : Tg} {it : CL.It} {c : OT} (hc : X.calm = true) (hN : X.N.Nodup) (hy : X.N[i]? = some y) (hyl : X.env.scope.names.lookup y = some .local)
    (hsw : swapsWith (.ListComp elt [⟨tg, iter, ifs, 0⟩] scope pos) (some (.Name y py)) spos.line X.env = pure true) (hi : OkI X G C tg iter it) (ok : BlkOk X.N X.env.scope scope own)
    (hg : ∀ s H Ca cl fp, OkG (blkX X scope s H Ca cl fp) G C tg t) (ht : ∀ s H Ca cl fp, PTs (blkX X scope s H Ca cl fp) ifs (tC X.K G C c)) (he : ∀ s H Ca cl fp, OkE (blkX X scope s H Ca cl fp) G C elt elt') (hs : ∀ x, foldedSetIterable iter X.env x = pure x)
    (hsub : ∀ i ∈ t.slots, i ∈ own.map (·.2)) : OkS X G C (.Assign [.Name y py] (.ListComp elt [⟨tg, iter, ifs, 0⟩] scope pos) spos) (.asg (.nm i) (.lc (own.map (·.2)) elt' t it c)) :=
  PS.imp (ps_setLc hc hN hy hyl hsw hi ok hg ht he hs) (asg_name (lc_imp hsub))
theorem S_setLc2 {i : Nat} {y : Str} {py spos : Pos} {elt iter tg1 iter1 : Expr} {ifs ifs1 : List Expr} {scope : Scope} {own : List (Str × Nat)} {vs1 : List Nat} {elt' : E} {t t1 : Tg} {it it1 : CL.It} {c c1 : OT} (hc : X.calm = true) (hN : X.N.Nodup) (hy : X.N[i]? = some y) (hyl : X.env.scope.names.lookup y = some .local)
    (hsw : swapsWith (.ListComp elt [⟨tg, iter, ifs, 0⟩, ⟨tg1, iter1, ifs1, 0⟩] scope pos) (some (.Name y py)) spos.line X.env = pure true) (hi : OkI X G C tg iter it) (ok : BlkOk X.N X.env.scope scope own) (hv : ∀ i ∈ vs1, i ∈ own.map (·.2))
    (hg : ∀ s H Ca cl fp, OkG (blkX X scope s H Ca cl fp) G C tg t) (ht : ∀ s H Ca cl fp, PTs (blkX X scope s H Ca cl fp) ifs (tC X.K G C c)) (hi1 : ∀ s H Ca cl fp, OkI (blkX X scope s H Ca cl fp) G C tg1 iter1 it1)
    (hg1 : ∀ s H Ca cl fp, OkG (blkX X scope s H Ca cl fp) G C tg1 t1) (ht1 : ∀ s H Ca cl fp, PTs (blkX X scope s H Ca cl fp) ifs1 (tC X.K G C c1)) (he : ∀ s H Ca cl fp, OkE (blkX X scope s H Ca cl fp) G C elt elt') (hs : ∀ x, foldedSetIterable iter X.env x = pure x)
    (hs1 : ∀ env x, foldedSetIterable iter1 env x = pure x) (hsub : ∀ i ∈ t.slots, i ∈ own.map (·.2)) (hsub1 : ∀ i ∈ t1.slots, i ∈ vs1) : OkS X G C (.Assign [.Name y py] (.ListComp elt [⟨tg, iter, ifs, 0⟩, ⟨tg1, iter1, ifs1, 0⟩] scope pos) spos) (.asg (.nm i) (.lc2 (own.map (·.2)) vs1 elt' t it c t1 it1 c1)) :=
  PS.imp (ps_setLc2 hc hN hy hyl hsw hi ok hv hg ht hi1 hg1 ht1 he hs hs1) (asg_name (lc2_imp hsub hsub1))
theorem S_par {i j : Nat} {x y : Str} {px py pt : Pos} {kt k2 pt2} (hc : X.calm = true) (hN : X.N.Nodup) (hi : X.N[i]? = some x) (hj : X.N[j]? = some y) (hij : i ≠ j)
    (hx : X.env.scope.names.lookup x = some .local) (hy : X.env.scope.names.lookup y = some .local) (ha : OkE X G C a a') (hb : OkE X G C b b') (sa : noStar a = true) (sb : noStar b = true)
    (hw : swappedStores [.Tuple [.Name x px, .Name y py] kt pt] (.Tuple [a, b] k2 pt2) X.env = pure (some [x, y])) :
    OkS X G C (.Assign [.Tuple [.Name x px, .Name y py] kt pt] (.Tuple [a, b] k2 pt2) pos) (.asg (.tp [.nm i, .nm j]) (.tup [a', b'])) := by
  refine PS.imp (ps_par hc hN hi hj hij hx hy (A_cons ha (A_cons hb A_nil sb) sa) hw) ?_
  rintro Dn σ H ⟨μ, ρ, st, r, S, h, q⟩
  simp only [ex, ev] at h
  split at h
  · rename_i d s1 e1
    split at e1
    · rename_i ds s2 e2
      cases e1
      obtain ⟨d1, d2, rfl⟩ := evs_two e2
      simp only [CL.asg, CL.asgs, seqAt, List.length_cons, List.length_nil, if_true] at h
      cases h
      refine ⟨μ, ρ, st, [d1, d2], s1, S, e2, fun μ1 vs H1 p1 g1 S1 r1 => ?_⟩
      cases r1 with
      | cons r rr =>
        cases rr with
        | cons r' rr =>
          cases rr
          exact ⟨_, _, rfl, q μ1 _ H1 p1 g1 (((S.step p1 g1 S1).set i r).set j r')⟩
    · cases e1
  · cases h
theorem evs_three {e e2 e3 : E} {ρ : En} {st st' : Sto} {ds : List D} (h : evs G.con C [e, e2, e3] ρ st = some (ds, st')) : ∃ d d2 d3, ds = [d, d2, d3] := by
  have := evs_length h
  match ds, this with
  | [d, d2, d3], _ => exact ⟨d, d2, d3, rfl⟩
theorem S_par3 {i j l : Nat} {x y z : Str} {c : Expr} {c' : E} {px py pz pt : Pos} {kt k2 pt2} (hc : X.calm = true) (hN : X.N.Nodup) (hi : X.N[i]? = some x) (hj : X.N[j]? = some y) (hl : X.N[l]? = some z) (hij : i ≠ j) (hil : i ≠ l) (hjl : j ≠ l)
    (hx : X.env.scope.names.lookup x = some .local) (hy : X.env.scope.names.lookup y = some .local) (hz : X.env.scope.names.lookup z = some .local) (ha : OkE X G C a a') (hb : OkE X G C b b') (hcc : OkE X G C c c') (sa : noStar a = true) (sb : noStar b = true) (sc : noStar c = true)
    (hw : swappedStores [.Tuple [.Name x px, .Name y py, .Name z pz] kt pt] (.Tuple [a, b, c] k2 pt2) X.env = pure (some [x, y, z])) :
    OkS X G C (.Assign [.Tuple [.Name x px, .Name y py, .Name z pz] kt pt] (.Tuple [a, b, c] k2 pt2) pos) (.asg (.tp [.nm i, .nm j, .nm l]) (.tup [a', b', c'])) := by
  refine PS.imp (ps_par3 hc hN hi hj hl hij hil hjl hx hy hz (A_cons ha (A_cons hb (A_cons hcc A_nil sc) sb) sa) hw) ?_
  rintro Dn σ H ⟨μ, ρ, st, r, S, h, q⟩
  simp only [ex, ev] at h
  split at h
  · rename_i d s1 e1
    split at e1
    · rename_i ds s2 e2
      cases e1
      obtain ⟨d1, d2, d3, rfl⟩ := evs_three e2
      simp only [CL.asg, CL.asgs, seqAt, List.length_cons, List.length_nil, if_true] at h
      cases h
      refine ⟨μ, ρ, st, [d1, d2, d3], s1, S, e2, fun μ1 vs H1 p1 g1 S1 r1 => ?_⟩
      cases r1 with
      | cons r rr =>
        cases rr with
        | cons r' rr =>
          cases rr with
          | cons r'' rr =>
            cases rr
            exact ⟨_, _, _, rfl, q μ1 _ H1 p1 g1 ((((S.step p1 g1 S1).set i r).set j r').set l r'')⟩
    · cases e1
  · cases h
/-! ### name op= e -/
def rAug (K : PySem.W.Frag) (o : Bop) : TIp := fun x y H Q => ∃ μ dx dy z, Rep K H μ x dx ∧ Rep K H μ y dy ∧ augop o dx dy = some z ∧ ∀ v, Rep K H μ v z → Q v H
theorem ip_all (o : Bop) : PIp X (opOf o) (rAug X.K o) := by
  intro pins s σ H x y v u Q I rx ry h
  obtain ⟨μ, dx, dy, z, hx, hy, h, q⟩ := h
  unfold augop at h
  split at h
  · cases h
    cases rep_int hx
    cases rep_int hy
    exact iop_add pins s σ H _ _ v u Q I rx ry ⟨_, _, rfl, rfl, q _ (.int _)⟩
  · cases h
    cases rep_int hx
    cases rep_int hy
    exact iop_sub pins s σ H _ _ v u Q I rx ry ⟨_, _, rfl, rfl, q _ (.int _)⟩
  · split at h
    · rename_i hc
      cases h
      cases rep_int hx
      cases rep_int hy
      rcases hc with hc | hc
      · exact iop_mul pins s σ H _ _ v u Q I rx ry ⟨_, _, rfl, rfl, .inl ⟨by omega, by omega⟩, q _ (.int _)⟩
      · exact iop_mul pins s σ H _ _ v u Q I rx ry ⟨_, _, rfl, rfl, .inr ⟨by omega, by omega⟩, q _ (.int _)⟩
    · cases h
  · split at h
    · rename_i hc
      cases h
      cases rep_int hx
      cases rep_int hy
      exact iop_fdivW pins s σ H _ _ v u Q I rx ry ⟨_, _, rfl, rfl, hc, q _ (.int _)⟩
    · cases h
  · split at h
    · rename_i hc
      cases h
      cases rep_int hx
      cases rep_int hy
      exact iop_mod pins s σ H _ _ v u Q I rx ry ⟨_, _, rfl, rfl, hc, q _ (.int _)⟩
    · cases h
  · split at h
    · rename_i hc
      cases h
      obtain ⟨a, rfl, ea, la⟩ := rep_str hx
      obtain ⟨b, rfl, eb, lb⟩ := rep_str hy
      have hl : a.length + b.length ≤ sizeLine := by rw [len_of ea, len_of eb]; exact hc
      refine iop_add_str pins s σ H _ _ v u Q I rx ry ⟨_, _, rfl, rfl, hl, q _ ?_⟩
      rw [← ea, ← eb, ← cps_append]
      exact .str _ (by rw [strLen_append]; exact hl)
    · cases h
  · cases h
theorem S_aug {i : Nat} {x : Str} {pos' : Pos} (o : Bop) (hN : X.N.Nodup) (hi : X.N[i]? = some x) (hx : Loc X.env.scope x) (ha : OkE X G C a a') (hf : X.fn x = true ∨ X.env.scope.names.lookup x = some .local) : OkS X G C (.AugAssign (.Name x pos') (opOf o) a pos) (.aug i o a') := by
  refine PS.imp (ps_aug hN hi hx ha (ip_all o) hf) ?_
  rintro Dn σ H ⟨μ, ρ, st, r, S, h, q⟩
  simp only [ex] at h
  split at h
  · rename_i d e0
    split at h
    · rename_i y s1 e1
      simp only [Option.map_eq_some_iff] at h
      obtain ⟨z, h, e⟩ := h
      cases e
      obtain ⟨v, h1, h2⟩ := S.env i _ e0
      refine ⟨v, h1, μ, ρ, st, y, s1, S, e1, fun μ1 v1 H1 p1 g1 S1 r1 => ?_⟩
      exact ⟨μ1, d, y, z, h2.mono p1 g1, r1, h, fun w rw' => q μ1 _ H1 p1 g1 ((S.step p1 g1 S1).set i rw')⟩
    · cases h
  · cases h
/-! ### loops -/
theorem whl_some {c : En → Sto → Option (Bool × Sto)} {b : En → Sto → Option Rs} {ρ : En} {st : Sto} {r : Rs} (h : whl c b ρ st = some r) : ∃ n, whlN c b n ρ st = some r := by
  unfold whl at h
  split at h
  · rename_i hh
    have := hh.choose_spec
    cases h
    exact this
  · cases h
theorem S_while {c : Expr} {c' : Ts} {x : List Stmt} {x' : List S} (hp : X.xe = fun _ _ => False) (hc : OkT X G C c c') (hx : OkSs X G C x x') : OkS X G C (.While c x [] pos) (.whl c' x') := by
  refine PS.imp (ps_while (by rw [hp]; exact PassesOwn.never) hc hx) ?_
  rintro Dn σ H ⟨μ, ρ, st, r, S, h, q⟩
  simp only [ex] at h
  obtain ⟨n, hn⟩ := whl_some h
  refine ⟨fun m σ' H' => ∃ μ' ρ' st', Pre μ μ' ∧ Gr X.K H H' ∧ Sim G.tb X.K μ' ρ' st' σ' H' ∧ whlN (evT G.con C c') (exs G.con C x') m ρ' st' = some r, ⟨n, μ, ρ, st, Pre.refl, Gr.refl, S, hn⟩, ?_⟩
  rintro m σ1 H1 ⟨μ1, ρ1, s1, p1, g1, S1, h1⟩
  cases m with
  | zero => simp [whlN] at h1
  | succ m =>
    simp only [whlN] at h1
    split at h1
    · rename_i s2 e2
      refine ⟨μ1, ρ1, s1, true, s2, S1, e2, fun μ2 H2 p2 g2 S2 => ?_⟩
      refine iteT ⟨fun σ' H' => ∃ μ' ρ' st', Pre μ μ' ∧ Gr X.K H H' ∧ Sim G.tb X.K μ' ρ' st' σ' H' ∧ whlN (evT G.con C c') (exs G.con C x') m ρ' st' = some r, fun σ' H' z => ⟨m, Nat.lt_succ_self m, z⟩, ?_⟩
      split at h1
      · rename_i ρ3 s3 e3
        exact ⟨μ2, ρ1, s2, _, S1.step p2 g2 S2, e3, fun μ4 σ4 H4 p4 g4 S4 => ⟨μ4, ρ3, s3, p1.trans (p2.trans p4), g1.trans (g2.trans g4), S4, h1⟩⟩
      · rename_i ρ3 s3 e3
        exact ⟨μ2, ρ1, s2, _, S1.step p2 g2 S2, e3, fun μ4 σ4 H4 p4 g4 S4 => ⟨μ4, ρ3, s3, p1.trans (p2.trans p4), g1.trans (g2.trans g4), S4, h1⟩⟩
      · rename_i ρ3 s3 e3
        cases h1
        exact ⟨μ2, ρ1, s2, _, S1.step p2 g2 S2, e3, fun μ4 σ4 H4 p4 g4 S4 => q μ4 σ4 H4 (p1.trans (p2.trans p4)) (g1.trans (g2.trans g4)) S4⟩
      · rename_i d ρ3 s3 e3
        cases h1
        exact ⟨μ2, ρ1, s2, _, S1.step p2 g2 S2, e3, fun μ4 v4 H4 p4 g4 S4 r4 => q μ4 v4 H4 (p1.trans (p2.trans p4)) (g1.trans (g2.trans g4)) S4 r4⟩
      · cases h1
    · rename_i s2 e2
      cases h1
      refine ⟨μ1, ρ1, s1, false, s2, S1, e2, fun μ2 H2 p2 g2 S2 => ?_⟩
      exact iteF (q μ2 σ1 H2 (p1.trans p2) (g1.trans g2) (S1.step p2 g2 S2))
    · cases h1
theorem S_for {iter : Expr} {it : CL.It} {t : Tg} {x : List Stmt} {x' : List S} (hp : X.xe = fun _ _ => False) (hc : X.calm = true) (hi : OkI X G C tg iter it) (hg : OkG X G C tg t) (hx : OkSs X G C x x') (hs : ∀ v, foldedSetIterable iter X.env v = pure v) : OkS X G C (.For tg iter x [] pos) (.frr t it x') := by
  refine PS.imp (ps_for (by rw [hp]; exact PassesOwn.never) hc hi hg hx hs) ?_
  rintro Dn σ H ⟨μ, ρ, st, r, S, h, q⟩
  simp only [ex] at h
  split at h
  · rename_i w s1 e1
    refine ⟨μ, ρ, st, w, s1, S, e1, fun μ1 H1 J p1 g1 S1 wk => ?_⟩
    let f : CL.D → En → Sto → Option Rs := fun d ρ' s' => match CL.asg G.con C t d ρ' s' with
        | some (ρ'', s'') => exs G.con C x' ρ'' s''
        | none => none
    have hf : f = fun d ρ' s' => match CL.asg G.con C t d ρ' s' with
        | some (ρ'', s'') => exs G.con C x' ρ'' s''
        | none => none := rfl
    have h' : loopF w f w.items ρ s1 = some r := h
    let Nn : Nat → L2.St → Hp → Prop := fun i σ' H' => ∃ μ' ρ' st', Pre μ1 μ' ∧ Gr X.K H1 H' ∧ Sim G.tb X.K μ' ρ' st' σ' H' ∧ loopF w f (w.items.drop i) ρ' st' = some r
    refine ⟨fun i m σ' H' => m = w.items.length - i ∧ Nn i σ' H', ⟨w.items.length, by simp, μ1, ρ, s1, Pre.refl, Gr.refl, S.step p1 g1 S1, h'⟩, ?_⟩
    rintro i m σ2 H2 ⟨rfl, μ2, ρ2, s2, p2, g2, S2, h2⟩
    cases hd : w.items.drop i with
    | nil =>
      rw [hd] at h2
      unfold loopF at h2
      split at h2
      · rename_i ok
        cases h2
        exact .inl ⟨(wk i H2 μ2 _ p2 g2 S2.ok ok).2 (drop_nil hd), q μ2 σ2 H2 (p1.trans p2) (g1.trans g2) S2⟩
      · cases h2
    | cons d ds =>
      rw [hd] at h2
      obtain ⟨hi', rfl⟩ := drop_cons hd
      have hlt : i < w.items.length := (List.getElem?_eq_some_iff.mp hi').1
      unfold loopF at h2
      split at h2
      · rename_i ok
        obtain ⟨go, yl⟩ := (wk i H2 μ2 s2 p2 g2 S2.ok ok).1 d hi'
        refine .inr ⟨go, Nn (i + 1), fun σ' H' z => ⟨w.items.length - (i + 1), by omega, rfl, z⟩, fun v H3 y => ?_⟩
        obtain ⟨g3, S3, r3⟩ := yl v H3 y
        have S3' : Sim G.tb X.K μ2 ρ2 s2 σ2 H3 := S2.step Pre.refl g3 S3
        rw [hf] at h2
        dsimp only at h2
        cases e4 : CL.asg G.con C t d ρ2 s2 with
        | none => rw [e4] at h2; cases h2
        | some z =>
          obtain ⟨ρ4, s4⟩ := z
          rw [e4] at h2
          dsimp only at h2
          refine ⟨μ2, ρ2, s2, d, ρ4, s4, S3', r3, e4, fun μ4 σ4 H4 p4 g4 S4 _ _ => ?_⟩
          split at h2
          · rename_i ρ5 s5 e5
            exact ⟨μ4, ρ4, s4, _, S4, e5, fun μ6 σ6 H6 p6 g6 S6 => ⟨μ6, ρ5, s5, p2.trans (p4.trans p6), g2.trans (g3.trans (g4.trans g6)), S6, h2⟩⟩
          · rename_i ρ5 s5 e5
            exact ⟨μ4, ρ4, s4, _, S4, e5, fun μ6 σ6 H6 p6 g6 S6 => ⟨μ6, ρ5, s5, p2.trans (p4.trans p6), g2.trans (g3.trans (g4.trans g6)), S6, h2⟩⟩
          · rename_i ρ5 s5 e5
            cases h2
            exact ⟨μ4, ρ4, s4, _, S4, e5, fun μ6 σ6 H6 p6 g6 S6 => q μ6 σ6 H6 (p1.trans (p2.trans (p4.trans p6))) (g1.trans (g2.trans (g3.trans (g4.trans g6)))) S6⟩
          · rename_i d5 ρ5 s5 e5
            cases h2
            exact ⟨μ4, ρ4, s4, _, S4, e5, fun μ6 v6 H6 p6 g6 S6 r6 => q μ6 v6 H6 (p1.trans (p2.trans (p4.trans p6))) (g1.trans (g2.trans (g3.trans (g4.trans g6)))) S6 r6⟩
          · cases h2
      · cases h2
  · cases h
theorem S_lock {i : Nat} {s : Stmt} {s' : S} (hs : OkS X G C s s') : OkS X G C s (.lock i s') := by
  refine PS.imp (PS.or (ps_lock hs) hs) ?_
  rintro Dn σ H ⟨μ, ρ, st, r, S, h, q⟩
  simp only [ex] at h
  split at h
  · rename_i rr kvs e
    obtain ⟨a, ks, hm, h1, lk⟩ := sim_lock S (dicIn_of e)
    split at h
    · rename_i f ρ1 s1 e1
      simp only [Option.map_eq_some_iff] at h
      obtain ⟨s2, h, e2⟩ := h
      cases e2
      refine .inl ⟨a, _, h1, True.intro, fun od => ?_⟩
      obtain ⟨g, S'⟩ := lk od
      refine ⟨μ, ρ, _, _, S', e1, ?_⟩
      have fin : ∀ (μ1 : List Addr) (H1 : Hp), Pre μ μ1 → Gr X.K (upd H a (.frz od (.dK ks))) H1 → SOk X.K μ1 s1 H1 → H1 a = some (.frz od (.dK ks)) ∧ GrT X.K H1 (upd H1 a (.dK ks)) ∧ Gr X.K H (upd H1 a (.dK ks)) ∧ SOk X.K μ1 s2 (upd H1 a (.dK ks)) := fun μ1 H1 p1 g1 S1 => by
        have hf : H1 a = some (.frz od (.dK ks)) := g1.frz _ _ _ upd_same
        obtain ⟨g2, S2⟩ := sim_unlock S1 (p1 _ _ hm) hf h
        exact ⟨hf, g2, gr_unlock h1 (fun _ _ q => by cases q) (g.trans g1) hf True.intro, S2⟩
      have sim : ∀ {μ1 : List Addr} {H1 : Hp} {σ1 : L2.St}, Sim G.tb X.K μ1 ρ1 s1 σ1 H1 → H1 a = some (.frz od (.dK ks)) → GrT X.K H1 (upd H1 a (.dK ks)) → SOk X.K μ1 s2 (upd H1 a (.dK ks)) → Sim G.tb X.K μ1 ρ1 s2 σ1 (upd H1 a (.dK ks)) := fun S1 hf gT S2 =>
        ⟨S2, fun i d e => let ⟨v, h1, h2⟩ := S1.env i d e; ⟨v, h1, h2.monoT Pre.refl gT⟩, S1.len, fun P hP => let ⟨ps, q, z⟩ := S1.tabs P hP; ⟨ps, by rw [upd_ne (ne_of q hf (fun hh => nomatch hh))]; exact q, z⟩⟩
      cases f with
      | nx => exact fun μ1 σ1 H1 p1 g1 S1 => let ⟨hf, gT, gg, S2⟩ := fin μ1 H1 p1 g1 S1.ok; ⟨hf, q μ1 σ1 _ p1 gg (sim S1 hf gT S2)⟩
      | bk => exact fun μ1 σ1 H1 p1 g1 S1 => let ⟨hf, gT, gg, S2⟩ := fin μ1 H1 p1 g1 S1.ok; ⟨hf, q μ1 σ1 _ p1 gg (sim S1 hf gT S2)⟩
      | ct => exact fun μ1 σ1 H1 p1 g1 S1 => let ⟨hf, gT, gg, S2⟩ := fin μ1 H1 p1 g1 S1.ok; ⟨hf, q μ1 σ1 _ p1 gg (sim S1 hf gT S2)⟩
      | rt d => exact fun μ1 v1 H1 p1 g1 S1 r1 => let ⟨hf, gT, gg, S2⟩ := fin μ1 H1 p1 g1 S1; ⟨hf, q μ1 v1 _ p1 gg S2 (r1.monoT Pre.refl gT)⟩
    · cases h
  · exact .inr ⟨μ, ρ, st, _, S, h, q⟩
end
end CL

/-! CL10: from the program's text to the small language, each piece with its proof. -/
namespace CL
open PySem PySem.Spec PyProof.Rows L2

/-- what the text's translation looks at -/
structure Cfg where
  N : List Str
  sc : Scope
  fn : Str → Bool
  defs : List Str
  cons : List Str
  blts : List Str
  /-- lines where a walk over a name is a walk over a dict -/
  lk : List Nat
  /-- 1: generator expressions may stand here -/
  lv : Nat

structure Hyp (cfg : Cfg) (X : Cx) (G : Gp) (C : Cl) : Prop where
  N : X.N = cfg.N
  nd : X.N.Nodup
  sc : X.env.scope = cfg.sc
  kind : X.env.scope.kind = .function
  fn : ∀ x, cfg.fn x = true → X.fn x = true
  calm : X.calm = true
  hu' : X.A.units + 200 + 16 * cfg.lv < cLine
  hd : X.A.handled = none
  dp : X.A.depth + cfg.lv < recursionLimit
  xe : X.xe = fun _ _ => False
  fns' : ∀ (f : Nat) (x : Str), cfg.defs[f]? = some x → ∃ (k : Nat) (fa : Addr) (fd : FuncData) (ps : List Str), FnOk X.prog X.w X.K X.mg X.base CX0 k fa fd ps (spC G.tb X.K C f) ∧ Room (k + cfg.lv) X.A ∧ X.mg x = some (.ref fa) ∧ PySem.W.keepIn X.K (.ref fa) = true ∧ Binds X.K fd ps []
  blt : ∀ x, x ∈ cfg.blts → X.mg x = none
  con : ∀ (j : Nat) (x : Str), cfg.cons[j]? = some x → ∃ (u : Value) (v : V) (d : D), X.mg x = some u ∧ RelV v u ∧ G.con[j]? = some d ∧ ∀ H μ, Rep X.K H μ v d
  gen : cfg.lv = 1 → ∃ c P, X.env.code = .ref c ∧ GxR.TabB X.base X.mg c P ∧ P ∈ G.tb

section
variable {cfg : Cfg} {X : Cx} {G : Gp} {C : Cl}
def blkCfg (cfg : Cfg) (scope : Scope) : Cfg := { cfg with sc := relS scope cfg.sc, fn := fun x => scope.names.lookup x == some .cell }
theorem Hyp.blk (h : Hyp cfg X G C) {scope : Scope} (hk : scope.kind = .function) (s : Shared) (H : Hp) (Ca : Addr) (cl : List (Str × Addr)) (fp : List Addr) : Hyp (blkCfg cfg scope) (blkX X scope s H Ca cl fp) G C :=
  ⟨h.N, h.nd, by show relS scope X.env.scope = relS scope cfg.sc; rw [h.sc], hk, fun _ e => e, h.calm, h.hu', h.hd, h.dp, rfl, h.fns', h.blt, h.con, h.gen⟩
theorem Hyp.hu (h : Hyp cfg X G C) : X.A.units + 200 < cLine := by have := h.hu'; omega
theorem Hyp.hu1 (h : Hyp cfg X G C) : X.A.units + 1 < cLine := by have := h.hu'; omega
theorem Hyp.fns (h : Hyp cfg X G C) (f : Nat) (x : Str) (e : cfg.defs[f]? = some x) : ∃ (k : Nat) (fa : Addr) (fd : FuncData) (ps : List Str), FnOk X.prog X.w X.K X.mg X.base CX0 k fa fd ps (spC G.tb X.K C f) ∧ Room k X.A ∧ X.mg x = some (.ref fa) ∧ PySem.W.keepIn X.K (.ref fa) = true ∧ Binds X.K fd ps [] :=
  let ⟨k, fa, fd, ps, h1, h2, h3⟩ := h.fns' f x e
  ⟨k, fa, fd, ps, h1, h2.mono (Nat.le_add_right _ _), h3⟩
/-- within a generator expression -/
def genCfg (cfg : Cfg) (scope : Scope) : Cfg := { cfg with sc := scope, fn := fun _ => false, lv := 0 }
theorem Hyp.inGen (h : Hyp cfg X G C) (hl : cfg.lv = 1) {scope : Scope} (hk : scope.kind = .function) (s : Shared) (H : Hp) (code : Value) (fp : List Addr) (po : Addr × Obj) : Hyp (genCfg cfg scope) (genX X X.A.in4.in1 s H scope code fp po) G C := by
  have hu := h.hu'
  have dp := h.dp
  rw [hl] at hu dp
  have eu : (genX X X.A.in4.in1 s H scope code fp po).A.units = X.A.units + 8 := rfl
  have ed : (genX X X.A.in4.in1 s H scope code fp po).A.depth = X.A.depth + 1 := rfl
  refine ⟨h.N, h.nd, rfl, hk, fun _ z => absurd z (by simp [genCfg]), rfl, by rw [eu]; show X.A.units + 8 + 200 + 16 * 0 < cLine; omega, h.hd, by rw [ed]; show X.A.depth + 1 + 0 < _; omega, rfl, fun f x e => ?_, h.blt, h.con, fun z => absurd z (by simp [genCfg])⟩
  obtain ⟨k, fa, fd, ps, h1, h2, h3⟩ := h.fns' f x e
  rw [hl] at h2
  have r1 := h2.dp
  have r2 := h2.un
  exact ⟨k, fa, fd, ps, h1, ⟨h.hd, by rw [ed]; show X.A.depth + 1 + 3 * (k + 0) + 5 < _; omega, by rw [eu]; show X.A.units + 8 + 16 * (k + 0) + 200 < _; omega⟩, h3⟩
theorem Hyp.gl (h : Hyp cfg X G C) {x : Str} (e : cfg.sc.names.lookup x = some .globalImplicit) : Gl X x := by
  show X.env.scope.names.lookup x = _
  rw [h.sc]; exact e
theorem Hyp.lk (h : Hyp cfg X G C) {x : Str} {k : NameKind} (e : cfg.sc.names.lookup x = some k) : X.env.scope.names.lookup x = some k := by rw [h.sc]; exact e
end

/-- a name's place in a list -/
def find : (l : List Str) → (x : Str) → Option {i : Nat // l[i]? = some x}
  | [], _ => none
  | y :: r, x => if h : y = x then some ⟨0, by rw [h]; rfl⟩ else match find r x with
    | some ⟨i, e⟩ => some ⟨i + 1, by simpa using e⟩
    | none => none

abbrev PE' (cfg : Cfg) (e : Expr) := {e' : E // ∀ X G C, Hyp cfg X G C → OkE X G C e e'}
abbrev PT' (cfg : Cfg) (e : Expr) := {e' : Ts // ∀ X G C, Hyp cfg X G C → OkT X G C e e'}
abbrev PW' (cfg : Cfg) (e : Expr) := {e' : Ts // ∀ X G C, Hyp cfg X G C → PW X e (tT X.K G C e')}
abbrev PA' (cfg : Cfg) (es : List Expr) := {e' : List E // e'.length = es.length ∧ ∀ X G C, Hyp cfg X G C → PA X es (tAs X.K G C e')}
abbrev PO' (cfg : Cfg) (e : Option Expr) := {e' : OE // ∀ X G C, Hyp cfg X G C → PO X e (tO X.K G C e')}
abbrev PP' (cfg : Cfg) (ks : List (Option Expr)) (vs : List Expr) := {e' : Ps // ∀ X G C pos, Hyp cfg X G C → PPt X pos ks vs (tPs X.K G C e')}
abbrev PI' (cfg : Cfg) (tg e : Expr) := {e' : CL.It // ∀ X G C, Hyp cfg X G C → OkI X G C tg e e'}
abbrev PG' (cfg : Cfg) (e : Expr) := {e' : Tg // ∀ X G C, Hyp cfg X G C → OkG X G C e e'}
abbrev PGs' (cfg : Cfg) (e : List Expr) := {e' : List Tg // e'.length = e.length ∧ ∀ X G C, Hyp cfg X G C → OkGs X G C e e'}
abbrev PC' (cfg : Cfg) (ifs : List Expr) := {e' : OT // ∀ X G C, Hyp cfg X G C → PTs X ifs (tC X.K G C e')}
abbrev PS' (cfg : Cfg) (s : Stmt) := {s' : S // ∀ X G C, Hyp cfg X G C → OkS X G C s s'}
abbrev PSs' (cfg : Cfg) (s : List Stmt) := {s' : List S // ∀ X G C, Hyp cfg X G C → OkSs X G C s s'}

instance {sc : Scope} {x : Str} : Decidable (Vis sc x) := inferInstanceAs (Decidable (_ ∨ _ ∨ _))
instance {sc : Scope} {x : Str} : Decidable (Loc sc x) := inferInstanceAs (Decidable (_ ∨ _))

/-! ### the built-ins -/
structure BltOk (x : Str) (b : Blt) : Prop where
  dbg : (x == ("__debug__" : Str)) = false
  nm : x ≠ "__name__"
  ok : ∀ X : Cx, X.calm = true → X.A.units + 200 < cLine → (∃ id : String, CallR X (.builtin id) (rBlt X.K b) ∧ bootBuiltins x = some (.builtin id)) ∨ (∃ T : String, CallR X (.type T) (rBlt X.K b) ∧ bootBuiltins x = some (.type T))
theorem b_len : BltOk "len" .len := ⟨by decide +kernel, by decide +kernel, fun X hc hu => .inl ⟨_, c_len, by decide +kernel⟩⟩
theorem b_int : BltOk "int" .int := ⟨by decide +kernel, by decide +kernel, fun X hc hu => .inr ⟨_, c_int, by decide +kernel⟩⟩
theorem b_abs : BltOk "abs" .abs := ⟨by decide +kernel, by decide +kernel, fun X hc hu => .inl ⟨_, c_abs, by decide +kernel⟩⟩
theorem b_max : BltOk "max" .max := ⟨by decide +kernel, by decide +kernel, fun X hc hu => .inl ⟨_, c_max hc, by decide +kernel⟩⟩
theorem b_min : BltOk "min" .min := ⟨by decide +kernel, by decide +kernel, fun X hc hu => .inl ⟨_, c_min hc, by decide +kernel⟩⟩
theorem b_sum : BltOk "sum" .sum := ⟨by decide +kernel, by decide +kernel, fun X hc hu => .inl ⟨_, c_sum hc, by decide +kernel⟩⟩
theorem b_list : BltOk "list" .list := ⟨by decide +kernel, by decide +kernel, fun X hc hu => .inr ⟨_, c_list hc, by decide +kernel⟩⟩
theorem b_tuple : BltOk "tuple" .tuple := ⟨by decide +kernel, by decide +kernel, fun X hc hu => .inr ⟨_, c_tuple, by decide +kernel⟩⟩
theorem b_dict : BltOk "dict" .dict := ⟨by decide +kernel, by decide +kernel, fun X hc hu => .inr ⟨_, c_dict hc, by decide +kernel⟩⟩
theorem b_sorted : BltOk "sorted" .sorted := ⟨by decide +kernel, by decide +kernel, fun X hc hu => .inl ⟨_, c_sorted hc hu, by decide +kernel⟩⟩
theorem b_str : BltOk "str" .str := ⟨by decide +kernel, by decide +kernel, fun X hc hu => .inr ⟨_, c_str, by decide +kernel⟩⟩
def bltFind (x : Str) : Option {b : Blt // BltOk x b} :=
  if h : x = "len" then some ⟨.len, h ▸ b_len⟩ else if h : x = "int" then some ⟨.int, h ▸ b_int⟩ else if h : x = "abs" then some ⟨.abs, h ▸ b_abs⟩
  else if h : x = "max" then some ⟨.max, h ▸ b_max⟩ else if h : x = "min" then some ⟨.min, h ▸ b_min⟩ else if h : x = "sum" then some ⟨.sum, h ▸ b_sum⟩
  else if h : x = "list" then some ⟨.list, h ▸ b_list⟩ else if h : x = "tuple" then some ⟨.tuple, h ▸ b_tuple⟩ else if h : x = "dict" then some ⟨.dict, h ▸ b_dict⟩
  else if h : x = "sorted" then some ⟨.sorted, h ▸ b_sorted⟩ else if h : x = "str" then some ⟨.str, h ▸ b_str⟩ else none
structure TyOk (x : Str) (t : Ty) : Prop where
  dbg : (x == ("__debug__" : Str)) = false
  nm : x ≠ "__name__"
  ok : bootBuiltins x = some (.type (tyName t))
def tyFind (x : Str) : Option {t : Ty // TyOk x t} :=
  if h : x = "int" then some ⟨.int, h ▸ ⟨by decide +kernel, by decide +kernel, by decide +kernel⟩⟩ else if h : x = "bool" then some ⟨.bool, h ▸ ⟨by decide +kernel, by decide +kernel, by decide +kernel⟩⟩
  else if h : x = "str" then some ⟨.str, h ▸ ⟨by decide +kernel, by decide +kernel, by decide +kernel⟩⟩ else if h : x = "tuple" then some ⟨.tuple, h ▸ ⟨by decide +kernel, by decide +kernel, by decide +kernel⟩⟩
  else if h : x = "list" then some ⟨.list, h ▸ ⟨by decide +kernel, by decide +kernel, by decide +kernel⟩⟩ else if h : x = "dict" then some ⟨.dict, h ▸ ⟨by decide +kernel, by decide +kernel, by decide +kernel⟩⟩ else none
def mthFind (x : Str) (n : Nat) : Option {m : Mth // mthName m = x} :=
  if h : x = "append" ∧ n = 1 then some ⟨.append, h.1.symm⟩ else if h : x = "extend" ∧ n = 1 then some ⟨.extend, h.1.symm⟩ else if h : x = "pop" ∧ n = 0 then some ⟨.pop, h.1.symm⟩
  else if h : x = "pop" ∧ n = 1 then some ⟨.popAt, h.1.symm⟩ else if h : x = "get" ∧ n = 1 then some ⟨.get1, h.1.symm⟩ else if h : x = "get" ∧ n = 2 then some ⟨.get2, h.1.symm⟩ else none
def bopFind : (o : Operator) → Option {b : Bop // opOf b = o}
  | .Add => some ⟨.add, rfl⟩
  | .Sub => some ⟨.sub, rfl⟩
  | .Mult => some ⟨.mul, rfl⟩
  | .FloorDiv => some ⟨.fdiv, rfl⟩
  | .Mod => some ⟨.mod, rfl⟩
  | .Pow => some ⟨.pow, rfl⟩
  | _ => none
def copFind : (o : CmpOp) → {b : Cop // opC b = o}
  | .Eq => ⟨.eq, rfl⟩
  | .NotEq => ⟨.ne, rfl⟩
  | .Lt => ⟨.lt, rfl⟩
  | .LtE => ⟨.le, rfl⟩
  | .Gt => ⟨.gt, rfl⟩
  | .GtE => ⟨.ge, rfl⟩
  | .Is => ⟨.is_, rfl⟩
  | .IsNot => ⟨.isnot, rfl⟩
  | .In => ⟨.in_, rfl⟩
  | .NotIn => ⟨.notin, rfl⟩

/-! ### forms -/
def notSlice : Expr → Bool
  | .Slice _ _ _ _ => false
  | _ => true
theorem plain_ix {b : Expr} (h : notSlice b = true) : PlainIx b := by
  intro o i
  cases b <;> first | rfl | simp [notSlice] at h
theorem asg_sub {a b : Expr} {pos : Pos} {env : Env} (h : notSlice b = true) : ∀ v, assign (.Subscript a b pos) env v = (do
      let ov ← holding [v] (eval a env)
      let iv ← holding [v, ov] (eval b env)
      standAt pos
      holding [v, ov, iv] (setItem ov iv v)
      release [v, ov, iv] []) := by
  intro v
  cases b <;> first | rfl | simp [notSlice] at h
def notSet : Expr → Bool
  | .Set _ _ _ => false
  | _ => true
theorem folded_of {e : Expr} {env : Env} (h : notSet e = true) : ∀ x, foldedSetIterable e env x = pure x := by
  intro x
  cases e <;> first | rfl | simp [notSet] at h
def notComp : Expr → Bool
  | .ListComp _ _ _ _ => false
  | .SetComp _ _ _ _ => false
  | .DictComp _ _ _ _ _ => false
  | _ => true
theorem swaps_plain {e : Expr} {t : Option Expr} {l : Nat} {env : Env} (h : notComp e = true) : swapsWith e t l env = pure false := by
  cases e <;> first | rfl | simp [notComp] at h
def notTest : Expr → Bool
  | .UnaryOp .Not _ _ => false
  | .BoolOp _ _ _ => false
  | .IfExp _ _ _ _ => false
  | .Compare _ _ _ _ => false
  | _ => true
theorem isTrue_of {e : Expr} {env : Env} (h : notTest e = true) : ∀ whole, isTrue e env whole = (do let v ← whole; standAt e.pos; holding [v] (truthy v)) := by
  intro w
  cases e <;> first | rfl | simp [notTest] at h | skip
  rename_i op a p
  cases op <;> first | rfl | simp [notTest] at h
def notTup : Expr → Bool
  | .Tuple _ _ _ => false
  | _ => true
def notSeqT : Expr → Bool
  | .Tuple _ _ _ => false
  | .List _ _ => false
  | _ => true
theorem swapped_plain {t e : Expr} {env : Env} (h : notTup e = true ∨ notSeqT t = true) : swappedStores [t] e env = pure none := by
  rcases h with h | h
  · cases e <;> first | (cases t <;> rfl) | simp [notTup] at h
  · cases t <;> first | rfl | (simp [notSeqT] at h)
/-- as the evaluator asks it, from the scope -/
def swC (sc : Scope) (ts vs : List Expr) : Option (Option (List Str)) :=
  if !(ts.length == 2 || ts.length == 3) || vs.length != ts.length then some none
  else if vs.any (fun | .Starred .. => true | _ => false) then some none
  else
    let line := (ts.head?.map (·.pos.line)).getD 0
    let names := ts.filterMap fun
      | .Name id pos => if sc.names.lookup id == some .local && pos.line == line then some id else none
      | _ => none
    if names.length != ts.length || names.eraseDups.length != names.length then some none
    else if vs.all (foldedForSure 8) then some none
    else if vs.all (constantsAlone 8) then none
    else some (some names)
theorem swC_ok {env : Env} {ts vs : List Expr} {k k2 p p2} {r : Option (List Str)} (hk : env.scope.kind = .function) (h : swC env.scope ts vs = some r) : swappedStores [.Tuple ts k p] (.Tuple vs k2 p2) env = pure r := by
  have hb : (env.blockKind != .function) = false := by unfold Env.blockKind; rw [hk]; rfl
  unfold swappedStores
  unfold swC at h
  simp only [hb, Bool.or_false]
  have e1 : ∀ id, env.kindOf id = env.scope.names.lookup id := fun _ => rfl
  simp only [e1]
  split at h
  · rename_i c1
    cases h
    exact if_pos c1
  · rename_i c1
    refine (if_neg c1).trans ?_
    split at h
    · rename_i c2
      cases h
      exact if_pos c2
    · rename_i c2
      refine (if_neg c2).trans ?_
      dsimp only at h
      split at h
      · rename_i c3
        cases h
        exact if_pos c3
      · rename_i c3
        refine (if_neg c3).trans ?_
        split at h
        · rename_i c4
          cases h
          exact if_pos c4
        · rename_i c4
          refine (if_neg c4).trans ?_
          split at h
          · cases h
          · rename_i c5
            cases h
            exact if_neg c5
end CL

/-! CL11: the translation. -/
namespace CL
open PySem PySem.Spec PyProof.Rows L2

structure Cv where
  cE : (cfg : Cfg) → (e : Expr) → Option (PE' cfg e)
  cT : (cfg : Cfg) → (e : Expr) → Option (PT' cfg e)
  cG : (cfg : Cfg) → (e : Expr) → Option (PG' cfg e)
  cI : (cfg : Cfg) → (tg e : Expr) → Option (PI' cfg tg e)
  cS : (cfg : Cfg) → (s : Stmt) → Option (PS' cfg s)

def cEs (r : Cv) (cfg : Cfg) : (es : List Expr) → Option (PA' cfg es)
  | [] => some ⟨[], rfl, fun _ _ _ _ => A_nil⟩
  | e :: es => if hs : noStar e = true then match r.cE cfg e, cEs r cfg es with
      | some ⟨e', h1⟩, some ⟨es', hl, h2⟩ => some ⟨e' :: es', by simp [hl], fun X G C h => A_cons (h1 X G C h) (h2 X G C h) hs⟩
      | _, _ => none
    else none
def cW (r : Cv) (cfg : Cfg) (op : BoolOp) (pos : Pos) : (es : List Expr) → Option (PW' cfg (.BoolOp op es pos))
  | [] => none
  | [a] => match r.cT cfg a with
    | some ⟨a', ha⟩ => match op with
      | .And => some ⟨a', fun X G C h => pw_and1 (ha X G C h)⟩
      | .Or => some ⟨a', fun X G C h => pw_or1 (ha X G C h)⟩
    | none => none
  | a :: b :: rest => match r.cT cfg a, cW r cfg op pos (b :: rest) with
    | some ⟨a', ha⟩, some ⟨b', hb⟩ => match op, hb with
      | .And, hb => some ⟨.and a' b', fun X G C h => W_and (ha X G C h) (hb X G C h)⟩
      | .Or, hb => some ⟨.or a' b', fun X G C h => W_or (ha X G C h) (hb X G C h)⟩
    | _, _ => none
def cB (r : Cv) (cfg : Cfg) (op : BoolOp) (pos : Pos) : (es : List Expr) → Option (PE' cfg (.BoolOp op es pos))
  | [] => none
  | [a] => match r.cE cfg a with
    | some ⟨a', ha⟩ => some ⟨a', fun X G C h => pe_one (ha X G C h)⟩
    | none => none
  | a :: b :: rest => match r.cE cfg a, cB r cfg op pos (b :: rest) with
    | some ⟨a', ha⟩, some ⟨b', hb⟩ => match op, hb with
      | .And, hb => some ⟨.and a' b', fun X G C h => E_and (ha X G C h) (hb X G C h)⟩
      | .Or, hb => some ⟨.or a' b', fun X G C h => E_or (ha X G C h) (hb X G C h)⟩
    | _, _ => none
def cP (r : Cv) (cfg : Cfg) : (ks : List (Option Expr)) → (vs : List Expr) → Option (PP' cfg ks vs)
  | [], [] => some ⟨.nil, fun _ _ _ _ _ => PP_nil⟩
  | some k :: ks, v :: vs => match r.cE cfg k, r.cE cfg v, cP r cfg ks vs with
    | some ⟨k', hk⟩, some ⟨v', hv⟩, some ⟨p', hp⟩ => some ⟨.cons k' v' p', fun X G C pos h => PP_cons (hk X G C h) (hv X G C h) (hp X G C pos h)⟩
    | _, _, _ => none
  | _, _ => none
def cO (r : Cv) (cfg : Cfg) : (e : Option Expr) → Option (PO' cfg e)
  | none => some ⟨.no, fun _ _ _ _ => O_no⟩
  | some e => match r.cE cfg e with
    | some ⟨e', h⟩ => some ⟨.yes e', fun X G C hh => O_yes (h X G C hh)⟩
    | none => none
def cGs (r : Cv) (cfg : Cfg) : (es : List Expr) → Option (PGs' cfg es)
  | [] => some ⟨[], rfl, fun _ _ _ _ => Gs_nil⟩
  | e :: es => if hs : noStar e = true then match r.cG cfg e, cGs r cfg es with
      | some ⟨e', h1⟩, some ⟨es', hl, h2⟩ => some ⟨e' :: es', by simp [hl], fun X G C h => Gs_cons (h1 X G C h) (h2 X G C h) hs⟩
      | _, _ => none
    else none
def cC (r : Cv) (cfg : Cfg) : (ifs : List Expr) → Option (PC' cfg ifs)
  | [] => some ⟨.no, fun _ _ _ _ => C_no⟩
  | [c] => match r.cT cfg c with
    | some ⟨c', h⟩ => some ⟨.yes c', fun X G C hh => C_yes (h X G C hh)⟩
    | none => none
  | _ => none
def cSs (r : Cv) (cfg : Cfg) : (ss : List Stmt) → Option (PSs' cfg ss)
  | [] => some ⟨[], fun _ _ _ _ => Ss_nil⟩
  | s :: ss => match r.cS cfg s, cSs r cfg ss with
    | some ⟨s', h1⟩, some ⟨ss', h2⟩ => some ⟨s' :: ss', fun X G C h => Ss_cons (h1 X G C h) (h2 X G C h)⟩
    | _, _ => none

def cName (cfg : Cfg) (x : Str) (p : Pos) : Option (PE' cfg (.Name x p)) :=
  if hd : (x == ("__debug__" : Str)) = false then
    if hcd : (x == ("__classdict__" : Str)) = false then
      if hv : Vis cfg.sc x then match find cfg.N x with
        | some ⟨i, hi⟩ => some ⟨.var i, fun X G C h => E_var (by rw [h.N]; exact hi) (by rw [h.sc]; exact hv) hd hcd⟩
        | none => none
      else if hg : cfg.sc.names.lookup x = some .globalImplicit then match find cfg.cons x with
        | some ⟨j, hj⟩ => some ⟨.glo j, fun X G C h => let ⟨u, v, d, h1, h2, h3, h4⟩ := h.con j x hj; E_glo (h.gl hg) h1 h2 h3 h4 hd⟩
        | none => none
      else none
    else none
  else none
def cConst (cfg : Cfg) (c : Const) (k : Nat) (p : Pos) : Option (PE' cfg (.Constant c k p)) := match c with
  | .int i => some ⟨.lit (.int i), fun _ _ _ _ => E_int⟩
  | .bool b => some ⟨.lit (.bl b), fun _ _ _ _ => E_bl⟩
  | .none => some ⟨.lit .non, fun _ _ _ _ => E_non⟩
  | .str x => if hl : x.length ≤ 1000 then some ⟨.lit (.str x.cps.toList), fun _ _ _ _ => E_str hl⟩ else none
  | _ => none
def cDict (r : Cv) (cfg : Cfg) (ks : List (Option Expr)) (vs : List Expr) (p : Pos) : Option (PE' cfg (.Dict ks vs p)) := match ks, vs with
  | [], [] => some ⟨.dic .nil, fun _ _ _ _ => E_dic0⟩
  | k :: ks, vs => match cP r cfg (k :: ks) vs with
    | some ⟨p', hp⟩ => if h : (k :: ks).all (·.isSome) = true ∧ (k :: ks).length = vs.length ∧ (k :: ks).length ≤ 15 then
        some ⟨.dic p', fun X G C hh => E_dic (hp X G C p hh) h.1 h.2.1 (by simp) h.2.2⟩
      else none
    | none => none
  | _, _ => none
def cCmp (r : Cv) (cfg : Cfg) (a : Expr) (ops : List CmpOp) (es : List Expr) (p : Pos) : Option (PE' cfg (.Compare a ops es p)) := match ops, es with
  | [o], [b] => match r.cE cfg a, r.cE cfg b, copFind o with
    | some ⟨a', ha⟩, some ⟨b', hb⟩, ⟨o', ho⟩ => if hm : behindInMarks o b = false then some ⟨.cmp o' a' b', fun X G C h => by subst ho; exact E_cmp h.hu o' (ha X G C h) (hb X G C h) hm⟩ else none
    | _, _, _ => none
  | [o, o2], [b, c] => match r.cE cfg a, r.cE cfg b, r.cE cfg c, copFind o, copFind o2 with
    | some ⟨a', ha⟩, some ⟨b', hb⟩, some ⟨c', hc⟩, ⟨o', ho⟩, ⟨o2', ho2⟩ => if hm : lastMarks [o, o2] [b, c] = false then some ⟨.chn o' o2' a' b' c', fun X G C h => by subst ho; subst ho2; exact E_chn h.hu o' o2' (ha X G C h) (hb X G C h) (hc X G C h) hm⟩ else none
    | _, _, _, _, _ => none
  | _, _ => none
def cCmpT (r : Cv) (cfg : Cfg) (a : Expr) (ops : List CmpOp) (es : List Expr) (p : Pos) : Option (PT' cfg (.Compare a ops es p)) := match ops, es with
  | [o], [b] => match r.cE cfg a, r.cE cfg b, copFind o with
    | some ⟨a', ha⟩, some ⟨b', hb⟩, ⟨o', ho⟩ => if hm : behindInMarks o b = false then some ⟨.cmp o' a' b', fun X G C h => by subst ho; exact T_cmp h.hu o' (ha X G C h) (hb X G C h) hm⟩ else none
    | _, _, _ => none
  | [o, o2], [b, c] => match r.cE cfg a, r.cE cfg b, r.cE cfg c, copFind o, copFind o2 with
    | some ⟨a', ha⟩, some ⟨b', hb⟩, some ⟨c', hc⟩, ⟨o', ho⟩, ⟨o2', ho2⟩ => if hm : lastMarks [o, o2] [b, c] = false then some ⟨.chn o' o2' a' b' c', fun X G C h => by subst ho; subst ho2; exact T_chn h.hu o' o2' (ha X G C h) (hb X G C h) (hc X G C h) hm⟩ else none
    | _, _, _, _, _ => none
  | _, _ => none
def isOneNeg : Expr → Bool
  | .UnaryOp .USub (.Constant (.int i) _ _) _ => decide (i = 1)
  | _ => false
def cSub (r : Cv) (cfg : Cfg) (a b : Expr) (p : Pos) : Option (PE' cfg (.Subscript a b p)) := match r.cE cfg a with
  | none => none
  | some ⟨a', ha⟩ => match b with
    | .Slice lo hi none p2 => match cO r cfg lo, cO r cfg hi with
      | some ⟨l', hl⟩, some ⟨h', hh⟩ => some ⟨.sl a' l' h', fun X G C h => E_sl (ha X G C h) (hl X G C h) (hh X G C h)⟩
      | _, _ => none
    | .Slice none none (some (.UnaryOp .USub (.Constant (.int i) k p1) p2)) p3 => if hi : i = 1 then some ⟨.rev a', fun X G C h => by subst hi; exact E_rev (ha X G C h)⟩ else none
    | b => if hs : notSlice b = true then match r.cE cfg b with
        | some ⟨b', hb⟩ => some ⟨.idx a' b', fun X G C h => E_idx h.hu1 (ha X G C h) (hb X G C h) (plain_ix hs)⟩
        | none => none
      else none
/-! ### generator expressions -/
def gkFind (x : Str) : Option {k : GK // x = gkName k} :=
  if h : x = "all" then some ⟨.all, h⟩ else if h : x = "any" then some ⟨.any, h⟩ else if h : x = "tuple" then some ⟨.tup, h⟩ else if h : x = "sorted" then some ⟨.srt, h⟩ else if h : x = "sum" then some ⟨.sum, h⟩ else none
def ownOf' (N : List Str) (scope : Scope) : List (Str × Nat) := scope.names.filterMap fun y => match y.2 with
  | .local => (find N y.1).map fun i => (y.1, i.1)
  | .cell => (find N y.1).map fun i => (y.1, i.1)
  | _ => none
def genC (N : List Str) (sc scope : Scope) (own : List (Str × Nat)) : Bool := blkC N sc scope own && (!scope.isCoroutine && (scope.names.all (fun y => y.2 != .cell) && scope.names.lookup (".0" : Str) == some NameKind.local))
theorem genOk_by {N : List Str} {sc scope : Scope} {own : List (Str × Nat)} (h : genC N sc scope own = true) : GOk N sc scope own := by
  simp only [genC, Bool.and_eq_true, List.all_eq_true, Bool.not_eq_true', beq_iff_eq, bne_iff_ne] at h
  exact ⟨blkOk_by h.1, h.2.1, fun y hy => h.2.2.1 y hy, h.2.2.2⟩
def notLst : Expr → Bool
  | .List _ _ => false
  | _ => true
theorem genFold_of {iter : Expr} {env : Env} (h : notSet iter = true ∧ notLst iter = true) : ∀ v, genFold iter env v = pure v := by
  intro v
  obtain ⟨h1, h2⟩ := h
  have e : genFold iter env v = foldedSetIterable iter env v := by cases iter <;> first | rfl | simp [notLst] at h2
  rw [e]; exact folded_of h1 v
structure Gc (cfg : Cfg) (elt tg iter : Expr) (ifs : List Expr) (scope : Scope) where
  own : List (Str × Nat)
  elt' : E
  t : Tg
  it : CL.It
  c : OT
  lv : cfg.lv = 1
  ok : genC cfg.N cfg.sc scope own = true
  hi : ∀ X G C, Hyp cfg X G C → OkI X G C tg iter it
  hg : ∀ X G C, Hyp (genCfg cfg scope) X G C → OkG X G C tg t
  ht : ∀ X G C, Hyp (genCfg cfg scope) X G C → PTs X ifs (tC X.K G C c)
  he : ∀ X G C, Hyp (genCfg cfg scope) X G C → OkE X G C elt elt'
  hs : notSet iter = true ∧ notLst iter = true
  sub : ∀ i ∈ t.slots, i ∈ own.map (·.2)
def cGc (r : Cv) (cfg : Cfg) (elt tg iter : Expr) (ifs : List Expr) (scope : Scope) : Option (Gc cfg elt tg iter ifs scope) :=
  if ok : cfg.lv = 1 ∧ genC cfg.N cfg.sc scope (ownOf' cfg.N scope) = true ∧ notSet iter = true ∧ notLst iter = true then
    match r.cI cfg tg iter, r.cG (genCfg cfg scope) tg, cC r (genCfg cfg scope) ifs, r.cE (genCfg cfg scope) elt with
    | some ⟨it, hi⟩, some ⟨t, hg⟩, some ⟨c, ht⟩, some ⟨elt', he⟩ => if sub : ∀ i ∈ t.slots, i ∈ (ownOf' cfg.N scope).map (·.2) then some ⟨ownOf' cfg.N scope, elt', t, it, c, ok.1, ok.2.1, hi, hg, ht, he, ok.2.2, sub⟩ else none
    | _, _, _, _ => none
  else none
theorem Gc.ev {cfg : Cfg} {elt tg iter : Expr} {ifs : List Expr} {scope : Scope} {X : Cx} {G : Gp} {C : Cl} {gpos p pos : Pos} (k : GK) (L : Gc cfg elt tg iter ifs scope) (h : Hyp cfg X G C) (hg : cfg.sc.names.lookup (gkName k) = some .globalImplicit) (hb : gkName k ∈ cfg.blts) :
    OkE X G C (.Call (.Name (gkName k) p) [.GeneratorExp elt [⟨tg, iter, ifs, 0⟩] scope gpos] [] pos) (.gen k (L.own.map (·.2)) L.elt' L.t L.it L.c) := by
  obtain ⟨c, P, h1, h2, h3⟩ := h.gen L.lv
  have ok : GOk X.N X.env.scope scope L.own := by rw [h.N, h.sc]; exact genOk_by L.ok
  have gx := fun s H code fp po => h.inGen L.lv ok.blk.kind s H code fp po
  exact E_gen h.hu k ⟨h.hd, by have := h.dp; omega, h.nd, h2, h1, ok⟩ h3 (h.gl hg) (h.blt _ hb) (L.hi X G C h) (fun s H code fp po => L.hg _ G C (gx s H code fp po)) (fun s H code fp po => L.ht _ G C (gx s H code fp po)) (fun s H code fp po => L.he _ G C (gx s H code fp po)) (genFold_of L.hs) L.sub
/-- the name that is walked as a dict -/
def lockOf (cfg : Cfg) : Expr → Option Nat
  | .Name x p => if p.line ∈ cfg.lk then (find cfg.N x).map (·.1) else none
  | .Call (.Attribute (.Name x p) m _) [] [] _ => if m = "items" ∨ m = "values" then (find cfg.N x).map (·.1) else none
  | _ => none
def lockE {cfg : Cfg} {e : Expr} (o : Option Nat) (r : PE' cfg e) : PE' cfg e := match o with
  | none => r
  | some i => ⟨.lock i r.1, fun X G C h => E_lock (r.2 X G C h)⟩
def cGen (r : Cv) (cfg : Cfg) (x : Str) (p : Pos) (elt : Expr) (gens : List Comprehension) (scope : Scope) (gpos pos : Pos) : Option (PE' cfg (.Call (.Name x p) [.GeneratorExp elt gens scope gpos] [] pos)) := match gkFind x, gens with
  | some ⟨k, hk⟩, [⟨tg, iter, ifs, a⟩] => if h0 : a = 0 ∧ cfg.sc.names.lookup x = some .globalImplicit ∧ x ∈ cfg.blts then match cGc r cfg elt tg iter ifs scope with
      | some L => some (lockE (lockOf cfg iter) ⟨.gen k (L.own.map (·.2)) L.elt' L.t L.it L.c, fun X G C h => by obtain ⟨rfl, h1, h2⟩ := h0; subst hk; exact L.ev k h h1 h2⟩)
      | none => none
    else none
  | _, _ => none
def cCallN (r : Cv) (cfg : Cfg) (x : Str) (p : Pos) (args : List Expr) (pos : Pos) : Option (PE' cfg (.Call (.Name x p) args [] pos)) :=
  if hd : (x == ("__debug__" : Str)) = false then
    if hg : cfg.sc.names.lookup x = some .globalImplicit then
      match find cfg.defs x with
      | some ⟨f, hf⟩ => match args with
        | [] => some ⟨.call f [], fun X G C h => let ⟨k, fa, fd, ps, F, hr, hm, hk, hb⟩ := h.fns f x hf; E_call0 F hr (h.gl hg) hm hk hb hd⟩
        | e :: es => if hs : (e :: es).all noStar = true then match cEs r cfg (e :: es) with
            | some ⟨es', _, ha⟩ => some ⟨.call f es', fun X G C h => let ⟨k, fa, fd, ps, F, hr, hm, hk, hb⟩ := h.fns f x hf; E_call F hr (h.gl hg) hm hk hb (ha X G C h) hs hd⟩
            | none => none
          else none
      | none => if hb : x ∈ cfg.blts then match bltFind x with
          | some ⟨b, ok⟩ => match args with
            | [] => none
            | e :: es => if hs : (e :: es).all noStar = true then match cEs r cfg (e :: es) with
                | some ⟨es', _, ha⟩ => some ⟨.blt b es', fun X G C h => by
                    rcases ok.ok X h.calm h.hu with ⟨id, c, e⟩ | ⟨T, c, e⟩
                    · exact E_bltF c (h.gl hg) (h.blt x hb) e (ha X G C h) hs ok.nm ok.dbg
                    · exact E_bltT c (h.gl hg) (h.blt x hb) e (ha X G C h) hs ok.nm ok.dbg⟩
                | none => none
              else none
          | none => if hx : x = "isinstance" then match args with
              | [a, .Name t p2] => if hg2 : cfg.sc.names.lookup t = some .globalImplicit then if hb2 : t ∈ cfg.blts then if hs : noStar a = true then match tyFind t, r.cE cfg a with
                  | some ⟨t', ok⟩, some ⟨a', ha⟩ => some ⟨.isi a' t', fun X G C h => by subst hx; exact E_isi (ha X G C h) hs (h.gl hg) (h.blt _ hb) (h.gl hg2) (h.blt _ hb2) ok.ok ok.nm ok.dbg⟩
                  | _, _ => none
                else none else none else none
              | _ => none
            else none
        else none
    else none
  else none
def cCallM (r : Cv) (cfg : Cfg) (o : Expr) (m : Str) (ap : Pos) (args : List Expr) (pos : Pos) : Option (PE' cfg (.Call (.Attribute o m ap) args [] pos)) :=
  if h0 : notCall0 o = true ∧ (ap.endLine == pos.line) = true then match mthFind m args.length, r.cE cfg o with
    | some ⟨m', hm⟩, some ⟨o', ho⟩ => match args with
      | [] => some ⟨.mth m' o' [], fun X G C h => by subst hm; exact E_mth0 h.hu1 (ho X G C h) h0.1 h0.2⟩
      | e :: es => if hs : (e :: es).all noStar = true ∧ (e :: es).length < 20 then match cEs r cfg (e :: es) with
          | some ⟨es', _, ha⟩ => some ⟨.mth m' o' es', fun X G C h => by subst hm; exact E_mth h.hu1 (ho X G C h) (ha X G C h) hs.1 h0.1 h0.2 hs.2⟩
          | none => none
        else none
    | _, _ => none
  else none
/-- sorted(set(xs)) -/
def cSset (r : Cv) (cfg : Cfg) (x : Str) (p : Pos) (y : Str) (p2 : Pos) (a : Expr) (q pos : Pos) : Option (PE' cfg (.Call (.Name x p) [.Call (.Name y p2) [a] [] q] [] pos)) :=
  if h : (x = "sorted" ∧ y = "set" ∧ noStar a = true) ∧ (cfg.sc.names.lookup x = some .globalImplicit ∧ x ∈ cfg.blts) ∧ cfg.sc.names.lookup y = some .globalImplicit ∧ y ∈ cfg.blts then match r.cE cfg a with
    | some ⟨a', ha⟩ => some ⟨.blt .sset [a'], fun X G C H => by
        obtain ⟨⟨rfl, rfl, hs⟩, ⟨h1, h2⟩, h3, h4⟩ := h
        exact E_sset H.calm (ha X G C H) hs (H.gl h1) (H.blt _ h2) (H.gl h3) (H.blt _ h4)⟩
    | none => none
  else none
/-- tuple(range(n)) -/
def cTrng (r : Cv) (cfg : Cfg) (x : Str) (p : Pos) (y : Str) (p2 : Pos) (a : Expr) (q pos : Pos) : Option (PE' cfg (.Call (.Name x p) [.Call (.Name y p2) [a] [] q] [] pos)) :=
  if h : (x = "tuple" ∧ y = "range" ∧ noStar a = true) ∧ (cfg.sc.names.lookup x = some .globalImplicit ∧ x ∈ cfg.blts) ∧ cfg.sc.names.lookup y = some .globalImplicit ∧ y ∈ cfg.blts then match r.cE cfg a with
    | some ⟨a', ha⟩ => some ⟨.blt .trng [a'], fun X G C H => by
        obtain ⟨⟨rfl, rfl, hs⟩, ⟨h1, h2⟩, h3, h4⟩ := h
        exact E_trng H.calm (ha X G C H) hs (H.gl h1) (H.blt _ h2) (H.gl h3) (H.blt _ h4)⟩
    | none => none
  else none
/-- sorted(d.items()) -/
def cSit (r : Cv) (cfg : Cfg) (x : Str) (p : Pos) (a : Expr) (m : Str) (ap q pos : Pos) : Option (PE' cfg (.Call (.Name x p) [.Call (.Attribute a m ap) [] [] q] [] pos)) :=
  if h : (x = "sorted" ∧ m = "items") ∧ (notCall0 a = true ∧ (ap.endLine == q.line) = true) ∧ cfg.sc.names.lookup x = some .globalImplicit ∧ x ∈ cfg.blts then match r.cE cfg a with
    | some ⟨a', ha⟩ => some ⟨.blt .sitems [a'], fun X G C H => by
        obtain ⟨⟨rfl, rfl⟩, ⟨h1, h2⟩, h3, h4⟩ := h
        exact E_sitems H.calm H.hu (ha X G C H) h1 h2 (H.gl h3) (H.blt _ h4)⟩
    | none => none
  else none
def cCall (r : Cv) (cfg : Cfg) (f : Expr) (args : List Expr) (kws : List Keyword) (pos : Pos) : Option (PE' cfg (.Call f args kws pos)) := match f, kws with
  | .Name x p, [] => match args with
    | [.GeneratorExp elt gens scope gpos] => cGen r cfg x p elt gens scope gpos pos
    | [.Call (.Name y p2) [a] [] q] => match cSset r cfg x p y p2 a q pos with
      | some z => some z
      | none => match cTrng r cfg x p y p2 a q pos with
        | some z => some z
        | none => cCallN r cfg x p [.Call (.Name y p2) [a] [] q] pos
    | [.Call (.Attribute a m ap) [] [] q] => match cSit r cfg x p a m ap q pos with
      | some z => some z
      | none => cCallN r cfg x p [.Call (.Attribute a m ap) [] [] q] pos
    | args => cCallN r cfg x p args pos
  | .Attribute o m ap, [] => cCallM r cfg o m ap args pos
  | _, _ => none

/-! ### comprehensions -/
structure Lc (cfg : Cfg) (elt tg iter : Expr) (ifs : List Expr) (scope : Scope) where
  own : List (Str × Nat)
  elt' : E
  t : Tg
  it : CL.It
  c : OT
  ok : blkC cfg.N cfg.sc scope own = true
  hi : ∀ X G C, Hyp cfg X G C → OkI X G C tg iter it
  hg : ∀ X G C, Hyp (blkCfg cfg scope) X G C → OkG X G C tg t
  ht : ∀ X G C, Hyp (blkCfg cfg scope) X G C → PTs X ifs (tC X.K G C c)
  he : ∀ X G C, Hyp (blkCfg cfg scope) X G C → OkE X G C elt elt'
  hs : notSet iter = true
  sub : ∀ i ∈ t.slots, i ∈ own.map (·.2)
def cLc (r : Cv) (cfg : Cfg) (elt tg iter : Expr) (ifs : List Expr) (scope : Scope) : Option (Lc cfg elt tg iter ifs scope) :=
  if ok : blkC cfg.N cfg.sc scope (ownOf' cfg.N scope) = true ∧ notSet iter = true then
    match r.cI cfg tg iter, r.cG (blkCfg cfg scope) tg, cC r (blkCfg cfg scope) ifs, r.cE (blkCfg cfg scope) elt with
    | some ⟨it, hi⟩, some ⟨t, hg⟩, some ⟨c, ht⟩, some ⟨elt', he⟩ => if sub : ∀ i ∈ t.slots, i ∈ (ownOf' cfg.N scope).map (·.2) then some ⟨ownOf' cfg.N scope, elt', t, it, c, ok.1, hi, hg, ht, he, ok.2, sub⟩ else none
    | _, _, _, _ => none
  else none
structure Lc2 (cfg : Cfg) (elt tg iter : Expr) (ifs : List Expr) (tg1 iter1 : Expr) (ifs1 : List Expr) (scope : Scope) where
  own : List (Str × Nat)
  elt' : E
  t : Tg
  it : CL.It
  c : OT
  t1 : Tg
  it1 : CL.It
  c1 : OT
  ok : blkC cfg.N cfg.sc scope own = true
  hi : ∀ X G C, Hyp cfg X G C → OkI X G C tg iter it
  hg : ∀ X G C, Hyp (blkCfg cfg scope) X G C → OkG X G C tg t
  ht : ∀ X G C, Hyp (blkCfg cfg scope) X G C → PTs X ifs (tC X.K G C c)
  hi1 : ∀ X G C, Hyp (blkCfg cfg scope) X G C → OkI X G C tg1 iter1 it1
  hg1 : ∀ X G C, Hyp (blkCfg cfg scope) X G C → OkG X G C tg1 t1
  ht1 : ∀ X G C, Hyp (blkCfg cfg scope) X G C → PTs X ifs1 (tC X.K G C c1)
  he : ∀ X G C, Hyp (blkCfg cfg scope) X G C → OkE X G C elt elt'
  hs : notSet iter = true
  hs1 : notSet iter1 = true
  sub : ∀ i ∈ t.slots, i ∈ own.map (·.2)
  sub1 : ∀ i ∈ t1.slots, i ∈ own.map (·.2)
def cLc2 (r : Cv) (cfg : Cfg) (elt tg iter : Expr) (ifs : List Expr) (tg1 iter1 : Expr) (ifs1 : List Expr) (scope : Scope) : Option (Lc2 cfg elt tg iter ifs tg1 iter1 ifs1 scope) :=
  if ok : blkC cfg.N cfg.sc scope (ownOf' cfg.N scope) = true ∧ notSet iter = true ∧ notSet iter1 = true then
    match r.cI cfg tg iter, r.cG (blkCfg cfg scope) tg, cC r (blkCfg cfg scope) ifs, r.cE (blkCfg cfg scope) elt with
    | some ⟨it, hi⟩, some ⟨t, hg⟩, some ⟨c, ht⟩, some ⟨elt', he⟩ => match r.cI (blkCfg cfg scope) tg1 iter1, r.cG (blkCfg cfg scope) tg1, cC r (blkCfg cfg scope) ifs1 with
      | some ⟨it1, hi1⟩, some ⟨t1, hg1⟩, some ⟨c1, ht1⟩ => if sub : (∀ i ∈ t.slots, i ∈ (ownOf' cfg.N scope).map (·.2)) ∧ (∀ i ∈ t1.slots, i ∈ (ownOf' cfg.N scope).map (·.2)) then
          some ⟨ownOf' cfg.N scope, elt', t, it, c, t1, it1, c1, ok.1, hi, hg, ht, hi1, hg1, ht1, he, ok.2.1, ok.2.2, sub.1, sub.2⟩ else none
      | _, _, _ => none
    | _, _, _, _ => none
  else none
theorem blk_kind {N : List Str} {sc scope : Scope} {own : List (Str × Nat)} (h : blkC N sc scope own = true) : scope.kind = .function := (blkOk_by h).kind
section
variable {cfg : Cfg} {elt tg iter tg1 iter1 : Expr} {ifs ifs1 : List Expr} {scope : Scope} {pos : Pos} {X : Cx} {G : Gp} {C : Cl}
theorem Lc.blk (L : Lc cfg elt tg iter ifs scope) (h : Hyp cfg X G C) : BlkOk X.N X.env.scope scope L.own := by rw [h.N, h.sc]; exact blkOk_by L.ok
theorem Lc2.blk (L : Lc2 cfg elt tg iter ifs tg1 iter1 ifs1 scope) (h : Hyp cfg X G C) : BlkOk X.N X.env.scope scope L.own := by rw [h.N, h.sc]; exact blkOk_by L.ok
theorem Lc.ev (L : Lc cfg elt tg iter ifs scope) (h : Hyp cfg X G C) : OkE X G C (.ListComp elt [⟨tg, iter, ifs, 0⟩] scope pos) (.lc (L.own.map (·.2)) L.elt' L.t L.it L.c) :=
  E_lc h.calm h.nd (L.hi X G C h) (L.blk h) (fun s H Ca cl fp => L.hg _ G C (h.blk (blk_kind L.ok) s H Ca cl fp)) (fun s H Ca cl fp => L.ht _ G C (h.blk (blk_kind L.ok) s H Ca cl fp)) (fun s H Ca cl fp => L.he _ G C (h.blk (blk_kind L.ok) s H Ca cl fp)) (folded_of L.hs) L.sub
theorem Lc2.ev (L : Lc2 cfg elt tg iter ifs tg1 iter1 ifs1 scope) (h : Hyp cfg X G C) : OkE X G C (.ListComp elt [⟨tg, iter, ifs, 0⟩, ⟨tg1, iter1, ifs1, 0⟩] scope pos) (.lc2 (L.own.map (·.2)) L.t1.slots L.elt' L.t L.it L.c L.t1 L.it1 L.c1) :=
  E_lc2 h.calm h.nd (L.hi X G C h) (L.blk h) L.sub1 (fun s H Ca cl fp => L.hg _ G C (h.blk (blk_kind L.ok) s H Ca cl fp)) (fun s H Ca cl fp => L.ht _ G C (h.blk (blk_kind L.ok) s H Ca cl fp)) (fun s H Ca cl fp => L.hi1 _ G C (h.blk (blk_kind L.ok) s H Ca cl fp))
    (fun s H Ca cl fp => L.hg1 _ G C (h.blk (blk_kind L.ok) s H Ca cl fp)) (fun s H Ca cl fp => L.ht1 _ G C (h.blk (blk_kind L.ok) s H Ca cl fp)) (fun s H Ca cl fp => L.he _ G C (h.blk (blk_kind L.ok) s H Ca cl fp)) (folded_of L.hs) (fun env => folded_of L.hs1) L.sub (fun _ h => h)
theorem Lc.st (L : Lc cfg elt tg iter ifs scope) (h : Hyp cfg X G C) {i : Nat} {y : Str} {py spos : Pos} (hy : cfg.N[i]? = some y) (hyl : cfg.sc.names.lookup y = some .local) (hl : (py.line == pos.line) = true) (ha : (scope.names.any fun (n, k) => n == y && (k == .local || k == .cell)) = false) :
    OkS X G C (.Assign [.Name y py] (.ListComp elt [⟨tg, iter, ifs, 0⟩] scope pos) spos) (.asg (.nm i) (.lc (L.own.map (·.2)) L.elt' L.t L.it L.c)) :=
  S_setLc h.calm h.nd (by rw [h.N]; exact hy) (h.lk hyl) (sw_true h.kind (h.lk hyl) hl ha) (L.hi X G C h) (L.blk h) (fun s H Ca cl fp => L.hg _ G C (h.blk (blk_kind L.ok) s H Ca cl fp)) (fun s H Ca cl fp => L.ht _ G C (h.blk (blk_kind L.ok) s H Ca cl fp)) (fun s H Ca cl fp => L.he _ G C (h.blk (blk_kind L.ok) s H Ca cl fp)) (folded_of L.hs) L.sub
theorem Lc2.st (L : Lc2 cfg elt tg iter ifs tg1 iter1 ifs1 scope) (h : Hyp cfg X G C) {i : Nat} {y : Str} {py spos : Pos} (hy : cfg.N[i]? = some y) (hyl : cfg.sc.names.lookup y = some .local) (hl : (py.line == pos.line) = true) (ha : (scope.names.any fun (n, k) => n == y && (k == .local || k == .cell)) = false) :
    OkS X G C (.Assign [.Name y py] (.ListComp elt [⟨tg, iter, ifs, 0⟩, ⟨tg1, iter1, ifs1, 0⟩] scope pos) spos) (.asg (.nm i) (.lc2 (L.own.map (·.2)) L.t1.slots L.elt' L.t L.it L.c L.t1 L.it1 L.c1)) :=
  S_setLc2 h.calm h.nd (by rw [h.N]; exact hy) (h.lk hyl) (sw_true h.kind (h.lk hyl) hl ha) (L.hi X G C h) (L.blk h) L.sub1 (fun s H Ca cl fp => L.hg _ G C (h.blk (blk_kind L.ok) s H Ca cl fp)) (fun s H Ca cl fp => L.ht _ G C (h.blk (blk_kind L.ok) s H Ca cl fp)) (fun s H Ca cl fp => L.hi1 _ G C (h.blk (blk_kind L.ok) s H Ca cl fp))
    (fun s H Ca cl fp => L.hg1 _ G C (h.blk (blk_kind L.ok) s H Ca cl fp)) (fun s H Ca cl fp => L.ht1 _ G C (h.blk (blk_kind L.ok) s H Ca cl fp)) (fun s H Ca cl fp => L.he _ G C (h.blk (blk_kind L.ok) s H Ca cl fp)) (folded_of L.hs) (fun env => folded_of L.hs1) L.sub (fun _ h => h)
end
def lockS {cfg : Cfg} {e : Stmt} (o : Option Nat) (r : PS' cfg e) : PS' cfg e := match o with
  | none => r
  | some i => ⟨.lock i r.1, fun X G C h => S_lock (r.2 X G C h)⟩
def cComp (r : Cv) (cfg : Cfg) (elt : Expr) (gens : List Comprehension) (scope : Scope) (pos : Pos) : Option (PE' cfg (.ListComp elt gens scope pos)) := match gens with
  | [⟨tg, iter, ifs, a⟩] => if h0 : a = 0 then match cLc r cfg elt tg iter ifs scope with
      | some L => some (lockE (lockOf cfg iter) ⟨.lc (L.own.map (·.2)) L.elt' L.t L.it L.c, fun X G C h => by subst h0; exact L.ev h⟩)
      | none => none
    else none
  | [⟨tg, iter, ifs, a⟩, ⟨tg1, iter1, ifs1, a1⟩] => if h0 : a = 0 ∧ a1 = 0 then match cLc2 r cfg elt tg iter ifs tg1 iter1 ifs1 scope with
      | some L => some (lockE (lockOf cfg iter) ⟨.lc2 (L.own.map (·.2)) L.t1.slots L.elt' L.t L.it L.c L.t1 L.it1 L.c1, fun X G C h => by obtain ⟨rfl, rfl⟩ := h0; exact L.ev h⟩)
      | none => none
    else none
  | _ => none

/-! ### one level -/
def stepE (r : Cv) (cfg : Cfg) (e : Expr) : Option (PE' cfg e) := match e with
  | .Name x p => cName cfg x p
  | .Constant c k p => cConst cfg c k p
  | .Tuple es k p => match cEs r cfg es with
    | some ⟨es', _, h⟩ => if hc : es'.length ≤ 1000 then some ⟨.tup es', fun X G C hh => E_tup (h X G C hh) hc⟩ else none
    | none => none
  | .List es p => match cEs r cfg es with
    | some ⟨es', _, h⟩ => if hc : es'.length ≤ 1000 then some ⟨.lst es', fun X G C hh => E_lst (h X G C hh) hc⟩ else none
    | none => none
  | .Dict ks vs p => cDict r cfg ks vs p
  | .BinOp a op b p => match bopFind op, r.cE cfg a, r.cE cfg b with
    | some ⟨o, ho⟩, some ⟨a', ha⟩, some ⟨b', hb⟩ => some ⟨.bin o a' b', fun X G C h => by subst ho; exact E_bin o (ha X G C h) (hb X G C h)⟩
    | _, _, _ => none
  | .UnaryOp op a p => match op, r.cE cfg a with
    | .USub, some ⟨a', ha⟩ => some ⟨.neg a', fun X G C h => E_neg (ha X G C h)⟩
    | .Not, some ⟨a', ha⟩ => some ⟨.not a', fun X G C h => E_not (ha X G C h)⟩
    | _, _ => none
  | .Compare a ops es p => cCmp r cfg a ops es p
  | .BoolOp op es p => cB r cfg op p es
  | .IfExp c a b p => match r.cT cfg c, r.cE cfg a, r.cE cfg b with
    | some ⟨c', hc⟩, some ⟨a', ha⟩, some ⟨b', hb⟩ => some ⟨.ite c' a' b', fun X G C h => E_ite (hc X G C h) (ha X G C h) (hb X G C h)⟩
    | _, _, _ => none
  | .Subscript a b p => cSub r cfg a b p
  | .Call f args kws p => cCall r cfg f args kws p
  | .ListComp elt gens scope p => cComp r cfg elt gens scope p
  | _ => none
def stepT (r : Cv) (cfg : Cfg) (e : Expr) : Option (PT' cfg e) := match e with
  | .UnaryOp .Not a p => match r.cT cfg a with
    | some ⟨a', ha⟩ => some ⟨.not a', fun X G C h => T_not (ha X G C h)⟩
    | none => none
  | .BoolOp op es p => match cW r cfg op p es with
    | some ⟨a', ha⟩ => some ⟨a', fun X G C h => (ha X G C h).pt⟩
    | none => none
  | .IfExp c a b p => match r.cT cfg c, r.cT cfg a, r.cT cfg b with
    | some ⟨c', hc⟩, some ⟨a', ha⟩, some ⟨b', hb⟩ => some ⟨.ite c' a' b', fun X G C h => T_ite (hc X G C h) (ha X G C h) (hb X G C h)⟩
    | _, _, _ => none
  | .Compare a ops es p => cCmpT r cfg a ops es p
  | e => if ht : notTest e = true then match r.cE cfg e with
      | some ⟨e', he⟩ => some ⟨.tru e', fun X G C h => T_tru (he X G C h) (isTrue_of ht)⟩
      | none => none
    else none
def stepG (r : Cv) (cfg : Cfg) (e : Expr) : Option (PG' cfg e) := match e with
  | .Name x p => match find cfg.N x with
    | some ⟨i, hi⟩ => if hl : Loc cfg.sc x ∧ (cfg.fn x = true ∨ cfg.sc.names.lookup x = some .local) then
        some ⟨.nm i, fun X G C h => G_nm h.nd (by rw [h.N]; exact hi) (by rw [h.sc]; exact hl.1) (hl.2.imp (h.fn x) h.lk)⟩
      else none
    | none => none
  | .Tuple es k p => if hs : es.all noStar = true then match cGs r cfg es with
      | some ⟨ts, hl, h⟩ => some ⟨.tp ts, fun X G C hh => G_tp hh.calm (h X G C hh) hs hl.symm⟩
      | none => none
    else none
  | .Subscript a b p => if hs : notSlice b = true then match r.cE cfg a, r.cE cfg b with
      | some ⟨a', ha⟩, some ⟨b', hb⟩ => some ⟨.ix a' b', fun X G C h => G_ix h.hu1 (ha X G C h) (hb X G C h) (asg_sub hs)⟩
      | _, _ => none
    else none
  | _ => none
def cAny (r : Cv) (cfg : Cfg) (tg e : Expr) : Option (PI' cfg tg e) := match r.cE cfg e with
  | some ⟨e', h⟩ => some ⟨.any e', fun X G C hh => I_any (h X G C hh)⟩
  | none => none
def cItC (r : Cv) (cfg : Cfg) (tg : Expr) (x : Str) (p : Pos) (args : List Expr) (pos : Pos) : Option (PI' cfg tg (.Call (.Name x p) args [] pos)) :=
  if hg : cfg.sc.names.lookup x = some .globalImplicit ∧ x ∈ cfg.blts then
    if hx : x = "range" then match args with
      | [a] => if hs : noStar a = true then match r.cE cfg a with
          | some ⟨a', ha⟩ => some ⟨.rng [a'], fun X G C h => by subst hx; exact I_rng1 (ha X G C h) hs (h.gl hg.1) (h.blt _ hg.2)⟩
          | none => none
        else none
      | [a, b] => if hs : noStar a = true ∧ noStar b = true then match r.cE cfg a, r.cE cfg b with
          | some ⟨a', ha⟩, some ⟨b', hb⟩ => some ⟨.rng [a', b'], fun X G C h => by subst hx; exact I_rng2 (ha X G C h) hs.1 (hb X G C h) hs.2 (h.gl hg.1) (h.blt _ hg.2)⟩
          | _, _ => none
        else none
      | _ => none
    else if hx : x = "enumerate" then match tg, args with
      | .Tuple elts k tp, [a] => if hs : noStar a = true then match r.cE cfg a with
          | some ⟨a', ha⟩ => some ⟨.enm a', fun X G C h => by subst hx; exact I_enm (ha X G C h) hs (h.gl hg.1) (h.blt _ hg.2)⟩
          | none => none
        else none
      | _, _ => none
    else if hx : x = "zip" then match tg, args with
      | .Tuple elts k tp, [a, b] => if hs : noStar a = true ∧ noStar b = true then match r.cE cfg a, r.cE cfg b with
          | some ⟨a', ha⟩, some ⟨b', hb⟩ => some ⟨.zip a' b', fun X G C h => by subst hx; exact I_zip (ha X G C h) hs.1 (hb X G C h) hs.2 (h.gl hg.1) (h.blt _ hg.2)⟩
          | _, _ => none
        else none
      | _, _ => none
    else cAny r cfg tg (.Call (.Name x p) args [] pos)
  else cAny r cfg tg (.Call (.Name x p) args [] pos)
def cItM (r : Cv) (cfg : Cfg) (tg o : Expr) (m : Str) (ap pos : Pos) : Option (PI' cfg tg (.Call (.Attribute o m ap) [] [] pos)) :=
  if hx : m = "values" then if hs : notCall0 o = true ∧ (ap.endLine == pos.line) = true then match r.cE cfg o with
      | some ⟨o', ho⟩ => some ⟨.vals o', fun X G C h => by subst hx; exact I_vals (ho X G C h) hs.1 hs.2⟩
      | none => none
    else none
  else if hx : m = "items" then match tg with
    | .Tuple elts k tp => if hs : notCall0 o = true ∧ (ap.endLine == pos.line) = true then match r.cE cfg o with
        | some ⟨o', ho⟩ => some ⟨.items o', fun X G C h => by subst hx; exact I_items (ho X G C h) hs.1 hs.2⟩
        | none => none
      else none
    | _ => none
  else none
def stepI (r : Cv) (cfg : Cfg) (tg e : Expr) : Option (PI' cfg tg e) := match e with
  | .Call (.Name x p) args [] pos => cItC r cfg tg x p args pos
  | .Call (.Attribute o m ap) [] [] pos => cItM r cfg tg o m ap pos
  | e => cAny r cfg tg e
def cAsg (r : Cv) (cfg : Cfg) (tg v : Expr) (pos : Pos) (hw : ∀ env : Env, env.scope = cfg.sc → env.scope.kind = .function → swappedStores [tg] v env = pure none) : Option (PS' cfg (.Assign [tg] v pos)) :=
  if hs : notComp v = true ∧ noStar tg = true then match r.cE cfg v, r.cG cfg tg with
    | some ⟨v', hv⟩, some ⟨t, ht⟩ => some ⟨.asg t v', fun X G C h => S_asg (hv X G C h) (ht X G C h) (swaps_plain hs.1) (hw X.env h.sc h.kind) hs.2⟩
    | _, _ => none
  else none
def cSetLc (r : Cv) (cfg : Cfg) (y : Str) (py : Pos) (elt : Expr) (gens : List Comprehension) (scope : Scope) (p spos : Pos) : Option (PS' cfg (.Assign [.Name y py] (.ListComp elt gens scope p) spos)) :=
  if hl : cfg.sc.names.lookup y = some .local ∧ (py.line == p.line) = true ∧ (scope.names.any fun (n, k) => n == y && (k == .local || k == .cell)) = false then match find cfg.N y with
    | some ⟨i, hi⟩ => match gens with
      | [⟨tg, iter, ifs, a⟩] => if h0 : a = 0 then match cLc r cfg elt tg iter ifs scope with
          | some L => some (lockS (lockOf cfg iter) ⟨.asg (.nm i) (.lc (L.own.map (·.2)) L.elt' L.t L.it L.c), fun X G C h => by subst h0; exact L.st h hi hl.1 hl.2.1 hl.2.2⟩)
          | none => none
        else none
      | [⟨tg, iter, ifs, a⟩, ⟨tg1, iter1, ifs1, a1⟩] => if h0 : a = 0 ∧ a1 = 0 then match cLc2 r cfg elt tg iter ifs tg1 iter1 ifs1 scope with
          | some L => some (lockS (lockOf cfg iter) ⟨.asg (.nm i) (.lc2 (L.own.map (·.2)) L.t1.slots L.elt' L.t L.it L.c L.t1 L.it1 L.c1), fun X G C h => by obtain ⟨rfl, rfl⟩ := h0; exact L.st h hi hl.1 hl.2.1 hl.2.2⟩)
          | none => none
        else none
      | _ => none
    | none => none
  else none
theorem sw_cell {elt : Expr} {gs : List Comprehension} {scope : Scope} {pos py : Pos} {y : Str} {l : Nat} {env : Env} (hy : env.scope.names.lookup y = some .cell) : swapsWithSole [.Name y py] (.ListComp elt gs scope pos) l env = pure false := by
  unfold swapsWithSole swapsWith Env.kindOf
  have h0 : (NameKind.cell == NameKind.local) = false := rfl
  simp [hy, h0]
def cSetCell (r : Cv) (cfg : Cfg) (y : Str) (py : Pos) (elt : Expr) (gens : List Comprehension) (scope : Scope) (p spos : Pos) : Option (PS' cfg (.Assign [.Name y py] (.ListComp elt gens scope p) spos)) :=
  if hl : cfg.sc.names.lookup y = some .cell then match cComp r cfg elt gens scope p, r.cG cfg (.Name y py) with
    | some ⟨v', hv⟩, some ⟨t, ht⟩ => some ⟨.asg t v', fun X G C h => S_asg (hv X G C h) (ht X G C h) (sw_cell (h.lk hl)) (swapped_plain (.inl rfl)) rfl⟩
    | _, _ => none
  else none
def cPar (r : Cv) (cfg : Cfg) (ts vs : List Expr) (kt : Nat) (pt : Pos) (k2 : Nat) (pt2 pos : Pos) (names : List Str) (hsw : swC cfg.sc ts vs = some (some names)) : Option (PS' cfg (.Assign [.Tuple ts kt pt] (.Tuple vs k2 pt2) pos)) := match ts, vs with
  | [.Name x px, .Name y py], [a, b] => match find cfg.N x, find cfg.N y, r.cE cfg a, r.cE cfg b with
    | some ⟨i, hi⟩, some ⟨j, hj⟩, some ⟨a', ha⟩, some ⟨b', hb⟩ => if hh : names = [x, y] ∧ i ≠ j ∧ cfg.sc.names.lookup x = some .local ∧ cfg.sc.names.lookup y = some .local ∧ noStar a = true ∧ noStar b = true then
        some ⟨.asg (.tp [.nm i, .nm j]) (.tup [a', b']), fun X G C h => by
          obtain ⟨rfl, h1, h2, h3, h4, h5⟩ := hh
          exact S_par h.calm h.nd (by rw [h.N]; exact hi) (by rw [h.N]; exact hj) h1 (h.lk h2) (h.lk h3) (ha X G C h) (hb X G C h) h4 h5 (swC_ok h.kind (by rw [h.sc]; exact hsw))⟩
      else none
    | _, _, _, _ => none
  | [.Name x px, .Name y py, .Name z pz], [a, b, c] => match find cfg.N x, find cfg.N y, find cfg.N z, r.cE cfg a, r.cE cfg b, r.cE cfg c with
    | some ⟨i, hi⟩, some ⟨j, hj⟩, some ⟨l, hl⟩, some ⟨a', ha⟩, some ⟨b', hb⟩, some ⟨c', hc⟩ => if hh : names = [x, y, z] ∧ (i ≠ j ∧ i ≠ l ∧ j ≠ l) ∧ cfg.sc.names.lookup x = some .local ∧ cfg.sc.names.lookup y = some .local ∧ cfg.sc.names.lookup z = some .local ∧ noStar a = true ∧ noStar b = true ∧ noStar c = true then
        some ⟨.asg (.tp [.nm i, .nm j, .nm l]) (.tup [a', b', c']), fun X G C h => by
          obtain ⟨rfl, h1, h2, h3, h3', h4, h5, h6⟩ := hh
          exact S_par3 h.calm h.nd (by rw [h.N]; exact hi) (by rw [h.N]; exact hj) (by rw [h.N]; exact hl) h1.1 h1.2.1 h1.2.2 (h.lk h2) (h.lk h3) (h.lk h3') (ha X G C h) (hb X G C h) (hc X G C h) h4 h5 h6 (swC_ok h.kind (by rw [h.sc]; exact hsw))⟩
      else none
    | _, _, _, _, _, _ => none
  | _, _ => none
def cAssign (r : Cv) (cfg : Cfg) (tg v : Expr) (pos : Pos) : Option (PS' cfg (.Assign [tg] v pos)) := match v with
  | .ListComp elt gens scope p => match tg with
    | .Name y py => match cSetLc r cfg y py elt gens scope p pos with
      | some x => some x
      | none => cSetCell r cfg y py elt gens scope p pos
    | _ => none
  | .Tuple vs k2 pt2 => match tg with
    | .Tuple ts kt pt => match hsw : swC cfg.sc ts vs with
      | some none => cAsg r cfg (.Tuple ts kt pt) (.Tuple vs k2 pt2) pos fun env he hk => swC_ok hk (by rw [he]; exact hsw)
      | some (some names) => cPar r cfg ts vs kt pt k2 pt2 pos names hsw
      | none => none
    | tg => if ht : notSeqT tg = true then cAsg r cfg tg (.Tuple vs k2 pt2) pos fun env he hk => swapped_plain (.inr ht) else none
  | v => if hv : notTup v = true then cAsg r cfg tg v pos fun env he hk => swapped_plain (.inl hv) else none
def cExpr (r : Cv) (cfg : Cfg) (e : Expr) (pos : Pos) : Option (PS' cfg (.Expr e pos)) := match e with
  | .Constant (.str x) j p => some ⟨.pas, fun _ _ _ _ => S_doc⟩
  | e => if hs : notComp e = true then match r.cE cfg e with
      | some ⟨e', he⟩ => some ⟨.exp e', fun X G C h => S_exp (he X G C h) (swaps_plain hs)⟩
      | none => none
    else none
def stepS (r : Cv) (cfg : Cfg) (s : Stmt) : Option (PS' cfg s) := match s with
  | .Return none p => some ⟨.retN, fun _ _ _ _ => S_retN⟩
  | .Return (some e) p => match r.cE cfg e with
    | some ⟨e', he⟩ => some ⟨.ret e', fun X G C h => S_ret (he X G C h)⟩
    | none => none
  | .Assign [tg] v p => cAssign r cfg tg v p
  | .AugAssign (.Name x px) op e p => match bopFind op, find cfg.N x, r.cE cfg e with
    | some ⟨o, ho⟩, some ⟨i, hi⟩, some ⟨e', he⟩ => if hl : Loc cfg.sc x ∧ (cfg.fn x = true ∨ cfg.sc.names.lookup x = some .local) then
        some ⟨.aug i o e', fun X G C h => by subst ho; exact S_aug o h.nd (by rw [h.N]; exact hi) (by rw [h.sc]; exact hl.1) (he X G C h) (hl.2.imp (h.fn x) h.lk)⟩
      else none
    | _, _, _ => none
  | .For tg iter body [] p => if hs : notSet iter = true then match r.cI cfg tg iter, r.cG cfg tg, cSs r cfg body with
      | some ⟨it, hi⟩, some ⟨t, ht⟩, some ⟨b, hb⟩ => some (lockS (lockOf cfg iter) ⟨.frr t it b, fun X G C h => S_for h.xe h.calm (hi X G C h) (ht X G C h) (hb X G C h) (folded_of hs)⟩)
      | _, _, _ => none
    else none
  | .While c body [] p => match r.cT cfg c, cSs r cfg body with
    | some ⟨c', hc⟩, some ⟨b, hb⟩ => some ⟨.whl c' b, fun X G C h => S_while h.xe (hc X G C h) (hb X G C h)⟩
    | _, _ => none
  | .If c a b p => match r.cT cfg c, cSs r cfg a, cSs r cfg b with
    | some ⟨c', hc⟩, some ⟨a', ha⟩, some ⟨b', hb⟩ => some ⟨.ifs c' a' b', fun X G C h => S_if (hc X G C h) (ha X G C h) (hb X G C h)⟩
    | _, _, _ => none
  | .Expr e p => cExpr r cfg e p
  | .Pass p => some ⟨.pas, fun _ _ _ _ => S_pas⟩
  | .Break p => some ⟨.brk, fun _ _ _ _ => S_brk⟩
  | .Continue p => some ⟨.cnt, fun _ _ _ _ => S_cnt⟩
  | _ => none
def cv : Nat → Cv
  | 0 => ⟨fun _ _ => none, fun _ _ => none, fun _ _ => none, fun _ _ _ => none, fun _ _ => none⟩
  | n + 1 => ⟨stepE (cv n), stepT (cv n), stepG (cv n), stepI (cv n), stepS (cv n)⟩
end CL

/-! CL12: terms of the small language compared (printed by gen/same.py). -/
namespace CL
mutual
def E.same : E → E → Bool
  | .var a0, .var b0 => decide (a0 = b0)
  | .lit a0, .lit b0 => decide (a0 = b0)
  | .glo a0, .glo b0 => decide (a0 = b0)
  | .tup a0, .tup b0 => E.sames a0 b0
  | .lst a0, .lst b0 => E.sames a0 b0
  | .dic a0, .dic b0 => Ps.same a0 b0
  | .bin a0 a1 a2, .bin b0 b1 b2 => decide (a0 = b0) && E.same a1 b1 && E.same a2 b2
  | .neg a0, .neg b0 => E.same a0 b0
  | .not a0, .not b0 => E.same a0 b0
  | .cmp a0 a1 a2, .cmp b0 b1 b2 => decide (a0 = b0) && E.same a1 b1 && E.same a2 b2
  | .chn a0 a1 a2 a3 a4, .chn b0 b1 b2 b3 b4 => decide (a0 = b0) && decide (a1 = b1) && E.same a2 b2 && E.same a3 b3 && E.same a4 b4
  | .and a0 a1, .and b0 b1 => E.same a0 b0 && E.same a1 b1
  | .or a0 a1, .or b0 b1 => E.same a0 b0 && E.same a1 b1
  | .ite a0 a1 a2, .ite b0 b1 b2 => Ts.same a0 b0 && E.same a1 b1 && E.same a2 b2
  | .idx a0 a1, .idx b0 b1 => E.same a0 b0 && E.same a1 b1
  | .sl a0 a1 a2, .sl b0 b1 b2 => E.same a0 b0 && OE.same a1 b1 && OE.same a2 b2
  | .rev a0, .rev b0 => E.same a0 b0
  | .call a0 a1, .call b0 b1 => decide (a0 = b0) && E.sames a1 b1
  | .blt a0 a1, .blt b0 b1 => decide (a0 = b0) && E.sames a1 b1
  | .mth a0 a1 a2, .mth b0 b1 b2 => decide (a0 = b0) && E.same a1 b1 && E.sames a2 b2
  | .isi a0 a1, .isi b0 b1 => E.same a0 b0 && decide (a1 = b1)
  | .lc a0 a1 a2 a3 a4, .lc b0 b1 b2 b3 b4 => decide (a0 = b0) && E.same a1 b1 && Tg.same a2 b2 && It.same a3 b3 && OT.same a4 b4
  | .lock a0 a1, .lock b0 b1 => decide (a0 = b0) && E.same a1 b1
  | .lc2 a0 a1 a2 a3 a4 a5 a6 a7 a8, .lc2 b0 b1 b2 b3 b4 b5 b6 b7 b8 => decide (a0 = b0) && decide (a1 = b1) && E.same a2 b2 && Tg.same a3 b3 && It.same a4 b4 && OT.same a5 b5 && Tg.same a6 b6 && It.same a7 b7 && OT.same a8 b8
  | .gen a0 a1 a2 a3 a4 a5, .gen b0 b1 b2 b3 b4 b5 => decide (a0 = b0) && decide (a1 = b1) && E.same a2 b2 && Tg.same a3 b3 && It.same a4 b4 && OT.same a5 b5
  | _, _ => false
def OE.same : OE → OE → Bool
  | .no , .no  => true
  | .yes a0, .yes b0 => E.same a0 b0
  | _, _ => false
def OT.same : OT → OT → Bool
  | .no , .no  => true
  | .yes a0, .yes b0 => Ts.same a0 b0
  | _, _ => false
def Ts.same : Ts → Ts → Bool
  | .tru a0, .tru b0 => E.same a0 b0
  | .not a0, .not b0 => Ts.same a0 b0
  | .and a0 a1, .and b0 b1 => Ts.same a0 b0 && Ts.same a1 b1
  | .or a0 a1, .or b0 b1 => Ts.same a0 b0 && Ts.same a1 b1
  | .cmp a0 a1 a2, .cmp b0 b1 b2 => decide (a0 = b0) && E.same a1 b1 && E.same a2 b2
  | .chn a0 a1 a2 a3 a4, .chn b0 b1 b2 b3 b4 => decide (a0 = b0) && decide (a1 = b1) && E.same a2 b2 && E.same a3 b3 && E.same a4 b4
  | .ite a0 a1 a2, .ite b0 b1 b2 => Ts.same a0 b0 && Ts.same a1 b1 && Ts.same a2 b2
  | _, _ => false
def Ps.same : Ps → Ps → Bool
  | .nil , .nil  => true
  | .cons a0 a1 a2, .cons b0 b1 b2 => E.same a0 b0 && E.same a1 b1 && Ps.same a2 b2
  | _, _ => false
def It.same : CL.It → CL.It → Bool
  | .rng a0, .rng b0 => E.sames a0 b0
  | .any a0, .any b0 => E.same a0 b0
  | .enm a0, .enm b0 => E.same a0 b0
  | .zip a0 a1, .zip b0 b1 => E.same a0 b0 && E.same a1 b1
  | .vals a0, .vals b0 => E.same a0 b0
  | .items a0, .items b0 => E.same a0 b0
  | _, _ => false
def Tg.same : Tg → Tg → Bool
  | .nm a0, .nm b0 => decide (a0 = b0)
  | .tp a0, .tp b0 => Tg.sames a0 b0
  | .ix a0 a1, .ix b0 b1 => E.same a0 b0 && E.same a1 b1
  | _, _ => false
def E.sames : List E → List E → Bool
  | [], [] => true
  | a :: r, b :: s => E.same a b && E.sames r s
  | _, _ => false
def Tg.sames : List Tg → List Tg → Bool
  | [], [] => true
  | a :: r, b :: s => Tg.same a b && Tg.sames r s
  | _, _ => false
end
mutual
theorem E.same_eq : ∀ (x y : E), E.same x y = true → x = y
  | .var a0, y, h => by
    cases y with
    | var b0 =>
      simp only [E.same, Bool.and_eq_true, decide_eq_true_eq] at h
      have h0 := h
      obtain rfl := h0
      rfl
    | _ => simp [E.same] at h
  | .lit a0, y, h => by
    cases y with
    | lit b0 =>
      simp only [E.same, Bool.and_eq_true, decide_eq_true_eq] at h
      have h0 := h
      obtain rfl := h0
      rfl
    | _ => simp [E.same] at h
  | .glo a0, y, h => by
    cases y with
    | glo b0 =>
      simp only [E.same, Bool.and_eq_true, decide_eq_true_eq] at h
      have h0 := h
      obtain rfl := h0
      rfl
    | _ => simp [E.same] at h
  | .tup a0, y, h => by
    cases y with
    | tup b0 =>
      simp only [E.same, Bool.and_eq_true, decide_eq_true_eq] at h
      have h0 := h
      obtain rfl := E.sames_eq _ _ h0
      rfl
    | _ => simp [E.same] at h
  | .lst a0, y, h => by
    cases y with
    | lst b0 =>
      simp only [E.same, Bool.and_eq_true, decide_eq_true_eq] at h
      have h0 := h
      obtain rfl := E.sames_eq _ _ h0
      rfl
    | _ => simp [E.same] at h
  | .dic a0, y, h => by
    cases y with
    | dic b0 =>
      simp only [E.same, Bool.and_eq_true, decide_eq_true_eq] at h
      have h0 := h
      obtain rfl := Ps.same_eq _ _ h0
      rfl
    | _ => simp [E.same] at h
  | .bin a0 a1 a2, y, h => by
    cases y with
    | bin b0 b1 b2 =>
      simp only [E.same, Bool.and_eq_true, decide_eq_true_eq] at h
      obtain ⟨⟨h0, h1⟩, h2⟩ := h
      obtain rfl := h0
      obtain rfl := E.same_eq _ _ h1
      obtain rfl := E.same_eq _ _ h2
      rfl
    | _ => simp [E.same] at h
  | .neg a0, y, h => by
    cases y with
    | neg b0 =>
      simp only [E.same, Bool.and_eq_true, decide_eq_true_eq] at h
      have h0 := h
      obtain rfl := E.same_eq _ _ h0
      rfl
    | _ => simp [E.same] at h
  | .not a0, y, h => by
    cases y with
    | not b0 =>
      simp only [E.same, Bool.and_eq_true, decide_eq_true_eq] at h
      have h0 := h
      obtain rfl := E.same_eq _ _ h0
      rfl
    | _ => simp [E.same] at h
  | .cmp a0 a1 a2, y, h => by
    cases y with
    | cmp b0 b1 b2 =>
      simp only [E.same, Bool.and_eq_true, decide_eq_true_eq] at h
      obtain ⟨⟨h0, h1⟩, h2⟩ := h
      obtain rfl := h0
      obtain rfl := E.same_eq _ _ h1
      obtain rfl := E.same_eq _ _ h2
      rfl
    | _ => simp [E.same] at h
  | .chn a0 a1 a2 a3 a4, y, h => by
    cases y with
    | chn b0 b1 b2 b3 b4 =>
      simp only [E.same, Bool.and_eq_true, decide_eq_true_eq] at h
      obtain ⟨⟨⟨⟨h0, h1⟩, h2⟩, h3⟩, h4⟩ := h
      obtain rfl := h0
      obtain rfl := h1
      obtain rfl := E.same_eq _ _ h2
      obtain rfl := E.same_eq _ _ h3
      obtain rfl := E.same_eq _ _ h4
      rfl
    | _ => simp [E.same] at h
  | .and a0 a1, y, h => by
    cases y with
    | and b0 b1 =>
      simp only [E.same, Bool.and_eq_true, decide_eq_true_eq] at h
      obtain ⟨h0, h1⟩ := h
      obtain rfl := E.same_eq _ _ h0
      obtain rfl := E.same_eq _ _ h1
      rfl
    | _ => simp [E.same] at h
  | .or a0 a1, y, h => by
    cases y with
    | or b0 b1 =>
      simp only [E.same, Bool.and_eq_true, decide_eq_true_eq] at h
      obtain ⟨h0, h1⟩ := h
      obtain rfl := E.same_eq _ _ h0
      obtain rfl := E.same_eq _ _ h1
      rfl
    | _ => simp [E.same] at h
  | .ite a0 a1 a2, y, h => by
    cases y with
    | ite b0 b1 b2 =>
      simp only [E.same, Bool.and_eq_true, decide_eq_true_eq] at h
      obtain ⟨⟨h0, h1⟩, h2⟩ := h
      obtain rfl := Ts.same_eq _ _ h0
      obtain rfl := E.same_eq _ _ h1
      obtain rfl := E.same_eq _ _ h2
      rfl
    | _ => simp [E.same] at h
  | .idx a0 a1, y, h => by
    cases y with
    | idx b0 b1 =>
      simp only [E.same, Bool.and_eq_true, decide_eq_true_eq] at h
      obtain ⟨h0, h1⟩ := h
      obtain rfl := E.same_eq _ _ h0
      obtain rfl := E.same_eq _ _ h1
      rfl
    | _ => simp [E.same] at h
  | .sl a0 a1 a2, y, h => by
    cases y with
    | sl b0 b1 b2 =>
      simp only [E.same, Bool.and_eq_true, decide_eq_true_eq] at h
      obtain ⟨⟨h0, h1⟩, h2⟩ := h
      obtain rfl := E.same_eq _ _ h0
      obtain rfl := OE.same_eq _ _ h1
      obtain rfl := OE.same_eq _ _ h2
      rfl
    | _ => simp [E.same] at h
  | .rev a0, y, h => by
    cases y with
    | rev b0 =>
      simp only [E.same, Bool.and_eq_true, decide_eq_true_eq] at h
      have h0 := h
      obtain rfl := E.same_eq _ _ h0
      rfl
    | _ => simp [E.same] at h
  | .call a0 a1, y, h => by
    cases y with
    | call b0 b1 =>
      simp only [E.same, Bool.and_eq_true, decide_eq_true_eq] at h
      obtain ⟨h0, h1⟩ := h
      obtain rfl := h0
      obtain rfl := E.sames_eq _ _ h1
      rfl
    | _ => simp [E.same] at h
  | .blt a0 a1, y, h => by
    cases y with
    | blt b0 b1 =>
      simp only [E.same, Bool.and_eq_true, decide_eq_true_eq] at h
      obtain ⟨h0, h1⟩ := h
      obtain rfl := h0
      obtain rfl := E.sames_eq _ _ h1
      rfl
    | _ => simp [E.same] at h
  | .mth a0 a1 a2, y, h => by
    cases y with
    | mth b0 b1 b2 =>
      simp only [E.same, Bool.and_eq_true, decide_eq_true_eq] at h
      obtain ⟨⟨h0, h1⟩, h2⟩ := h
      obtain rfl := h0
      obtain rfl := E.same_eq _ _ h1
      obtain rfl := E.sames_eq _ _ h2
      rfl
    | _ => simp [E.same] at h
  | .isi a0 a1, y, h => by
    cases y with
    | isi b0 b1 =>
      simp only [E.same, Bool.and_eq_true, decide_eq_true_eq] at h
      obtain ⟨h0, h1⟩ := h
      obtain rfl := E.same_eq _ _ h0
      obtain rfl := h1
      rfl
    | _ => simp [E.same] at h
  | .lc a0 a1 a2 a3 a4, y, h => by
    cases y with
    | lc b0 b1 b2 b3 b4 =>
      simp only [E.same, Bool.and_eq_true, decide_eq_true_eq] at h
      obtain ⟨⟨⟨⟨h0, h1⟩, h2⟩, h3⟩, h4⟩ := h
      obtain rfl := h0
      obtain rfl := E.same_eq _ _ h1
      obtain rfl := Tg.same_eq _ _ h2
      obtain rfl := It.same_eq _ _ h3
      obtain rfl := OT.same_eq _ _ h4
      rfl
    | _ => simp [E.same] at h
  | .lock a0 a1, y, h => by
    cases y with
    | lock b0 b1 =>
      simp only [E.same, Bool.and_eq_true, decide_eq_true_eq] at h
      obtain ⟨h0, h1⟩ := h
      obtain rfl := h0
      obtain rfl := E.same_eq _ _ h1
      rfl
    | _ => simp [E.same] at h
  | .lc2 a0 a1 a2 a3 a4 a5 a6 a7 a8, y, h => by
    cases y with
    | lc2 b0 b1 b2 b3 b4 b5 b6 b7 b8 =>
      simp only [E.same, Bool.and_eq_true, decide_eq_true_eq] at h
      obtain ⟨⟨⟨⟨⟨⟨⟨⟨h0, h1⟩, h2⟩, h3⟩, h4⟩, h5⟩, h6⟩, h7⟩, h8⟩ := h
      obtain rfl := h0
      obtain rfl := h1
      obtain rfl := E.same_eq _ _ h2
      obtain rfl := Tg.same_eq _ _ h3
      obtain rfl := It.same_eq _ _ h4
      obtain rfl := OT.same_eq _ _ h5
      obtain rfl := Tg.same_eq _ _ h6
      obtain rfl := It.same_eq _ _ h7
      obtain rfl := OT.same_eq _ _ h8
      rfl
    | _ => simp [E.same] at h
  | .gen a0 a1 a2 a3 a4 a5, y, h => by
    cases y with
    | gen b0 b1 b2 b3 b4 b5 =>
      simp only [E.same, Bool.and_eq_true, decide_eq_true_eq] at h
      obtain ⟨⟨⟨⟨⟨h0, h1⟩, h2⟩, h3⟩, h4⟩, h5⟩ := h
      obtain rfl := h0
      obtain rfl := h1
      obtain rfl := E.same_eq _ _ h2
      obtain rfl := Tg.same_eq _ _ h3
      obtain rfl := It.same_eq _ _ h4
      obtain rfl := OT.same_eq _ _ h5
      rfl
    | _ => simp [E.same] at h
theorem OE.same_eq : ∀ (x y : OE), OE.same x y = true → x = y
  | .no , y, h => by
    cases y with
    | no  =>
      rfl
    | _ => simp [OE.same] at h
  | .yes a0, y, h => by
    cases y with
    | yes b0 =>
      simp only [OE.same, Bool.and_eq_true, decide_eq_true_eq] at h
      have h0 := h
      obtain rfl := E.same_eq _ _ h0
      rfl
    | _ => simp [OE.same] at h
theorem OT.same_eq : ∀ (x y : OT), OT.same x y = true → x = y
  | .no , y, h => by
    cases y with
    | no  =>
      rfl
    | _ => simp [OT.same] at h
  | .yes a0, y, h => by
    cases y with
    | yes b0 =>
      simp only [OT.same, Bool.and_eq_true, decide_eq_true_eq] at h
      have h0 := h
      obtain rfl := Ts.same_eq _ _ h0
      rfl
    | _ => simp [OT.same] at h
theorem Ts.same_eq : ∀ (x y : Ts), Ts.same x y = true → x = y
  | .tru a0, y, h => by
    cases y with
    | tru b0 =>
      simp only [Ts.same, Bool.and_eq_true, decide_eq_true_eq] at h
      have h0 := h
      obtain rfl := E.same_eq _ _ h0
      rfl
    | _ => simp [Ts.same] at h
  | .not a0, y, h => by
    cases y with
    | not b0 =>
      simp only [Ts.same, Bool.and_eq_true, decide_eq_true_eq] at h
      have h0 := h
      obtain rfl := Ts.same_eq _ _ h0
      rfl
    | _ => simp [Ts.same] at h
  | .and a0 a1, y, h => by
    cases y with
    | and b0 b1 =>
      simp only [Ts.same, Bool.and_eq_true, decide_eq_true_eq] at h
      obtain ⟨h0, h1⟩ := h
      obtain rfl := Ts.same_eq _ _ h0
      obtain rfl := Ts.same_eq _ _ h1
      rfl
    | _ => simp [Ts.same] at h
  | .or a0 a1, y, h => by
    cases y with
    | or b0 b1 =>
      simp only [Ts.same, Bool.and_eq_true, decide_eq_true_eq] at h
      obtain ⟨h0, h1⟩ := h
      obtain rfl := Ts.same_eq _ _ h0
      obtain rfl := Ts.same_eq _ _ h1
      rfl
    | _ => simp [Ts.same] at h
  | .cmp a0 a1 a2, y, h => by
    cases y with
    | cmp b0 b1 b2 =>
      simp only [Ts.same, Bool.and_eq_true, decide_eq_true_eq] at h
      obtain ⟨⟨h0, h1⟩, h2⟩ := h
      obtain rfl := h0
      obtain rfl := E.same_eq _ _ h1
      obtain rfl := E.same_eq _ _ h2
      rfl
    | _ => simp [Ts.same] at h
  | .chn a0 a1 a2 a3 a4, y, h => by
    cases y with
    | chn b0 b1 b2 b3 b4 =>
      simp only [Ts.same, Bool.and_eq_true, decide_eq_true_eq] at h
      obtain ⟨⟨⟨⟨h0, h1⟩, h2⟩, h3⟩, h4⟩ := h
      obtain rfl := h0
      obtain rfl := h1
      obtain rfl := E.same_eq _ _ h2
      obtain rfl := E.same_eq _ _ h3
      obtain rfl := E.same_eq _ _ h4
      rfl
    | _ => simp [Ts.same] at h
  | .ite a0 a1 a2, y, h => by
    cases y with
    | ite b0 b1 b2 =>
      simp only [Ts.same, Bool.and_eq_true, decide_eq_true_eq] at h
      obtain ⟨⟨h0, h1⟩, h2⟩ := h
      obtain rfl := Ts.same_eq _ _ h0
      obtain rfl := Ts.same_eq _ _ h1
      obtain rfl := Ts.same_eq _ _ h2
      rfl
    | _ => simp [Ts.same] at h
theorem Ps.same_eq : ∀ (x y : Ps), Ps.same x y = true → x = y
  | .nil , y, h => by
    cases y with
    | nil  =>
      rfl
    | _ => simp [Ps.same] at h
  | .cons a0 a1 a2, y, h => by
    cases y with
    | cons b0 b1 b2 =>
      simp only [Ps.same, Bool.and_eq_true, decide_eq_true_eq] at h
      obtain ⟨⟨h0, h1⟩, h2⟩ := h
      obtain rfl := E.same_eq _ _ h0
      obtain rfl := E.same_eq _ _ h1
      obtain rfl := Ps.same_eq _ _ h2
      rfl
    | _ => simp [Ps.same] at h
theorem It.same_eq : ∀ (x y : CL.It), It.same x y = true → x = y
  | .rng a0, y, h => by
    cases y with
    | rng b0 =>
      simp only [It.same, Bool.and_eq_true, decide_eq_true_eq] at h
      have h0 := h
      obtain rfl := E.sames_eq _ _ h0
      rfl
    | _ => simp [It.same] at h
  | .any a0, y, h => by
    cases y with
    | any b0 =>
      simp only [It.same, Bool.and_eq_true, decide_eq_true_eq] at h
      have h0 := h
      obtain rfl := E.same_eq _ _ h0
      rfl
    | _ => simp [It.same] at h
  | .enm a0, y, h => by
    cases y with
    | enm b0 =>
      simp only [It.same, Bool.and_eq_true, decide_eq_true_eq] at h
      have h0 := h
      obtain rfl := E.same_eq _ _ h0
      rfl
    | _ => simp [It.same] at h
  | .zip a0 a1, y, h => by
    cases y with
    | zip b0 b1 =>
      simp only [It.same, Bool.and_eq_true, decide_eq_true_eq] at h
      obtain ⟨h0, h1⟩ := h
      obtain rfl := E.same_eq _ _ h0
      obtain rfl := E.same_eq _ _ h1
      rfl
    | _ => simp [It.same] at h
  | .vals a0, y, h => by
    cases y with
    | vals b0 =>
      simp only [It.same, Bool.and_eq_true, decide_eq_true_eq] at h
      have h0 := h
      obtain rfl := E.same_eq _ _ h0
      rfl
    | _ => simp [It.same] at h
  | .items a0, y, h => by
    cases y with
    | items b0 =>
      simp only [It.same, Bool.and_eq_true, decide_eq_true_eq] at h
      have h0 := h
      obtain rfl := E.same_eq _ _ h0
      rfl
    | _ => simp [It.same] at h
theorem Tg.same_eq : ∀ (x y : Tg), Tg.same x y = true → x = y
  | .nm a0, y, h => by
    cases y with
    | nm b0 =>
      simp only [Tg.same, Bool.and_eq_true, decide_eq_true_eq] at h
      have h0 := h
      obtain rfl := h0
      rfl
    | _ => simp [Tg.same] at h
  | .tp a0, y, h => by
    cases y with
    | tp b0 =>
      simp only [Tg.same, Bool.and_eq_true, decide_eq_true_eq] at h
      have h0 := h
      obtain rfl := Tg.sames_eq _ _ h0
      rfl
    | _ => simp [Tg.same] at h
  | .ix a0 a1, y, h => by
    cases y with
    | ix b0 b1 =>
      simp only [Tg.same, Bool.and_eq_true, decide_eq_true_eq] at h
      obtain ⟨h0, h1⟩ := h
      obtain rfl := E.same_eq _ _ h0
      obtain rfl := E.same_eq _ _ h1
      rfl
    | _ => simp [Tg.same] at h
theorem E.sames_eq : ∀ (x y : List E), E.sames x y = true → x = y
  | [], [], _ => rfl
  | [], _ :: _, h => by simp [E.sames] at h
  | _ :: _, [], h => by simp [E.sames] at h
  | a :: r, b :: s, h => by
    simp only [E.sames, Bool.and_eq_true] at h
    obtain ⟨h0, h1⟩ := h
    obtain rfl := E.same_eq _ _ h0
    obtain rfl := E.sames_eq _ _ h1
    rfl
theorem Tg.sames_eq : ∀ (x y : List Tg), Tg.sames x y = true → x = y
  | [], [], _ => rfl
  | [], _ :: _, h => by simp [Tg.sames] at h
  | _ :: _, [], h => by simp [Tg.sames] at h
  | a :: r, b :: s, h => by
    simp only [Tg.sames, Bool.and_eq_true] at h
    obtain ⟨h0, h1⟩ := h
    obtain rfl := Tg.same_eq _ _ h0
    obtain rfl := Tg.sames_eq _ _ h1
    rfl
end
mutual
def S.same : S → S → Bool
  | .asg a0 a1, .asg b0 b1 => Tg.same a0 b0 && E.same a1 b1
  | .aug a0 a1 a2, .aug b0 b1 b2 => decide (a0 = b0) && decide (a1 = b1) && E.same a2 b2
  | .exp a0, .exp b0 => E.same a0 b0
  | .ret a0, .ret b0 => E.same a0 b0
  | .retN , .retN  => true
  | .ifs a0 a1 a2, .ifs b0 b1 b2 => Ts.same a0 b0 && S.sames a1 b1 && S.sames a2 b2
  | .whl a0 a1, .whl b0 b1 => Ts.same a0 b0 && S.sames a1 b1
  | .frr a0 a1 a2, .frr b0 b1 b2 => Tg.same a0 b0 && It.same a1 b1 && S.sames a2 b2
  | .lock a0 a1, .lock b0 b1 => decide (a0 = b0) && S.same a1 b1
  | .brk , .brk  => true
  | .cnt , .cnt  => true
  | .pas , .pas  => true
  | _, _ => false
def S.sames : List S → List S → Bool
  | [], [] => true
  | a :: r, b :: s => S.same a b && S.sames r s
  | _, _ => false
end
mutual
theorem S.same_eq : ∀ (x y : S), S.same x y = true → x = y
  | .asg a0 a1, y, h => by
    cases y with
    | asg b0 b1 =>
      simp only [S.same, Bool.and_eq_true, decide_eq_true_eq] at h
      obtain ⟨h0, h1⟩ := h
      obtain rfl := Tg.same_eq _ _ h0
      obtain rfl := E.same_eq _ _ h1
      rfl
    | _ => simp [S.same] at h
  | .aug a0 a1 a2, y, h => by
    cases y with
    | aug b0 b1 b2 =>
      simp only [S.same, Bool.and_eq_true, decide_eq_true_eq] at h
      obtain ⟨⟨h0, h1⟩, h2⟩ := h
      obtain rfl := h0
      obtain rfl := h1
      obtain rfl := E.same_eq _ _ h2
      rfl
    | _ => simp [S.same] at h
  | .exp a0, y, h => by
    cases y with
    | exp b0 =>
      simp only [S.same, Bool.and_eq_true, decide_eq_true_eq] at h
      have h0 := h
      obtain rfl := E.same_eq _ _ h0
      rfl
    | _ => simp [S.same] at h
  | .ret a0, y, h => by
    cases y with
    | ret b0 =>
      simp only [S.same, Bool.and_eq_true, decide_eq_true_eq] at h
      have h0 := h
      obtain rfl := E.same_eq _ _ h0
      rfl
    | _ => simp [S.same] at h
  | .retN , y, h => by
    cases y with
    | retN  =>
      rfl
    | _ => simp [S.same] at h
  | .ifs a0 a1 a2, y, h => by
    cases y with
    | ifs b0 b1 b2 =>
      simp only [S.same, Bool.and_eq_true, decide_eq_true_eq] at h
      obtain ⟨⟨h0, h1⟩, h2⟩ := h
      obtain rfl := Ts.same_eq _ _ h0
      obtain rfl := S.sames_eq _ _ h1
      obtain rfl := S.sames_eq _ _ h2
      rfl
    | _ => simp [S.same] at h
  | .whl a0 a1, y, h => by
    cases y with
    | whl b0 b1 =>
      simp only [S.same, Bool.and_eq_true, decide_eq_true_eq] at h
      obtain ⟨h0, h1⟩ := h
      obtain rfl := Ts.same_eq _ _ h0
      obtain rfl := S.sames_eq _ _ h1
      rfl
    | _ => simp [S.same] at h
  | .frr a0 a1 a2, y, h => by
    cases y with
    | frr b0 b1 b2 =>
      simp only [S.same, Bool.and_eq_true, decide_eq_true_eq] at h
      obtain ⟨⟨h0, h1⟩, h2⟩ := h
      obtain rfl := Tg.same_eq _ _ h0
      obtain rfl := It.same_eq _ _ h1
      obtain rfl := S.sames_eq _ _ h2
      rfl
    | _ => simp [S.same] at h
  | .lock a0 a1, y, h => by
    cases y with
    | lock b0 b1 =>
      simp only [S.same, Bool.and_eq_true, decide_eq_true_eq] at h
      obtain ⟨h0, h1⟩ := h
      obtain rfl := h0
      obtain rfl := S.same_eq _ _ h1
      rfl
    | _ => simp [S.same] at h
  | .brk , y, h => by
    cases y with
    | brk  =>
      rfl
    | _ => simp [S.same] at h
  | .cnt , y, h => by
    cases y with
    | cnt  =>
      rfl
    | _ => simp [S.same] at h
  | .pas , y, h => by
    cases y with
    | pas  =>
      rfl
    | _ => simp [S.same] at h
theorem S.sames_eq : ∀ (x y : List S), S.sames x y = true → x = y
  | [], [], _ => rfl
  | [], _ :: _, h => by simp [S.sames] at h
  | _ :: _, [], h => by simp [S.sames] at h
  | a :: r, b :: s, h => by
    simp only [S.sames, Bool.and_eq_true] at h
    obtain ⟨h0, h1⟩ := h
    obtain rfl := S.same_eq _ _ h0
    obtain rfl := S.sames_eq _ _ h1
    rfl
end
end CL

/-! CL13: calls; a program's defs; a law. -/
namespace CL
open PySem PySem.Spec PyProof.Rows L2

/-! ### what a call leaves -/
section
variable {K : PySem.W.Frag} {μ μ' : List Addr} {st st1 st' : Sto} {H H' : Hp} {v : V} {d d' : D} {o : O} {a : Addr}
theorem vals_bel {n : Nat} (hn : μ.length ≤ n) : ∀ {ks : List (Key × V)} {kvs : List (D × D)}, Paired (EnR K H μ) ks kvs → (kvs.all fun p => D.bel n p.2) = true
  | _, _, .nil => rfl
  | _, _, .cons r t => by simp only [List.all_cons, r.2.2.bel n hn, vals_bel hn t, Bool.and_self]
theorem OAt.bel (n : Nat) (hn : μ.length ≤ n) (h : OAt K H μ a o) : o.bel n = true := by
  cases o with
  | lst xs => obtain ⟨vs, _, r⟩ := h; exact Reps.bel n hn r
  | ro xs => obtain ⟨vs, _, r⟩ := h; exact Reps.bel n hn r
  | dic kvs => obtain ⟨ks, _, r⟩ := h; exact vals_bel hn r
  | rod kvs => obtain ⟨ks, _, _, r⟩ := h; exact vals_bel hn r
  | ins c fs => exact h.elim
theorem ents_take {n : Nat} (hp : ∀ (m : Nat) (a : Addr), m < n → μ[m]? = some a → μ'[m]? = some a) : ∀ {ks : List (Key × V)} {kvs : List (D × D)}, Paired (EnR K H μ) ks kvs → (kvs.all fun p => D.bel n p.2) = true → Paired (EnR K H μ') ks kvs
  | _, _, .nil, _ => .nil
  | _, _, .cons r t, b => by
    simp only [List.all_cons, Bool.and_eq_true] at b
    exact .cons ⟨r.1, r.2.1, r.2.2.take hp b.1⟩ (ents_take hp t b.2)
theorem OAt.take {n : Nat} (hp : ∀ (m : Nat) (a : Addr), m < n → μ[m]? = some a → μ'[m]? = some a) (h : OAt K H μ a o) (b : o.bel n = true) : OAt K H μ' a o := by
  cases o with
  | lst xs => obtain ⟨vs, h1, r⟩ := h; exact ⟨vs, h1, Reps.take hp r b⟩
  | ro xs => obtain ⟨vs, h1, r⟩ := h; exact ⟨vs, h1, Reps.take hp r b⟩
  | dic kvs => obtain ⟨ks, h1, r⟩ := h; exact ⟨ks, h1, ents_take hp r b⟩
  | rod kvs => obtain ⟨ks, q, h1, r⟩ := h; exact ⟨ks, q, h1, ents_take hp r b⟩
  | ins c fs => exact h.elim
theorem pre_take (hp : Pre μ μ') : μ'.take μ.length = μ := by
  apply List.ext_getElem?
  intro i
  rw [List.getElem?_take]
  split
  · rename_i hi
    rw [List.getElem?_eq_getElem hi]
    exact hp i _ (List.getElem?_eq_getElem hi)
  · rename_i hi
    rw [List.getElem?_eq_none (by omega)]
theorem gc_ok (S : SOk K μ st H) (S1 : SOk K μ' st1 H') (hp : Pre μ μ') (r : Rep K H' μ' v d) (h : gc st d st1 = (d', st')) : ∃ μ2, Pre μ μ2 ∧ SOk K μ2 st' H' ∧ Rep K H' μ2 v d' := by
  have same : (d, st1) = (d', st') → ∃ μ2, Pre μ μ2 ∧ SOk K μ2 st' H' ∧ Rep K H' μ2 v d' := fun e => by cases e; exact ⟨μ', hp, S1, r⟩
  have hlo : ∀ (m : Nat) (a : Addr), m < st.length → μ'[m]? = some a → μ[m]? = some a := fun m a hm e => by
    have hm' : m < μ.length := by rw [S.len]; exact hm
    have := hp m _ (List.getElem?_eq_getElem hm')
    rw [e] at this
    rw [List.getElem?_eq_getElem hm']
    exact this.symm
  unfold gc at h
  split at h
  · rename_i td
    -- the store below
    have low : ∀ (i : Nat) (o : O) (a : Addr), i < st.length → st1[i]? = some o → μ[i]? = some a → OAt K H' μ a o := fun i o a hi e1 e2 => by
      have q := S1.obj i o a e1 (hp _ _ e2)
      refine q.take hlo ?_
      rcases td.2 i o hi e1 with z | z
      · exact (S.obj i o a z e2).bel _ (by rw [S.len]; exact Nat.le_refl _)
      · exact z
    have hto : ∀ {i : Nat}, i < st.length → (st1.take st.length)[i]? = st1[i]? := fun {i} hi => by rw [List.getElem?_take, if_pos hi]
    have T : SOk K μ (st1.take st.length) H' := by
      refine ⟨by rw [List.length_take, S.len]; have := td.1; omega, fun n o a e1 e2 => ?_, fun i j a ne e1 e2 => ?_⟩
      · have hn : n < st.length := by rw [← S.len]; exact (List.getElem?_eq_some_iff.mp e2).1
        rw [hto hn] at e1
        exact low n o a hn e1 e2
      · have hi : i < st.length := by rw [← S.len]; exact (List.getElem?_eq_some_iff.mp e1).1
        have hj : j < st.length := by rw [← S.len]; exact (List.getElem?_eq_some_iff.mp e2).1
        rw [hto hi, hto hj]
        exact S1.sep i j a ne (hp _ _ e1) (hp _ _ e2)
    split at h
    · rename_i hb
      cases h
      exact ⟨μ, Pre.refl, T, r.take hlo hb⟩
    · rename_i hb
      split at h
      · rename_i q
        split at h
        · rename_i o e
          split at h
          · rename_i ob
            cases h
            obtain ⟨a, rfl, hm⟩ := rep_ref r
            have hq : ¬ q < st.length := fun z => hb (by simp only [D.bel]; exact decide_eq_true z)
            refine ⟨μ ++ [a], Pre.snoc, ⟨by rw [List.length_append, List.length_append, T.len] <;> rfl, fun n u b e1 e2 => ?_, fun i j b ne e1 e2 => ?_⟩, .ref (top_at S.len)⟩
            · by_cases hn : n < st.length
              · rw [List.getElem?_append_left (by rw [List.length_take]; have := td.1; omega), hto hn] at e1
                rw [List.getElem?_append_left (by rw [S.len]; exact hn)] at e2
                exact (low n u b hn e1 e2).mono Pre.snoc Gr.refl fun _ z => z
              · have en : n = st.length := by
                  have := (List.getElem?_eq_some_iff.mp e2).1
                  rw [List.length_append, S.len] at this
                  simp at this; omega
                subst en
                rw [top_at S.len] at e2
                cases e2
                have ht : (st1.take st.length).length = st.length := by rw [List.length_take]; have := td.1; omega
                rw [top_at ht] at e1
                cases e1
                exact ((S1.obj q o a e hm).take hlo ob).mono Pre.snoc Gr.refl fun _ z => z
            · have key : ∀ {k : Nat}, (μ ++ [a])[k]? = some b → ∃ k', μ'[k']? = some b ∧ (k < st.length → k' = k) ∧ (¬ k < st.length → k' = q ∧ k = st.length) ∧ ∀ xs, st1[k']? = some (.ro xs) → (st1.take st.length ++ [o])[k]? = some (.ro xs) := fun {k} ek => by
                have ht : (st1.take st.length).length = st.length := by rw [List.length_take]; have := td.1; omega
                by_cases hk : k < st.length
                · rw [List.getElem?_append_left (by rw [S.len]; exact hk)] at ek
                  exact ⟨k, hp _ _ ek, fun _ => rfl, fun z => absurd hk z, fun xs z => by rw [List.getElem?_append_left (by rw [ht]; exact hk), hto hk]; exact z⟩
                · have en : k = st.length := by
                    have := (List.getElem?_eq_some_iff.mp ek).1
                    rw [List.length_append, S.len] at this
                    simp at this; omega
                  subst en
                  rw [top_at S.len] at ek
                  cases ek
                  exact ⟨q, hm, fun z => absurd z hk, fun _ => ⟨rfl, rfl⟩, fun xs z => by rw [top_at ht]; rw [e] at z; exact z⟩
              obtain ⟨i', i1, i2, i3, i4⟩ := key e1
              obtain ⟨j', j1, j2, j3, j4⟩ := key e2
              have ne' : i' ≠ j' := fun z => by
                by_cases hi : i < st.length
                · by_cases hj : j < st.length
                  · exact ne (by rw [← i2 hi, ← j2 hj, z])
                  · have := i2 hi
                    have := (j3 hj).1
                    omega
                · by_cases hj : j < st.length
                  · have := j2 hj
                    have := (i3 hi).1
                    omega
                  · exact ne (by rw [(i3 hi).2, (j3 hj).2])
              rcases S1.sep i' j' b ne' i1 j1 with ⟨xs, z⟩ | ⟨xs, z⟩
              · exact .inl ⟨xs, i4 xs z⟩
              · exact .inr ⟨xs, j4 xs z⟩
          · exact same h
        · exact same h
      · exact same h
  · exact same h
theorem sim_start {tb : List Addr} (ht : ∀ P ∈ tb, GxR.TabG H P) {N : List Str} {vs : List V} {ds : List D} {nl np : Nat} (S : SOk K μ st H) (r : Reps K H μ vs ds) (hl : nl = N.length) (hp : np = ds.length) : Sim tb K μ (ds.map some ++ List.replicate (nl - np) none) st (L2.start N vs) H := by
  subst hl hp
  have hv := r.length
  refine ⟨S, fun i d e => ?_, by simp only [L2.start, List.length_append, List.length_map, List.length_replicate, hv], ht⟩
  by_cases hi : i < ds.length
  · rw [List.getElem?_append_left (by simpa using hi), List.getElem?_map] at e
    simp only [Option.map_eq_some_iff, Option.some.injEq] at e
    obtain ⟨x, e, rfl⟩ := e
    obtain ⟨v, hv', rv⟩ := pr_get r e
    refine ⟨v, ?_, rv⟩
    unfold L2.start
    rw [List.getElem?_append_left (by rw [List.length_map, hv]; exact hi), List.getElem?_map, hv']
    rfl
  · rw [List.getElem?_append_right (by simpa using hi)] at e
    simp only [List.getElem?_replicate] at e
    split at e <;> cases e
end

/-! ### a program's defs -/
structure Df where
  st : Stmt
  name : Str
  ps : List Str
  N : List Str
  /-- generator expressions stand in it -/
  gen : Bool
  body : List S
structure Tab where
  defs : List Df
  cons : List Str
  blts : List Str
  lk : List Nat
def Tab.cfg (T : Tab) (d : Df) : Cfg := { N := d.N, sc := defScope d.st, fn := fun _ => true, defs := T.defs.map (·.name), cons := T.cons, blts := T.blts, lk := T.lk, lv := if d.gen then 1 else 0 }
def Tab.fns (T : Tab) : List Fn := T.defs.map fun d => ⟨d.name, d.ps.length, d.N.length, d.body⟩
/-- the def's words are what they should be -/
def Tab.tr (T : Tab) (d : Df) : Bool := match cSs (cv 60) (T.cfg d) (defBody d.st) with
  | some r => S.sames r.1 d.body
  | none => false
instance {N P : List Str} {sc : Scope} : Decidable (sc.kind = .function ∧ sc.isCoroutine = false ∧ sc.isGenerator = false ∧ N.Nodup ∧ N.take P.length = P ∧ (∀ x ∈ P, sc.names.lookup x = some .local ∨ sc.names.lookup x = some .cell) ∧ ∀ y ∈ sc.names, y.2 ≠ .free) := inferInstance
def Df.scOk (d : Df) : Bool := decide ((defScope d.st).kind = .function ∧ (defScope d.st).isCoroutine = false ∧ (defScope d.st).isGenerator = false ∧ d.N.Nodup ∧ d.N.take d.ps.length = d.ps ∧ (∀ x ∈ d.ps, (defScope d.st).names.lookup x = some .local ∨ (defScope d.st).names.lookup x = some .cell) ∧ ∀ y ∈ (defScope d.st).names, y.2 ≠ .free)
theorem Df.scope {d : Df} (h : d.scOk = true) : FnScope d.N d.ps (defScope d.st) := by
  obtain ⟨h1, h2, h3, h4, h5, h6, h7⟩ := of_decide_eq_true h
  exact ⟨h1, h2, h3, h4, h5, h6, h7⟩
/-- a def as it stands in the written part; cs: code objects and their tables -/
structure FunT (K : PySem.W.Frag) (x : Str) (st : Stmt) (f : Addr) (fd : FuncData) (cs : List (Addr × Addr)) (gen : Bool) : Prop where
  ex : ∃ (oc : Value) (od : Option Addr) (kV doc pm : Value) (an : Option Addr) (cdv ct : Value) (osl : Array (Option Value)), fd = PySem.W.fnOf x x (defArgs st) (defBody st) (defScope st) .none kV doc pm an cdv ct ∧ K.lookup f = some ⟨oc, od, .func fd, osl⟩ ∧ PySem.W.codeIn K cdv x = true ∧
    (gen = true → ∃ p ∈ cs, cdv = .ref p.1)
  kp : PySem.W.keepIn K (.ref f) = true
structure Facts (T : Tab) (G : List D) (K : PySem.W.Frag) (mg : Str → Option Value) (fa : Nat → Addr) (fd : Nat → FuncData) (cs : List (Addr × Addr)) : Prop where
  fns : ∀ (f : Nat) (d : Df), T.defs[f]? = some d → FunT K d.name d.st (fa f) (fd f) cs d.gen ∧ mg d.name = some (.ref (fa f)) ∧ Binds K (fd f) d.ps []
  blt : ∀ x, x ∈ T.blts → mg x = none
  con : ∀ (j : Nat) (x : Str), T.cons[j]? = some x → ∃ (u : Value) (v : V) (d : D), mg x = some u ∧ RelV v u ∧ G[j]? = some d ∧ ∀ H μ, Rep K H μ v d
theorem con_str {K : PySem.W.Frag} {x : Str} {l : List Nat} (y : x.cps.toList = l) (hl : l.length ≤ 1000) (H : Hp) (μ : List Addr) : Rep K H μ (.str x) (.str l) := by
  subst y
  have e : sizeLine = 16777216 := by decide
  refine .str x ?_
  have : x.length = x.cps.toList.length := by simp [Str.length]
  omega
theorem call_len {G : List D} {T : List Fn} {k f : Nat} {ds : List D} {st st' : Sto} {d : D} {fn : Fn} (e : T[f]? = some fn) (h : call G T k f ds st = some (d, st')) : ds.length = fn.np := by
  cases k with
  | zero => simp [call] at h
  | succ k =>
    simp only [call, e] at h
    split at h
    · assumption
    · cases h
theorem fns_ok {T : Tab} {G : List D} {P : Program} {w : World} {K : PySem.W.Frag} {mg : Str → Option Value} {base : Heap} {fa : Nat → Addr} {fd : Nat → FuncData} {cs : List (Addr × Addr)} (F : Facts T G K mg fa fd cs) (hT : ∀ p ∈ cs, GxR.TabB base mg p.1 p.2) (tr : ∀ d ∈ T.defs, T.tr d = true) (sc : ∀ d ∈ T.defs, d.scOk = true) :
    ∀ (k f : Nat) (d : Df), T.defs[f]? = some d → FnOk P w K mg base CX0 (2 * k) (fa f) (fd f) d.ps (spC (cs.map (·.2)) K (call G T.fns k) f) ∧ mg d.name = some (.ref (fa f)) ∧ PySem.W.keepIn K (.ref (fa f)) = true ∧ Binds K (fd f) d.ps [] := by
  intro k
  induction k with
  | zero =>
    intro f d e
    obtain ⟨F1, hm, hb⟩ := F.fns f d e
    have no : ∀ vs H Q E, ¬ spC (cs.map (·.2)) K (call G T.fns 0) f vs H Q E := fun vs H Q E h => by
      obtain ⟨_, μ, st, ds, d', st', _, _, h, _⟩ := h
      simp [call] at h
    exact ⟨⟨fun vs H Q E h => absurd h (no vs H Q E), fun A outer s H args us vs Q E _ _ _ _ h => absurd h (no vs H Q E)⟩, hm, F1.kp, hb⟩
  | succ k ih =>
    intro f d e
    obtain ⟨F1, hm, hb⟩ := F.fns f d e
    have hd : d ∈ T.defs := List.mem_of_getElem? e
    have efn : T.fns[f]? = some ⟨d.name, d.ps.length, d.N.length, d.body⟩ := by simp [Tab.fns, e]
    have SC := Df.scope (sc d hd)
    refine ⟨?_, hm, F1.kp, hb⟩
    obtain ⟨oc, od, kV, doc, pm, an, cdv, ct, osl, efd, lkf, hcd, hgen⟩ := F1.ex
    show FnOk P w K mg base CX0 ((2 * k + 1) + 1) (fa f) (fd f) d.ps _
    rw [efd] at lkf ⊢
    refine fn_of lkf hcd SC (fun vs H Q E h => ?_) (fun A outer s H vs Q E hr h => ?_)
    · obtain ⟨_, μ, st, ds, d', st', _, r, h, _⟩ := h
      rw [r.length, call_len efn h]
    have htr := tr d hd
    unfold Tab.tr at htr
    split at htr
    · rename_i r er
      obtain ⟨body, hbody⟩ := r
      have eb : body = d.body := S.sames_eq _ _ htr
      subst eb
      have r1 := hr.dp
      have r2 := hr.un
      have hlv : (T.cfg d).lv ≤ 1 := by show (if d.gen then 1 else 0) ≤ 1; split <;> omega
      have hyp : Hyp (T.cfg d) (cxOf CX0 P w K mg base d.N d.name (defScope d.st) (fa f) cdv A outer s H E).nox ⟨G, cs.map (·.2)⟩ (call G T.fns k) := by
        refine ⟨rfl, SC.nd, rfl, SC.kind, fun _ _ => rfl, rfl, by show (A.deeper _).units + 200 + 16 * (T.cfg d).lv < cLine; omega, hr.hd, by show (A.deeper _).depth + (T.cfg d).lv < recursionLimit; omega, rfl, fun g x eg => ?_, F.blt, F.con, fun hl => ?_⟩
        · simp only [Tab.cfg, List.getElem?_map, Option.map_eq_some_iff] at eg
          obtain ⟨d2, e2, rfl⟩ := eg
          obtain ⟨ok, m2, k2, b2⟩ := ih g d2 e2
          exact ⟨2 * k, fa g, fd g, d2.ps, ok, hr.mono (by omega), m2, k2, b2⟩
        · have hg : d.gen = true := by
            cases e : d.gen with
            | true => rfl
            | false => simp [Tab.cfg, e] at hl
          obtain ⟨p, hp, rfl⟩ := hgen hg
          exact ⟨p.1, p.2, rfl, hT p hp, List.mem_map.mpr ⟨p, hp, rfl⟩⟩
      refine ⟨_, (hbody _ ⟨G, cs.map (·.2)⟩ _ hyp).nox, ?_⟩
      obtain ⟨ht, μ, st, ds, d', st', SO, r, h, q⟩ := h
      simp only [call, efn] at h
      split at h
      · rename_i hl
        split at h
        · rename_i dd ρ1 st1 e1
          simp only [Option.some.injEq] at h
          refine ⟨μ, _, st, _, sim_start ht SO r rfl hl.symm, e1, fun μ1 v1 H1 p1 g1 S1 r1 => ?_⟩
          obtain ⟨μ2, p2, S2, r2⟩ := gc_ok SO S1 p1 r1 h
          exact q μ2 v1 H1 p2 g1 S2 r2
        · rename_i ρ1 st1 e1
          simp only [Option.some.injEq] at h
          refine ⟨μ, _, st, _, sim_start ht SO r rfl hl.symm, e1, fun μ1 σ1 H1 p1 g1 S1 => ?_⟩
          obtain ⟨μ2, p2, S2, r2⟩ := gc_ok SO S1.ok p1 (.non (K := K) (H := H1)) h
          exact q μ2 _ H1 p2 g1 S2 r2
        · cases h
      · cases h
    · cases htr
/-- what a law promises -/
def spLaw (tb : List Addr) (K : PySem.W.Frag) : Sp := fun vs H Q _ => (∀ P ∈ tb, GxR.TabG H P) ∧ ∃ (a : Addr) (ns : List Int), vs = [.ref a] ∧ SqL K H a (ns.map V.int) ∧ ns.length ≤ 63 ∧ ∀ H', Q (.bl true) H'
/-- the law in the clean store -/
def LawTrue (T : Tab) (G : List D) (k f : Nat) : Prop := ∀ (ns : List Int) (o : O), ns.length ≤ 63 → (o = .lst (ns.map .int) ∨ o = .ro (ns.map .int)) → ∃ st', call G T.fns k f [.ref 0] [o] = some (.bl true, st')
theorem law_ok {T : Tab} {G : List D} {P : Program} {w : World} {K : PySem.W.Frag} {mg : Str → Option Value} {base : Heap} {fa : Nat → Addr} {fd : Nat → FuncData} {cs : List (Addr × Addr)} (F : Facts T G K mg fa fd cs) (hT : ∀ p ∈ cs, GxR.TabB base mg p.1 p.2)
    (tr : ∀ d ∈ T.defs, T.tr d = true) (sc : ∀ d ∈ T.defs, d.scOk = true) {k f : Nat} {d : Df} (e : T.defs[f]? = some d) (hl : d.ps.length = 1) (L : LawTrue T G k f) :
    FnOk P w K mg base CX0 (2 * k) (fa f) (fd f) d.ps (spLaw (cs.map (·.2)) K) := by
  obtain ⟨ok, _, _, _⟩ := fns_ok (P := P) (w := w) (base := base) F hT tr sc k f d e
  refine ok.imp fun vs H Q E h => ?_
  obtain ⟨ht, a, ns, rfl, sq, hl, q⟩ := h
  have one : ∀ o : O, (o = .lst (ns.map .int) ∨ o = .ro (ns.map .int)) → OAt K H [a] a o → spC (cs.map (·.2)) K (call G T.fns k) f [.ref a] H Q E := fun o ho oa => by
    obtain ⟨st', hc⟩ := L ns o hl ho
    have S : SOk K [a] [o] H := by
      refine ⟨rfl, fun n u b e1 e2 => ?_, fun i j b ne e1 e2 => ?_⟩
      · match n, e1, e2 with
        | 0, e1, e2 => cases e1; cases e2; exact oa
        | n + 1, e1, _ => simp at e1
      · have hi := (List.getElem?_eq_some_iff.mp e1).1
        have hj := (List.getElem?_eq_some_iff.mp e2).1
        simp at hi hj
        omega
    exact ⟨ht, [a], [o], [.ref 0], .bl true, st', S, .cons (.ref rfl) .nil, hc, fun μ' v H' _ _ _ r => by cases rep_bl r; exact q H'⟩
  rcases sq with (sq | ⟨u, sq⟩) | sq
  · exact one (.lst (ns.map .int)) (.inl rfl) ⟨_, sq, reps_of_ints ns⟩
  · exact one (.ro (ns.map .int)) (.inr rfl) ⟨_, .inl ⟨u, sq⟩, reps_of_ints ns⟩
  · exact one (.ro (ns.map .int)) (.inr rfl) ⟨_, .inr sq, reps_of_ints ns⟩
/-- the defs' tables as they stand at the head -/
def TabsOf (q : Program) (K : PySem.W.Frag) (h : Heap) : Prop := ∀ (x : Str) (c P : Addr), ((recsOf q).find? fun e => e.name == x).isSome = true → PySem.W.tabIn K x = some (c, P) → PySem.W.CodeHd h c P ∧ h.get? P = some { cls := .none, data := .fields #[] }
/-- the code object of a def whose table is known -/
theorem tab_code {K : PySem.W.Frag} {x : Str} {f c P : Addr} {oc : Value} {od : Option Addr} {fd : FuncData} {osl : Array (Option Value)} (a : PySem.W.nsIn K mainGlobals x = some (some (.ref f))) (l : K.lookup f = some ⟨oc, od, .func fd, osl⟩) (b : PySem.W.tabIn K x = some (c, P)) : fd.code = .ref c := by
  unfold PySem.W.tabIn at b
  rw [a] at b
  simp only [l] at b
  split at b
  · rename_i c' hc
    split at b
    · split at b
      · cases b; exact hc
      · cases b
    · cases b
  · cases b
theorem tabIn_of {K : PySem.W.Frag} {x : Str} {f c P : Addr} {oc oq : Value} {od dq : Option Addr} {fd : FuncData} {osl sq : Array (Option Value)} {vs : Array Value} (a : PySem.W.nsIn K mainGlobals x = some (some (.ref f))) (l : K.lookup f = some ⟨oc, od, .func fd, osl⟩) (q : fd.code = .ref c) (m : K.lookup c = some ⟨oq, dq, .fields vs, sq⟩) (p : vs[11]? = some (.ref P)) :
    PySem.W.tabIn K x = some (c, P) := by
  unfold PySem.W.tabIn
  simp only [a, l, q, m, p]
/-- a law, by its tables and its def's promise -/
def LawIs (l : PySem.W.OpenLaw) (w : World) (K : PySem.W.Frag) (k : Nat) (mg : Str → Option Value) (fa : Addr) (h : Heap) : Prop :=
  ∃ (fd : FuncData) (cs : List (Addr × Addr)), (∀ p ∈ cs, (PySem.W.CodeHd h p.1 p.2 ∧ h.get? p.2 = some { cls := .none, data := .fields #[] }) ∧ K.lookup p.2 = none) ∧ (∀ (s : Shared) (u : Value), BindsTo s fd ⟨[u], []⟩ [("script", u)]) ∧
    ∀ base : Heap, K.In base → base.Ns mainGlobals mg → (∀ p ∈ cs, GxR.TabB base mg p.1 p.2) → FnOk l.prog w K mg base CX0 k fa fd ["script"] (spLaw (cs.map (·.2)) K)
/-- the law's end -/
theorem walk {l : PySem.W.OpenLaw} {q : Program} {loose : List Str} {XP : (Str → Option Value) → Heap → Prop} {YP : World → Heap → Prop} {d : DefRec} {K : Params → PySem.W.Frag} {k : Nat} (hn : l.most = some 63) (hdf : d.params.defaults = []) (hr : Room k callerA)
    (hY : ∀ (w : World) (h : Heap), YP w h → (K w.params).In h)
    (F : ∀ (w : World) (mg : Str → Option Value) (fa : Addr) (h : Heap), (K w.params).In h → h.Ns mainGlobals mg → mg d.name = some (.ref fa) → TabsOf q (K w.params) h → LawIs l w (K w.params) k mg fa h) :
    PySem.W.WalkO q loose XP YP l.row.toRowW d [] (fun f vs => PySem.call f vs) := by
  refine Att.attach_callB hn hdf fun w s₀ s₁ mg mb fa o pm cd doc a vs ns G Y ho hd hcd hmg hobj hints hlen hbits hg => ?_
  have KX := hY w _ Y
  have tabs : TabsOf q (K w.params) s₁.heap := fun x c P hx hc => by
    obtain ⟨d', hd'⟩ := Option.isSome_iff_exists.mp hx
    exact PySem.W.tab_of G.T KX hd' hc
  obtain ⟨fd, cs, hc, hb, hF⟩ := F w mg fa _ KX G.T.g hmg tabs
  refine LamX.law_callTs (CX := CX0) (sp := spLaw (cs.map (·.2)) (K w.params)) KX G.T.g G.T.b G.T.builtins G.T.nolimit hg (fun p hp => (hc p hp).1.2) (fun p hp => (hc p hp).2) (fun p hp => (hc p hp).1.1) G.T.bmain hobj hints (Nat.le_trans hlen (by decide)) hr (fun base h1 h2 h3 => hF base h1 h2 fun p hp => ⟨(h3 p hp).code, (h3 p hp).bm, (h3 p hp).gP⟩) hb (fun H hH hS => ⟨fun P hP => ?_, a, ns, rfl, hS, hlen, fun _ => rfl⟩) fun H e s' z => z
  obtain ⟨p, hp, rfl⟩ := List.mem_map.mp hP
  exact ⟨#[], hH p hp, trivial⟩
end CL

namespace CL
open PySem PySem.Spec PyProof.Rows L2
/-! ### what a call leaves, by cases -/
section
variable {st st1 : Sto} {d : D} {o : O} {l : Sto}
mutual
theorem pure_bel (n : Nat) : ∀ {d : D}, d.pure = true → d.bel n = true
  | .non, _ => rfl
  | .bl _, _ => rfl
  | .int _, _ => rfl
  | .str _, _ => rfl
  | .tup xs, h => pures_bel n (xs := xs) h
  | .ref _, h => by simp [D.pure] at h
theorem pures_bel (n : Nat) : ∀ {xs : List D}, D.pures xs = true → D.bels n xs = true
  | [], _ => rfl
  | x :: xs, h => by
    simp only [D.pures, Bool.and_eq_true] at h
    simp only [D.bels, pure_bel n h.1, pures_bel n h.2, Bool.and_self]
end
theorem tidy_app (h : st1.length = st.length) (k : ∀ (i : Nat) (o : O), st1[i]? = some o → st[i]? = some o ∨ o.bel st.length = true) : Tidy st (st1 ++ l) := by
  refine ⟨by rw [List.length_append, h]; omega, fun i o hi e => ?_⟩
  rw [List.getElem?_append_left (by rw [h]; exact hi)] at e
  exact k i o e
theorem gc_app (h : st1.length = st.length) (k : ∀ (i : Nat) (o : O), st1[i]? = some o → st[i]? = some o ∨ o.bel st.length = true) (hd : d.bel st.length = true) : gc st d (st1 ++ l) = (d, st1) := by
  unfold gc
  rw [if_pos (tidy_app h k), if_pos hd]
  rw [← h, List.take_left]
theorem gc_self : gc st d st = (d, st) := by
  have t : Tidy st st := ⟨Nat.le_refl _, fun i o _ e => .inl e⟩
  unfold gc
  rw [if_pos t]
  split
  · rw [List.take_length]
  · rename_i hb
    split
    · rename_i r
      have : ¬ r < st.length := fun z => hb (by simp only [D.bel]; exact decide_eq_true z)
      rw [List.getElem?_eq_none (by omega)]
    · rfl
theorem gc_pure (hd : d.pure = true) : gc st d (st ++ l) = (d, st) := gc_app rfl (fun i o e => .inl e) (pure_bel _ hd)
theorem gc_new (ho : o.bel st.length = true) : gc st (.ref st.length) (st ++ [o]) = (.ref st.length, st ++ [o]) := by
  unfold gc
  rw [if_pos (tidy_app rfl fun i o e => .inl e)]
  rw [if_neg (by simp [D.bel])]
  have e : (st ++ [o])[st.length]? = some o := by simp
  simp only [e, ho, if_true]
  rw [List.take_left]
/-- one new object handed back, the rest forgotten -/
theorem gc_obj {j : Nat} (h : st1.length = st.length) (k : ∀ (i : Nat) (o : O), st1[i]? = some o → st[i]? = some o ∨ o.bel st.length = true) (hj : l[j]? = some o) (ho : o.bel st.length = true) : gc st (.ref (st.length + j)) (st1 ++ l) = (.ref st.length, st1 ++ [o]) := by
  unfold gc
  rw [if_pos (tidy_app h k), if_neg (by simp [D.bel])]
  have e : (st1 ++ l)[st.length + j]? = some o := by
    rw [List.getElem?_append_right (by omega), h]
    simpa using hj
  simp only [e, ho, if_true]
  rw [← h, List.take_left]
end
end CL

namespace CL
open PySem PySem.Spec PyProof.Rows L2
/-! M1: simple facts for going through a def. -/
theorem at_nn {α : Type} {xs : List α} {i : Int} (h : 0 ≤ i) : at_ xs i = xs[i.toNat]? := by
  unfold at_ atI ixN
  rw [if_pos h]
  split
  · rfl
  · rename_i hh
    rw [List.getElem?_eq_none (by omega)]
    rfl
theorem ix_nn {n : Nat} {i : Int} (h : 0 ≤ i) (h2 : i < n) : ix_ n i = some i.toNat := by
  unfold ix_ ixN
  rw [if_pos h, if_pos h2]
theorem szL : sizeLine = 16777216 := by decide
section
variable {st : Sto} {i j : Int} {s t : List Nat} {xs ys : List D} {r q : Nat} {a b d : D} {G : List D} {C : Cl} {ρ : En}
@[simp] theorem k_int : isKey (.int i) = true := by simp [isKey]
@[simp] theorem k_str : isKey (.str s) = true := by simp [isKey]
@[simp] theorem bin_add : binop .add (.int i) (.int j) st = some (.int (i + j), st) := rfl
@[simp] theorem bin_sub : binop .sub (.int i) (.int j) st = some (.int (i - j), st) := rfl
theorem bin_mul (h : i.natAbs < 2 ^ 64 ∨ j.natAbs < 2 ^ 64 ∨ i.natAbs.log2 + j.natAbs.log2 < 1000000) : binop .mul (.int i) (.int j) st = some (.int (i * j), st) := if_pos h
theorem bin_fdiv (h : 0 < j ∧ j.natAbs.log2 < 9000) : binop .fdiv (.int i) (.int j) st = some (.int (i / j), st) := if_pos h
theorem bin_mod (h : 0 < j) : binop .mod (.int i) (.int j) st = some (.int (i % j), st) := if_pos h
theorem bin_pow (h : 0 ≤ j ∧ j ≤ 1000000 ∧ i.natAbs < 2 ^ 64) : binop .pow (.int i) (.int j) st = some (.int (i ^ j.toNat), st) := if_pos h
theorem bin_adds (h : s.length + t.length ≤ sizeLine) : binop .add (.str s) (.str t) st = some (.str (s ++ t), st) := if_pos h
theorem bin_addt (h : xs.length + ys.length ≤ sizeLine) : binop .add (.tup xs) (.tup ys) st = some (.tup (xs ++ ys), st) := if_pos h
theorem bin_addl (h : st[r]? = some (.lst xs)) (h2 : st[q]? = some (.lst ys)) (h3 : xs.length + ys.length ≤ sizeLine) : binop .add (.ref r) (.ref q) st = some (.ref st.length, st ++ [.lst (xs ++ ys)]) := by
  simp only [binop, h, h2, if_pos h3]
@[simp] theorem cmp_eq : cmpop .eq a b st = eqAt st a b := rfl
@[simp] theorem cmp_ne : cmpop .ne a b st = (eqAt st a b).map (!·) := rfl
@[simp] theorem cmp_in : cmpop .in_ a b st = inAt st a b := rfl
@[simp] theorem cmp_notin : cmpop .notin a b st = (inAt st a b).map (!·) := rfl
@[simp] theorem cmp_isn : cmpop .is_ a .non st = some (decide (a = .non)) := rfl
@[simp] theorem cmp_isnn : cmpop .isnot a .non st = some (!decide (a = .non)) := rfl
@[simp] theorem cmp_isnb {x y : Bool} : cmpop .isnot (.bl x) (.bl y) st = some (!decide (x = y)) := rfl
@[simp] theorem cmp_isb {x y : Bool} : cmpop .is_ (.bl x) (.bl y) st = some (decide (x = y)) := rfl
@[simp] theorem cmp_lt : cmpop .lt (.int i) (.int j) st = some (decide (i < j)) := rfl
@[simp] theorem cmp_le : cmpop .le (.int i) (.int j) st = some (decide (i ≤ j)) := rfl
@[simp] theorem cmp_gt : cmpop .gt (.int i) (.int j) st = some (decide (j < i)) := rfl
@[simp] theorem cmp_ge : cmpop .ge (.int i) (.int j) st = some (decide (j ≤ i)) := rfl
@[simp] theorem cmp_lts : cmpop .lt (.str s) (.str t) st = some (decide (s < t)) := rfl
theorem eq_pure (ha : a.pure = true) (hb : b.pure = true) (hd : a.dep ≤ 150 ∨ b.dep ≤ 150) : eqAt st a b = some (decide (a.norm = b.norm)) := by
  unfold eqAt
  rw [if_pos ⟨ha, hb⟩, if_pos (by omega)]
@[simp] theorem eq_int : eqAt st (.int i) (.int j) = some (decide (i = j)) := by
  rw [eq_pure rfl rfl (.inl (by simp [D.dep]))]
  simp [D.norm]
@[simp] theorem eq_str : eqAt st (.str s) (.str t) = some (decide (s = t)) := by
  rw [eq_pure rfl rfl (.inl (by simp [D.dep]))]
  simp [D.norm]
@[simp] theorem eq_bl {x y : Bool} : eqAt st (.bl x) (.bl y) = some (decide (x = y)) := by
  rw [eq_pure rfl rfl (.inl (by simp [D.dep]))]
  cases x <;> cases y <;> rfl
theorem in_tup (h1 : D.pures xs = true) (h2 : a.pure = true) (h3 : D.deps xs ≤ 150 ∨ a.dep ≤ 150) : inAt st a (.tup xs) = some (isIn a xs) := by
  simp only [inAt, seqAt, h1, h2, true_and]
  rw [if_pos (by omega)]
@[simp] theorem in_strs : inAt st (.str s) (.tup []) = some false := by
  rw [in_tup rfl rfl (.inr (by simp [D.dep]))]; rfl
@[simp] theorem in_str_cons : inAt st (.str s) (.tup (.str t :: xs)) = (inAt st (.str s) (.tup xs)).map fun y => decide (t = s) || y := by
  simp only [inAt, seqAt, D.pures, D.pure, Bool.true_and, true_and, D.dep, Nat.min_zero, Nat.zero_le, and_true]
  split
  · simp [isIn, D.norm]
  · rfl
@[simp] theorem in_int_nil : inAt st (.int i) (.tup []) = some false := by
  rw [in_tup rfl rfl (.inr (by simp [D.dep]))]; rfl
@[simp] theorem in_int_cons : inAt st (.int i) (.tup (.int j :: xs)) = (inAt st (.int i) (.tup xs)).map fun y => decide (j = i) || y := by
  simp only [inAt, seqAt, D.pures, D.pure, Bool.true_and, true_and, D.dep, Nat.min_zero, Nat.zero_le, and_true]
  split
  · simp [isIn, D.norm]
  · rfl
theorem in_dic {kvs : List (D × D)} (h : st[r]? = some (.dic kvs)) (hk : isKey a = true) : inAt st a (.ref r) = some (look kvs a).isSome := by
  simp only [inAt, seqAt, lstAt, dicAt, h, hk, if_true]
theorem in_rod {kvs : List (D × D)} (h : st[r]? = some (.rod kvs)) (hk : isKey a = true) : inAt st a (.ref r) = some (look kvs a).isSome := by
  simp only [inAt, seqAt, lstAt, dicAt, h, hk, if_true]
@[simp] theorem idx_tup : idxop (.tup xs) (.int i) st = at_ xs i := rfl
@[simp] theorem idx_str : idxop (.str s) (.int i) st = (at_ s i).map fun c => .str [c] := rfl
theorem idx_lst (h : st[r]? = some (.lst xs)) : idxop (.ref r) (.int i) st = at_ xs i := by simp only [idxop, lstAt, h]
theorem idx_ro (h : st[r]? = some (.ro xs)) : idxop (.ref r) (.int i) st = at_ xs i := by simp only [idxop, lstAt, h]
theorem idx_dic {kvs : List (D × D)} (h : st[r]? = some (.dic kvs)) (hk : isKey a = true) : idxop (.ref r) a st = look kvs a := by simp only [idxop, lstAt, dicAt, h, hk, if_true]
theorem idx_rod {kvs : List (D × D)} (h : st[r]? = some (.rod kvs)) (hk : isKey a = true) : idxop (.ref r) a st = look kvs a := by simp only [idxop, lstAt, dicAt, h, hk, if_true]
@[simp] theorem idx_dic_top {kvs : List (D × D)} (hk : isKey a = true) : idxop (.ref st.length) a (st ++ [.dic kvs]) = look kvs a := idx_dic (by simp) hk
@[simp] theorem idx_lst_top : idxop (.ref st.length) (.int i) (st ++ [.lst xs]) = at_ xs i := idx_lst (by simp)
@[simp] theorem tr_bl {x : Bool} : truth st (.bl x) = some x := rfl
@[simp] theorem tr_non : truth st .non = some false := rfl
@[simp] theorem tr_int : truth st (.int i) = some (decide (i ≠ 0)) := rfl
@[simp] theorem tr_str : truth st (.str s) = some (!s.isEmpty) := rfl
@[simp] theorem tr_tup : truth st (.tup xs) = some (!xs.isEmpty) := rfl
@[simp] theorem u_lens : blt .len [.str s] st = some (.int s.length, st) := rfl
@[simp] theorem u_lent : blt .len [.tup xs] st = some (.int xs.length, st) := rfl
theorem u_lenl (h : st[r]? = some (.lst xs)) : blt .len [.ref r] st = some (.int xs.length, st) := by simp only [blt, lstAt, h]
theorem u_lenr (h : st[r]? = some (.ro xs)) : blt .len [.ref r] st = some (.int xs.length, st) := by simp only [blt, lstAt, h]
@[simp] theorem u_inti : blt .int [.int i] st = some (.int i, st) := rfl
@[simp] theorem u_intb {x : Bool} : blt .int [.bl x] st = some (.int (if x then 1 else 0), st) := rfl
@[simp] theorem u_abs : blt .abs [.int i] st = some (.int (if i < 0 then -i else i), st) := rfl
@[simp] theorem u_max : blt .max [.int i, .int j] st = some (.int (if j > i then j else i), st) := rfl
@[simp] theorem u_min : blt .min [.int i, .int j] st = some (.int (if j < i then j else i), st) := rfl
theorem set_lst (h : st[r]? = some (.lst xs)) (h0 : 0 ≤ i) (h1 : i < xs.length) : setix (.ref r) (.int i) d st = some (st.set r (.lst (xs.set i.toNat d))) := by simp only [setix, h, ix_nn h0 h1]
theorem set_dic {kvs : List (D × D)} (h : st[r]? = some (.dic kvs)) (hk : isKey a = true) (hl : kvs.length < sizeLine) : setix (.ref r) a d st = some (st.set r (.dic (put kvs a d))) := by simp only [setix, h, hk, hl, true_and, if_true]
theorem push_lst (h : st[r]? = some (.lst xs)) (hl : xs.length < sizeLine) : push r d st = some (st.set r (.lst (xs ++ [d]))) := by simp only [push, h, hl, if_true]
theorem m_append (h : st[r]? = some (.lst xs)) (hl : xs.length < sizeLine) : mth .append (.ref r) [d] st = some (.non, st.set r (.lst (xs ++ [d]))) := by simp only [mth, h, hl, if_true]
@[simp] theorem ty_tup {t : Ty} : isTy st t (.tup xs) = some (decide (t = .tuple)) := rfl
@[simp] theorem ty_int {t : Ty} : isTy st t (.int i) = some (decide (t = .int)) := rfl
@[simp] theorem ty_bl {t : Ty} {x : Bool} : isTy st t (.bl x) = some (decide (t = .int ∨ t = .bool)) := rfl
@[simp] theorem ty_str {t : Ty} : isTy st t (.str s) = some (decide (t = .str)) := rfl
@[simp] theorem ty_non {t : Ty} : isTy st t .non = some false := rfl
@[simp] theorem walk_str : walkOf st (.str s) = some ⟨s.map fun c => .str [c], []⟩ := rfl
@[simp] theorem walk_tup : walkOf st (.tup xs) = some ⟨xs, []⟩ := rfl
theorem walk_lst (h : st[r]? = some (.lst xs)) : walkOf st (.ref r) = some ⟨xs, [(r, .lst xs)]⟩ := by simp only [walkOf, h]
theorem walk_rod {kvs : List (D × D)} (h : st[r]? = some (.rod kvs)) : walkOf st (.ref r) = some ⟨kvs.map (·.1), [(r, .rod kvs)]⟩ := by simp only [walkOf, h]
@[simp] theorem seq_tup : seqAt st (.tup xs) = some xs := rfl
end
/-! ### going through a body; loops are left alone -/
section
variable {G : List D} {C : Cl} {ρ : En} {st : Sto} {a b c : E} {es : List E} {i f : Nat} {d : D}
@[simp] theorem ev_var : ev G C (.var i) ρ st = match ρ[i]? with
    | some (some d) => some (d, st)
    | _ => none := by simp only [ev] <;> rfl
@[simp] theorem ev_lit : ev G C (.lit d) ρ st = some (d, st) := by simp only [ev] <;> rfl
@[simp] theorem ev_glo : ev G C (.glo i) ρ st = (G[i]?).map (·, st) := by simp only [ev] <;> rfl
@[simp] theorem ev_tup : ev G C (.tup es) ρ st = match evs G C es ρ st with
    | some (ds, st') => some (.tup ds, st')
    | none => none := by simp only [ev] <;> rfl
@[simp] theorem ev_lst : ev G C (.lst es) ρ st = match evs G C es ρ st with
    | some (ds, st') => some (.ref st'.length, st' ++ [.lst ds])
    | none => none := by simp only [ev] <;> rfl
@[simp] theorem ev_bin {o : Bop} : ev G C (.bin o a b) ρ st = match ev G C a ρ st with
    | some (x, s1) => match ev G C b ρ s1 with
      | some (y, s2) => binop o x y s2
      | none => none
    | none => none := by simp only [ev] <;> rfl
@[simp] theorem ev_neg : ev G C (.neg a) ρ st = match ev G C a ρ st with
    | some (.int i, s1) => some (.int (-i), s1)
    | _ => none := by simp only [ev] <;> rfl
@[simp] theorem ev_not : ev G C (.not a) ρ st = match ev G C a ρ st with
    | some (x, s1) => (truth s1 x).map fun t => (.bl (!t), s1)
    | none => none := by simp only [ev] <;> rfl
@[simp] theorem ev_cmp {o : Cop} : ev G C (.cmp o a b) ρ st = match ev G C a ρ st with
    | some (x, s1) => match ev G C b ρ s1 with
      | some (y, s2) => (cmpop o x y s2).map fun t => (.bl t, s2)
      | none => none
    | none => none := by simp only [ev] <;> rfl
@[simp] theorem ev_chn {o1 o2 : Cop} : ev G C (.chn o1 o2 a b c) ρ st = match ev G C a ρ st with
    | some (x, s1) => match ev G C b ρ s1 with
      | some (y, s2) => match cmpop o1 x y s2 with
        | some true => match ev G C c ρ s2 with
          | some (z, s3) => (cmpop o2 y z s3).map fun t => (.bl t, s3)
          | none => none
        | some false => some (.bl false, s2)
        | none => none
      | none => none
    | none => none := by simp only [ev] <;> rfl
@[simp] theorem ev_and : ev G C (.and a b) ρ st = match ev G C a ρ st with
    | some (x, s1) => match truth s1 x with
      | some true => ev G C b ρ s1
      | some false => some (x, s1)
      | none => none
    | none => none := by simp only [ev] <;> rfl
@[simp] theorem ev_or : ev G C (.or a b) ρ st = match ev G C a ρ st with
    | some (x, s1) => match truth s1 x with
      | some true => some (x, s1)
      | some false => ev G C b ρ s1
      | none => none
    | none => none := by simp only [ev] <;> rfl
@[simp] theorem ev_ite {t : Ts} : ev G C (.ite t a b) ρ st = match evT G C t ρ st with
    | some (true, s1) => ev G C a ρ s1
    | some (false, s1) => ev G C b ρ s1
    | none => none := by simp only [ev] <;> rfl
@[simp] theorem ev_idx : ev G C (.idx a b) ρ st = match ev G C a ρ st with
    | some (x, s1) => match ev G C b ρ s1 with
      | some (y, s2) => (idxop x y s2).map (·, s2)
      | none => none
    | none => none := by simp only [ev] <;> rfl
@[simp] theorem ev_sl {l h : OE} : ev G C (.sl a l h) ρ st = match ev G C a ρ st with
    | some (x, s1) => match evO G C l ρ s1 with
      | some (l, s2) => match evO G C h ρ s2 with
        | some (h, s3) => slop x l h s3
        | none => none
      | none => none
    | none => none := by simp only [ev] <;> rfl
@[simp] theorem ev_rev : ev G C (.rev a) ρ st = match ev G C a ρ st with
    | some (x, s1) => match lstAt s1 x with
      | some xs => some (.ref s1.length, s1 ++ [.lst xs.reverse])
      | none => none
    | none => none := by simp only [ev] <;> rfl
@[simp] theorem ev_call : ev G C (.call f es) ρ st = match evs G C es ρ st with
    | some (ds, s1) => C f ds s1
    | none => none := by simp only [ev] <;> rfl
@[simp] theorem ev_blt {b : Blt} : ev G C (.blt b es) ρ st = match evs G C es ρ st with
    | some (ds, s1) => blt b ds s1
    | none => none := by simp only [ev] <;> rfl
@[simp] theorem ev_mth {m : Mth} : ev G C (.mth m a es) ρ st = match ev G C a ρ st with
    | some (x, s1) => if mty m s1 x = true then match evs G C es ρ s1 with
        | some (ds, s2) => mth m x ds s2
        | none => none
      else none
    | none => none := by simp only [ev] <;> rfl
@[simp] theorem ev_isi {t : Ty} : ev G C (.isi a t) ρ st = match ev G C a ρ st with
    | some (x, s1) => (isTy s1 t x).map fun b => (.bl b, s1)
    | none => none := by simp only [ev] <;> rfl
@[simp] theorem evs_nil : evs G C [] ρ st = some ([], st) := by simp only [evs] <;> rfl
@[simp] theorem evs_cons : evs G C (a :: es) ρ st = match ev G C a ρ st with
    | some (d, s1) => match evs G C es ρ s1 with
      | some (ds, s2) => some (d :: ds, s2)
      | none => none
    | none => none := by simp only [evs] <;> rfl
@[simp] theorem evO_no : evO G C .no ρ st = some (none, st) := by simp only [evO] <;> rfl
@[simp] theorem evO_yes : evO G C (.yes a) ρ st = match ev G C a ρ st with
    | some (.int i, s1) => some (some i, s1)
    | _ => none := by simp only [evO] <;> rfl
@[simp] theorem evC_no : evC G C .no ρ st = some (true, st) := by simp only [evC] <;> rfl
@[simp] theorem evC_yes {t : Ts} : evC G C (.yes t) ρ st = evT G C t ρ st := by simp only [evC] <;> rfl
variable {t u v : Ts}
@[simp] theorem evT_not : evT G C (.not t) ρ st = match evT G C t ρ st with
    | some (t, s1) => some (!t, s1)
    | none => none := by simp only [evT] <;> rfl
@[simp] theorem evT_and : evT G C (.and t u) ρ st = match evT G C t ρ st with
    | some (true, s1) => evT G C u ρ s1
    | some (false, s1) => some (false, s1)
    | none => none := by simp only [evT] <;> rfl
@[simp] theorem evT_or : evT G C (.or t u) ρ st = match evT G C t ρ st with
    | some (true, s1) => some (true, s1)
    | some (false, s1) => evT G C u ρ s1
    | none => none := by simp only [evT] <;> rfl
@[simp] theorem evT_cmp {o : Cop} : evT G C (.cmp o a b) ρ st = match ev G C a ρ st with
    | some (x, s1) => match ev G C b ρ s1 with
      | some (y, s2) => (cmpop o x y s2).map (·, s2)
      | none => none
    | none => none := by simp only [evT] <;> rfl
@[simp] theorem evT_chn {o1 o2 : Cop} : evT G C (.chn o1 o2 a b c) ρ st = match ev G C a ρ st with
    | some (x, s1) => match ev G C b ρ s1 with
      | some (y, s2) => match cmpop o1 x y s2 with
        | some true => match ev G C c ρ s2 with
          | some (z, s3) => (cmpop o2 y z s3).map (·, s3)
          | none => none
        | some false => some (false, s2)
        | none => none
      | none => none
    | none => none := by simp only [evT] <;> rfl
@[simp] theorem evT_ite : evT G C (.ite t u v) ρ st = match evT G C t ρ st with
    | some (true, s1) => evT G C u ρ s1
    | some (false, s1) => evT G C v ρ s1
    | none => none := by simp only [evT] <;> rfl
@[simp] theorem evT_tru : evT G C (.tru a) ρ st = match ev G C a ρ st with
    | some (x, s1) => (truth s1 x).map (·, s1)
    | none => none := by simp only [evT] <;> rfl
variable {tg : Tg} {ts : List Tg} {ds : List D}
@[simp] theorem asg_nm : asg G C (.nm i) d ρ st = some (ρ.set i (some d), st) := by simp only [asg] <;> rfl
@[simp] theorem asg_tp : asg G C (.tp ts) d ρ st = match seqAt st d with
    | some xs => if xs.length = ts.length then asgs G C ts xs ρ st else none
    | _ => none := by simp only [asg] <;> rfl
@[simp] theorem asg_ix : asg G C (.ix a b) d ρ st = match ev G C a ρ st with
    | some (x, s1) => match ev G C b ρ s1 with
      | some (y, s2) => (setix x y d s2).map (ρ, ·)
      | none => none
    | none => none := by simp only [asg] <;> rfl
@[simp] theorem asgs_nil : asgs G C [] ds ρ st = some (ρ, st) := by simp only [asgs] <;> rfl
@[simp] theorem asgs_cons : asgs G C (tg :: ts) (d :: ds) ρ st = match asg G C tg d ρ st with
      | some (ρ', s') => asgs G C ts ds ρ' s'
      | none => none := by simp only [asgs] <;> rfl
variable {s : S} {r x y : List S}
@[simp] theorem ex_asg : ex G C (.asg tg a) ρ st = match ev G C a ρ st with
    | some (d, s1) => match asg G C tg d ρ s1 with
      | some (ρ', s2) => some (.nx, ρ', s2)
      | none => none
    | none => none := by simp only [ex] <;> rfl
@[simp] theorem ex_aug {o : Bop} : ex G C (.aug i o a) ρ st = match ρ[i]? with
    | some (some x) => match ev G C a ρ st with
      | some (y, s1) => (augop o x y).map fun z => (.nx, ρ.set i (some z), s1)
      | none => none
    | _ => none := by simp only [ex] <;> rfl
@[simp] theorem ex_exp : ex G C (.exp a) ρ st = match ev G C a ρ st with
    | some (_, s1) => some (.nx, ρ, s1)
    | none => none := by simp only [ex] <;> rfl
@[simp] theorem ex_ret : ex G C (.ret a) ρ st = match ev G C a ρ st with
    | some (d, s1) => some (.rt d, ρ, s1)
    | none => none := by simp only [ex] <;> rfl
@[simp] theorem ex_retN : ex G C .retN ρ st = some (.rt .non, ρ, st) := by simp only [ex] <;> rfl
@[simp] theorem ex_ifs : ex G C (.ifs t x y) ρ st = match evT G C t ρ st with
    | some (true, s1) => exs G C x ρ s1
    | some (false, s1) => exs G C y ρ s1
    | none => none := by simp only [ex] <;> rfl
@[simp] theorem ex_brk : ex G C .brk ρ st = some (.bk, ρ, st) := by simp only [ex] <;> rfl
@[simp] theorem ex_cnt : ex G C .cnt ρ st = some (.ct, ρ, st) := by simp only [ex] <;> rfl
@[simp] theorem ex_pas : ex G C .pas ρ st = some (.nx, ρ, st) := by simp only [ex] <;> rfl
@[simp] theorem exs_nil : exs G C [] ρ st = some (.nx, ρ, st) := by simp only [exs] <;> rfl
@[simp] theorem exs_cons : exs G C (s :: r) ρ st = match ex G C s ρ st with
    | some (.nx, ρ', s') => exs G C r ρ' s'
    | some (f, ρ', s') => some (f, ρ', s')
    | none => none := by simp only [exs] <;> rfl
/-- a statement behind which it goes on -/
theorem exs_nx {ρ' : En} {s' : Sto} {R : Option Rs} (h : ex G C s ρ st = some (.nx, ρ', s')) (h2 : exs G C r ρ' s' = R) : exs G C (s :: r) ρ st = R := by rw [exs_cons, h]; exact h2
theorem exs_rt {ρ' : En} {s' : Sto} (h : ex G C s ρ st = some (.rt d, ρ', s')) : exs G C (s :: r) ρ st = some (.rt d, ρ', s') := by rw [exs_cons, h]
theorem ret_var (h : ρ[i]? = some (some d)) : ex G C (.ret (.var i)) ρ st = some (.rt d, ρ, st) := by simp only [ex_ret, ev_var, h]
theorem ret_lit : ex G C (.ret (.lit d)) ρ st = some (.rt d, ρ, st) := by simp only [ex_ret, ev_lit]
/-! ### loops -/
theorem loopF_nx {w : Wk} {f : D → En → Sto → Option Rs} (P : Nat → En → Sto → Prop) (ok : ∀ i ρ st, P i ρ st → w.ok st) : ∀ (l : List D) (i : Nat), (∀ j d ρ st, l[j]? = some d → P (i + j) ρ st → ∃ ρ' st', f d ρ st = some (.nx, ρ', st') ∧ P (i + j + 1) ρ' st') →
    ∀ ρ st, P i ρ st → ∃ ρ' st', loopF w f l ρ st = some (.nx, ρ', st') ∧ P (i + l.length) ρ' st'
  | [], i, _, ρ, st, h => ⟨ρ, st, by unfold loopF; rw [if_pos (ok _ _ _ h)], h⟩
  | d :: l, i, step, ρ, st, h => by
    obtain ⟨ρ1, st1, e1, h1⟩ := step 0 d ρ st rfl h
    obtain ⟨ρ2, st2, e2, h2⟩ := loopF_nx P ok l (i + 1) (fun j d' ρ st e p => by
      have q := step (j + 1) d' ρ st (by simpa using e) (by rw [show i + (j + 1) = i + 1 + j from by omega]; exact p)
      rw [show i + (j + 1) + 1 = i + 1 + j + 1 from by omega] at q
      exact q) ρ1 st1 h1
    refine ⟨ρ2, st2, ?_, by rw [List.length_cons, show i + (l.length + 1) = i + 1 + l.length from by omega]; exact h2⟩
    unfold loopF
    rw [if_pos (ok _ _ _ h)]
    simp only [e1, e2]
theorem ok_nil {items : List D} : (Wk.mk items []).ok st := fun p hp => by cases hp
/-- a for loop that runs to its end -/
theorem ex_for {it : It} {w : Wk} {s1 : Sto} (P : Nat → En → Sto → Prop) (hw : evI G C it ρ st = some (w, s1)) (ok : ∀ i ρ st, P i ρ st → w.ok st) (h0 : P 0 ρ s1)
    (step : ∀ (j : Nat) (d : D) (ρ : En) (st : Sto), w.items[j]? = some d → P j ρ st → ∃ ρ1 st1, asg G C tg d ρ st = some (ρ1, st1) ∧ ∃ ρ2 st2, exs G C x ρ1 st1 = some (.nx, ρ2, st2) ∧ P (j + 1) ρ2 st2) :
    ∃ ρ' st', ex G C (.frr tg it x) ρ st = some (.nx, ρ', st') ∧ P w.items.length ρ' st' := by
  simp only [ex, hw]
  obtain ⟨ρ', st', e, h⟩ := loopF_nx (w := w) (f := fun d ρ' s' => match asg G C tg d ρ' s' with
        | some (ρ'', s'') => exs G C x ρ'' s''
        | none => none) P ok w.items 0 (fun j d ρ st e p => by
    rw [Nat.zero_add] at p
    obtain ⟨ρ1, st1, e1, ρ2, st2, e2, p2⟩ := step j d ρ st e p
    refine ⟨ρ2, st2, by simp only [e1, e2], by rw [Nat.zero_add]; exact p2⟩) ρ s1 h0
  exact ⟨ρ', st', e, by rw [Nat.zero_add] at h; exact h⟩
theorem loopC_inv {w : Wk} {f : D → Sto → Option Sto} (P : Nat → Sto → Prop) (ok : ∀ i st, P i st → w.ok st) : ∀ (l : List D) (i : Nat), (∀ j d st, l[j]? = some d → P (i + j) st → ∃ st', f d st = some st' ∧ P (i + j + 1) st') →
    ∀ st, P i st → ∃ st', loopC w f l st = some st' ∧ P (i + l.length) st'
  | [], i, _, st, h => ⟨st, by unfold loopC; rw [if_pos (ok _ _ h)], h⟩
  | d :: l, i, step, st, h => by
    obtain ⟨st1, e1, h1⟩ := step 0 d st rfl h
    obtain ⟨st2, e2, h2⟩ := loopC_inv P ok l (i + 1) (fun j d' st e p => by
      have q := step (j + 1) d' st (by simpa using e) (by rw [show i + (j + 1) = i + 1 + j from by omega]; exact p)
      rw [show i + (j + 1) + 1 = i + 1 + j + 1 from by omega] at q
      exact q) st1 h1
    refine ⟨st2, ?_, by rw [List.length_cons, show i + (l.length + 1) = i + 1 + l.length from by omega]; exact h2⟩
    unfold loopC
    rw [if_pos (ok _ _ h)]
    simp only [e1, e2]
/-- a list comprehension -/
theorem ev_lc_inv {vs : List Nat} {elt : E} {it : It} {cc : OT} {w : Wk} {s1 : Sto} (P : Nat → Sto → Prop) (hw : evI G C it ρ st = some (w, s1)) (ok : ∀ i st, P i st → w.ok st) (h0 : P 0 (s1 ++ [.lst []]))
    (step : ∀ (j : Nat) (d : D) (st : Sto), w.items[j]? = some d → P j st → ∃ ρ1 s2, asg G C tg d (wipe ρ vs) st = some (ρ1, s2) ∧ ((∃ s3, evC G C cc ρ1 s2 = some (false, s3) ∧ P (j + 1) s3) ∨ (∃ s3 y s4 s5, evC G C cc ρ1 s2 = some (true, s3) ∧ ev G C elt ρ1 s3 = some (y, s4) ∧ push s1.length y s4 = some s5 ∧ P (j + 1) s5))) :
    ∃ s', ev G C (.lc vs elt tg it cc) ρ st = some (.ref s1.length, s') ∧ P w.items.length s' := by
  simp only [ev, hw]
  obtain ⟨s', e, h⟩ := loopC_inv (w := w) (f := fun d s => match asg G C tg d (wipe ρ vs) s with
        | some (ρ', s') => match evC G C cc ρ' s' with
          | some (true, s'') => match ev G C elt ρ' s'' with
            | some (y, s3) => push s1.length y s3
            | none => none
          | some (false, s'') => some s''
          | none => none
        | none => none) P ok w.items 0 (fun j d st e p => by
    rw [Nat.zero_add] at p
    obtain ⟨ρ1, s2, e1, ⟨s3, e2, p2⟩ | ⟨s3, y, s4, s5, e2, e3, e4, p2⟩⟩ := step j d st e p
    · exact ⟨s3, by simp only [e1, e2], by rw [Nat.zero_add]; exact p2⟩
    · exact ⟨s5, by simp only [e1, e2, e3, e4], by rw [Nat.zero_add]; exact p2⟩) _ h0
  exact ⟨s', congrArg (fun o => match o with | some s' => some (D.ref s1.length, s') | none => none) e, by rw [Nat.zero_add] at h; exact h⟩
theorem ev_lock_d {i r : Nat} {kvs : List (D × D)} {s1 : Sto} (hi : ρ[i]? = some (some (.ref r))) (hr : st[r]? = some (.dic kvs)) (h : ev G C a ρ (st.set r (.rod kvs)) = some (d, s1)) (h2 : s1[r]? = some (.rod kvs)) : ev G C (.lock i a) ρ st = some (d, s1.set r (.dic kvs)) := by
  simp only [ev, dicIn, hi, hr, h, unlock, h2, if_true, Option.map_some]
theorem evI_rng1 {n : Nat} {a : E} {s1 : Sto} (h : ev G C a ρ st = some (.int n, s1)) (hn : n < 2 ^ 62) : evI G C (.rng [a]) ρ st = some (⟨(List.range n).map fun k => .int (k : Nat), []⟩, s1) := by
  simp only [evI, evs, h, walkRng]
  rw [if_pos (by omega)]
  simp [rangeOf]
theorem evI_rng2 {n m : Nat} {a b : E} {s1 s2 : Sto} (h : ev G C a ρ st = some (.int n, s1)) (h2 : ev G C b ρ s1 = some (.int m, s2)) (hn : n < 2 ^ 62) (hm : m < 2 ^ 62) : evI G C (.rng [a, b]) ρ st = some (⟨(List.range (m - n)).map fun k => .int ((n + k : Nat) : Int), []⟩, s2) := by
  simp only [evI, evs, h, h2, walkRng]
  rw [if_pos (by omega)]
  simp only [Option.map_some, rangeOf]
  congr 5
  · omega
theorem rng_get {n j : Nat} {d : D} {g : Nat → D} (h : ((List.range n).map g)[j]? = some d) : j < n ∧ d = g j := by
  simp only [List.getElem?_map, Option.map_eq_some_iff] at h
  obtain ⟨c, h, rfl⟩ := h
  obtain ⟨h1, h2⟩ := List.getElem?_eq_some_iff.mp h
  simp at h1 h2
  exact ⟨h1, by rw [h2]⟩
theorem imp_use {A B C : Prop} (L : A → B) (k : B → C) (h : A) : C := k (L h)
/-- a call -/
theorem call_rt {T : List Fn} {k : Nat} {fn : Fn} {as : List D} {d' : D} {st' : Sto} {ρ' : En} {s' : Sto} (h : T[f]? = some fn) (hl : as.length = fn.np) (e : exs G (call G T k) fn.body (as.map some ++ List.replicate (fn.nl - fn.np) none) st = some (.rt d, ρ', s')) (g : gc st d s' = (d', st')) :
    call G T (k + 1) f as st = some (d', st') := by
  simp only [call, h, hl, if_true, e, g]
end
end CL

namespace CL
open PySem PySem.Spec PyProof.Rows L2
/-! M2: the drawing of a law's input. -/
def B_law_draw : List S := [.asg (.nm 2) (.idx (.var 0) (.lit (.int 1))), .asg (.ix (.var 0) (.lit (.int 1))) (.bin .add (.var 2) (.lit (.int 1))), .ifs (.cmp .lt (.var 2) (.blt .len [.idx (.var 0) (.lit (.int 0))])) [.ret (.bin .mod (.blt .int [.idx (.idx (.var 0) (.lit (.int 0))) (.var 2)]) (.var 1))] [], .ret (.lit (.int 0))]
def B_law_cell : List S := [.ifs (.cmp .lt (.var 1) (.blt .len [.var 0])) [.ret (.idx (.var 0) (.var 1))] [], .ret (.lit (.int 0))]
def B_law_digits (c : Nat) : List S := [.asg (.nm 3) (.lst []), .frr (.nm 4) (.rng [.var 1, .var 2]) [.asg (.nm 5) (.call c [.var 0, .var 4]), .ifs (.cmp .lt (.var 5) (.lit (.int 0))) [.asg (.nm 5) (.bin .sub (.lit (.int 1)) (.bin .mul (.lit (.int 2)) (.var 5)))] [], .ifs (.cmp .ge (.var 5) (.bin .pow (.lit (.int 10)) (.lit (.int 18)))) [.frr (.nm 6) (.rng [.lit (.int 60)]) [.ifs (.cmp .gt (.var 5) (.lit (.int 0))) [.exp (.mth .append (.var 3) [.bin .mod (.blt .int [.var 5]) (.lit (.int 1000))]), .asg (.nm 5) (.bin .fdiv (.var 5) (.lit (.int 1000)))] []]] [.asg (.nm 7) (.bin .mod (.blt .int [.bin .add (.bin .add (.bin .mul (.var 5) (.lit (.int 48271))) (.bin .mul (.var 4) (.lit (.int 69621)))) (.lit (.int 11))]) (.lit (.int 2147483647))), .frr (.nm 6) (.rng [.lit (.int 12)]) [.asg (.nm 7) (.bin .mod (.blt .int [.bin .add (.bin .add (.bin .mul (.var 7) (.lit (.int 16807))) (.bin .mul (.lit (.int 7)) (.var 6))) (.lit (.int 1))]) (.lit (.int 2147483647))), .exp (.mth .append (.var 3) [.bin .mod (.blt .int [.bin .fdiv (.var 7) (.lit (.int 997))]) (.lit (.int 1000))])]]], .ret (.var 3)]
def B_law_box (c : Nat) : List S := [.ret (.lst [.call c [.var 0, .var 1, .var 2], .lit (.int 0)])]
def dv (ds : List Int) (p : Nat) (m : Int) : Int := if h : p < ds.length then ds[p] % m else 0
theorem dv_bd {ds : List Int} {p : Nat} {m : Int} (h : 0 < m) : 0 ≤ dv ds p m ∧ dv ds p m < m := by
  unfold dv
  split
  · exact ⟨Int.emod_nonneg _ (by omega), Int.emod_lt_of_pos _ h⟩
  · exact ⟨Int.le_refl _, h⟩
theorem dv2 (ds : List Int) (p : Nat) : dv ds p 2 = 0 ∨ dv ds p 2 = 1 := by have := dv_bd (ds := ds) (p := p) (m := 2) (by decide); omega
theorem dv3 (ds : List Int) (p : Nat) : dv ds p 3 = 0 ∨ dv ds p 3 = 1 ∨ dv ds p 3 = 2 := by have := dv_bd (ds := ds) (p := p) (m := 3) (by decide); omega
theorem dv4 (ds : List Int) (p : Nat) : dv ds p 4 = 0 ∨ dv ds p 4 = 1 ∨ dv ds p 4 = 2 ∨ dv ds p 4 = 3 := by have := dv_bd (ds := ds) (p := p) (m := 4) (by decide); omega
theorem dv5 (ds : List Int) (p : Nat) : dv ds p 5 = 0 ∨ dv ds p 5 = 1 ∨ dv ds p 5 = 2 ∨ dv ds p 5 = 3 ∨ dv ds p 5 = 4 := by have := dv_bd (ds := ds) (p := p) (m := 5) (by decide); omega
/-- a box of digits at b, read to the place p -/
structure Box (b q : Nat) (ds : List Int) (p : Nat) (st : Sto) : Prop where
  hb : st[b]? = some (.lst [.ref q, .int p])
  hq : st[q]? = some (.lst (ds.map .int))
  ne : q ≠ b
section
variable {G : List D} {T : List Fn} {k f b q p p' : Nat} {nm nm' : Str} {st : Sto} {ds : List Int} {m : Int}
/-- the box moves -/
abbrev mv (st : Sto) (b q p : Nat) : Sto := st.set b (.lst [.ref q, .int p])
theorem Box.lt (B : Box b q ds p st) : b < st.length := (List.getElem?_eq_some_iff.mp B.hb).1
theorem Box.ltq (B : Box b q ds p st) : q < st.length := (List.getElem?_eq_some_iff.mp B.hq).1
theorem Box.mv (B : Box b q ds p st) (p' : Nat) : Box b q ds p' (mv st b q p') :=
  ⟨List.getElem?_set_self B.lt, by rw [List.getElem?_set_ne (Ne.symm B.ne)]; exact B.hq, B.ne⟩
theorem Box.app (B : Box b q ds p st) (l : Sto) : Box b q ds p (st ++ l) :=
  ⟨by rw [List.getElem?_append_left B.lt]; exact B.hb, by rw [List.getElem?_append_left B.ltq]; exact B.hq, B.ne⟩
theorem mv_mv : mv (mv st b q p) b q p' = mv st b q p' := List.set_set _
theorem mv_len : (mv st b q p).length = st.length := List.length_set
theorem Box.tidy (B : Box b q ds p st) {p' : Nat} : ∀ (i : Nat) (o : O), (CL.mv st b q p')[i]? = some o → st[i]? = some o ∨ o.bel st.length = true := fun i o e => by
  by_cases hi : b = i
  · subst hi
    rw [List.getElem?_set_self B.lt] at e
    cases e
    exact .inr (by simp [O.bel, D.bels, D.bel, B.ltq])
  · rw [List.getElem?_set_ne hi] at e
    exact .inl e
theorem Box.gc (B : Box b q ds p st) {d : D} (hd : d.bel st.length = true) : gc st d (CL.mv st b q p') = (d, CL.mv st b q p') := by
  have := gc_app (l := []) mv_len (B.tidy (p' := p')) hd
  rwa [List.append_nil] at this
theorem Box.gcl (B : Box b q ds p st) {d : D} {l : Sto} (hd : d.bel st.length = true) : CL.gc st d (CL.mv st b q p' ++ l) = (d, CL.mv st b q p') := gc_app mv_len B.tidy hd
theorem Box.self (B : Box b q ds p st) : CL.mv st b q p = st := by
  apply List.ext_getElem?
  intro i
  by_cases hi : b = i
  · subst hi; rw [List.getElem?_set_self B.lt]; exact B.hb.symm
  · rw [List.getElem?_set_ne hi]
theorem Box.gcm (B : Box b q ds p st) {p1 p2 : Nat} {d : D} (hd : d.bel st.length = true) : CL.gc (CL.mv st b q p1) d (CL.mv st b q p2) = (d, CL.mv st b q p2) := by
  have := (B.mv p1).gc (p' := p2) (d := d) (by rw [mv_len]; exact hd)
  rwa [mv_mv] at this
theorem Box.gcp (B : Box b q ds p st) {p1 p2 : Nat} {d : D} (hd : d.pure = true) : CL.gc (CL.mv st b q p1) d (CL.mv st b q p2) = (d, CL.mv st b q p2) := B.gcm (pure_bel _ hd)
theorem mv_app (B : Box b q ds p st) {l : Sto} {p' : Nat} : CL.mv st b q p' ++ l = CL.mv (st ++ l) b q p' := by
  unfold CL.mv
  rw [List.set_append_left _ _ B.lt]
theorem Box.gcml (B : Box b q ds p st) {p1 p2 : Nat} {d : D} {l : Sto} (hd : d.pure = true) : CL.gc (CL.mv st b q p1) d (CL.mv (st ++ l) b q p2) = (d, CL.mv st b q p2) := by
  have := (B.mv p1).gcl (p' := p2) (d := d) (l := l) (pure_bel _ hd)
  rwa [mv_mv, mv_app B] at this
theorem Box.gco (B : Box b q ds p st) {p1 p2 j : Nat} {o : O} {l : Sto} (hj : l[j]? = some o) (ho : o.bel st.length = true) : CL.gc (CL.mv st b q p1) (.ref (st.length + j)) (CL.mv st b q p2 ++ l) = (.ref st.length, CL.mv st b q p2 ++ [o]) := by
  have := gc_obj (st := CL.mv st b q p1) (st1 := CL.mv st b q p2) (by rw [mv_len, mv_len]) (fun i o e => by
    have := (B.mv p1).tidy (p' := p2) i o (by rw [mv_mv]; exact e)
    exact this) hj (by rw [mv_len]; exact ho)
  rwa [mv_len] at this
theorem draw_ok (h : T[f]? = some ⟨nm, 2, 3, B_law_draw⟩) (B : Box b q ds p st) (hm : 0 < m) :
   call G T (k + 1) f [.ref b, .int m] st = some (.int (dv ds p m), mv st b q (p + 1)) := by
  have hb := B.hb
  have hq := B.hq
  have e1 := (B.mv (p + 1)).hb
  have e2 := (B.mv (p + 1)).hq
  have e3 : (p : Int) + 1 = ((p + 1 : Nat) : Int) := rfl
  unfold mv at *
  by_cases hp : p < ds.length
  · simp [call, h, B_law_draw, idx_lst hb, idx_lst hq, set_lst hb, at_nn, idx_lst e1, idx_lst e2, e3, -Int.natCast_add, u_lenl e2, hp, bin_mod hm, dv]
    exact B.gc rfl
  · simp [call, h, B_law_draw, idx_lst hb, idx_lst hq, set_lst hb, at_nn, idx_lst e1, idx_lst e2, e3, -Int.natCast_add, u_lenl e2, hp, dv]
    exact B.gc rfl
theorem draw_mv (h : T[f]? = some ⟨nm, 2, 3, B_law_draw⟩) (B : Box b q ds p st) (hk : 0 < k) (p1 : Nat) (hm : 0 < m) :
   call G T k f [.ref b, .int m] (mv st b q p1) = some (.int (dv ds p1 m), mv st b q (p1 + 1)) := by
  obtain ⟨k, rfl⟩ : ∃ j, k = j + 1 := ⟨k - 1, by omega⟩
  have := draw_ok (G := G) (k := k) h (B.mv p1) hm
  rwa [mv_mv] at this
theorem cell_ok {s : Nat} {o : O} {ns : List Int} {i : Nat} (h : T[f]? = some ⟨nm, 2, 2, B_law_cell⟩) (hs : st[s]? = some o) (ho : o = .lst (ns.map .int) ∨ o = .ro (ns.map .int)) :
    ∃ v : Int, call G T (k + 1) f [.ref s, .int i] st = some (.int v, st) := by
  rcases ho with rfl | rfl
  · by_cases hp : i < ns.length
    · exact ⟨ns[i], by simp [call, h, B_law_cell, u_lenl hs, hp, idx_lst hs, at_nn, gc_self]⟩
    · exact ⟨0, by simp [call, h, B_law_cell, u_lenl hs, hp, idx_lst hs, at_nn, gc_self]⟩
  · by_cases hp : i < ns.length
    · exact ⟨ns[i], by simp [call, h, B_law_cell, u_lenr hs, hp, idx_ro hs, at_nn, gc_self]⟩
    · exact ⟨0, by simp [call, h, B_law_cell, u_lenr hs, hp, idx_ro hs, at_nn, gc_self]⟩
theorem top_get {l : Sto} {o : O} : (l ++ [o])[l.length]? = some o := by simp
theorem top_set {l : Sto} {o o' : O} : (l ++ [o]).set l.length o' = l ++ [o'] := by simp
/-- a new digit -/
theorem push_ok' {x : Int} (hl : ds.length < 100000) : mth .append (.ref st.length) [.int x] (st ++ [.lst (ds.map .int)]) = some (.non, st ++ [.lst ((ds ++ [x]).map .int)]) := by
  rw [m_append top_get (by rw [List.length_map, szL]; omega), top_set]
  simp
theorem fold_same {α : Type} {o : Option α} {x : α} (h : o = some x) {β : Type} (g : α → β) : o.map g = some (g x) := by rw [h]; rfl
theorem dig_in {x : Int} {n c : Nat} {ρ : En} (h3 : ρ[3]? = some (some (.ref st.length))) (e : E) (v : Int) (he : ∀ st', ev G (call G T k) e ρ st' = some (.int v, st')) (hl : ds.length < 100000) :
    ex G (call G T k) (.exp (.mth .append (.var 3) [.bin .mod (.blt .int [e]) (.lit (.int 1000))])) ρ (st ++ [.lst (ds.map .int)]) = some (.nx, ρ, st ++ [.lst ((ds ++ [v % 1000]).map .int)]) := by
  have hm : mty .append (st ++ [.lst (ds.map .int)]) (.ref st.length) = true := by simp [mty, lstAt, top_get]
  simp only [ex_exp, ev_mth, ev_var, h3, hm, if_true, evs_cons, evs_nil, ev_bin, ev_blt, he, u_inti, ev_lit, bin_mod (show (0:Int) < 1000 by decide)]
  rw [push_ok' hl]
theorem ints_pure : ∀ ds : List Int, D.pures (ds.map .int) = true
  | [] => rfl
  | d :: ds => by simp only [List.map_cons, D.pures, D.pure, ints_pure ds, Bool.and_self]
theorem digits_ok {c s : Nat} {o : O} {ns : List Int} {a b : Nat} (h : T[f]? = some ⟨nm, 3, 8, B_law_digits c⟩) (hc : T[c]? = some ⟨nm', 2, 2, B_law_cell⟩) (hs : st[s]? = some o) (ho : o = .lst (ns.map .int) ∨ o = .ro (ns.map .int)) (hb : b < 1000) (ha : a < 1000) :
    ∃ ds : List Int, call G T (k + 2) f [.ref s, .int a, .int b] st = some (.ref st.length, st ++ [.lst (ds.map .int)]) := by
  have hsl : s < st.length := (List.getElem?_eq_some_iff.mp hs).1
  have cell : ∀ (l : Sto) (i : Nat), ∃ v : Int, call G T (k + 1) c [.ref s, .int i] (st ++ l) = some (.int v, st ++ l) := fun l i => cell_ok hc (by rw [List.getElem?_append_left hsl]; exact hs) ho
  let P : Nat → En → Sto → Prop := fun i ρ st' => ∃ (ds : List Int) (x4 x5 x6 x7 : Option D), ds.length ≤ 60 * i ∧ ρ = [some (.ref s), some (.int a), some (.int b), some (.ref st.length), x4, x5, x6, x7] ∧ st' = st ++ [.lst (ds.map .int)]
  have key : ∃ ρ' st', exs G (call G T (k + 1)) (B_law_digits c) [some (.ref s), some (.int a), some (.int b), none, none, none, none, none] st = some (.rt (.ref st.length), ρ', st') ∧ ∃ ds : List Int, st' = st ++ [.lst (ds.map .int)] := by
    unfold B_law_digits
    have first : ex G (call G T (k + 1)) (.asg (.nm 3) (.lst [])) [some (.ref s), some (.int a), some (.int b), none, none, none, none, none] st = some (.nx, [some (.ref s), some (.int a), some (.int b), some (.ref st.length), none, none, none, none], st ++ [.lst []]) := by simp
    have L := ex_for (G := G) (C := call G T (k + 1)) (ρ := [some (.ref s), some (.int a), some (.int b), some (.ref st.length), none, none, none, none]) (st := st ++ [.lst []]) (tg := .nm 4)
      (x := [.asg (.nm 5) (.call c [.var 0, .var 4]), .ifs (.cmp .lt (.var 5) (.lit (.int 0))) [.asg (.nm 5) (.bin .sub (.lit (.int 1)) (.bin .mul (.lit (.int 2)) (.var 5)))] [], .ifs (.cmp .ge (.var 5) (.bin .pow (.lit (.int 10)) (.lit (.int 18)))) [.frr (.nm 6) (.rng [.lit (.int 60)]) [.ifs (.cmp .gt (.var 5) (.lit (.int 0))) [.exp (.mth .append (.var 3) [.bin .mod (.blt .int [.var 5]) (.lit (.int 1000))]), .asg (.nm 5) (.bin .fdiv (.var 5) (.lit (.int 1000)))] []]] [.asg (.nm 7) (.bin .mod (.blt .int [.bin .add (.bin .add (.bin .mul (.var 5) (.lit (.int 48271))) (.bin .mul (.var 4) (.lit (.int 69621)))) (.lit (.int 11))]) (.lit (.int 2147483647))), .frr (.nm 6) (.rng [.lit (.int 12)]) [.asg (.nm 7) (.bin .mod (.blt .int [.bin .add (.bin .add (.bin .mul (.var 7) (.lit (.int 16807))) (.bin .mul (.lit (.int 7)) (.var 6))) (.lit (.int 1))]) (.lit (.int 2147483647))), .exp (.mth .append (.var 3) [.bin .mod (.blt .int [.bin .fdiv (.var 7) (.lit (.int 997))]) (.lit (.int 1000))])]]])
      P (evI_rng2 (n := a) (m := b) (a := .var 1) (b := .var 2) (s1 := st ++ [.lst []]) (by simp) (by simp) (by omega) (by omega)) (fun _ _ _ _ => ok_nil) ⟨[], none, none, none, none, by simp, rfl, rfl⟩
    refine imp_use L ?_ ?_
    · rintro ⟨ρ', st', e1, ds, x4, x5, x6, x7, hl, rfl, rfl⟩
      exact ⟨_, _, exs_nx first (exs_nx e1 (exs_rt (ret_var rfl))), ds, rfl⟩
    · rintro j d ρ st' hj ⟨ds, x4, x5, x6, x7, hl, rfl, rfl⟩
      obtain ⟨hj, rfl⟩ := rng_get hj
      obtain ⟨v, hv⟩ := cell [.lst (ds.map .int)] (a + j)
      refine ⟨_, _, by simp only [asg_nm]; rfl, ?_⟩
      simp only [List.set_cons_succ, List.set_cons_zero]
      -- the cell, made not negative
      have c1 : ex G (call G T (k + 1)) (.asg (.nm 5) (.call c [.var 0, .var 4])) [some (.ref s), some (.int a), some (.int b), some (.ref st.length), some (.int ((a + j : Nat) : Int)), x5, x6, x7] (st ++ [.lst (ds.map .int)]) = some (.nx, [some (.ref s), some (.int a), some (.int b), some (.ref st.length), some (.int ((a + j : Nat) : Int)), some (.int v), x6, x7], st ++ [.lst (ds.map .int)]) := by
        simp only [ex_asg, ev_call, evs_cons, evs_nil, ev_var, List.getElem?_cons_succ, List.getElem?_cons_zero, hv, asg_nm, List.set_cons_succ, List.set_cons_zero]
      have c2 : ∃ u : Int, ex G (call G T (k + 1)) (.ifs (.cmp .lt (.var 5) (.lit (.int 0))) [.asg (.nm 5) (.bin .sub (.lit (.int 1)) (.bin .mul (.lit (.int 2)) (.var 5)))] []) [some (.ref s), some (.int a), some (.int b), some (.ref st.length), some (.int ((a + j : Nat) : Int)), some (.int v), x6, x7] (st ++ [.lst (ds.map .int)]) = some (.nx, [some (.ref s), some (.int a), some (.int b), some (.ref st.length), some (.int ((a + j : Nat) : Int)), some (.int u), x6, x7], st ++ [.lst (ds.map .int)]) := by
        by_cases h0 : v < 0
        · exact ⟨1 - 2 * v, by simp [h0, bin_mul (i := 2) (j := v) (.inl (by decide))]⟩
        · exact ⟨v, by simp [h0]⟩
      obtain ⟨u, c2⟩ := c2
      have pw : ∀ st : Sto, binop .pow (.int 10) (.int 18) st = some (.int 1000000000000000000, st) := fun st => by rw [bin_pow (by decide)]; rfl
      by_cases hu : 1000000000000000000 ≤ u
      · have L1 := ex_for (G := G) (C := call G T (k + 1)) (ρ := [some (.ref s), some (.int a), some (.int b), some (.ref st.length), some (.int ((a + j : Nat) : Int)), some (.int u), x6, x7]) (st := st ++ [.lst (ds.map .int)]) (tg := .nm 6)
          (x := [.ifs (.cmp .gt (.var 5) (.lit (.int 0))) [.exp (.mth .append (.var 3) [.bin .mod (.blt .int [.var 5]) (.lit (.int 1000))]), .asg (.nm 5) (.bin .fdiv (.var 5) (.lit (.int 1000)))] []])
          (fun i ρ st' => ∃ (ds' : List Int) (y5 : Int) (y6 : Option D), ds'.length ≤ ds.length + i ∧ ρ = [some (.ref s), some (.int a), some (.int b), some (.ref st.length), some (.int ((a + j : Nat) : Int)), some (.int y5), y6, x7] ∧ st' = st ++ [.lst (ds'.map .int)])
          (evI_rng1 (n := 60) (a := .lit (.int 60)) (by simp) (by decide)) (fun _ _ _ _ => ok_nil) ⟨ds, u, x6, Nat.le_refl _, rfl, rfl⟩
        refine imp_use L1 ?_ ?_
        · rintro ⟨ρ', st', e1, ds', y5, y6, hl', rfl, rfl⟩
          refine ⟨_, _, exs_nx c1 (exs_nx c2 (exs_nx ?_ (exs_nil))), ds', some (.int ((a + j : Nat) : Int)), some (.int y5), y6, x7, by simp at hl'; omega, rfl, rfl⟩
          rw [ex_ifs]
          simp only [evT_cmp, ev_var, ev_bin, ev_lit, pw, cmp_ge, List.getElem?_cons_succ, List.getElem?_cons_zero, decide_eq_true hu, Option.map_some]
          exact exs_nx e1 exs_nil
        · rintro i d ρ st' hi ⟨ds', y5, y6, hl', rfl, rfl⟩
          obtain ⟨hi, rfl⟩ := rng_get hi
          refine ⟨_, _, by simp only [asg_nm]; rfl, ?_⟩
          simp only [List.set_cons_succ, List.set_cons_zero]
          by_cases h5 : 0 < y5
          · refine ⟨_, _, exs_nx ?_ exs_nil, ds' ++ [y5 % 1000], y5 / 1000, some (.int (i : Nat)), by simp; omega, rfl, rfl⟩
            rw [ex_ifs]
            simp only [evT_cmp, ev_var, ev_lit, cmp_gt, List.getElem?_cons_succ, List.getElem?_cons_zero, decide_eq_true h5, Option.map_some]
            refine exs_nx (dig_in (x := 0) (n := 0) (c := 0) rfl (.var 5) y5 (fun st' => by simp) (by omega)) ?_
            simp [bin_fdiv (j := 1000) (by decide)]
          · exact ⟨_, _, exs_nx (by simp [h5]) exs_nil, ds', y5, some (.int (i : Nat)), by omega, rfl, rfl⟩
      · have cm : ∀ st : Sto, binop .mul (.int u) (.int 48271) st = some (.int (u * 48271), st) := fun st => bin_mul (.inr (.inl (by decide)))
        have cm2 : ∀ st : Sto, binop .mul (.int ((a + j : Nat) : Int)) (.int 69621) st = some (.int (((a + j : Nat) : Int) * 69621), st) := fun st => bin_mul (.inr (.inl (by decide)))
        have c3 : ∃ w : Int, ex G (call G T (k + 1)) (.asg (.nm 7) (.bin .mod (.blt .int [.bin .add (.bin .add (.bin .mul (.var 5) (.lit (.int 48271))) (.bin .mul (.var 4) (.lit (.int 69621)))) (.lit (.int 11))]) (.lit (.int 2147483647)))) [some (.ref s), some (.int a), some (.int b), some (.ref st.length), some (.int ((a + j : Nat) : Int)), some (.int u), x6, x7] (st ++ [.lst (ds.map .int)]) = some (.nx, [some (.ref s), some (.int a), some (.int b), some (.ref st.length), some (.int ((a + j : Nat) : Int)), some (.int u), x6, some (.int w)], st ++ [.lst (ds.map .int)]) :=
          ⟨(u * 48271 + ((a + j : Nat) : Int) * 69621 + 11) % 2147483647, by simp only [ex_asg, ev_bin, ev_blt, evs_cons, evs_nil, ev_var, ev_lit, List.getElem?_cons_succ, List.getElem?_cons_zero, cm, cm2, bin_add, u_inti, bin_mod (show (0:Int) < 2147483647 by decide), asg_nm, List.set_cons_succ, List.set_cons_zero]⟩
        obtain ⟨w, c3⟩ := c3
        have L1 := ex_for (G := G) (C := call G T (k + 1)) (ρ := [some (.ref s), some (.int a), some (.int b), some (.ref st.length), some (.int ((a + j : Nat) : Int)), some (.int u), x6, some (.int w)]) (st := st ++ [.lst (ds.map .int)]) (tg := .nm 6)
          (x := [.asg (.nm 7) (.bin .mod (.blt .int [.bin .add (.bin .add (.bin .mul (.var 7) (.lit (.int 16807))) (.bin .mul (.lit (.int 7)) (.var 6))) (.lit (.int 1))]) (.lit (.int 2147483647))), .exp (.mth .append (.var 3) [.bin .mod (.blt .int [.bin .fdiv (.var 7) (.lit (.int 997))]) (.lit (.int 1000))])])
          (fun i ρ st' => ∃ (ds' : List Int) (y7 : Int) (y6 : Option D), ds'.length ≤ ds.length + i ∧ ρ = [some (.ref s), some (.int a), some (.int b), some (.ref st.length), some (.int ((a + j : Nat) : Int)), some (.int u), y6, some (.int y7)] ∧ st' = st ++ [.lst (ds'.map .int)])
          (evI_rng1 (n := 12) (a := .lit (.int 12)) (by simp) (by decide)) (fun _ _ _ _ => ok_nil) ⟨ds, w, x6, Nat.le_refl _, rfl, rfl⟩
        refine imp_use L1 ?_ ?_
        · rintro ⟨ρ', st', e1, ds', y7, y6, hl', rfl, rfl⟩
          refine ⟨_, _, exs_nx c1 (exs_nx c2 (exs_nx ?_ (exs_nil))), ds', some (.int ((a + j : Nat) : Int)), some (.int u), y6, some (.int y7), by simp at hl'; omega, rfl, rfl⟩
          rw [ex_ifs]
          simp only [evT_cmp, ev_var, ev_bin, ev_lit, pw, cmp_ge, List.getElem?_cons_succ, List.getElem?_cons_zero, decide_eq_false hu, Option.map_some]
          exact exs_nx c3 (exs_nx e1 exs_nil)
        · rintro i d ρ st' hi ⟨ds', y7, y6, hl', rfl, rfl⟩
          obtain ⟨hi, rfl⟩ := rng_get hi
          refine ⟨_, _, by simp only [asg_nm]; rfl, ?_⟩
          simp only [List.set_cons_succ, List.set_cons_zero]
          have dm : ∀ st : Sto, binop .mul (.int y7) (.int 16807) st = some (.int (y7 * 16807), st) := fun st => bin_mul (.inr (.inl (by decide)))
          have dm2 : ∀ st : Sto, binop .mul (.int 7) (.int (i : Nat)) st = some (.int (7 * (i : Nat)), st) := fun st => bin_mul (.inl (by decide))
          have d1 : ex G (call G T (k + 1)) (.asg (.nm 7) (.bin .mod (.blt .int [.bin .add (.bin .add (.bin .mul (.var 7) (.lit (.int 16807))) (.bin .mul (.lit (.int 7)) (.var 6))) (.lit (.int 1))]) (.lit (.int 2147483647)))) [some (.ref s), some (.int a), some (.int b), some (.ref st.length), some (.int ((a + j : Nat) : Int)), some (.int u), some (.int (i : Nat)), some (.int y7)] (st ++ [.lst (ds'.map .int)]) = some (.nx, [some (.ref s), some (.int a), some (.int b), some (.ref st.length), some (.int ((a + j : Nat) : Int)), some (.int u), some (.int (i : Nat)), some (.int ((y7 * 16807 + 7 * (i : Nat) + 1) % 2147483647))], st ++ [.lst (ds'.map .int)]) := by
            simp only [ex_asg, ev_bin, ev_blt, evs_cons, evs_nil, ev_var, ev_lit, List.getElem?_cons_succ, List.getElem?_cons_zero, dm, dm2, bin_add, u_inti, bin_mod (show (0:Int) < 2147483647 by decide), asg_nm, List.set_cons_succ, List.set_cons_zero]
          refine ⟨_, _, exs_nx d1 (exs_nx (dig_in (x := 0) (n := 0) (c := 0) rfl (.bin .fdiv (.var 7) (.lit (.int 997))) ((y7 * 16807 + 7 * (i : Nat) + 1) % 2147483647 / 997) (fun st' => by simp [bin_fdiv (j := 997) (by decide)]) (by omega)) exs_nil), ds' ++ [_], _, some (.int (i : Nat)), by simp; omega, rfl, rfl⟩
  obtain ⟨ρ', st', e1, ds, rfl⟩ := key
  exact ⟨ds, call_rt h rfl e1 (gc_new (pures_bel _ (ints_pure ds)))⟩
theorem box_ok {c c' s : Nat} {nm2 : Str} {o : O} {ns : List Int} {a b : Nat} (h : T[f]? = some ⟨nm, 3, 3, B_law_box c⟩) (h2 : T[c]? = some ⟨nm2, 3, 8, B_law_digits c'⟩) (hc : T[c']? = some ⟨nm', 2, 2, B_law_cell⟩) (hs : st[s]? = some o) (ho : o = .lst (ns.map .int) ∨ o = .ro (ns.map .int)) (hb : b < 1000) (ha : a < 1000) :
    ∃ (ds : List Int) (st' : Sto), call G T (k + 3) f [.ref s, .int a, .int b] st = some (.ref (st.length + 1), st') ∧ st'.length = st.length + 2 ∧ Box (st.length + 1) st.length ds 0 st' ∧ ∀ i, i < st.length → st'[i]? = st[i]? := by
  obtain ⟨ds, hd⟩ := digits_ok (G := G) (k := k) h2 hc hs ho hb ha
  refine ⟨ds, st ++ [.lst (ds.map .int)] ++ [.lst [.ref st.length, .int 0]], ?_, by simp, ⟨by simp, by simp [List.getElem?_append], by omega⟩, fun i hi => by rw [List.append_assoc, List.getElem?_append_left hi]⟩
  refine call_rt h rfl (ρ' := [some (.ref s), some (.int a), some (.int b)]) (s' := st ++ [.lst (ds.map .int)] ++ [.lst [.ref st.length, .int 0]]) (d := .ref (st.length + 1)) ?_ ?_
  · refine exs_rt ?_
    simp [hd]
  · unfold CL.gc
    rw [if_pos (by rw [List.append_assoc]; exact tidy_app rfl fun i o e => .inl e)]
    rw [if_neg (by simp [D.bel])]
    have e : (st ++ [.lst (ds.map .int)] ++ [O.lst [.ref st.length, .int 0]])[st.length + 1]? = some (.lst [.ref st.length, .int 0]) := by simp
    simp only [e]
    rw [if_neg (by simp [O.bel, D.bels, D.bel])]
/-! ### values compared -/
def B_law_same (s : Nat) : List S := [.ifs (.tru (.isi (.var 1) .tuple)) [.ifs (.or (.not (.tru (.isi (.var 0) .tuple))) (.cmp .ne (.blt .len [.var 0]) (.blt .len [.var 1]))) [.ret (.lit (.bl false))] [], .frr (.nm 2) (.rng [.blt .len [.var 1]]) [.ifs (.not (.tru (.call s [.idx (.var 0) (.var 2), .idx (.var 1) (.var 2)]))) [.ret (.lit (.bl false))] []], .ret (.lit (.bl true))] [], .ifs (.cmp .is_ (.var 1) (.lit .non)) [.ret (.cmp .is_ (.var 0) (.lit .non))] [], .ifs (.tru (.isi (.var 1) .bool)) [.ret (.and (.isi (.var 0) .bool) (.cmp .eq (.var 0) (.var 1)))] [], .ifs (.tru (.isi (.var 1) .int)) [.ret (.and (.isi (.var 0) .int) (.and (.not (.isi (.var 0) .bool)) (.cmp .eq (.var 0) (.var 1))))] [], .ret (.and (.isi (.var 0) .str) (.cmp .eq (.var 0) (.var 1)))]
theorem dep_mem {xs : List D} : ∀ {i : Nat} {x : D}, xs[i]? = some x → x.dep ≤ D.deps xs := by
  induction xs with
  | nil => intro i x h; simp at h
  | cons y ys ih =>
    intro i x h
    simp only [D.deps]
    cases i with
    | zero => simp at h; subst h; omega
    | succ i => have := ih (i := i) (x := x) (by simpa using h); omega
theorem pure_mem {xs : List D} (hp : D.pures xs = true) : ∀ {i : Nat} {x : D}, xs[i]? = some x → x.pure = true := by
  induction xs with
  | nil => intro i x h; simp at h
  | cons y ys ih =>
    intro i x h
    simp only [D.pures, Bool.and_eq_true] at hp
    cases i with
    | zero => simp at h; subst h; exact hp.1
    | succ i => exact ih hp.2 (i := i) (x := x) (by simpa using h)
mutual
/-- the longest tuple within -/
def D.wid : D → Nat
  | .tup xs => max xs.length (D.wids xs)
  | .non => 0
  | .bl _ => 0
  | .int _ => 0
  | .str _ => 0
  | .ref _ => 0
def D.wids : List D → Nat
  | [] => 0
  | x :: xs => max (D.wid x) (D.wids xs)
end
theorem wid_mem {xs : List D} : ∀ {i : Nat} {x : D}, xs[i]? = some x → x.wid ≤ D.wids xs := by
  induction xs with
  | nil => intro i x h; simp at h
  | cons y ys ih =>
    intro i x h
    simp only [D.wids]
    cases i with
    | zero => simp at h; subst h; omega
    | succ i => have := ih (i := i) (x := x) (by simpa using h); omega
theorem same_ok (h : T[f]? = some ⟨nm, 2, 3, B_law_same f⟩) : ∀ (k : Nat) (d : D) (st : Sto), d.pure = true → d.dep < k → d.wid < 2 ^ 60 → call G T k f [d, d] st = some (.bl true, st) := by
  intro k
  induction k with
  | zero => intro d st hp hd; omega
  | succ k ih =>
    intro d st hp hd hl
    cases d with
    | non => simp [call, h, B_law_same, gc_self]
    | bl b => simp [call, h, B_law_same, gc_self]
    | int i => simp [call, h, B_law_same, gc_self]
    | str s => simp [call, h, B_law_same, gc_self]
    | ref r => simp [D.pure] at hp
    | tup xs =>
      simp only [D.pure] at hp
      simp only [D.dep] at hd
      simp only [D.wid] at hl
      have key : ∃ ρ', exs G (call G T k) (B_law_same f) [some (.tup xs), some (.tup xs), none] st = some (.rt (.bl true), ρ', st) := by
        have L := ex_for (G := G) (C := call G T k) (tg := .nm 2) (ρ := [some (.tup xs), some (.tup xs), none]) (st := st) (x := [.ifs (.not (.tru (.call f [.idx (.var 0) (.var 2), .idx (.var 1) (.var 2)]))) [.ret (.lit (.bl false))] []])
          (fun i ρ st' => (∃ x2, ρ = [some (.tup xs), some (.tup xs), x2]) ∧ st' = st) (evI_rng1 (n := xs.length) (a := .blt .len [.var 1]) (by simp) (by omega)) (fun _ _ _ _ => ok_nil) ⟨⟨none, rfl⟩, rfl⟩
        refine imp_use L ?_ ?_
        · rintro ⟨ρ', st', e1, ⟨x2, rfl⟩, rfl⟩
          refine ⟨[some (.tup xs), some (.tup xs), x2], exs_rt ?_⟩
          rw [ex_ifs]
          simp only [evT_tru, ev_isi, ev_var, List.getElem?_cons_succ, List.getElem?_cons_zero, ty_tup, Option.map_some, tr_bl, decide_true]
          refine exs_nx (ρ' := [some (.tup xs), some (.tup xs), none]) (s' := st') (by simp) (exs_nx e1 (exs_rt ret_lit))
        · rintro i d ρ st' hi ⟨⟨x2, rfl⟩, rfl⟩
          obtain ⟨hi', rfl⟩ := rng_get hi
          refine ⟨_, _, by simp only [asg_nm]; rfl, [some (.tup xs), some (.tup xs), some (.int (i : Nat))], st', ?_, ⟨_, rfl⟩, rfl⟩
          simp only [List.set_cons_succ, List.set_cons_zero]
          have hx : xs[i]? = some xs[i] := List.getElem?_eq_getElem hi'
          have := ih xs[i] st' (pure_mem hp hx) (by have := dep_mem hx; omega) (by have := wid_mem hx; omega)
          simp [at_nn, hx, this]
      obtain ⟨ρ', key⟩ := key
      exact call_rt h rfl key gc_self
end
end CL

namespace CL
open PySem PySem.Spec PyProof.Rows L2
/-! MA: amounts and guards (the small command language's terms). -/
def B_law_some_state (c_law_draw : Nat) : List S :=
  [.asg (.nm 1) (.dic .nil), .frr (.nm 2) (.any (.lst [.lit (.str [120]), .lit (.str [121]), .lit (.str [122])])) [.ifs (.cmp .gt (.call c_law_draw [.var 0, .lit (.int 3)]) (.lit (.int 0))) [.asg (.ix (.var 1) (.var 2)) (.bin .sub (.call c_law_draw [.var 0, .lit (.int 6)]) (.lit (.int 2)))] []], .ret (.var 1)]
def B_law_amount (c_law_amount c_law_draw : Nat) : List S :=
  [.ifs (.or (.cmp .lt (.var 1) (.lit (.int 3))) (.cmp .eq (.call c_law_draw [.var 0, .lit (.int 3)]) (.lit (.int 0)))) [.ifs (.cmp .eq (.call c_law_draw [.var 0, .lit (.int 2)]) (.lit (.int 0))) [.ret (.tup [.lit (.str [110, 117, 109]), .bin .sub (.call c_law_draw [.var 0, .lit (.int 7)]) (.lit (.int 2))])] [], .ret (.tup [.lit (.str [118, 97, 114]), .idx (.lit (.str [120, 121, 122])) (.call c_law_draw [.var 0, .lit (.int 3)])])] [], .asg (.nm 2) (.bin .add (.lit (.int 1)) (.call c_law_draw [.var 0, .bin .sub (.var 1) (.lit (.int 2))])), .ret (.tup [.idx (.lit (.str [43, 45, 42])) (.call c_law_draw [.var 0, .lit (.int 3)]), .call c_law_amount [.var 0, .var 2], .call c_law_amount [.var 0, .bin .sub (.bin .sub (.var 1) (.lit (.int 1))) (.var 2)]])]
def B_law_guard (c_law_amount c_law_draw c_law_guard : Nat) : List S :=
  [.asg (.nm 2) (.call c_law_draw [.var 0, .lit (.int 6)]), .ifs (.cmp .eq (.var 2) (.lit (.int 0))) [.ret (.tup [.lit (.str [116, 114, 117, 101])])] [], .ifs (.and (.cmp .eq (.var 2) (.lit (.int 1))) (.cmp .gt (.var 1) (.lit (.int 3)))) [.ret (.tup [.lit (.str [110, 111, 116]), .call c_law_guard [.var 0, .bin .sub (.var 1) (.lit (.int 1))]])] [], .ifs (.and (.cmp .eq (.var 2) (.lit (.int 2))) (.cmp .gt (.var 1) (.lit (.int 6)))) [.ret (.tup [.lit (.str [97, 110, 100]), .call c_law_guard [.var 0, .bin .fdiv (.var 1) (.lit (.int 2))], .call c_law_guard [.var 0, .bin .fdiv (.var 1) (.lit (.int 2))]])] [], .ret (.tup [.idx (.lst [.lit (.str [60]), .lit (.str [61])]) (.blt .int [.cmp .eq (.var 2) (.lit (.int 5))]), .call c_law_amount [.var 0, .bin .fdiv (.var 1) (.lit (.int 2))], .call c_law_amount [.var 0, .bin .fdiv (.var 1) (.lit (.int 2))]])]
--
def B_law_amount_at (c_law_amount_at : Nat) : List S :=
  [.ifs (.cmp .eq (.idx (.var 0) (.lit (.int 0))) (.lit (.str [110, 117, 109]))) [.ret (.idx (.var 0) (.lit (.int 1)))] [], .ifs (.cmp .eq (.idx (.var 0) (.lit (.int 0))) (.lit (.str [118, 97, 114]))) [.ret (.mth .get2 (.var 1) [.idx (.var 0) (.lit (.int 1)), .lit (.int 0)])] [], .asg (.nm 2) (.call c_law_amount_at [.idx (.var 0) (.lit (.int 1)), .var 1]), .asg (.nm 3) (.call c_law_amount_at [.idx (.var 0) (.lit (.int 2)), .var 1]), .ifs (.cmp .eq (.idx (.var 0) (.lit (.int 0))) (.lit (.str [43]))) [.ret (.bin .add (.var 2) (.var 3))] [], .ifs (.cmp .eq (.idx (.var 0) (.lit (.int 0))) (.lit (.str [45]))) [.ret (.bin .sub (.var 2) (.var 3))] [], .ret (.bin .mul (.var 2) (.var 3))]
--
def B_law_holds (c_law_amount_at c_law_holds : Nat) : List S :=
  [.ifs (.cmp .eq (.idx (.var 0) (.lit (.int 0))) (.lit (.str [116, 114, 117, 101]))) [.ret (.lit (.bl true))] [], .ifs (.cmp .eq (.idx (.var 0) (.lit (.int 0))) (.lit (.str [110, 111, 116]))) [.ret (.not (.call c_law_holds [.idx (.var 0) (.lit (.int 1)), .var 1]))] [], .ifs (.cmp .eq (.idx (.var 0) (.lit (.int 0))) (.lit (.str [97, 110, 100]))) [.ret (.and (.call c_law_holds [.idx (.var 0) (.lit (.int 1)), .var 1]) (.call c_law_holds [.idx (.var 0) (.lit (.int 2)), .var 1]))] [], .asg (.nm 2) (.call c_law_amount_at [.idx (.var 0) (.lit (.int 1)), .var 1]), .asg (.nm 3) (.call c_law_amount_at [.idx (.var 0) (.lit (.int 2)), .var 1]), .ifs (.cmp .eq (.idx (.var 0) (.lit (.int 0))) (.lit (.str [60]))) [.ret (.cmp .lt (.var 2) (.var 3))] [], .ret (.cmp .eq (.var 2) (.var 3))]
inductive Am where
  | num (i : Int) | var (v : List Nat) | op (o : Nat) (a b : Am)
  deriving DecidableEq
namespace Am
def enc : Am → D
  | num i => .tup [.str [110, 117, 109], .int i]
  | var v => .tup [.str [118, 97, 114], .str v]
  | op o a b => .tup [.str [o], enc a, enc b]
/-- as the laws draw them -/
def good : Am → Prop
  | num _ => True
  | var v => v = [120] ∨ v = [121] ∨ v = [122]
  | op o a b => (o = 43 ∨ o = 45 ∨ o = 42) ∧ good a ∧ good b
def dep : Am → Nat
  | num _ => 1
  | var _ => 1
  | op _ a b => 1 + max a.dep b.dep
/-- a bound of the values -/
def mag : Am → Nat
  | num i => max 4 i.natAbs
  | var _ => 4
  | op _ a b => a.mag * b.mag
def opv (o : Nat) (i j : Int) : Int := if o = 43 then i + j else if o = 45 then i - j else i * j
def at_ (s : List Nat → Int) : Am → Int
  | num i => i
  | var v => s v
  | op o a b => opv o (at_ s a) (at_ s b)
theorem mag_pos : ∀ t : Am, 4 ≤ t.mag
  | num i => by simp only [mag]; omega
  | var _ => Nat.le_refl _
  | op o a b => by
    have ha := mag_pos a
    have hb := mag_pos b
    simp only [mag]
    exact Nat.le_trans (by decide : 4 ≤ 4 * 4) (Nat.mul_le_mul ha hb)
theorem opv_le {o : Nat} {i j : Int} {m n : Nat} (hi : i.natAbs ≤ m) (hj : j.natAbs ≤ n) (hm : 4 ≤ m) (hn : 4 ≤ n) : (opv o i j).natAbs ≤ m * n := by
  have h1 : m + n ≤ m * n := by
    have a := Nat.mul_le_mul_left m hn
    have b := Nat.mul_le_mul_right n hm
    omega
  unfold opv
  split
  · omega
  · split
    · omega
    · rw [Int.natAbs_mul]
      exact Nat.mul_le_mul hi hj
theorem at_le {s : List Nat → Int} (hs : ∀ v, (s v).natAbs ≤ 4) : ∀ t : Am, (t.at_ s).natAbs ≤ t.mag
  | num i => by simp only [at_, mag]; omega
  | var v => hs v
  | op o a b => opv_le (at_le hs a) (at_le hs b) (mag_pos a) (mag_pos b)
theorem mag_l {o : Nat} {a b : Am} : a.mag ≤ (op o a b).mag := Nat.le_mul_of_pos_right _ (by have := mag_pos b; omega)
theorem mag_r {o : Nat} {a b : Am} : b.mag ≤ (op o a b).mag := Nat.le_mul_of_pos_left _ (by have := mag_pos a; omega)
@[simp] theorem enc_pure : ∀ t : Am, t.enc.pure = true
  | num _ => rfl
  | var _ => rfl
  | op _ a b => by simp [enc, D.pure, D.pures, enc_pure a, enc_pure b]
@[simp] theorem enc_norm : ∀ t : Am, t.enc.norm = t.enc
  | num _ => rfl
  | var _ => rfl
  | op _ a b => by simp [enc, D.norm, D.norms, enc_norm a, enc_norm b]
theorem enc_dep : ∀ t : Am, t.enc.dep = t.dep
  | num _ => rfl
  | var _ => rfl
  | op _ a b => by simp only [enc, D.dep, D.deps, dep, enc_dep a, enc_dep b]; omega
theorem enc_wid : ∀ t : Am, t.enc.wid ≤ 3
  | num _ => by simp [enc, D.wid, D.wids]
  | var _ => by simp [enc, D.wid, D.wids]
  | op _ a b => by
    have := enc_wid a
    have := enc_wid b
    simp only [enc, D.wid, D.wids, List.length_cons, List.length_nil]; omega
theorem enc_inj : ∀ {a b : Am}, a.enc = b.enc → a = b
  | num _, num _, h => by simp [enc] at h; rw [h]
  | num _, var _, h => by simp [enc] at h
  | num _, op _ _ _, h => by simp [enc] at h
  | var _, num _, h => by simp [enc] at h
  | var _, var _, h => by simp [enc] at h; rw [h]
  | var _, op _ _ _, h => by simp [enc] at h
  | op _ _ _, num _, h => by simp [enc] at h
  | op _ _ _, var _, h => by simp [enc] at h
  | op o a b, op o' a' b', h => by
    simp only [enc, D.tup.injEq, D.str.injEq, List.cons.injEq, and_true] at h
    obtain ⟨h1, h2, h3⟩ := h
    rw [h1, enc_inj h2, enc_inj h3]
end Am
inductive Gd where
  | tru | not (g : Gd) | and (g h : Gd) | cmp (o : Nat) (a b : Am)
  deriving DecidableEq
namespace Gd
def enc : Gd → D
  | tru => .tup [.str [116, 114, 117, 101]]
  | not g => .tup [.str [110, 111, 116], enc g]
  | and g h => .tup [.str [97, 110, 100], enc g, enc h]
  | cmp o a b => .tup [.str [o], a.enc, b.enc]
def good : Gd → Prop
  | tru => True
  | not g => good g
  | and g h => good g ∧ good h
  | cmp o a b => (o = 60 ∨ o = 61) ∧ a.good ∧ b.good
def dep : Gd → Nat
  | tru => 1
  | not g => 1 + g.dep
  | and g h => 1 + max g.dep h.dep
  | cmp _ a b => 1 + max a.dep b.dep
def mag : Gd → Nat
  | tru => 4
  | not g => g.mag
  | and g h => max g.mag h.mag
  | cmp _ a b => max a.mag b.mag
def holds (s : List Nat → Int) : Gd → Bool
  | tru => true
  | not g => !(holds s g)
  | and g h => holds s g && holds s h
  | cmp o a b => if o = 60 then decide (a.at_ s < b.at_ s) else decide (a.at_ s = b.at_ s)
@[simp] theorem enc_pure : ∀ t : Gd, t.enc.pure = true
  | tru => rfl
  | not g => by simp [enc, D.pure, D.pures, enc_pure g]
  | and g h => by simp [enc, D.pure, D.pures, enc_pure g, enc_pure h]
  | cmp _ a b => by simp [enc, D.pure, D.pures]
@[simp] theorem enc_norm : ∀ t : Gd, t.enc.norm = t.enc
  | tru => rfl
  | not g => by simp [enc, D.norm, D.norms, enc_norm g]
  | and g h => by simp [enc, D.norm, D.norms, enc_norm g, enc_norm h]
  | cmp _ a b => by simp [enc, D.norm, D.norms]
theorem enc_dep : ∀ t : Gd, t.enc.dep = t.dep
  | tru => rfl
  | not g => by simp only [enc, D.dep, D.deps, dep, enc_dep g]; omega
  | and g h => by simp only [enc, D.dep, D.deps, dep, enc_dep g, enc_dep h]; omega
  | cmp _ a b => by simp only [enc, D.dep, D.deps, dep, Am.enc_dep]; omega
theorem enc_wid : ∀ t : Gd, t.enc.wid ≤ 3
  | tru => by simp [enc, D.wid, D.wids]
  | not g => by have := enc_wid g; simp only [enc, D.wid, D.wids, List.length_cons, List.length_nil]; omega
  | and g h => by
    have := enc_wid g
    have := enc_wid h
    simp only [enc, D.wid, D.wids, List.length_cons, List.length_nil]; omega
  | cmp _ a b => by
    have := Am.enc_wid a
    have := Am.enc_wid b
    simp only [enc, D.wid, D.wids, List.length_cons, List.length_nil]; omega
end Gd
/-- a dict of a state's numbers -/
structure StOk (s : List Nat → Int) (kvs : List (D × D)) : Prop where
  val : ∀ v : List Nat, match look kvs (.str v) with
    | some d => d = .int (s v)
    | none => s v = 0
  bd : ∀ v, (s v).natAbs ≤ 4
section
variable {G : List D} {T : List Fn} {f : Nat} {nm : Str} {s : List Nat → Int} {kvs : List (D × D)} {r : Nat}
theorem amount_at_ok (h : T[f]? = some ⟨nm, 2, 4, B_law_amount_at f⟩) (hs : StOk s kvs) : ∀ (t : Am) (k : Nat) (st : Sto), t.good → t.mag < 2 ^ 64 → t.dep ≤ k → st[r]? = some (.dic kvs) → call G T k f [t.enc, .ref r] st = some (.int (t.at_ s), st)
  | .num i, k + 1, st, _, _, _, hr => by simp [call, h, B_law_amount_at, Am.enc, at_nn, Am.at_, gc_self]
  | .var v, k + 1, st, _, _, _, hr => by
    have hm : mty .get2 st (.ref r) = true := by simp [mty, dicAt, hr]
    have hg : mth .get2 (.ref r) [.str v, .int 0] st = some (.int (s v), st) := by
      have := hs.val v
      simp only [mth, dicAt, hr, k_str, if_true]
      cases e : look kvs (.str v) with
      | none => rw [e] at this; simp [this]
      | some d => rw [e] at this; simp [this]
    simp [call, h, B_law_amount_at, Am.enc, at_nn, Am.at_, gc_self, hm, hg]
  | .op o a b, k + 1, st, hg, hm, hd, hr => by
    have ha := amount_at_ok h hs a k st hg.2.1 (Nat.lt_of_le_of_lt Am.mag_l hm) (by simp only [Am.dep] at hd; omega) hr
    have hb := amount_at_ok h hs b k st hg.2.2 (Nat.lt_of_le_of_lt Am.mag_r hm) (by simp only [Am.dep] at hd; omega) hr
    have mb : binop .mul (.int (a.at_ s)) (.int (b.at_ s)) st = some (.int (a.at_ s * b.at_ s), st) := bin_mul (.inl (Nat.lt_of_le_of_lt (Am.at_le hs.bd a) (Nat.lt_of_le_of_lt Am.mag_l hm)))
    rcases hg.1 with rfl | rfl | rfl
    · simp [call, h, B_law_amount_at, Am.enc, at_nn, Am.at_, gc_self, ha, hb, Am.opv]
    · simp [call, h, B_law_amount_at, Am.enc, at_nn, Am.at_, gc_self, ha, hb, Am.opv]
    · simp [call, h, B_law_amount_at, Am.enc, at_nn, Am.at_, gc_self, ha, hb, Am.opv, mb]
  | .num _, 0, _, _, _, hd, _ => by simp [Am.dep] at hd
  | .var _, 0, _, _, _, hd, _ => by simp [Am.dep] at hd
  | .op _ _ _, 0, _, _, _, hd, _ => by simp [Am.dep] at hd
theorem holds_ok {g : Nat} {nm2 : Str} (h : T[f]? = some ⟨nm, 2, 4, B_law_holds g f⟩) (h2 : T[g]? = some ⟨nm2, 2, 4, B_law_amount_at g⟩) (hs : StOk s kvs) : ∀ (t : Gd) (k : Nat) (st : Sto), t.good → t.mag < 2 ^ 64 → t.dep ≤ k → st[r]? = some (.dic kvs) → call G T k f [t.enc, .ref r] st = some (.bl (t.holds s), st)
  | .tru, k + 1, st, _, _, _, hr => by simp [call, h, B_law_holds, Gd.enc, at_nn, Gd.holds, gc_self]
  | .not a, k + 1, st, hg, hm, hd, hr => by
    have ha := holds_ok h h2 hs a k st hg hm (by simp only [Gd.dep] at hd; omega) hr
    simp [call, h, B_law_holds, Gd.enc, at_nn, Gd.holds, gc_self, ha]
  | .and a b, k + 1, st, hg, hm, hd, hr => by
    simp only [Gd.mag] at hm
    have ha := holds_ok h h2 hs a k st hg.1 (by omega) (by simp only [Gd.dep] at hd; omega) hr
    have hb := holds_ok h h2 hs b k st hg.2 (by omega) (by simp only [Gd.dep] at hd; omega) hr
    cases e : a.holds s <;> simp [call, h, B_law_holds, Gd.enc, at_nn, Gd.holds, gc_self, ha, hb, e]
  | .cmp o a b, k + 1, st, hg, hm, hd, hr => by
    simp only [Gd.mag] at hm
    have ha := amount_at_ok (G := G) h2 hs a k st hg.2.1 (by omega) (by simp only [Gd.dep] at hd; omega) hr
    have hb := amount_at_ok (G := G) h2 hs b k st hg.2.2 (by omega) (by simp only [Gd.dep] at hd; omega) hr
    rcases hg.1 with rfl | rfl
    · simp [call, h, B_law_holds, Gd.enc, at_nn, Gd.holds, gc_self, ha, hb]
    · simp [call, h, B_law_holds, Gd.enc, at_nn, Gd.holds, gc_self, ha, hb]
  | .tru, 0, _, _, _, hd, _ => by simp [Gd.dep] at hd
  | .not _, 0, _, _, _, hd, _ => by simp [Gd.dep] at hd
  | .and _ _, 0, _, _, _, hd, _ => by simp [Gd.dep] at hd
  | .cmp _ _ _, 0, _, _, _, hd, _ => by simp [Gd.dep] at hd
variable {b q p0 fd : Nat} {ds : List Int} {st : Sto} {nm2 nm3 : Str}
theorem amount_ok (h : T[f]? = some ⟨nm, 2, 3, B_law_amount f fd⟩) (h2 : T[fd]? = some ⟨nm2, 2, 3, B_law_draw⟩) (B : Box b q ds p0 st) : ∀ (k room p : Nat), room + 1 < k → ∃ (t : Am) (p' : Nat), call G T k f [.ref b, .int room] (mv st b q p) = some (t.enc, mv st b q p') ∧ t.good ∧ t.dep ≤ room + 1 ∧ t.mag ≤ 4 ^ (room + 1) := by
  intro k
  induction k with
  | zero => intro room p hk; omega
  | succ k ih =>
    intro room p hk
    have hd := fun p m (hm : (0:Int) < m) => draw_mv (G := G) (k := k) h2 B (by omega) p hm
    have hgc := fun p1 p2 d (hd : D.pure d = true) => B.gcp (p1 := p1) (p2 := p2) hd
    have four : ∀ n : Nat, 4 ≤ 4 ^ (n + 1) := fun n => by rw [Nat.pow_succ]; have := Nat.one_le_two_pow (n := n); have := Nat.pow_pos (n := n) (show 0 < 4 by decide); omega
    have num : ∀ n : Nat, (Am.num (dv ds n 7 - 2)).mag ≤ 4 := fun n => by
      have := dv_bd (ds := ds) (p := n) (m := 7) (by decide)
      simp only [Am.mag]; omega
    by_cases hr : room < 3
    · have hr' : (room : Int) < 3 := by omega
      rcases dv2 ds p with e | e
      · exact ⟨.num (dv ds (p + 1) 7 - 2), p + 2, by simp [call, h, B_law_amount, hd, hgc, hr', e, Am.enc, D.pure, D.pures], True.intro, by simp only [Am.dep]; omega, Nat.le_trans (num _) (four _)⟩
      · rcases dv3 ds (p + 1) with e2 | e2 | e2
        · exact ⟨.var [120], p + 2, by simp [call, h, B_law_amount, hd, hgc, hr', e, e2, Am.enc, at_nn, D.pure, D.pures], .inl rfl, by simp only [Am.dep]; omega, four _⟩
        · exact ⟨.var [121], p + 2, by simp [call, h, B_law_amount, hd, hgc, hr', e, e2, Am.enc, at_nn, D.pure, D.pures], .inr (.inl rfl), by simp only [Am.dep]; omega, four _⟩
        · exact ⟨.var [122], p + 2, by simp [call, h, B_law_amount, hd, hgc, hr', e, e2, Am.enc, at_nn, D.pure, D.pures], .inr (.inr rfl), by simp only [Am.dep]; omega, four _⟩
    · have hr' : ¬ (room : Int) < 3 := by omega
      by_cases e0 : dv ds p 3 = 0
      · rcases dv2 ds (p + 1) with e | e
        · exact ⟨.num (dv ds (p + 2) 7 - 2), p + 3, by simp [call, h, B_law_amount, hd, hgc, hr', e0, e, Am.enc, D.pure, D.pures], True.intro, by simp only [Am.dep]; omega, Nat.le_trans (num _) (four _)⟩
        · rcases dv3 ds (p + 2) with e2 | e2 | e2
          · exact ⟨.var [120], p + 3, by simp [call, h, B_law_amount, hd, hgc, hr', e0, e, e2, Am.enc, at_nn, D.pure, D.pures], .inl rfl, by simp only [Am.dep]; omega, four _⟩
          · exact ⟨.var [121], p + 3, by simp [call, h, B_law_amount, hd, hgc, hr', e0, e, e2, Am.enc, at_nn, D.pure, D.pures], .inr (.inl rfl), by simp only [Am.dep]; omega, four _⟩
          · exact ⟨.var [122], p + 3, by simp [call, h, B_law_amount, hd, hgc, hr', e0, e, e2, Am.enc, at_nn, D.pure, D.pures], .inr (.inr rfl), by simp only [Am.dep]; omega, four _⟩
      · have hm : (0:Int) < (room:Int) - 2 := by omega
        have hb := dv_bd (ds := ds) (p := p + 1) hm
        have hdl := hd (p + 1) _ hm
        obtain ⟨L, hL⟩ : ∃ L : Nat, 1 + dv ds (p + 1) ((room:Int) - 2) = (L : Int) := ⟨(1 + dv ds (p + 1) ((room:Int) - 2)).toNat, by omega⟩
        obtain ⟨R, hR⟩ : ∃ R : Nat, (room : Int) - 1 - (L : Int) = (R : Int) := ⟨((room : Int) - 1 - (L : Int)).toNat, by omega⟩
        obtain ⟨a, p1, ea, ga, da, ma⟩ := ih L (p + 3) (by omega)
        obtain ⟨c, p2, ec, gc', dc, mc⟩ := ih R p1 (by omega)
        have fin : ∀ o : Nat, (o = 43 ∨ o = 45 ∨ o = 42) → (Am.op o a c).good ∧ (Am.op o a c).dep ≤ room + 1 ∧ (Am.op o a c).mag ≤ 4 ^ (room + 1) := fun o ho => by
          refine ⟨⟨ho, ga, gc'⟩, by simp only [Am.dep]; omega, ?_⟩
          have : 4 ^ (L + 1) * 4 ^ (R + 1) = 4 ^ (room + 1) := by rw [← Nat.pow_add]; congr 1; omega
          rw [← this]
          exact Nat.mul_le_mul ma mc
        rcases dv3 ds (p + 2) with e2 | e2 | e2
        · exact ⟨.op 43 a c, p2, by simp [call, h, B_law_amount, hd, hgc, hr', e0, e2, hdl, hL, hR, ea, ec, Am.enc, at_nn, D.pure, D.pures], fin 43 (by decide)⟩
        · exact ⟨.op 45 a c, p2, by simp [call, h, B_law_amount, hd, hgc, hr', e0, e2, hdl, hL, hR, ea, ec, Am.enc, at_nn, D.pure, D.pures], fin 45 (by decide)⟩
        · exact ⟨.op 42 a c, p2, by simp [call, h, B_law_amount, hd, hgc, hr', e0, e2, hdl, hL, hR, ea, ec, Am.enc, at_nn, D.pure, D.pures], fin 42 (by decide)⟩
theorem Gd.four (n : Nat) : 4 ≤ 4 ^ (n + 1) := by rw [Nat.pow_succ]; have := Nat.pow_pos (n := n) (show 0 < 4 by decide); omega
theorem pow4 {m n : Nat} (h : m ≤ n) : 4 ^ m ≤ 4 ^ n := Nat.pow_le_pow_right (by decide) h
theorem guard_ok {fa : Nat} (h : T[f]? = some ⟨nm, 2, 3, B_law_guard fa fd f⟩) (h1 : T[fa]? = some ⟨nm3, 2, 3, B_law_amount fa fd⟩) (h2 : T[fd]? = some ⟨nm2, 2, 3, B_law_draw⟩) (B : Box b q ds p0 st) : ∀ (k room p : Nat), room + 2 < k → ∃ (t : Gd) (p' : Nat), call G T k f [.ref b, .int room] (mv st b q p) = some (t.enc, mv st b q p') ∧ t.good ∧ t.dep ≤ room + 2 ∧ t.mag ≤ 4 ^ (room + 1) := by
  intro k
  induction k with
  | zero => intro room p hk; omega
  | succ k ih =>
    intro room p hk
    have hd := fun p m (hm : (0:Int) < m) => draw_mv (G := G) (k := k) h2 B (by omega) p hm
    have hgc := fun p1 p2 d (hd : D.pure d = true) => B.gcp (p1 := p1) (p2 := p2) hd
    have hgl := fun p1 p2 d l (hd : D.pure d = true) => B.gcml (p1 := p1) (p2 := p2) (l := l) hd
    have ap := fun p1 (l : Sto) => mv_app B (l := l) (p' := p1)
    have top : ∀ p1 (l : Sto) (o : O), (mv (st ++ [o]) b q p1)[st.length]? = some o := fun p1 l o => by rw [← mv_app B, List.getElem?_append_right (by rw [mv_len]; exact Nat.le_refl _), mv_len]; simp
    have tail : ∀ c : Int, dv ds p 6 = c → c ≠ 0 → ¬ (c = 1 ∧ 3 < (room : Int)) → ¬ (c = 2 ∧ 6 < (room : Int)) → ∃ (t : Gd) (p' : Nat), call G T (k + 1) f [.ref b, .int room] (mv st b q p) = some (t.enc, mv st b q p') ∧ t.good ∧ t.dep ≤ room + 2 ∧ t.mag ≤ 4 ^ (room + 1) := fun c e c0 c1 c2 => by
      obtain ⟨R, hR⟩ : ∃ R : Nat, (room : Int) / 2 = (R : Int) := ⟨room / 2, by omega⟩
      obtain ⟨a1, p1, e1, g1, d1, m1⟩ := amount_ok (G := G) h1 h2 (B.app [.lst [.str [60], .str [61]]]) k R (p + 1) (by omega)
      obtain ⟨a2, p2, e2, g2, d2, m2⟩ := amount_ok (G := G) h1 h2 (B.app [.lst [.str [60], .str [61]]]) k R p1 (by omega)
      have fin : ∀ o, (o = 60 ∨ o = 61) → (Gd.cmp o a1 a2).good ∧ (Gd.cmp o a1 a2).dep ≤ room + 2 ∧ (Gd.cmp o a1 a2).mag ≤ 4 ^ (room + 1) := fun o ho => by
        refine ⟨⟨ho, g1, g2⟩, by simp only [Gd.dep]; omega, ?_⟩
        have := pow4 (show R + 1 ≤ room + 1 by omega)
        simp only [Gd.mag]; omega
      have fd2 : ∀ s, binop .fdiv (.int (room : Int)) (.int 2) s = some (.int (R : Int), s) := fun s => by rw [bin_fdiv (by decide), hR]
      by_cases c5 : c = 5
      · subst c5
        refine ⟨.cmp 61 a1 a2, p2, ?_, fin 61 (.inr rfl)⟩
        simp [call, h, B_law_guard, hd, hgc, e, Gd.enc, D.pure, D.pures, ap, idx_lst (top (p + 1) [] _), at_nn, e1, e2, hgl, fd2, mv_len]
      · refine ⟨.cmp 60 a1 a2, p2, ?_, fin 60 (.inl rfl)⟩
        by_cases c1' : c = 1
        · simp [call, h, B_law_guard, hd, hgc, e, c1', Gd.enc, D.pure, D.pures, ap, idx_lst (top (p + 1) [] _), at_nn, e1, e2, hgl, fd2, mv_len, (show ¬ (3:Int) < room by omega)]
        · by_cases c2' : c = 2
          · simp [call, h, B_law_guard, hd, hgc, e, c2', Gd.enc, D.pure, D.pures, ap, idx_lst (top (p + 1) [] _), at_nn, e1, e2, hgl, fd2, mv_len, (show ¬ (6:Int) < room by omega)]
          · simp [call, h, B_law_guard, hd, hgc, e, c0, c1', c2', c5, Gd.enc, D.pure, D.pures, ap, idx_lst (top (p + 1) [] _), at_nn, e1, e2, hgl, fd2, mv_len]
    by_cases e0 : dv ds p 6 = 0
    · exact ⟨.tru, p + 1, by simp [call, h, B_law_guard, hd, hgc, e0, Gd.enc, D.pure, D.pures], True.intro, by simp only [Gd.dep]; omega, Gd.four _⟩
    by_cases e1 : dv ds p 6 = 1 ∧ 3 < (room : Int)
    · obtain ⟨e1, r3⟩ := e1
      obtain ⟨R, hR⟩ : ∃ R : Nat, (room : Int) - 1 = (R : Int) := ⟨room - 1, by omega⟩
      obtain ⟨g, p1, eg, gg, gd, gm⟩ := ih R (p + 1) (by omega)
      exact ⟨.not g, p1, by simp [call, h, B_law_guard, hd, hgc, e1, r3, hR, eg, Gd.enc, D.pure, D.pures], gg, by simp only [Gd.dep]; omega, Nat.le_trans gm (pow4 (by omega))⟩
    by_cases e2 : dv ds p 6 = 2 ∧ 6 < (room : Int)
    · obtain ⟨e2, r6⟩ := e2
      obtain ⟨R, hR⟩ : ∃ R : Nat, (room : Int) / 2 = (R : Int) := ⟨room / 2, by omega⟩
      obtain ⟨g, p1, eg, gg, gd, gm⟩ := ih R (p + 1) (by omega)
      obtain ⟨g2, p2, eg2, gg2, gd2, gm2⟩ := ih R p1 (by omega)
      have fd2 : ∀ s, binop .fdiv (.int (room : Int)) (.int 2) s = some (.int (R : Int), s) := fun s => by rw [bin_fdiv (by decide), hR]
      have := pow4 (show R + 1 ≤ room + 1 by omega)
      exact ⟨.and g g2, p2, by simp [call, h, B_law_guard, hd, hgc, e2, r6, fd2, eg, eg2, Gd.enc, D.pure, D.pures], ⟨gg, gg2⟩, by simp only [Gd.dep]; omega, by simp only [Gd.mag]; omega⟩
    · exact tail _ rfl e0 e1 e2
/-- a state: letters and small numbers -/
structure Kv (kvs : List (D × D)) : Prop where
  ent : ∀ e ∈ kvs, ∃ (v : List Nat) (i : Int), e = (.str v, .int i) ∧ i.natAbs ≤ 4 ∧ (v = [120] ∨ v = [121] ∨ v = [122])
  nd : (kvs.map (·.1)).Nodup
theorem Kv.nil : Kv [] := ⟨fun e h => (by cases h), List.nodup_nil⟩
theorem look_mem {kvs : List (D × D)} {k d : D} (h : look kvs k = some d) : (k, d) ∈ kvs := by
  unfold look at h
  simp only [Option.map_eq_some_iff] at h
  obtain ⟨e, h1, h2⟩ := h
  have := List.find?_some h1
  simp only [decide_eq_true_eq] at this
  subst this h2
  exact List.mem_of_find?_eq_some h1
theorem put_mem {kvs : List (D × D)} {k d : D} {e : D × D} (h : e ∈ put kvs k d) : e ∈ kvs ∨ e = (k, d) := by
  unfold put at h
  split at h
  · simp only [List.mem_map] at h
    obtain ⟨x, hx, rfl⟩ := h
    split
    · rename_i e; right; rw [e]
    · left; exact hx
  · simpa using h
theorem put_keys {kvs : List (D × D)} {k d : D} : (put kvs k d).map (·.1) = if (kvs.any fun kv => decide (kv.1 = k)) = true then kvs.map (·.1) else kvs.map (·.1) ++ [k] := by
  unfold put
  split
  · rw [List.map_map]
    apply List.map_congr_left
    intro x hx
    simp only [Function.comp_apply]
    split <;> rfl
  · simp
theorem put_nodup {kvs : List (D × D)} {k d : D} (h : (kvs.map (·.1)).Nodup) : ((put kvs k d).map (·.1)).Nodup := by
  rw [put_keys]
  split
  · exact h
  · rename_i hh
    rw [List.nodup_append]
    refine ⟨h, by simp, fun a ha b hb => ?_⟩
    simp only [List.mem_singleton] at hb
    subst hb
    rintro rfl
    simp only [List.mem_map] at ha
    obtain ⟨x, hx, e⟩ := ha
    exact hh (List.any_eq_true.mpr ⟨x, hx, by simpa using e⟩)
theorem put_len {kvs : List (D × D)} {k d : D} : (put kvs k d).length ≤ kvs.length + 1 := by
  unfold put
  split <;> simp
theorem Kv.put {kvs : List (D × D)} (K : Kv kvs) {v : List Nat} {i : Int} (hv : v = [120] ∨ v = [121] ∨ v = [122]) (hi : i.natAbs ≤ 4) : Kv (put kvs (.str v) (.int i)) :=
  ⟨fun e he => (put_mem he).elim (K.ent e) (fun h => ⟨v, i, h, hi, hv⟩), put_nodup K.nd⟩
def sOf (kvs : List (D × D)) (v : List Nat) : Int := match look kvs (.str v) with
  | some (.int i) => i
  | _ => 0
theorem Kv.look {kvs : List (D × D)} (K : Kv kvs) {v : List Nat} {d : D} (h : look kvs (.str v) = some d) : d = .int (sOf kvs v) ∧ (sOf kvs v).natAbs ≤ 4 := by
  obtain ⟨v', i, e, hi, _⟩ := K.ent _ (look_mem h)
  cases e
  exact ⟨by simp [sOf, h], by simpa [sOf, h] using hi⟩
theorem Kv.stOk {kvs : List (D × D)} (K : Kv kvs) : StOk (sOf kvs) kvs := by
  refine ⟨fun v => ?_, fun v => ?_⟩
  · cases e : CL.look kvs (.str v) with
    | none => simp [sOf, e]
    | some d => exact (K.look e).1
  · cases e : CL.look kvs (.str v) with
    | none => simp [sOf, e]
    | some d => exact (K.look e).2
theorem Kv.bel {kvs : List (D × D)} (K : Kv kvs) {n : Nat} : (O.dic kvs).bel n = true := by
  simp only [O.bel, List.all_eq_true]
  intro e he
  obtain ⟨v, i, rfl, _⟩ := K.ent e he
  rfl
theorem some_state_ok (h : T[f]? = some ⟨nm, 1, 3, B_law_some_state fd⟩) (h2 : T[fd]? = some ⟨nm2, 2, 3, B_law_draw⟩) (B : Box b q ds p0 st) (k p : Nat) (hk : 0 < k) :
    ∃ (kvs : List (D × D)) (p' : Nat), call G T (k + 1) f [.ref b] (mv st b q p) = some (.ref st.length, mv st b q p' ++ [.dic kvs]) ∧ Kv kvs ∧ kvs.length ≤ 3 := by
  have hd := fun (l : Sto) p m (hm : (0:Int) < m) => draw_mv (G := G) (k := k) h2 (B.app l) hk p hm
  have key : ∃ (ρ' : En) (kvs : List (D × D)) (p' : Nat), exs G (call G T k) (B_law_some_state fd) [some (.ref b), none, none] (mv st b q p) = some (.rt (.ref (st.length + 0)), ρ', mv st b q p' ++ [.dic kvs, .lst [.str [120], .str [121], .str [122]]]) ∧ Kv kvs ∧ kvs.length ≤ 3 := by
    have L := ex_for (G := G) (C := call G T k) (tg := .nm 2) (ρ := [some (.ref b), some (.ref st.length), none]) (st := mv st b q p ++ [.dic []]) (x := [.ifs (.cmp .gt (.call fd [.var 0, .lit (.int 3)]) (.lit (.int 0))) [.asg (.ix (.var 1) (.var 2)) (.bin .sub (.call fd [.var 0, .lit (.int 6)]) (.lit (.int 2)))] []])
      (it := .any (.lst [.lit (.str [120]), .lit (.str [121]), .lit (.str [122])])) (w := ⟨[.str [120], .str [121], .str [122]], [(st.length + 1, .lst [.str [120], .str [121], .str [122]])]⟩) (s1 := mv st b q p ++ [.dic []] ++ [.lst [.str [120], .str [121], .str [122]]])
      (fun i ρ st' => ∃ (kvs : List (D × D)) (p' : Nat) (x : Option D), Kv kvs ∧ kvs.length ≤ i ∧ ρ = [some (.ref b), some (.ref st.length), x] ∧ st' = mv st b q p' ++ [.dic kvs, .lst [.str [120], .str [121], .str [122]]])
      (by simp [evI, walkOf, mv_len]) (fun i ρ st' hP => by
        obtain ⟨kvs, p', x, _, _, rfl, rfl⟩ := hP
        intro e he
        simp only [List.mem_singleton] at he
        subst he
        simp [List.getElem?_append, mv_len]) ⟨[], p, none, Kv.nil, Nat.le_refl _, rfl, by simp⟩
    refine imp_use L ?_ ?_
    · rintro ⟨ρ', st', e, kvs, p', x, hK, hl3, rfl, rfl⟩
      refine ⟨_, kvs, p', exs_nx (ρ' := [some (.ref b), some (.ref st.length), none]) (s' := mv st b q p ++ [.dic []]) (by simp [ev, evps, mv_len, merge]) (exs_nx e (exs_rt (ret_var rfl))), hK, hl3⟩
    · rintro j d ρ st' hj ⟨kvs, p', x, hK, hl, rfl, rfl⟩
      have hv : ∃ v, d = .str v ∧ (v = [120] ∨ v = [121] ∨ v = [122]) := by
        match j, hj with
        | 0, hj => cases hj; exact ⟨_, rfl, .inl rfl⟩
        | 1, hj => cases hj; exact ⟨_, rfl, .inr (.inl rfl)⟩
        | 2, hj => cases hj; exact ⟨_, rfl, .inr (.inr rfl)⟩
        | j + 3, hj => simp at hj
      have hj3 : j < 3 := (List.getElem?_eq_some_iff.mp hj).1
      obtain ⟨v, rfl, hv⟩ := hv
      refine ⟨_, _, by simp only [asg_nm]; rfl, ?_⟩
      simp only [List.set_cons_succ, List.set_cons_zero]
      have d1 := hd [.dic kvs, .lst [.str [120], .str [121], .str [122]]] p' 3 (by decide)
      have d2 := hd [.dic kvs, .lst [.str [120], .str [121], .str [122]]] (p' + 1) 6 (by decide)
      rw [← mv_app B, ← mv_app B] at d1 d2
      have b6 := dv_bd (ds := ds) (p := p' + 1) (m := 6) (by decide)
      have gt : (mv st b q (p' + 2) ++ [O.dic kvs, .lst [.str [120], .str [121], .str [122]]])[st.length]? = some (.dic kvs) := by simp [List.getElem?_append, mv_len]
      have se : (mv st b q (p' + 2) ++ [O.dic kvs, .lst [.str [120], .str [121], .str [122]]]).set st.length (.dic (put kvs (.str v) (.int (dv ds (p' + 1) 6 - 2)))) = mv st b q (p' + 2) ++ [O.dic (put kvs (.str v) (.int (dv ds (p' + 1) 6 - 2))), .lst [.str [120], .str [121], .str [122]]] := by
        rw [List.set_append_right _ _ (by rw [mv_len]; exact Nat.le_refl _), mv_len]; simp
      by_cases h0 : 0 < dv ds p' 3
      · refine ⟨_, _, exs_nx (ρ' := [some (.ref b), some (.ref st.length), some (.str v)]) (s' := mv st b q (p' + 2) ++ [O.dic (put kvs (.str v) (.int (dv ds (p' + 1) 6 - 2))), .lst [.str [120], .str [121], .str [122]]]) ?_ exs_nil, put kvs (.str v) (.int (dv ds (p' + 1) 6 - 2)), p' + 2, _, hK.put hv (by omega), by have := put_len (kvs := kvs) (k := .str v) (d := .int (dv ds (p' + 1) 6 - 2)); omega, rfl, rfl⟩
        simp [d1, d2, h0, set_dic gt k_str (by rw [szL]; omega), se]
      · refine ⟨_, _, exs_nx (ρ' := [some (.ref b), some (.ref st.length), some (.str v)]) (s' := mv st b q (p' + 1) ++ [O.dic kvs, .lst [.str [120], .str [121], .str [122]]]) ?_ exs_nil, kvs, p' + 1, _, hK, by omega, rfl, rfl⟩
        simp [d1, h0]
  obtain ⟨ρ', kvs, p', e, hK, hl3⟩ := key
  exact ⟨kvs, p', call_rt h rfl e (B.gco rfl hK.bel), hK, hl3⟩
end
/-- what stands stays, but for the box -/
def Stay (b : Nat) (st st' : Sto) : Prop := ∀ (i : Nat) (o : O), i ≠ b → st[i]? = some o → st'[i]? = some o
theorem Stay.refl {b : Nat} {st : Sto} : Stay b st st := fun _ _ _ h => h
theorem Stay.trans {b : Nat} {st st1 st2 : Sto} (h : Stay b st st1) (h2 : Stay b st1 st2) : Stay b st st2 := fun i o n e => h2 i o n (h i o n e)
theorem Stay.mv {b q p : Nat} {st : Sto} : Stay b st (CL.mv st b q p) := fun i o n e => by rw [List.getElem?_set_ne (Ne.symm n)]; exact e
theorem Stay.app {b : Nat} {st l : Sto} : Stay b st (st ++ l) := fun i o n e => by rw [List.getElem?_append_left (List.getElem?_eq_some_iff.mp e).1]; exact e
section
variable {G : List D} {T : List Fn} {f fd fa : Nat} {nm nm2 nm3 : Str} {b q p : Nat} {ds : List Int} {st : Sto}
theorem amount_st (h : T[f]? = some ⟨nm, 2, 3, B_law_amount f fd⟩) (h2 : T[fd]? = some ⟨nm2, 2, 3, B_law_draw⟩) (B : Box b q ds p st) (k room : Nat) (hk : room + 1 < k) : ∃ (t : Am) (p' : Nat) (st' : Sto), call G T k f [.ref b, .int room] st = some (t.enc, st') ∧ Box b q ds p' st' ∧ Stay b st st' ∧ t.good ∧ t.dep ≤ room + 1 ∧ t.mag ≤ 4 ^ (room + 1) := by
  obtain ⟨t, p', e, r⟩ := amount_ok (G := G) h h2 B k room p hk
  rw [B.self] at e
  exact ⟨t, p', _, e, B.mv p', .mv, r⟩
theorem guard_st (h : T[f]? = some ⟨nm, 2, 3, B_law_guard fa fd f⟩) (h1 : T[fa]? = some ⟨nm3, 2, 3, B_law_amount fa fd⟩) (h2 : T[fd]? = some ⟨nm2, 2, 3, B_law_draw⟩) (B : Box b q ds p st) (k room : Nat) (hk : room + 2 < k) : ∃ (t : Gd) (p' : Nat) (st' : Sto), call G T k f [.ref b, .int room] st = some (t.enc, st') ∧ Box b q ds p' st' ∧ Stay b st st' ∧ t.good ∧ t.dep ≤ room + 2 ∧ t.mag ≤ 4 ^ (room + 1) := by
  obtain ⟨t, p', e, r⟩ := guard_ok (G := G) h h1 h2 B k room p hk
  rw [B.self] at e
  exact ⟨t, p', _, e, B.mv p', .mv, r⟩
theorem some_state_st (h : T[f]? = some ⟨nm, 1, 3, B_law_some_state fd⟩) (h2 : T[fd]? = some ⟨nm2, 2, 3, B_law_draw⟩) (B : Box b q ds p st) (k : Nat) (hk : 1 < k) :
    ∃ (kvs : List (D × D)) (p' : Nat) (st' : Sto), call G T k f [.ref b] st = some (.ref st.length, st' ++ [.dic kvs]) ∧ st'.length = st.length ∧ Box b q ds p' st' ∧ Stay b st st' ∧ Kv kvs ∧ kvs.length ≤ 3 := by
  obtain ⟨j, rfl⟩ : ∃ j, k = j + 1 := ⟨k - 1, by omega⟩
  obtain ⟨kvs, p', e, r⟩ := some_state_ok (G := G) h h2 B j p (by omega)
  rw [B.self] at e
  exact ⟨kvs, p', _, e, mv_len, B.mv p', .mv, r⟩
theorem draw_st {m : Int} (h2 : T[fd]? = some ⟨nm2, 2, 3, B_law_draw⟩) (B : Box b q ds p st) (k : Nat) (hk : 0 < k) (hm : 0 < m) : ∃ (v : Int) (st' : Sto), call G T k fd [.ref b, .int m] st = some (.int v, st') ∧ 0 ≤ v ∧ v < m ∧ Box b q ds (p + 1) st' ∧ Stay b st st' ∧ st'.length = st.length := by
  have := draw_mv (G := G) h2 B hk p hm
  rw [B.self] at this
  exact ⟨_, _, this, (dv_bd hm).1, (dv_bd hm).2, B.mv _, .mv, mv_len⟩
end
/-! ### dicts of distinct keys -/
theorem put_new {kvs : List (D × D)} {k d : D} (h : k ∉ kvs.map (·.1)) : put kvs k d = kvs ++ [(k, d)] := by
  unfold put
  rw [if_neg]
  intro hh
  obtain ⟨x, hx, e⟩ := List.any_eq_true.mp hh
  exact h (List.mem_map.mpr ⟨x, hx, by simpa using e⟩)
theorem merge_new : ∀ (l acc : List (D × D)), ((acc ++ l).map (·.1)).Nodup → merge acc l = acc ++ l
  | [], acc, _ => by simp [merge]
  | (k, v) :: l, acc, h => by
    have hk : k ∉ acc.map (·.1) := fun z => by
      rw [List.map_append, List.nodup_append] at h
      exact h.2.2 k z k (by simp) rfl
    simp only [merge, put_new hk]
    rw [merge_new l (acc ++ [(k, v)]) (by simpa using h)]
    simp
theorem look_of_mem : ∀ {kvs : List (D × D)} {k d : D}, (kvs.map (·.1)).Nodup → (k, d) ∈ kvs → look kvs k = some d
  | (k', d') :: kvs, k, d, hn, h => by
    simp only [List.map_cons, List.nodup_cons] at hn
    rw [look_cons]
    rcases List.mem_cons.mp h with e | h
    · cases e; simp
    · have : k' ≠ k := fun e => hn.1 (by rw [e]; exact List.mem_map.mpr ⟨_, h, rfl⟩)
      simp only [this, if_false]
      exact look_of_mem hn.2 h
theorem pairs_map (l : List (D × D)) : pairsOf (l.map fun e => .tup [e.1, e.2]) = some l := by
  induction l with
  | nil => rfl
  | cons e l ih => simp only [List.map_cons, pairsOf, ih, Option.map_some]
end CL

/-! M3: loops over few, comprehensions, generator expressions: simple facts. -/
namespace CL
open PySem PySem.Spec PyProof.Rows L2
section
variable {G : List D} {C : Cl} {ρ : En} {st : Sto}
theorem evI_rngI {a b : E} {i j : Int} {s1 s2 : Sto} (h : ev G C a ρ st = some (.int i, s1)) (h2 : ev G C b ρ s1 = some (.int j, s2)) (hi : -(2 ^ 62) ≤ i ∧ i < 2 ^ 62) (hj : -(2 ^ 62) ≤ j ∧ j < 2 ^ 62) : evI G C (.rng [a, b]) ρ st = some (⟨rangeOf i j, []⟩, s2) := by
  simp only [evI, evs, h, h2, walkRng]
  rw [if_pos ⟨hi.1, hi.2, hj.1, hj.2⟩]
  rfl
theorem rangeOf_mem {i j : Int} {d : D} (h : d ∈ rangeOf i j) : ∃ x : Int, d = .int x ∧ i ≤ x ∧ x < j := by
  unfold rangeOf at h
  obtain ⟨k, hk, rfl⟩ := List.mem_map.mp h
  have := List.mem_range.mp hk
  exact ⟨_, rfl, by omega, by omega⟩
theorem mem_rangeOf {i j x : Int} (h1 : i ≤ x) (h2 : x < j) : D.int x ∈ rangeOf i j := by
  unfold rangeOf
  exact List.mem_map.mpr ⟨(x - i).toNat, List.mem_range.mpr (by omega), by congr 1; omega⟩
theorem ok_all {items : List D} {st : Sto} : Wk.ok ⟨items, []⟩ st := fun p hp => by cases hp
@[simp] theorem loopF_nil {items : List D} {f : D → En → Sto → Option Rs} : loopF ⟨items, []⟩ f [] ρ st = some (.nx, ρ, st) := by
  unfold loopF; rw [if_pos ok_all]
@[simp] theorem loopF_cons {items : List D} {f : D → En → Sto → Option Rs} {d : D} {ds : List D} : loopF ⟨items, []⟩ f (d :: ds) ρ st = match f d ρ st with
    | some (.nx, ρ', s2) => loopF ⟨items, []⟩ f ds ρ' s2
    | some (.ct, ρ', s2) => loopF ⟨items, []⟩ f ds ρ' s2
    | some (.bk, ρ', s2) => some (.nx, ρ', s2)
    | some (.rt d, ρ', s2) => some (.rt d, ρ', s2)
    | none => none := by
  conv => lhs; unfold loopF
  rw [if_pos ok_all] <;> rfl
theorem loopF_c {w : Wk} {f : D → En → Sto → Option Rs} {d : D} {ds : List D} (ok : w.ok st) : loopF w f (d :: ds) ρ st = match f d ρ st with
    | some (.nx, ρ', s2) => loopF w f ds ρ' s2
    | some (.ct, ρ', s2) => loopF w f ds ρ' s2
    | some (.bk, ρ', s2) => some (.nx, ρ', s2)
    | some (.rt d, ρ', s2) => some (.rt d, ρ', s2)
    | none => none := by
  conv => lhs; unfold loopF
  rw [if_pos ok] <;> rfl
theorem loopF_n {w : Wk} {f : D → En → Sto → Option Rs} (ok : w.ok st) : loopF w f [] ρ st = some (.nx, ρ, st) := by
  unfold loopF; rw [if_pos ok]
@[simp] theorem loopC_nil {items : List D} {f : D → Sto → Option Sto} : loopC ⟨items, []⟩ f [] st = some st := by
  unfold loopC; rw [if_pos ok_all]
@[simp] theorem loopC_cons {items : List D} {f : D → Sto → Option Sto} {d : D} {ds : List D} : loopC ⟨items, []⟩ f (d :: ds) st = match f d st with
    | some st' => loopC ⟨items, []⟩ f ds st'
    | none => none := by
  conv => lhs; unfold loopC
  rw [if_pos ok_all] <;> rfl
theorem push_top {xs : List D} {d : D} (h : xs.length < 100000) : push st.length d (st ++ [.lst xs]) = some (st ++ [.lst (xs ++ [d])]) := by
  unfold push
  rw [top_get]
  simp only [show xs.length < sizeLine by rw [szL]; omega, if_true, top_set]
theorem ev_lc {vs : List Nat} {elt : E} {tg : Tg} {it : It} {c : OT} : ev G C (.lc vs elt tg it c) ρ st = match evI G C it ρ st with
    | some (w, s1) => match loopC w (fun d s => match asg G C tg d (wipe ρ vs) s with
        | some (ρ', s') => match evC G C c ρ' s' with
          | some (true, s'') => match ev G C elt ρ' s'' with
            | some (y, s3) => push s1.length y s3
            | none => none
          | some (false, s'') => some s''
          | none => none
        | none => none) w.items (s1 ++ [.lst []]) with
      | some s' => some (.ref s1.length, s')
      | none => none
    | none => none := by simp only [ev] <;> rfl
theorem ev_lc2 {vs vs1 : List Nat} {elt : E} {tg tg1 : Tg} {it it1 : It} {c c1 : OT} : ev G C (.lc2 vs vs1 elt tg it c tg1 it1 c1) ρ st = match evI G C it ρ st with
    | some (w, s1) => match loopC w (fun d s => match asg G C tg d (wipe ρ vs) s with
        | some (ρ', s') => match evC G C c ρ' s' with
          | some (true, s'') => match evI G C it1 ρ' s'' with
            | some (w1, s3) => loopC w1 (fun d1 s4 => match asg G C tg1 d1 (wipe ρ' vs1) s4 with
                | some (ρ1, s5) => match evC G C c1 ρ1 s5 with
                  | some (true, s6) => match ev G C elt ρ1 s6 with
                    | some (y, s7) => push s1.length y s7
                    | none => none
                  | some (false, s6) => some s6
                  | none => none
                | none => none) w1.items s3
            | none => none
          | some (false, s'') => some s''
          | none => none
        | none => none) w.items (s1 ++ [.lst []]) with
      | some s' => some (.ref s1.length, s')
      | none => none
    | none => none := by simp only [ev] <;> rfl
@[simp] theorem loopQ_nil {b : Bool} {items : List D} {f : D → Sto → Option (Option D × Sto)} : loopQ b ⟨items, []⟩ f [] st = some (!b, st) := by
  unfold loopQ; rw [if_pos ok_all]
@[simp] theorem loopQ_cons {b : Bool} {items : List D} {f : D → Sto → Option (Option D × Sto)} {d : D} {ds : List D} : loopQ b ⟨items, []⟩ f (d :: ds) st = match f d st with
    | some (some y, st') => match truth st' y with
      | some t => if t = b then some (b, st') else loopQ b ⟨items, []⟩ f ds st'
      | none => none
    | some (none, st') => loopQ b ⟨items, []⟩ f ds st'
    | none => none := by
  conv => lhs; unfold loopQ
  rw [if_pos ok_all] <;> rfl
@[simp] theorem loopT_nil {items acc : List D} {f : D → Sto → Option (Option D × Sto)} : loopT ⟨items, []⟩ f [] acc st = some (acc, st) := by
  unfold loopT; rw [if_pos ok_all]
@[simp] theorem loopT_cons {items acc : List D} {f : D → Sto → Option (Option D × Sto)} {d : D} {ds : List D} : loopT ⟨items, []⟩ f (d :: ds) acc st = match f d st with
    | some (some y, st') => loopT ⟨items, []⟩ f ds (acc ++ [y]) st'
    | some (none, st') => loopT ⟨items, []⟩ f ds acc st'
    | none => none := by
  conv => lhs; unfold loopT
  rw [if_pos ok_all] <;> rfl
theorem ev_gen {k : GK} {vs : List Nat} {elt : E} {tg : Tg} {it : It} {c : OT} : ev G C (.gen k vs elt tg it c) ρ st = match evI G C it ρ st with
    | some (w, s1) => genK k w (gstep G C tg c elt (wipe ρ vs)) s1
    | none => none := by simp only [ev] <;> rfl
theorem evI_any {e : E} : evI G C (.any e) ρ st = match ev G C e ρ st with
    | some (d, s1) => (walkOf s1 d).map (·, s1)
    | none => none := by simp only [evI] <;> rfl
theorem ex_frr {t : Tg} {it : It} {b : List S} : ex G C (.frr t it b) ρ st = match evI G C it ρ st with
    | some (w, s1) => loopF w (fun d ρ' s' => match asg G C t d ρ' s' with
        | some (ρ'', s'') => exs G C b ρ'' s''
        | none => none) w.items ρ s1
    | none => none := by simp only [ex] <;> rfl
/-- all, any of a generator expression: one by one, the store as it was -/
theorem loopQ_pure {b : Bool} {w : Wk} {f : D → Sto → Option (Option D × Sto)} {g : D → Option D} {t : D → Bool} (ok : w.ok st) : ∀ l : List D, (∀ d ∈ l, f d st = some (g d, st) ∧ ∀ y, g d = some y → truth st y = some (t d)) →
    loopQ b w f l st = some (if (l.any fun d => (g d).isSome && (t d == b)) = true then b else !b, st)
  | [], _ => by unfold loopQ; rw [if_pos ok]; simp
  | d :: l, h => by
    unfold loopQ
    rw [if_pos ok]
    obtain ⟨h1, h2⟩ := h d List.mem_cons_self
    have ih := loopQ_pure (b := b) ok l fun d hd => h d (List.mem_cons_of_mem _ hd)
    simp only [h1]
    cases e : g d with
    | none => simp only [e]; rw [ih]; simp [e]
    | some y =>
      simp only [e, h2 y e]
      by_cases ht : t d = b
      · simp [ht, e]
      · rw [if_neg ht, ih]
        have : (t d == b) = false := by simpa using ht
        simp [e, this]
theorem loopT_pure {w : Wk} {f : D → Sto → Option (Option D × Sto)} {g : D → Option D} (ok : w.ok st) : ∀ (l acc : List D), (∀ d ∈ l, f d st = some (g d, st)) → loopT w f l acc st = some (acc ++ l.filterMap g, st)
  | [], acc, _ => by unfold loopT; rw [if_pos ok]; simp
  | d :: l, acc, h => by
    unfold loopT
    rw [if_pos ok]
    have h1 := h d List.mem_cons_self
    have ih := fun acc => loopT_pure (w := w) (f := f) ok l acc fun d hd => h d (List.mem_cons_of_mem _ hd)
    simp only [h1]
    cases e : g d with
    | none => simp only [e]; rw [ih]; simp [e]
    | some y => simp only [e]; rw [ih]; simp [e]
theorem ev_gen_of {k : GK} {vs : List Nat} {elt : E} {tg : Tg} {it : It} {c : OT} {w : Wk} {s1 : Sto} (h : evI G C it ρ st = some (w, s1)) : ev G C (.gen k vs elt tg it c) ρ st = genK k w (gstep G C tg c elt (wipe ρ vs)) s1 := by
  simp only [ev, h]
  rfl
/-- a list comprehension, its element pure -/
theorem ev_lc_pure {vs : List Nat} {elt : E} {tg : Tg} {it : It} {c : OT} {w : Wk} {s1 : Sto} {g : D → Option D} (hw : evI G C it ρ st = some (w, s1)) (ok : ∀ l, w.ok (s1 ++ l)) (hl : w.items.length < sizeLine)
    (step : ∀ d ∈ w.items, ∀ l : List D, gstep G C tg c elt (wipe ρ vs) d (s1 ++ [.lst l]) = some (g d, s1 ++ [.lst l])) : ev G C (.lc vs elt tg it c) ρ st = some (.ref s1.length, s1 ++ [.lst (w.items.filterMap g)]) := by
  obtain ⟨s', e, l, rfl, hl'⟩ := ev_lc_inv (vs := vs) (elt := elt) (tg := tg) (cc := c) (fun j s' => s' = s1 ++ [.lst ((w.items.take j).filterMap g)]) hw (fun i s' h => by rw [h]; exact ok _) (by simp) (fun j d s' hj h => by
    subst h
    have hd := step d (List.mem_of_getElem? hj) ((w.items.take j).filterMap g)
    have htk : w.items.take (j + 1) = w.items.take j ++ [d] := by rw [List.take_add_one, hj]; rfl
    have hlen : ((w.items.take j).filterMap g).length < sizeLine := Nat.lt_of_le_of_lt (Nat.le_trans (List.length_filterMap_le _ _) (by rw [List.length_take]; omega)) hl
    unfold gstep at hd
    split at hd
    · rename_i ρ' s2 e2
      refine ⟨ρ', s2, e2, ?_⟩
      split at hd
      · rename_i s3 e3
        split at hd
        · rename_i y s4 e4
          simp only [Option.some.injEq, Prod.mk.injEq] at hd
          obtain ⟨hg, rfl⟩ := hd
          refine .inr ⟨s3, y, _, s1 ++ [.lst ((w.items.take j).filterMap g ++ [y])], e3, e4, ?_, ?_⟩
          · unfold push
            rw [top_get]
            simp only [hlen, if_true, top_set]
          · rw [htk, List.filterMap_append]
            simp [← hg]
        · cases hd
      · rename_i s3 e3
        simp only [Option.some.injEq, Prod.mk.injEq] at hd
        obtain ⟨hg, rfl⟩ := hd
        refine .inl ⟨_, e3, ?_⟩
        rw [htk, List.filterMap_append]
        simp [← hg]
      · cases hd
    · cases hd)
  rw [e]
  simp
end
end CL

namespace CL
open PySem PySem.Spec PyProof.Rows L2
/-! MC: commands of the small language: numbers of any size, small steps, whole runs. -/
def B_sum_at (c_sum_at : Nat) : List S :=
  [.ifs (.cmp .eq (.idx (.var 0) (.lit (.int 0))) (.lit (.str [110, 117, 109]))) [.ret (.idx (.var 0) (.lit (.int 1)))] [], .ifs (.cmp .eq (.idx (.var 0) (.lit (.int 0))) (.lit (.str [118, 97, 114]))) [.ret (.mth .get2 (.var 1) [.idx (.var 0) (.lit (.int 1)), .lit (.int 0)])] [], .asg (.tp [.nm 2, .nm 3]) (.tup [.call c_sum_at [.idx (.var 0) (.lit (.int 1)), .var 1], .call c_sum_at [.idx (.var 0) (.lit (.int 2)), .var 1]]), .ifs (.cmp .eq (.idx (.var 0) (.lit (.int 0))) (.lit (.str [43]))) [.ret (.bin .add (.var 2) (.var 3))] [], .ret (.ite (.cmp .eq (.idx (.var 0) (.lit (.int 0))) (.lit (.str [45]))) (.bin .sub (.var 2) (.var 3)) (.bin .mul (.var 2) (.var 3)))]
def B_passes (c_passes c_sum_at : Nat) : List S :=
  [.ifs (.cmp .eq (.idx (.var 0) (.lit (.int 0))) (.lit (.str [116, 114, 117, 101]))) [.ret (.lit (.bl true))] [], .ifs (.cmp .eq (.idx (.var 0) (.lit (.int 0))) (.lit (.str [110, 111, 116]))) [.ret (.not (.call c_passes [.idx (.var 0) (.lit (.int 1)), .var 1]))] [], .ifs (.cmp .eq (.idx (.var 0) (.lit (.int 0))) (.lit (.str [97, 110, 100]))) [.ret (.and (.call c_passes [.idx (.var 0) (.lit (.int 1)), .var 1]) (.call c_passes [.idx (.var 0) (.lit (.int 2)), .var 1]))] [], .asg (.tp [.nm 2, .nm 3]) (.tup [.call c_sum_at [.idx (.var 0) (.lit (.int 1)), .var 1], .call c_sum_at [.idx (.var 0) (.lit (.int 2)), .var 1]]), .ret (.ite (.cmp .eq (.idx (.var 0) (.lit (.int 0))) (.lit (.str [60]))) (.cmp .lt (.var 2) (.var 3)) (.cmp .eq (.var 2) (.var 3)))]
def B_told_state : List S :=
  [.ret (.blt .tuple [.lock 0 (.gen .srt [1, 2] (.tup [.var 1, .var 2]) (.tp [.nm 1, .nm 2]) (.items (.var 0)) (.yes (.cmp .ne (.var 2) (.lit (.int 0)))))])]
def B_ended (c_ended c_passes c_sum_at : Nat) : List S :=
  [.ifs (.cmp .eq (.idx (.var 0) (.lit (.int 0))) (.lit (.str [115, 107, 105, 112]))) [.ret (.tup [.var 1, .var 2])] [], .ifs (.cmp .eq (.idx (.var 0) (.lit (.int 0))) (.lit (.str [115, 101, 116]))) [.asg (.nm 3) (.blt .dict [.var 1]), .asg (.ix (.var 3) (.idx (.var 0) (.lit (.int 1)))) (.call c_sum_at [.idx (.var 0) (.lit (.int 2)), .var 1]), .ret (.tup [.var 3, .var 2])] [], .ifs (.cmp .eq (.idx (.var 0) (.lit (.int 0))) (.lit (.str [116, 104, 101, 110]))) [.asg (.tp [.nm 3, .nm 4]) (.call c_ended [.idx (.var 0) (.lit (.int 1)), .var 1, .var 2]), .ret (.ite (.cmp .is_ (.var 3) (.lit .non)) (.tup [.lit .non, .lit (.int 0)]) (.call c_ended [.idx (.var 0) (.lit (.int 2)), .var 3, .var 4]))] [], .ifs (.cmp .eq (.idx (.var 0) (.lit (.int 0))) (.lit (.str [105, 102]))) [.ret (.call c_ended [.ite (.tru (.call c_passes [.idx (.var 0) (.lit (.int 1)), .var 1])) (.idx (.var 0) (.lit (.int 2))) (.idx (.var 0) (.lit (.int 3))), .var 1, .var 2])] [], .whl (.tru (.call c_passes [.idx (.var 0) (.lit (.int 1)), .var 1])) [.ifs (.cmp .eq (.var 2) (.lit (.int 0))) [.ret (.tup [.lit .non, .lit (.int 0)])] [], .asg (.tp [.nm 1, .nm 2]) (.call c_ended [.idx (.var 0) (.lit (.int 2)), .var 1, .bin .sub (.var 2) (.lit (.int 1))]), .ifs (.cmp .is_ (.var 1) (.lit .non)) [.ret (.tup [.lit .non, .lit (.int 0)])] []], .ret (.tup [.var 1, .var 2])]
def B_run_command (c_ended c_told_state : Nat) : List S :=
  [.asg (.nm 3) (.idx (.call c_ended [.var 0, .blt .dict [.var 1], .var 2]) (.lit (.int 0))), .ret (.ite (.cmp .is_ (.var 3) (.lit .non)) (.lit .non) (.call c_told_state [.var 3]))]
def B_law_small_step (c_law_amount_at c_law_holds c_law_small_step : Nat) : List S :=
  [.asg (.nm 2) (.idx (.var 0) (.lit (.int 0))), .ifs (.cmp .eq (.var 2) (.lit (.str [115, 107, 105, 112]))) [.ret (.tup [.lit .non, .var 1])] [], .ifs (.cmp .eq (.var 2) (.lit (.str [115, 101, 116]))) [.asg (.nm 3) (.blt .dict [.var 1]), .asg (.ix (.var 3) (.idx (.var 0) (.lit (.int 1)))) (.call c_law_amount_at [.idx (.var 0) (.lit (.int 2)), .var 1]), .ret (.tup [.lit .non, .var 3])] [], .ifs (.cmp .eq (.var 2) (.lit (.str [116, 104, 101, 110]))) [.asg (.tp [.nm 4, .nm 3]) (.call c_law_small_step [.idx (.var 0) (.lit (.int 1)), .var 1]), .ifs (.cmp .is_ (.var 4) (.lit .non)) [.ret (.tup [.idx (.var 0) (.lit (.int 2)), .var 3])] [], .ret (.tup [.tup [.lit (.str [116, 104, 101, 110]), .var 4, .idx (.var 0) (.lit (.int 2))], .var 3])] [], .ifs (.cmp .eq (.var 2) (.lit (.str [105, 102]))) [.ret (.tup [.idx (.lst [.idx (.var 0) (.lit (.int 3)), .idx (.var 0) (.lit (.int 2))]) (.blt .int [.call c_law_holds [.idx (.var 0) (.lit (.int 1)), .var 1]]), .var 1])] [], .ifs (.tru (.call c_law_holds [.idx (.var 0) (.lit (.int 1)), .var 1])) [.ret (.tup [.tup [.lit (.str [116, 104, 101, 110]), .idx (.var 0) (.lit (.int 2)), .var 0], .var 1])] [], .ret (.tup [.lit .non, .var 1])]
def B_law_as_told : List S :=
  [.ret (.blt .tuple [.lc [1] (.tup [.var 1, .idx (.var 0) (.var 1)]) (.nm 1) (.any (.blt .sorted [.var 0])) (.yes (.cmp .ne (.idx (.var 0) (.var 1)) (.lit (.int 0))))])]
def B_law_deeds_of (c_law_amount c_law_deeds_of c_law_draw c_law_guard : Nat) : List S :=
  [.asg (.nm 3) (.call c_law_draw [.var 0, .lit (.int 6)]), .ifs (.and (.cmp .gt (.var 1) (.lit (.int 2))) (.cmp .lt (.var 3) (.lit (.int 3)))) [.asg (.nm 4) (.bin .add (.lit (.int 1)) (.call c_law_draw [.var 0, .bin .sub (.var 1) (.lit (.int 2))])), .ret (.tup [.lit (.str [116, 104, 101, 110]), .call c_law_deeds_of [.var 0, .var 4, .var 2], .call c_law_deeds_of [.var 0, .bin .sub (.bin .sub (.var 1) (.lit (.int 1))) (.var 4), .var 2]])] [], .ifs (.and (.cmp .gt (.var 1) (.lit (.int 2))) (.cmp .eq (.var 3) (.lit (.int 3)))) [.asg (.nm 4) (.bin .add (.lit (.int 1)) (.call c_law_draw [.var 0, .bin .sub (.var 1) (.lit (.int 2))])), .ret (.tup [.lit (.str [105, 102]), .call c_law_guard [.var 0, .lit (.int 4)], .call c_law_deeds_of [.var 0, .var 4, .var 2], .call c_law_deeds_of [.var 0, .bin .sub (.bin .sub (.var 1) (.lit (.int 1))) (.var 4), .var 2]])] [], .ifs (.and (.cmp .gt (.var 1) (.lit (.int 1))) (.and (.cmp .eq (.var 3) (.lit (.int 4))) (.tru (.var 2)))) [.ret (.tup [.lit (.str [119, 104, 105, 108, 101]), .call c_law_guard [.var 0, .lit (.int 4)], .call c_law_deeds_of [.var 0, .bin .sub (.var 1) (.lit (.int 1)), .var 2]])] [], .ifs (.cmp .eq (.var 3) (.lit (.int 5))) [.ret (.tup [.lit (.str [115, 107, 105, 112])])] [], .ret (.tup [.lit (.str [115, 101, 116]), .idx (.lit (.str [120, 121, 122])) (.call c_law_draw [.var 0, .lit (.int 3)]), .call c_law_amount [.var 0, .lit (.int 3)]])]

/-! ### sums -/
def mgM (M : Nat) : Am → Nat
  | .num i => max M i.natAbs
  | .var _ => M
  | .op _ a b => mgM M a * mgM M b
def lvs : Am → Nat
  | .num _ => 1
  | .var _ => 1
  | .op _ a b => lvs a + lvs b
theorem mgM_pos {M : Nat} (hM : 4 ≤ M) : ∀ t : Am, 4 ≤ mgM M t
  | .num i => by simp only [mgM]; omega
  | .var _ => hM
  | .op o a b => Nat.le_trans (by decide : 4 ≤ 4 * 4) (Nat.mul_le_mul (mgM_pos hM a) (mgM_pos hM b))
theorem mgM_l {M : Nat} (hM : 4 ≤ M) {o : Nat} {a b : Am} : mgM M a ≤ mgM M (.op o a b) := Nat.le_mul_of_pos_right _ (by have := mgM_pos hM b; omega)
theorem mgM_r {M : Nat} (hM : 4 ≤ M) {o : Nat} {a b : Am} : mgM M b ≤ mgM M (.op o a b) := Nat.le_mul_of_pos_left _ (by have := mgM_pos hM a; omega)
theorem at_mgM {M : Nat} (hM : 4 ≤ M) {s : List Nat → Int} (hs : ∀ v, (s v).natAbs ≤ M) : ∀ t : Am, (t.at_ s).natAbs ≤ mgM M t
  | .num i => by simp only [Am.at_, mgM]; omega
  | .var v => hs v
  | .op o a b => Am.opv_le (at_mgM hM hs a) (at_mgM hM hs b) (mgM_pos hM a) (mgM_pos hM b)
theorem pow_lvs : ∀ t : Am, 4 ^ lvs t ≤ t.mag
  | .num i => by simp only [lvs, Am.mag]; omega
  | .var _ => by simp [lvs, Am.mag]
  | .op _ a b => by
    simp only [lvs, Am.mag, Nat.pow_add]
    exact Nat.mul_le_mul (pow_lvs a) (pow_lvs b)
theorem mgM_lvs {M : Nat} : ∀ {t : Am}, t.mag ≤ M → mgM M t ≤ M ^ lvs t
  | .num i, h => by simp only [Am.mag] at h; simp only [mgM, lvs, Nat.pow_one]; omega
  | .var _, h => by simp [mgM, lvs]
  | .op o a b, h => by
    simp only [mgM, lvs, Nat.pow_add]
    exact Nat.mul_le_mul (mgM_lvs (Nat.le_trans Am.mag_l h)) (mgM_lvs (Nat.le_trans Am.mag_r h))
theorem mgM_le {M n : Nat} {t : Am} (hM : 1 ≤ M) (h : t.mag ≤ 4 ^ n) (h2 : 4 ^ n ≤ M) : mgM M t ≤ M ^ n := by
  refine Nat.le_trans (mgM_lvs (Nat.le_trans h h2)) (Nat.pow_le_pow_right hM ?_)
  have := Nat.le_trans (pow_lvs t) h
  exact (Nat.pow_le_pow_iff_right (by decide)).mp this
theorem log_lt {n : Nat} (h : n < 2 ^ 4000) : n.log2 < 4000 := by
  by_cases h0 : n = 0
  · subst h0; decide
  · exact (Nat.log2_lt h0).mpr h
theorem mul_big {i j : Int} {st : Sto} (hi : i.natAbs < 2 ^ 4000) (hj : j.natAbs < 2 ^ 4000) : binop .mul (.int i) (.int j) st = some (.int (i * j), st) :=
  bin_mul (.inr (.inr (by have := log_lt hi; have := log_lt hj; omega)))
def Gd.fit (M : Nat) : Gd → Prop
  | .tru => True
  | .not g => g.fit M
  | .and g h => g.fit M ∧ h.fit M
  | .cmp _ a b => mgM M a < 2 ^ 4000 ∧ mgM M b < 2 ^ 4000
theorem Gd.fit_of {M n : Nat} (h2 : 4 ^ n ≤ M) (h3 : M ^ n < 2 ^ 4000) : ∀ {g : Gd}, g.mag ≤ 4 ^ n → g.fit M
  | .tru, _ => trivial
  | .not g, h => fit_of h2 h3 (g := g) h
  | .and g g', h => by
    simp only [Gd.mag] at h
    exact ⟨fit_of h2 h3 (g := g) (by omega), fit_of h2 h3 (g := g') (by omega)⟩
  | .cmp _ a b, h => by
    simp only [Gd.mag] at h
    have p : 1 ≤ M := Nat.le_trans (Nat.one_le_pow _ _ (by decide)) h2
    exact ⟨Nat.lt_of_le_of_lt (mgM_le p (by omega) h2) h3, Nat.lt_of_le_of_lt (mgM_le p (by omega) h2) h3⟩
/-! ### states -/
structure Ks (s : List (D × D)) : Prop where
  ent : ∀ e ∈ s, ∃ (v : List Nat) (i : Int), e = (.str v, .int i) ∧ (v = [120] ∨ v = [121] ∨ v = [122])
  nd : (s.map (·.1)).Nodup
def Bd (M : Nat) (s : List (D × D)) : Prop := ∀ v, (sOf s v).natAbs ≤ M
theorem Kv.ks {s : List (D × D)} (K : Kv s) : Ks s := ⟨fun e he => by obtain ⟨v, i, h1, _, h2⟩ := K.ent e he; exact ⟨v, i, h1, h2⟩, K.nd⟩
theorem Kv.bd4 {s : List (D × D)} (K : Kv s) : Bd 4 s := fun v => K.stOk.bd v
theorem len_sub {α : Type} [DecidableEq α] : ∀ (l m : List α), l.Nodup → (∀ x ∈ l, x ∈ m) → l.length ≤ m.length
  | [], _, _, _ => Nat.zero_le _
  | x :: l, m, hn, h => by
    obtain ⟨h1, h2⟩ := List.nodup_cons.mp hn
    have hx := h x List.mem_cons_self
    have := len_sub l (m.erase x) h2 fun y hy => (List.mem_erase_of_ne (by rintro rfl; exact h1 hy)).mpr (h y (List.mem_cons_of_mem _ hy))
    rw [List.length_erase_of_mem hx] at this
    have := List.length_pos_of_mem hx
    simp only [List.length_cons]
    omega
theorem Ks.len {s : List (D × D)} (K : Ks s) : s.length ≤ 3 := by
  have := len_sub (s.map (·.1)) [.str [120], .str [121], .str [122]] K.nd fun x hx => by
    obtain ⟨e, he, rfl⟩ := List.mem_map.mp hx
    obtain ⟨v, i, rfl, h⟩ := K.ent e he
    rcases h with rfl | rfl | rfl <;> simp
  simpa using this
theorem Ks.val {s : List (D × D)} (K : Ks s) {v : List Nat} {d : D} (h : look s (.str v) = some d) : d = .int (sOf s v) := by
  obtain ⟨v', i, e, _⟩ := K.ent _ (look_mem h)
  cases e
  simp [sOf, h]
theorem Ks.getD {s : List (D × D)} (K : Ks s) (v : List Nat) : (look s (.str v)).getD (.int 0) = .int (sOf s v) := by
  cases e : look s (.str v) with
  | none => simp [sOf, e]
  | some d => simp [K.val e]
theorem Ks.put {s : List (D × D)} (K : Ks s) {v : List Nat} {i : Int} (hv : v = [120] ∨ v = [121] ∨ v = [122]) : Ks (put s (.str v) (.int i)) :=
  ⟨fun e he => (put_mem he).elim (K.ent e) (fun h => ⟨v, i, h, hv⟩), put_nodup K.nd⟩
section
variable {G : List D} {T : List Fn} {k f r M : Nat} {nm nm' nm2 nm3 : Str} {s : List (D × D)} {st : Sto}
theorem get2_ks (K : Ks s) (hr : st[r]? = some (.dic s)) (v : List Nat) : mth .get2 (.ref r) [.str v, .int 0] st = some (.int (sOf s v), st) := by
  have := K.getD v
  simp only [mth, dicAt, hr, k_str, if_true]
  cases e : look s (.str v) with
  | none => rw [e] at this; simpa using this
  | some d => rw [e] at this; simpa using this
theorem amountM_ok (h : T[f]? = some ⟨nm, 2, 4, B_law_amount_at f⟩) (hM : 4 ≤ M) (K : Ks s) (hb : Bd M s) : ∀ (t : Am) (k : Nat) (st : Sto), t.good → mgM M t < 2 ^ 4000 → t.dep ≤ k → st[r]? = some (.dic s) → call G T k f [t.enc, .ref r] st = some (.int (t.at_ (sOf s)), st)
  | .num i, k + 1, st, _, _, _, hr => by simp [call, h, B_law_amount_at, Am.enc, at_nn, Am.at_, gc_self]
  | .var v, k + 1, st, _, _, _, hr => by
    have hm : mty .get2 st (.ref r) = true := by simp [mty, dicAt, hr]
    simp [call, h, B_law_amount_at, Am.enc, at_nn, Am.at_, gc_self, hm, get2_ks K hr]
  | .op o a b, k + 1, st, hg, hm, hd, hr => by
    have ha := amountM_ok h hM K hb a k st hg.2.1 (Nat.lt_of_le_of_lt (mgM_l hM) hm) (by simp only [Am.dep] at hd; omega) hr
    have hb' := amountM_ok h hM K hb b k st hg.2.2 (Nat.lt_of_le_of_lt (mgM_r hM) hm) (by simp only [Am.dep] at hd; omega) hr
    have mb := mul_big (st := st) (Nat.lt_of_le_of_lt (at_mgM hM hb a) (Nat.lt_of_le_of_lt (mgM_l hM) hm)) (Nat.lt_of_le_of_lt (at_mgM hM hb b) (Nat.lt_of_le_of_lt (mgM_r hM) hm))
    rcases hg.1 with rfl | rfl | rfl
    · simp [call, h, B_law_amount_at, Am.enc, at_nn, Am.at_, gc_self, ha, hb', Am.opv]
    · simp [call, h, B_law_amount_at, Am.enc, at_nn, Am.at_, gc_self, ha, hb', Am.opv]
    · simp [call, h, B_law_amount_at, Am.enc, at_nn, Am.at_, gc_self, ha, hb', Am.opv, mb]
  | .num _, 0, _, _, _, hd, _ => by simp [Am.dep] at hd
  | .var _, 0, _, _, _, hd, _ => by simp [Am.dep] at hd
  | .op _ _ _, 0, _, _, _, hd, _ => by simp [Am.dep] at hd
theorem sum_at_ok (h : T[f]? = some ⟨nm, 2, 4, B_sum_at f⟩) (hM : 4 ≤ M) (K : Ks s) (hb : Bd M s) : ∀ (t : Am) (k : Nat) (st : Sto), t.good → mgM M t < 2 ^ 4000 → t.dep ≤ k → st[r]? = some (.dic s) → call G T k f [t.enc, .ref r] st = some (.int (t.at_ (sOf s)), st)
  | .num i, k + 1, st, _, _, _, hr => by simp [call, h, B_sum_at, Am.enc, at_nn, Am.at_, gc_self]
  | .var v, k + 1, st, _, _, _, hr => by
    have hm : mty .get2 st (.ref r) = true := by simp [mty, dicAt, hr]
    simp [call, h, B_sum_at, Am.enc, at_nn, Am.at_, gc_self, hm, get2_ks K hr]
  | .op o a b, k + 1, st, hg, hm, hd, hr => by
    have ha := sum_at_ok h hM K hb a k st hg.2.1 (Nat.lt_of_le_of_lt (mgM_l hM) hm) (by simp only [Am.dep] at hd; omega) hr
    have hb' := sum_at_ok h hM K hb b k st hg.2.2 (Nat.lt_of_le_of_lt (mgM_r hM) hm) (by simp only [Am.dep] at hd; omega) hr
    have mb := mul_big (st := st) (Nat.lt_of_le_of_lt (at_mgM hM hb a) (Nat.lt_of_le_of_lt (mgM_l hM) hm)) (Nat.lt_of_le_of_lt (at_mgM hM hb b) (Nat.lt_of_le_of_lt (mgM_r hM) hm))
    rcases hg.1 with rfl | rfl | rfl
    · simp [call, h, B_sum_at, Am.enc, at_nn, Am.at_, gc_self, ha, hb', Am.opv]
    · simp [call, h, B_sum_at, Am.enc, at_nn, Am.at_, gc_self, ha, hb', Am.opv]
    · simp [call, h, B_sum_at, Am.enc, at_nn, Am.at_, gc_self, ha, hb', Am.opv, mb]
  | .num _, 0, _, _, _, hd, _ => by simp [Am.dep] at hd
  | .var _, 0, _, _, _, hd, _ => by simp [Am.dep] at hd
  | .op _ _ _, 0, _, _, _, hd, _ => by simp [Am.dep] at hd
theorem holdsM_ok {g : Nat} (h : T[f]? = some ⟨nm, 2, 4, B_law_holds g f⟩) (h2 : T[g]? = some ⟨nm2, 2, 4, B_law_amount_at g⟩) (hM : 4 ≤ M) (K : Ks s) (hb : Bd M s) : ∀ (t : Gd) (k : Nat) (st : Sto), t.good → t.fit M → t.dep ≤ k → st[r]? = some (.dic s) → call G T k f [t.enc, .ref r] st = some (.bl (t.holds (sOf s)), st)
  | .tru, k + 1, st, _, _, _, hr => by simp [call, h, B_law_holds, Gd.enc, at_nn, Gd.holds, gc_self]
  | .not a, k + 1, st, hg, hm, hd, hr => by
    have ha := holdsM_ok h h2 hM K hb a k st hg hm (by simp only [Gd.dep] at hd; omega) hr
    simp [call, h, B_law_holds, Gd.enc, at_nn, Gd.holds, gc_self, ha]
  | .and a b, k + 1, st, hg, hm, hd, hr => by
    have ha := holdsM_ok h h2 hM K hb a k st hg.1 hm.1 (by simp only [Gd.dep] at hd; omega) hr
    have hb' := holdsM_ok h h2 hM K hb b k st hg.2 hm.2 (by simp only [Gd.dep] at hd; omega) hr
    cases e : a.holds (sOf s) <;> simp [call, h, B_law_holds, Gd.enc, at_nn, Gd.holds, gc_self, ha, hb', e]
  | .cmp o a b, k + 1, st, hg, hm, hd, hr => by
    have ha := amountM_ok (G := G) h2 hM K hb a k st hg.2.1 hm.1 (by simp only [Gd.dep] at hd; omega) hr
    have hb' := amountM_ok (G := G) h2 hM K hb b k st hg.2.2 hm.2 (by simp only [Gd.dep] at hd; omega) hr
    rcases hg.1 with rfl | rfl
    · simp [call, h, B_law_holds, Gd.enc, at_nn, Gd.holds, gc_self, ha, hb']
    · simp [call, h, B_law_holds, Gd.enc, at_nn, Gd.holds, gc_self, ha, hb']
  | .tru, 0, _, _, _, hd, _ => by simp [Gd.dep] at hd
  | .not _, 0, _, _, _, hd, _ => by simp [Gd.dep] at hd
  | .and _ _, 0, _, _, _, hd, _ => by simp [Gd.dep] at hd
  | .cmp _ _ _, 0, _, _, _, hd, _ => by simp [Gd.dep] at hd
theorem passesM_ok {g : Nat} (h : T[f]? = some ⟨nm, 2, 4, B_passes f g⟩) (h2 : T[g]? = some ⟨nm2, 2, 4, B_sum_at g⟩) (hM : 4 ≤ M) (K : Ks s) (hb : Bd M s) : ∀ (t : Gd) (k : Nat) (st : Sto), t.good → t.fit M → t.dep ≤ k → st[r]? = some (.dic s) → call G T k f [t.enc, .ref r] st = some (.bl (t.holds (sOf s)), st)
  | .tru, k + 1, st, _, _, _, hr => by simp [call, h, B_passes, Gd.enc, at_nn, Gd.holds, gc_self]
  | .not a, k + 1, st, hg, hm, hd, hr => by
    have ha := passesM_ok h h2 hM K hb a k st hg hm (by simp only [Gd.dep] at hd; omega) hr
    simp [call, h, B_passes, Gd.enc, at_nn, Gd.holds, gc_self, ha]
  | .and a b, k + 1, st, hg, hm, hd, hr => by
    have ha := passesM_ok h h2 hM K hb a k st hg.1 hm.1 (by simp only [Gd.dep] at hd; omega) hr
    have hb' := passesM_ok h h2 hM K hb b k st hg.2 hm.2 (by simp only [Gd.dep] at hd; omega) hr
    cases e : a.holds (sOf s) <;> simp [call, h, B_passes, Gd.enc, at_nn, Gd.holds, gc_self, ha, hb', e]
  | .cmp o a b, k + 1, st, hg, hm, hd, hr => by
    have ha := sum_at_ok (G := G) h2 hM K hb a k st hg.2.1 hm.1 (by simp only [Gd.dep] at hd; omega) hr
    have hb' := sum_at_ok (G := G) h2 hM K hb b k st hg.2.2 hm.2 (by simp only [Gd.dep] at hd; omega) hr
    rcases hg.1 with rfl | rfl
    · simp [call, h, B_passes, Gd.enc, at_nn, Gd.holds, gc_self, ha, hb']
    · simp [call, h, B_passes, Gd.enc, at_nn, Gd.holds, gc_self, ha, hb']
  | .tru, 0, _, _, _, hd, _ => by simp [Gd.dep] at hd
  | .not _, 0, _, _, _, hd, _ => by simp [Gd.dep] at hd
  | .and _ _, 0, _, _, _, hd, _ => by simp [Gd.dep] at hd
  | .cmp _ _ _, 0, _, _, _, hd, _ => by simp [Gd.dep] at hd
end
end CL

namespace CL
open PySem PySem.Spec PyProof.Rows L2
/-! MW: numbers in few bits. -/
def B_wrapped : List S :=
  [.asg (.nm 3) (.lit (.int 1)), .frr (.nm 4) (.rng [.var 1]) [.aug 3 .mul (.lit (.int 2))], .asg (.nm 5) (.bin .sub (.var 0) (.bin .mul (.bin .fdiv (.var 0) (.var 3)) (.var 3))), .ret (.ite (.and (.tru (.var 2)) (.cmp .ge (.bin .mul (.var 5) (.lit (.int 2))) (.var 3))) (.bin .sub (.var 5) (.var 3)) (.var 5))]
def B_ends_of : List S :=
  [.asg (.nm 2) (.lit (.int 1)), .frr (.nm 3) (.rng [.var 0]) [.aug 2 .mul (.lit (.int 2))], .ret (.ite (.tru (.var 1)) (.tup [.neg (.bin .fdiv (.var 2) (.lit (.int 2))), .bin .sub (.bin .fdiv (.var 2) (.lit (.int 2))) (.lit (.int 1))]) (.tup [.lit (.int 0), .bin .sub (.var 2) (.lit (.int 1))]))]
def B_fits_bits (c_ends_of : Nat) : List S :=
  [.asg (.tp [.nm 3, .nm 4]) (.call c_ends_of [.var 1, .var 2]), .ret (.chn .le .le (.var 3) (.var 0) (.var 4))]
def B_worked (c_wrapped : Nat) : List S :=
  [.asg (.nm 5) (.ite (.cmp .eq (.var 0) (.lit (.str [97, 100, 100]))) (.bin .add (.var 1) (.var 2)) (.ite (.cmp .eq (.var 0) (.lit (.str [115, 117, 98]))) (.bin .sub (.var 1) (.var 2)) (.bin .mul (.var 1) (.var 2)))), .asg (.nm 6) (.call c_wrapped [.var 5, .var 3, .var 4]), .ret (.tup [.var 6, .cmp .ne (.var 6) (.var 5)])]
def B_bits_needed (c_fits_bits : Nat) : List S :=
  [.ifs (.and (.cmp .lt (.var 0) (.lit (.int 0))) (.not (.tru (.var 1)))) [.ret (.lit .non)] [], .asg (.nm 2) (.lit (.int 1)), .whl (.not (.tru (.call c_fits_bits [.var 0, .var 2, .var 1]))) [.aug 2 .add (.lit (.int 1))], .ret (.var 2)]
def B_law_wrap : List S :=
  [.asg (.nm 3) (.lit (.int 1)), .frr (.nm 4) (.rng [.var 1]) [.asg (.nm 3) (.bin .mul (.var 3) (.lit (.int 2)))], .asg (.nm 5) (.bin .mod (.blt .int [.var 0]) (.var 3)), .ifs (.and (.tru (.var 2)) (.cmp .ge (.bin .mul (.var 5) (.lit (.int 2))) (.var 3))) [.asg (.nm 5) (.bin .sub (.var 5) (.var 3))] [], .ret (.var 5)]
def P2 (b : Nat) : Int := ((2 ^ b : Nat) : Int)
theorem P2_pos (b : Nat) : 0 < P2 b := by
  have := Nat.two_pow_pos b
  unfold P2; omega
theorem P2_zero : P2 0 = 1 := rfl
theorem P2_succ (b : Nat) : P2 (b + 1) = P2 b * 2 := by
  unfold P2; rw [Nat.pow_succ]; omega
theorem P2_even {b : Nat} (h : 0 < b) : P2 b / 2 * 2 = P2 b := by
  obtain ⟨c, rfl⟩ : ∃ c, b = c + 1 := ⟨b - 1, by omega⟩
  rw [P2_succ]; omega
theorem P2_abs (b : Nat) (h : b ≤ 62) : (P2 b).natAbs < 2 ^ 64 := by
  unfold P2
  rw [Int.natAbs_natCast]
  exact Nat.lt_of_le_of_lt (Nat.pow_le_pow_right (by decide) h) (by decide)
theorem P2_log (b : Nat) (h : b ≤ 62) : (P2 b).natAbs.log2 < 9000 := by
  unfold P2
  rw [Int.natAbs_natCast, Nat.log2_two_pow]; omega
theorem P2_mono {a b : Nat} (h : a ≤ b) : P2 a ≤ P2 b := by
  have := Nat.pow_le_pow_right (n := 2) (by decide) h
  unfold P2; omega
/-- a number wrapped to so many bits -/
def W (n : Int) (b : Nat) (s : Bool) : Int := if s = true ∧ P2 b ≤ n % P2 b * 2 then n % P2 b - P2 b else n % P2 b
theorem W_cong (n : Int) (b : Nat) (s : Bool) : ∃ q, W n b s = n + P2 b * q := by
  have h := Int.emod_add_mul_ediv n (P2 b)
  unfold W
  split
  · refine ⟨-(n / P2 b) - 1, ?_⟩
    rw [Int.mul_sub, Int.mul_neg]; omega
  · refine ⟨-(n / P2 b), ?_⟩
    rw [Int.mul_neg]; omega
theorem W_mod {n m : Int} {b : Nat} {s : Bool} (h : n % P2 b = m % P2 b) : W n b s = W m b s := by
  unfold W; rw [h]
theorem W_add (n t : Int) (b : Nat) (s : Bool) : W (W n b s + t) b s = W (n + t) b s := by
  obtain ⟨q, h⟩ := W_cong n b s
  apply W_mod
  rw [h, show n + P2 b * q + t = n + t + P2 b * q by omega, Int.add_mul_emod_self_left]
theorem W_sub (n t : Int) (b : Nat) (s : Bool) : W (W n b s - t) b s = W (n - t) b s := W_add n (-t) b s
theorem W_mul (n t : Int) (b : Nat) (s : Bool) : W (W n b s * t) b s = W (n * t) b s := by
  obtain ⟨q, h⟩ := W_cong n b s
  apply W_mod
  rw [h, Int.add_mul, Int.mul_assoc, Int.add_mul_emod_self_left]
theorem W_abs (n : Int) (b : Nat) (s : Bool) (h : b ≤ 62) : (W n b s).natAbs < 2 ^ 64 := by
  have h1 := P2_abs b h
  have h0 := P2_pos b
  have h2 := Int.emod_nonneg n (Int.ne_of_gt h0)
  have h3 := Int.emod_lt_of_pos n h0
  unfold W
  split <;> omega
def lo (b : Nat) (s : Bool) : Int := if s then -(P2 b / 2) else 0
def hi (b : Nat) (s : Bool) : Int := if s then P2 b / 2 - 1 else P2 b - 1
def fitsB (n : Int) (b : Nat) (s : Bool) : Bool := decide (lo b s ≤ n ∧ n ≤ hi b s)
theorem W_fits (n : Int) (b : Nat) (s : Bool) (hb : 0 < b) : fitsB n b s = decide (W n b s = n) := by
  have h0 := P2_pos b
  have he := P2_even hb
  have h2 := Int.emod_nonneg n (Int.ne_of_gt h0)
  have h3 := Int.emod_lt_of_pos n h0
  unfold fitsB lo hi
  apply decide_eq_decide.mpr
  cases s
  · simp only [W, Bool.false_eq_true, false_and, if_false]
    constructor
    · intro h; exact Int.emod_eq_of_lt h.1 (by omega)
    · intro h; omega
  · simp only [if_true]
    constructor
    · intro h
      by_cases hn : 0 ≤ n
      · have e := Int.emod_eq_of_lt hn (show n < P2 b by omega)
        unfold W
        rw [e, if_neg (by omega)]
      · have e : n % P2 b = n + P2 b := by
          rw [← Int.add_emod_right, Int.emod_eq_of_lt (by omega) (by omega)]
        unfold W
        rw [e, if_pos ⟨rfl, by omega⟩]; omega
    · intro h
      unfold W at h
      simp only [true_and] at h
      split at h <;> omega
section
variable {G : List D} {T : List Fn} {k f : Nat} {nm : Str} {st : Sto}
theorem aug_mul {C : Cl} {ρ : En} {i : Nat} {a : E} {x y : Int} {s1 : Sto} (hi : ρ[i]? = some (some (.int x))) (h : ev G C a ρ st = some (.int y, s1)) (hy : y.natAbs < 2 ^ 64) : ex G C (.aug i .mul a) ρ st = some (.nx, ρ.set i (some (.int (x * y))), s1) := by
  simp only [ex_aug, hi, h, augop, hy, or_true, if_true, Option.map_some]
theorem wrapped_ok (h : T[f]? = some ⟨nm, 3, 6, B_wrapped⟩) (n : Int) (b : Nat) (s : Bool) (hb : b ≤ 62) : call G T (k + 1) f [.int n, .int b, .bl s] st = some (.int (W n b s), st) := by
  have L := ex_for (G := G) (C := call G T k) (tg := .nm 4) (it := .rng [.var 1]) (x := [.aug 3 .mul (.lit (.int 2))]) (ρ := [some (.int n), some (.int b), some (.bl s), some (.int 1), none, none]) (st := st)
    (fun j ρ st' => ∃ x4, ρ = [some (.int n), some (.int b), some (.bl s), some (.int (P2 j)), x4, none] ∧ st' = st)
    (evI_rng1 (n := b) (by simp) (by omega)) (fun _ _ _ _ => ok_nil) ⟨none, rfl, rfl⟩
  refine imp_use L ?_ ?_
  · rintro ⟨ρ', st', e, x4, rfl, rfl⟩
    simp only [List.length_map, List.length_range] at e
    refine call_rt (fn := ⟨nm, 3, 6, B_wrapped⟩) (ρ' := [some (.int n), some (.int b), some (.bl s), some (.int (P2 b)), x4, some (.int (n % P2 b))]) h rfl (exs_nx (ρ' := [some (.int n), some (.int b), some (.bl s), some (.int 1), none, none]) (s' := st') (by simp) (exs_nx e ?_)) gc_self
    have h0 := P2_pos b
    have em : n - n / P2 b * P2 b = n % P2 b := by rw [Int.mul_comm]; have := Int.emod_add_mul_ediv n (P2 b); omega
    have e1 : ex G (call G T k) (.asg (.nm 5) (.bin .sub (.var 0) (.bin .mul (.bin .fdiv (.var 0) (.var 3)) (.var 3)))) [some (.int n), some (.int b), some (.bl s), some (.int (P2 b)), x4, none] st' = some (.nx, [some (.int n), some (.int b), some (.bl s), some (.int (P2 b)), x4, some (.int (n % P2 b))], st') := by
      simp [bin_fdiv ⟨h0, P2_log b hb⟩, bin_mul (i := n / P2 b) (.inr (.inl (P2_abs b hb))), em]
    refine exs_nx e1 (exs_rt (d := .int (W n b s)) (ρ' := [some (.int n), some (.int b), some (.bl s), some (.int (P2 b)), x4, some (.int (n % P2 b))]) (s' := st') ?_)
    cases s
    · simp [W]
    · have c := bin_mul (i := n % P2 b) (j := 2) (st := st') (.inr (.inl (by decide)))
      by_cases hh : P2 b ≤ n % P2 b * 2
      · simp [W, c, hh]
      · simp [W, c, hh]
  · rintro j d ρ st' hj ⟨x4, rfl, rfl⟩
    obtain ⟨hj, rfl⟩ := rng_get hj
    refine ⟨_, st', by simp only [asg_nm]; rfl, _, st', ?_, some (.int ((j : Nat) : Int)), rfl, rfl⟩
    simp only [exs_cons, exs_nil, List.set_cons_succ, List.set_cons_zero]
    rw [aug_mul (x := P2 j) (y := 2) (s1 := st') rfl (by simp) (by decide)]
    simp [P2_succ]
theorem wrap_ok (h : T[f]? = some ⟨nm, 3, 6, B_law_wrap⟩) (n : Int) (b : Nat) (s : Bool) (hb : b ≤ 62) : call G T (k + 1) f [.int n, .int b, .bl s] st = some (.int (W n b s), st) := by
  have L := ex_for (G := G) (C := call G T k) (tg := .nm 4) (it := .rng [.var 1]) (x := [.asg (.nm 3) (.bin .mul (.var 3) (.lit (.int 2)))]) (ρ := [some (.int n), some (.int b), some (.bl s), some (.int 1), none, none]) (st := st)
    (fun j ρ st' => ∃ x4, ρ = [some (.int n), some (.int b), some (.bl s), some (.int (P2 j)), x4, none] ∧ st' = st)
    (evI_rng1 (n := b) (by simp) (by omega)) (fun _ _ _ _ => ok_nil) ⟨none, rfl, rfl⟩
  refine imp_use L ?_ ?_
  · rintro ⟨ρ', st', e, x4, rfl, rfl⟩
    simp only [List.length_map, List.length_range] at e
    refine call_rt (fn := ⟨nm, 3, 6, B_law_wrap⟩) (ρ' := [some (.int n), some (.int b), some (.bl s), some (.int (P2 b)), x4, some (.int (W n b s))]) h rfl (exs_nx (ρ' := [some (.int n), some (.int b), some (.bl s), some (.int 1), none, none]) (s' := st') (by simp) (exs_nx e ?_)) gc_self
    have h0 := P2_pos b
    have e1 : ex G (call G T k) (.asg (.nm 5) (.bin .mod (.blt .int [.var 0]) (.var 3))) [some (.int n), some (.int b), some (.bl s), some (.int (P2 b)), x4, none] st' = some (.nx, [some (.int n), some (.int b), some (.bl s), some (.int (P2 b)), x4, some (.int (n % P2 b))], st') := by
      simp [bin_mod h0]
    refine exs_nx e1 (exs_nx (ρ' := [some (.int n), some (.int b), some (.bl s), some (.int (P2 b)), x4, some (.int (W n b s))]) (s' := st') ?_ (exs_rt (ret_var rfl)))
    cases s
    · simp [W]
    · have c := bin_mul (i := n % P2 b) (j := 2) (st := st') (.inr (.inl (by decide)))
      by_cases hh : P2 b ≤ n % P2 b * 2
      · simp [W, c, hh]
      · simp [W, c, hh]
  · rintro j d ρ st' hj ⟨x4, rfl, rfl⟩
    obtain ⟨hj, rfl⟩ := rng_get hj
    refine ⟨_, st', by simp only [asg_nm]; rfl, _, st', ?_, some (.int ((j : Nat) : Int)), rfl, rfl⟩
    simp [bin_mul (i := P2 j) (j := 2) (.inr (.inl (by decide))), P2_succ]
theorem ends_ok (h : T[f]? = some ⟨nm, 2, 4, B_ends_of⟩) (b : Nat) (s : Bool) (hb : b ≤ 62) : call G T (k + 1) f [.int b, .bl s] st = some (.tup [.int (lo b s), .int (hi b s)], st) := by
  have L := ex_for (G := G) (C := call G T k) (tg := .nm 3) (it := .rng [.var 0]) (x := [.aug 2 .mul (.lit (.int 2))]) (ρ := [some (.int b), some (.bl s), some (.int 1), none]) (st := st)
    (fun j ρ st' => ∃ x4, ρ = [some (.int b), some (.bl s), some (.int (P2 j)), x4] ∧ st' = st)
    (evI_rng1 (n := b) (by simp) (by omega)) (fun _ _ _ _ => ok_nil) ⟨none, rfl, rfl⟩
  refine imp_use L ?_ ?_
  · rintro ⟨ρ', st', e, x4, rfl, rfl⟩
    simp only [List.length_map, List.length_range] at e
    refine call_rt (fn := ⟨nm, 2, 4, B_ends_of⟩) (ρ' := [some (.int b), some (.bl s), some (.int (P2 b)), x4]) h rfl (exs_nx (ρ' := [some (.int b), some (.bl s), some (.int 1), none]) (s' := st') (by simp) (exs_nx e (exs_rt (d := .tup [.int (lo b s), .int (hi b s)]) ?_))) gc_self
    have c := bin_fdiv (i := P2 b) (j := 2) (st := st') ⟨by decide, by decide⟩
    cases s
    · simp [lo, hi]
    · simp [lo, hi, c]
  · rintro j d ρ st' hj ⟨x4, rfl, rfl⟩
    obtain ⟨hj, rfl⟩ := rng_get hj
    refine ⟨_, st', by simp only [asg_nm]; rfl, _, st', ?_, some (.int ((j : Nat) : Int)), rfl, rfl⟩
    simp only [exs_cons, exs_nil, List.set_cons_succ, List.set_cons_zero]
    rw [aug_mul (x := P2 j) (y := 2) (s1 := st') rfl (by simp) (by decide)]
    simp [P2_succ]
theorem fits_ok {c : Nat} {nm' : Str} (h : T[f]? = some ⟨nm, 3, 5, B_fits_bits c⟩) (hc : T[c]? = some ⟨nm', 2, 4, B_ends_of⟩) (n : Int) (b : Nat) (s : Bool) (hb : b ≤ 62) : call G T (k + 2) f [.int n, .int b, .bl s] st = some (.bl (fitsB n b s), st) := by
  have e := ends_ok (G := G) (k := k) (st := st) hc b s hb
  rw [call]
  by_cases h1 : lo b s ≤ n
  · by_cases h2 : n ≤ hi b s <;> simp [h, B_fits_bits, e, gc_self, fitsB, h1, h2]
  · simp [h, B_fits_bits, e, gc_self, fitsB, h1]
theorem whlN_succ {c : En → Sto → Option (Bool × Sto)} {b : En → Sto → Option Rs} : ∀ {n : Nat} {ρ : En} {st : Sto} {r : Rs}, whlN c b n ρ st = some r → whlN c b (n + 1) ρ st = some r
  | 0, _, _, _, h => by simp [whlN] at h
  | n + 1, ρ, st, r, h => by
    rw [whlN] at h ⊢
    cases e1 : c ρ st with
    | none => simp [e1] at h
    | some p =>
      obtain ⟨t, s1⟩ := p
      cases t
      · simpa [e1] using h
      · simp only [e1] at h ⊢
        cases e2 : b ρ s1 with
        | none => simp [e2] at h
        | some q =>
          obtain ⟨f, ρ', s2⟩ := q
          simp only [e2] at h ⊢
          cases f <;> first | exact h | exact whlN_succ h
theorem whlN_add {c : En → Sto → Option (Bool × Sto)} {b : En → Sto → Option Rs} {n : Nat} {ρ : En} {st : Sto} {r : Rs} (h : whlN c b n ρ st = some r) : ∀ m, whlN c b (n + m) ρ st = some r
  | 0 => h
  | m + 1 => whlN_succ (whlN_add h m)
theorem whl_of {c : En → Sto → Option (Bool × Sto)} {b : En → Sto → Option Rs} {n : Nat} {ρ : En} {st : Sto} {r : Rs} (h : whlN c b n ρ st = some r) : whl c b ρ st = some r := by
  have hx : ∃ r n, whlN c b n ρ st = some r := ⟨r, n, h⟩
  unfold whl
  rw [dif_pos hx]
  obtain ⟨m, hm⟩ := hx.choose_spec
  have h1 := whlN_add hm n
  have h2 := whlN_add h m
  rw [Nat.add_comm] at h2
  rw [h1] at h2
  rw [Option.some.inj h2]
@[simp] theorem ex_whl {C : Cl} {ρ : En} {t : Ts} {b : List S} : ex G C (.whl t b) ρ st = whl (evT G C t) (exs G C b) ρ st := by simp only [ex] <;> rfl
/-- word, plain number -/
def Wd (w : List Nat) (x y p : Int) : Prop := (w = [97, 100, 100] ∧ p = x + y) ∨ (w = [115, 117, 98] ∧ p = x - y) ∨ (w = [109, 117, 108] ∧ p = x * y)
theorem worked_ok {c : Nat} {nm' : Str} (h : T[f]? = some ⟨nm, 5, 7, B_worked c⟩) (hc : T[c]? = some ⟨nm', 3, 6, B_wrapped⟩) {w : List Nat} {x y p : Int} (hw : Wd w x y p) (b : Nat) (s : Bool) (hb : b ≤ 62) (hy : y.natAbs < 2 ^ 64) :
    call G T (k + 2) f [.str w, .int x, .int y, .int b, .bl s] st = some (.tup [.int (W p b s), .bl (decide (W p b s ≠ p))], st) := by
  have e := wrapped_ok (G := G) (k := k) (st := st) hc p b s hb
  rw [call]
  rcases hw with ⟨rfl, rfl⟩ | ⟨rfl, rfl⟩ | ⟨rfl, rfl⟩
  · simp [h, B_worked, e, gc_self]
  · simp [h, B_worked, e, gc_self]
  · simp [h, B_worked, e, gc_self, bin_mul (i := x) (j := y) (.inr (.inl hy))]
theorem needed_ok {c c' : Nat} {nm' nm2 : Str} (h : T[f]? = some ⟨nm, 2, 3, B_bits_needed c⟩) (hc : T[c]? = some ⟨nm', 3, 5, B_fits_bits c'⟩) (hc' : T[c']? = some ⟨nm2, 2, 4, B_ends_of⟩) (n : Int) (s : Bool) (m : Nat) (hns : 0 ≤ n ∨ s = true) (hm : fitsB n m s = true) (h1 : 1 ≤ m) (h2 : m ≤ 62) (lw : ∀ j, 1 ≤ j → j < m → fitsB n j s = false) :
    call G T (k + 3) f [.int n, .bl s] st = some (.int m, st) := by
  have e := fun (b : Nat) (hb : b ≤ 62) => fits_ok (G := G) (k := k) (st := st) hc hc' n b s hb
  have key : ∀ j : Nat, 1 ≤ j → j ≤ m → ∃ t, whlN (evT G (call G T (k + 2)) (.not (.tru (.call c [.var 0, .var 2, .var 1])))) (exs G (call G T (k + 2)) [.aug 2 .add (.lit (.int 1))]) t [some (.int n), some (.bl s), some (.int j)] st = some (.nx, [some (.int n), some (.bl s), some (.int m)], st) := by
    intro j
    induction hd : m - j generalizing j with
    | zero =>
      intro hj1 hj2
      obtain rfl : j = m := by omega
      exact ⟨1, by simp [whlN, e j h2, hm]⟩
    | succ d ih =>
      intro hj1 hj2
      obtain ⟨t, ht⟩ := ih (j + 1) (by omega) (by omega) (by omega)
      refine ⟨t + 1, ?_⟩
      simp [whlN, e j (by omega), lw j hj1 (by omega), augop]
      exact ht
  obtain ⟨t, ht⟩ := key 1 (Nat.le_refl _) h1
  refine call_rt (fn := ⟨nm, 2, 3, B_bits_needed c⟩) (ρ' := [some (.int n), some (.bl s), some (.int m)]) h rfl (exs_nx (ρ' := [some (.int n), some (.bl s), none]) (s' := st) ?_ (exs_nx (ρ' := [some (.int n), some (.bl s), some (.int 1)]) (s' := st) (by simp) (exs_nx ?_ (exs_rt (ret_var rfl))))) gc_self
  · rcases hns with hn | rfl
    · have : ¬ n < 0 := by omega
      simp [this]
    · by_cases hn : n < 0 <;> simp [hn]
  · rw [ex_whl]; exact whl_of ht
theorem needed_no {c : Nat} (h : T[f]? = some ⟨nm, 2, 3, B_bits_needed c⟩) (n : Int) (hn : n < 0) : call G T (k + 1) f [.int n, .bl false] st = some (.non, st) := by
  simp [call, h, B_bits_needed, hn, gc_self]
end
end CL

namespace CL
open PySem PySem.Spec PyProof.Rows L2
/-! NV: classes, what is above them (k78). -/
def B_parents_of : List S :=
  [.ret (.idx (.lc [2] (.idx (.var 2) (.lit (.int 1))) (.nm 2) (.any (.var 0)) (.yes (.cmp .eq (.idx (.var 2) (.lit (.int 0))) (.var 1)))) (.lit (.int 0)))]
def B_above (c_parents_of : Nat) : List S :=
  [.asg (.nm 2) (.blt .list [.call c_parents_of [.var 0, .var 1]]), .asg (.nm 3) (.lit (.int 0)), .whl (.cmp .lt (.var 3) (.blt .len [.var 2])) [.exp (.mth .extend (.var 2) [.lc [5] (.var 5) (.nm 5) (.any (.call c_parents_of [.var 0, .idx (.var 2) (.var 3)])) (.yes (.cmp .notin (.var 5) (.var 2)))]), .aug 3 .add (.lit (.int 1))], .ret (.gen .tup [4] (.idx (.var 4) (.lit (.int 0))) (.nm 4) (.any (.var 0)) (.yes (.cmp .in_ (.idx (.var 4) (.lit (.int 0))) (.var 2))))]
def B_fits_kinds (c_above : Nat) : List S :=
  [.ret (.gen .all [3, 4] (.or (.cmp .eq (.var 3) (.var 4)) (.cmp .in_ (.var 4) (.call c_above [.var 0, .var 3]))) (.tp [.nm 3, .nm 4]) (.zip (.var 2) (.var 1)) .no)]
def B_is_nearer (c_fits_kinds : Nat) : List S :=
  [.ret (.and (.cmp .ne (.var 1) (.var 2)) (.call c_fits_kinds [.var 0, .var 2, .var 1]))]
def B_best_way (c_fits_kinds c_is_nearer : Nat) : List S :=
  [.asg (.nm 3) (.lc [5, 6] (.var 5) (.tp [.nm 5, .nm 6]) (.enm (.var 1)) (.yes (.tru (.call c_fits_kinds [.var 0, .var 6, .var 2])))), .asg (.nm 4) (.lc [5] (.var 5) (.nm 5) (.any (.var 3)) (.yes (.not (.tru (.gen .any [7] (.call c_is_nearer [.var 0, .idx (.var 1) (.var 7), .idx (.var 1) (.var 5)]) (.nm 7) (.any (.var 3)) .no))))), .ifs (.not (.tru (.var 4))) [.ret (.tup [.lit (.str [110, 111, 110, 101])])] [], .ret (.ite (.cmp .eq (.blt .len [.var 4]) (.lit (.int 1))) (.tup [.lit (.str [119, 97, 121]), .idx (.var 4) (.lit (.int 0))]) (.tup [.lit (.str [109, 97, 110, 121]), .blt .tuple [.var 4]]))]
def B_law_all_above : List S :=
  [.asg (.nm 2) (.lst []), .asg (.nm 3) (.lst [.var 1]), .frr (.nm 4) (.rng [.lit (.int 80)]) [.ifs (.cmp .gt (.blt .len [.var 3]) (.lit (.int 0))) [.asg (.nm 5) (.mth .pop (.var 3) []), .frr (.nm 6) (.any (.idx (.lc [7] (.idx (.var 7) (.lit (.int 1))) (.nm 7) (.any (.var 0)) (.yes (.cmp .eq (.idx (.var 7) (.lit (.int 0))) (.var 5)))) (.lit (.int 0)))) [.ifs (.cmp .notin (.var 6) (.var 2)) [.exp (.mth .append (.var 2) [.var 6]), .exp (.mth .append (.var 3) [.var 6])] []]] []], .ret (.lc [7] (.idx (.var 7) (.lit (.int 0))) (.nm 7) (.any (.var 0)) (.yes (.cmp .in_ (.idx (.var 7) (.lit (.int 0))) (.var 2))))]
def wBody (c_parents_of : Nat) : List S := [.exp (.mth .extend (.var 2) [.lc [5] (.var 5) (.nm 5) (.any (.call c_parents_of [.var 0, .idx (.var 2) (.var 3)])) (.yes (.cmp .notin (.var 5) (.var 2)))]), .aug 3 .add (.lit (.int 1))]
def aIn : List S := [.ifs (.cmp .notin (.var 6) (.var 2)) [.exp (.mth .append (.var 2) [.var 6]), .exp (.mth .append (.var 3) [.var 6])] []]
def aOut : List S := [.ifs (.cmp .gt (.blt .len [.var 3]) (.lit (.int 0))) [.asg (.nm 5) (.mth .pop (.var 3) []), .frr (.nm 6) (.any (.idx (.lc [7] (.idx (.var 7) (.lit (.int 1))) (.nm 7) (.any (.var 0)) (.yes (.cmp .eq (.idx (.var 7) (.lit (.int 0))) (.var 5)))) (.lit (.int 0)))) [.ifs (.cmp .notin (.var 6) (.var 2)) [.exp (.mth .append (.var 2) [.var 6]), .exp (.mth .append (.var 3) [.var 6])] []]] []]
structure Row where
  nm : Nat
  ps : List Nat
  tl : List D
def sN (n : Nat) : D := .str [n]
def Row.enc (r : Row) : D := .tup [sN r.nm, .tup (r.ps.map sN), .tup r.tl]
def cE (cs : List Row) : D := .tup (cs.map Row.enc)
def nms (cs : List Row) : List Nat := cs.map (·.nm)
def par (cs : List Row) (a : Nat) : List Nat := ((cs.filter fun r => decide (r.nm = a)).head?.map (·.ps)).getD []
structure Okc (cs : List Row) : Prop where
  len : cs.length ≤ 5
  par : ∀ r ∈ cs, ∀ p ∈ r.ps, p ∈ nms cs
  pnd : ∀ r ∈ cs, r.ps.Nodup
inductive Up (cs : List Row) : Nat → Nat → Prop
  | base {a b : Nat} : b ∈ par cs a → Up cs a b
  | step {a b c : Nat} : Up cs a b → c ∈ par cs b → Up cs a c
theorem par_has {cs : List Row} {a : Nat} (h : par cs a ≠ []) : ∃ r ∈ cs, par cs a = r.ps := by
  unfold par at h ⊢
  cases e : (cs.filter fun r => decide (r.nm = a)) with
  | nil => rw [e] at h; exact absurd rfl h
  | cons r l =>
    refine ⟨r, ?_, rfl⟩
    have : r ∈ cs.filter fun r => decide (r.nm = a) := by rw [e]; exact List.mem_cons_self
    exact (List.mem_filter.mp this).1
theorem par_nm {cs : List Row} (K : Okc cs) {a b : Nat} (h : b ∈ par cs a) : b ∈ nms cs := by
  obtain ⟨r, hr, e⟩ := par_has (List.ne_nil_of_mem h)
  rw [e] at h
  exact K.par r hr b h
theorem par_nd {cs : List Row} (K : Okc cs) (a : Nat) : (par cs a).Nodup := by
  by_cases h : par cs a = []
  · rw [h]; exact List.nodup_nil
  · obtain ⟨r, hr, e⟩ := par_has h
    rw [e]
    exact K.pnd r hr
theorem Up.nm {cs : List Row} (K : Okc cs) {a b : Nat} : Up cs a b → b ∈ nms cs
  | .base h => par_nm K h
  | .step _ h => par_nm K h
noncomputable def ups (cs : List Row) (a : Nat) : List Nat := by
  classical exact (nms cs).filter fun b => decide (Up cs a b)
theorem filt_eq {cs : List Row} {a : Nat} {F : List Nat} (h1 : ∀ b ∈ F, Up cs a b) (h2 : ∀ b ∈ par cs a, b ∈ F) (h3 : ∀ x ∈ F, ∀ b ∈ par cs x, b ∈ F) : (nms cs).filter (fun b => decide (b ∈ F)) = ups cs a := by
  have h4 : ∀ b, Up cs a b → b ∈ F := fun b u => by
    induction u with
    | base h => exact h2 _ h
    | step u h ih => exact h3 _ ih _ h
  unfold ups
  refine List.filter_congr fun b _ => ?_
  by_cases h : b ∈ F
  · have := h1 b h
    simp [h, this]
  · have : ¬ Up cs a b := fun u => h (h4 b u)
    simp [h, this]
theorem nd_le {cs : List Row} (K : Okc cs) {a : Nat} {F : List Nat} (nd : F.Nodup) (h1 : ∀ b ∈ F, Up cs a b) : F.length ≤ 5 := by
  have h2 := len_sub F (nms cs) nd fun b hb => (h1 b hb).nm K
  have h3 : (nms cs).length = cs.length := List.length_map ..
  have := K.len
  omega
theorem sN_inj {a b : Nat} : sN a = sN b ↔ a = b := by simp [sN]
theorem sN_pure (l : List Nat) : D.pures (l.map sN) = true ∧ D.deps (l.map sN) = 0 := by
  induction l with
  | nil => exact ⟨rfl, rfl⟩
  | cons a l ih => rw [List.map_cons]; simp only [D.pures, D.deps, ih.1, ih.2, sN, D.pure, D.dep]; exact ⟨rfl, rfl⟩
theorem isIn_sN (a : Nat) (l : List Nat) : isIn (sN a) (l.map sN) = decide (a ∈ l) := by
  unfold isIn
  induction l with
  | nil => rfl
  | cons b l ih =>
    rw [List.map_cons, List.any_cons, ih]
    by_cases h : b = a
    · subst h; simp
    · have : ¬ ((sN b).norm = (sN a).norm) := fun e => h (sN_inj.mp (by simpa [sN, D.norm] using e))
      simp [this]
      exact fun e => absurd e.symm h
theorem in_sN {st : Sto} {d : D} {a : Nat} {l : List Nat} (hd : ∀ y, d ≠ .str y) (h : seqAt st d = some (l.map sN)) : inAt st (sN a) d = some (decide (a ∈ l)) := by
  unfold inAt
  have h0 : D.pures (l.map sN) = true ∧ (sN a).pure = true ∧ min (D.deps (l.map sN)) (sN a).dep ≤ 150 := ⟨(sN_pure l).1, rfl, by rw [(sN_pure l).2]; omega⟩
  cases d with
  | str y => exact absurd rfl (hd y)
  | _ => simp only [h, h0, and_self, if_true, isIn_sN]
theorem in_sNt {st : Sto} {a : Nat} {l : List Nat} : inAt st (sN a) (.tup (l.map sN)) = some (decide (a ∈ l)) := in_sN (fun y => by simp) rfl
theorem in_sNr {st : Sto} {a r : Nat} {l : List Nat} (h : st[r]? = some (.lst (l.map sN))) : inAt st (sN a) (.ref r) = some (decide (a ∈ l)) := in_sN (fun y => by simp) (by simp [seqAt, lstAt, h])
theorem eq_sN {st : Sto} {a b : Nat} : eqAt st (sN a) (sN b) = some (decide (a = b)) := by
  unfold sN
  rw [eq_str]
  congr 1
  simp
theorem in_nm {cs : List Row} {a : Nat} (h : a ∈ nms cs) : ∃ r ∈ cs, r.nm = a := by
  unfold nms at h
  obtain ⟨r, hr, e⟩ := List.mem_map.mp h
  exact ⟨r, hr, e⟩
section
variable {G : List D} {T : List Fn} {f fp fa ff k : Nat} {nm nm1 nm2 nm3 : Str} {st : Sto} {cs : List Row} {a : Nat}
/-- the rows of a name, their parents -/
theorem rows_lc {C : Cl} {vs : List Nat} {i j q : Nat} {ρ : En} (he : (wipe ρ vs)[q]? = some none) (hj : ∀ d, ((wipe ρ vs).set q (some d))[j]? = some (some (sN a))) (hi : ρ[i]? = some (some (cE cs))) (hl : cs.length ≤ 5) : ev G C (.lc vs (.idx (.var q) (.lit (.int 1))) (.nm q) (.any (.var i)) (.yes (.cmp .eq (.idx (.var q) (.lit (.int 0))) (.var j)))) ρ st = some (.ref st.length, st ++ [.lst ((cs.filter fun r => decide (r.nm = a)).map fun r => .tup (r.ps.map sN))]) := by
  have hq : ∀ d : D, ((wipe ρ vs).set q (some d))[q]? = some (some d) := fun d => List.getElem?_set_self (List.getElem?_eq_some_iff.mp he).1
  have lc := ev_lc_pure (G := G) (C := C) (ρ := ρ) (st := st) (vs := vs) (elt := .idx (.var q) (.lit (.int 1))) (tg := .nm q) (it := .any (.var i)) (c := .yes (.cmp .eq (.idx (.var q) (.lit (.int 0))) (.var j))) (w := ⟨cs.map Row.enc, []⟩) (s1 := st)
    (g := fun d => match d with
      | .tup [.str x, y, z] => if x = [a] then some y else none
      | _ => none) (by rw [evI_any]; simp [hi, cE]) (fun _ => ok_nil) (by simp only [List.length_map]; rw [szL]; omega) (fun d hd l => by
      obtain ⟨r, hr, rfl⟩ := List.mem_map.mp hd
      have e1 : ∀ s, idxop r.enc (.int 0) s = some (sN r.nm) := fun _ => rfl
      have e2 : ∀ s, idxop r.enc (.int 1) s = some (.tup (r.ps.map sN)) := fun _ => rfl
      by_cases h : r.nm = a
      · simp only [gstep, asg_nm, evC_yes, evT_cmp, ev_idx, ev_var, ev_lit, hq, hj, e1, e2, cmp_eq, eq_sN, h, decide_true, Option.map_some]
        simp [Row.enc, sN, h]
      · simp only [gstep, asg_nm, evC_yes, evT_cmp, ev_idx, ev_var, ev_lit, hq, hj, e1, e2, cmp_eq, eq_sN, h, decide_false, Option.map_some]
        simp [Row.enc, sN, h])
  have fm : ∀ l : List Row, (l.map Row.enc).filterMap (fun d => match d with
      | .tup [.str x, y, z] => if x = [a] then some y else none
      | _ => none) = (l.filter fun r => decide (r.nm = a)).map fun r => .tup (r.ps.map sN) := fun l => by
    induction l with
    | nil => rfl
    | cons r l ih =>
      rw [List.map_cons, List.filterMap_cons, ih]
      by_cases h : r.nm = a
      · simp [Row.enc, sN, h]
      · simp [Row.enc, sN, h]
  simp only [fm] at lc
  exact lc
theorem rows_head (ha : a ∈ nms cs) {s : Sto} {r : Nat} (hr : s[r]? = some (.lst ((cs.filter fun r => decide (r.nm = a)).map fun r => .tup (r.ps.map sN)))) : idxop (.ref r) (.int 0) s = some (.tup ((par cs a).map sN)) := by
  obtain ⟨q, hq, e⟩ := in_nm ha
  rw [idx_lst hr, at_nn (by decide)]
  unfold par
  cases e1 : (cs.filter fun r => decide (r.nm = a)) with
  | nil =>
    have : q ∈ cs.filter fun r => decide (r.nm = a) := List.mem_filter.mpr ⟨hq, by simpa using e⟩
    rw [e1] at this
    cases this
  | cons r l => rfl
theorem parents_ok (h : T[f]? = some ⟨nm, 2, 3, B_parents_of⟩) (K : Okc cs) (ha : a ∈ nms cs) : call G T (k + 1) f [cE cs, sN a] st = some (.tup ((par cs a).map sN), st) := by
  have lc := rows_lc (G := G) (C := call G T k) (vs := [2]) (i := 0) (j := 1) (q := 2) (ρ := [some (cE cs), some (sN a), none]) (st := st) (a := a) (cs := cs) (by rfl) (fun d => by rfl) (by rfl) K.len
  have hd := rows_head (s := st ++ [.lst ((cs.filter fun r => decide (r.nm = a)).map fun r => .tup (r.ps.map sN))]) (r := st.length) ha (by simp)
  refine call_rt h rfl (ρ' := [some (cE cs), some (sN a), none]) (s' := st ++ [.lst ((cs.filter fun r => decide (r.nm = a)).map fun r => .tup (r.ps.map sN))]) (d := .tup ((par cs a).map sN)) ?_ (gc_pure (by simp only [D.pure]; exact (sN_pure _).1))
  unfold B_parents_of
  show exs G (call G T k) _ [some (cE cs), some (sN a), none] st = _
  exact exs_rt (by simp only [ex_ret, ev_idx, lc, ev_lit, hd, Option.map_some])
theorem mty_lst {st : Sto} {r : Nat} {xs : List D} (h : st[r]? = some (.lst xs)) : mty .append st (.ref r) = true ∧ mty .extend st (.ref r) = true ∧ mty .pop st (.ref r) = true := by
  simp [mty, lstAt, h]
structure AI (cs : List Row) (a : Nat) (F : List Nat) (p : Nat) : Prop where
  nd : F.Nodup
  up : ∀ b ∈ F, Up cs a b
  base : ∀ b ∈ par cs a, b ∈ F
  old : ∀ i x, i < p → F[i]? = some x → ∀ b ∈ par cs x, b ∈ F
theorem AI.grow {F : List Nat} {p x : Nat} (K : Okc cs) (A : AI cs a F p) (hx : F[p]? = some x) : AI cs a (F ++ (par cs x).filter fun b => !decide (b ∈ F)) (p + 1) where
  nd := by
    refine List.nodup_append.mpr ⟨A.nd, (par_nd K x).filter _, fun y hy z hz e => ?_⟩
    subst e
    have := (List.mem_filter.mp hz).2
    simp [hy] at this
  up := fun b hb => by
    rcases List.mem_append.mp hb with hb | hb
    · exact A.up b hb
    · exact .step (A.up x (List.mem_of_getElem? hx)) (List.mem_filter.mp hb).1
  base := fun b hb => List.mem_append_left _ (A.base b hb)
  old := fun i y hi hy b hb => by
    have hp : p < F.length := (List.getElem?_eq_some_iff.mp hx).1
    rw [List.getElem?_append_left (by omega)] at hy
    by_cases e : i = p
    · subst e
      rw [hx] at hy
      cases hy
      by_cases hm : b ∈ F
      · exact List.mem_append_left _ hm
      · exact List.mem_append_right _ (List.mem_filter.mpr ⟨hb, by simpa using hm⟩)
    · exact List.mem_append_left _ (A.old i y (by omega) hy b hb)
theorem above_step (hp : T[fp]? = some ⟨nm1, 2, 3, B_parents_of⟩) (K : Okc cs) {F : List Nat} {p x : Nat} {g : Sto} (hx : F[p]? = some x) (hn : x ∈ nms cs) (hl : F.length ≤ 5) : exs G (call G T (k + 1)) (wBody fp) [some (cE cs), some (sN a), some (.ref st.length), some (.int (p : Int)), none, none] (st ++ [.lst (F.map sN)] ++ g) = some (.nx, [some (cE cs), some (sN a), some (.ref st.length), some (.int ((p + 1 : Nat) : Int)), none, none], st ++ [.lst ((F ++ (par cs x).filter fun b => !decide (b ∈ F)).map sN)] ++ (g ++ [.lst (((par cs x).filter fun b => !decide (b ∈ F)).map sN)])) := by
  obtain ⟨S, hS⟩ : ∃ S, S = st ++ [O.lst (F.map sN)] ++ g := ⟨_, rfl⟩
  have hF : ∀ y, (S ++ y)[st.length]? = some (.lst (F.map sN)) := fun y => by
    rw [hS, List.append_assoc, List.append_assoc, List.getElem?_append_right (Nat.le_refl _)]; simp
  have hF0 : S[st.length]? = some (.lst (F.map sN)) := by have := hF []; rwa [List.append_nil] at this
  have e1 := parents_ok (G := G) (k := k) (st := S) hp K hn
  have pl : (par cs x).length ≤ 5 := nd_le K (a := x) (par_nd K x) fun b hb => .base hb
  have ix : ∀ s : Sto, s[st.length]? = some (.lst (F.map sN)) → idxop (.ref st.length) (.int (p : Int)) s = some (sN x) := fun s h => by
    rw [idx_lst h, at_nn (by omega)]
    simp [hx]
  have lc := ev_lc_pure (G := G) (C := call G T (k + 1)) (ρ := [some (cE cs), some (sN a), some (.ref st.length), some (.int (p : Int)), none, none]) (st := S) (vs := [5]) (elt := .var 5) (tg := .nm 5) (it := .any (.call fp [.var 0, .idx (.var 2) (.var 3)])) (c := .yes (.cmp .notin (.var 5) (.var 2))) (w := ⟨(par cs x).map sN, []⟩) (s1 := S)
    (g := fun d => match d with
      | .str [b] => if b ∈ F then none else some d
      | _ => none) (by rw [evI_any]; simp [ix S hF0, e1]) (fun _ => ok_nil) (by simp only [List.length_map]; rw [szL]; omega) (fun d hd l => by
      obtain ⟨b, hb, rfl⟩ := List.mem_map.mp hd
      have i1 := in_sNr (a := b) (hF [.lst l])
      by_cases h : b ∈ F
      · simp only [h, decide_true] at i1
        simp only [gstep, wipe, List.foldl, List.set_cons_succ, List.set_cons_zero, asg_nm, evC_yes, evT_cmp, ev_var, List.getElem?_cons_zero, List.getElem?_cons_succ, cmp_notin, i1, Option.map_some, Bool.not_true]
        simp [sN, h]
      · simp only [h, decide_false] at i1
        simp only [gstep, wipe, List.foldl, List.set_cons_succ, List.set_cons_zero, asg_nm, evC_yes, evT_cmp, ev_var, List.getElem?_cons_zero, List.getElem?_cons_succ, cmp_notin, i1, Option.map_some, Bool.not_false]
        simp [sN, h])
  have fm : ∀ l : List Nat, (l.map sN).filterMap (fun d => match d with
      | .str [b] => if b ∈ F then none else some d
      | _ => none) = (l.filter fun b => !decide (b ∈ F)).map sN := fun l => by
    induction l with
    | nil => rfl
    | cons b l ih =>
      rw [List.map_cons, List.filterMap_cons, ih]
      by_cases h : b ∈ F
      · simp [sN, h]
      · simp [sN, h]
  simp only [fm] at lc
  obtain ⟨N, hN⟩ : ∃ N, N = (par cs x).filter fun b => !decide (b ∈ F) := ⟨_, rfl⟩
  rw [← hN] at lc
  have nl : N.length ≤ 5 := by rw [hN]; exact Nat.le_trans (List.length_filter_le _ _) pl
  have me : mth .extend (.ref st.length) [.ref S.length] (S ++ [O.lst (N.map sN)]) = some (.non, (S ++ [O.lst (N.map sN)]).set st.length (.lst ((F ++ N).map sN))) := by
    have q2 : (S ++ [O.lst (N.map sN)])[S.length]? = some (.lst (N.map sN)) := by simp
    have hz : (F.map sN).length + (N.map sN).length ≤ sizeLine := by rw [szL]; simp only [List.length_map]; omega
    simp only [mth, hF, q2, hz, if_true, List.map_append]
  have se : (S ++ [O.lst (N.map sN)]).set st.length (.lst ((F ++ N).map sN)) = st ++ [.lst ((F ++ N).map sN)] ++ (g ++ [.lst (N.map sN)]) := by
    rw [hS]
    simp
  rw [se] at me
  have i1 : augop .add (.int (p : Int)) (.int 1) = some (.int ((p + 1 : Nat) : Int)) := rfl
  have hm : mty .extend S (.ref st.length) = true := (mty_lst hF0).2.1
  rw [← hS, ← hN]
  unfold wBody
  simp only [exs_cons, ex_exp, ev_mth, ev_var, List.getElem?_cons_zero, List.getElem?_cons_succ, evs_cons, evs_nil, lc, hm, if_true, me, ex_aug, ev_lit, i1, exs_nil, Option.map_some, List.set_cons_succ, List.set_cons_zero]
theorem above_loop (hp : T[fp]? = some ⟨nm1, 2, 3, B_parents_of⟩) (K : Okc cs) : ∀ (n : Nat) (F : List Nat) (p : Nat) (g : Sto), AI cs a F p → p ≤ F.length → F.length ≤ 5 → 5 ≤ n + p → ∃ F' g', whlN (evT G (call G T (k + 1)) (.cmp .lt (.var 3) (.blt .len [.var 2]))) (exs G (call G T (k + 1)) (wBody fp)) (n + 1) [some (cE cs), some (sN a), some (.ref st.length), some (.int (p : Int)), none, none] (st ++ [.lst (F.map sN)] ++ g) = some (.nx, [some (cE cs), some (sN a), some (.ref st.length), some (.int ((F'.length : Nat) : Int)), none, none], st ++ [.lst (F'.map sN)] ++ g') ∧ AI cs a F' F'.length ∧ F'.length ≤ 5 := by
  intro n
  induction n with
  | zero =>
    intro F p g A hp1 hl hn
    have e : p = F.length := by omega
    subst e
    have hF : (st ++ [O.lst (F.map sN)] ++ g)[st.length]? = some (.lst (F.map sN)) := by rw [List.append_assoc, List.getElem?_append_right (Nat.le_refl _)]; simp
    refine ⟨F, g, ?_, A, hl⟩
    have lt : cmpop .lt (.int ((F.length : Nat) : Int)) (.int ((F.length : Nat) : Int)) (st ++ [O.lst (F.map sN)] ++ g) = some false := by simp
    simp only [Option.map_some, whlN, evT_cmp, ev_var, ev_blt, evs_cons, evs_nil, List.getElem?_cons_zero, List.getElem?_cons_succ, u_lenl hF, List.length_map, lt]
  | succ n ih =>
    intro F p g A hp1 hl hn
    have hF : (st ++ [O.lst (F.map sN)] ++ g)[st.length]? = some (.lst (F.map sN)) := by rw [List.append_assoc, List.getElem?_append_right (Nat.le_refl _)]; simp
    by_cases e : p = F.length
    · subst e
      refine ⟨F, g, ?_, A, hl⟩
      have lt : cmpop .lt (.int ((F.length : Nat) : Int)) (.int ((F.length : Nat) : Int)) (st ++ [O.lst (F.map sN)] ++ g) = some false := by simp
      simp only [Option.map_some, whlN, evT_cmp, ev_var, ev_blt, evs_cons, evs_nil, List.getElem?_cons_zero, List.getElem?_cons_succ, u_lenl hF, List.length_map, lt]
    · have hlt : p < F.length := by omega
      have hx : F[p]? = some F[p] := List.getElem?_eq_getElem hlt
      have A2 := A.grow K hx
      obtain ⟨F', g', e1, r⟩ := ih _ (p + 1) (g ++ [O.lst (((par cs F[p]).filter fun b => !decide (b ∈ F)).map sN)]) A2 (by rw [List.length_append]; omega) (nd_le K A2.nd A2.up) (by omega)
      refine ⟨F', g', ?_, r⟩
      have s1 := above_step (G := G) (T := T) (k := k) (st := st) (a := a) (g := g) hp K hx ((A.up _ (List.getElem_mem hlt)).nm K) hl
      have lt : cmpop .lt (.int (p : Int)) (.int ((F.length : Nat) : Int)) (st ++ [O.lst (F.map sN)] ++ g) = some true := by simp; omega
      rw [whlN]
      simp only [Option.map_some, evT_cmp, ev_var, ev_blt, evs_cons, evs_nil, List.getElem?_cons_zero, List.getElem?_cons_succ, u_lenl hF, List.length_map, lt, s1]
      exact e1
theorem above_ok (h : T[f]? = some ⟨nm, 2, 6, B_above fp⟩) (hp : T[fp]? = some ⟨nm1, 2, 3, B_parents_of⟩) (K : Okc cs) (ha : a ∈ nms cs) : call G T (k + 2) f [cE cs, sN a] st = some (.tup ((ups cs a).map sN), st) := by
  have e1 := parents_ok (G := G) (k := k) (st := st) hp K ha
  have A0 : AI cs a (par cs a) 0 := ⟨par_nd K a, fun b hb => .base hb, fun b hb => hb, fun i x hi => by omega⟩
  obtain ⟨F, g, e2, A, fl⟩ := above_loop (G := G) (T := T) (k := k) (st := st) (a := a) hp K 5 (par cs a) 0 [] A0 (by omega) (nd_le K A0.nd A0.up) (by omega)
  have e3 := whl_of e2
  rw [List.append_nil] at e3
  have fe := filt_eq A.up A.base fun x hx b hb => by
    obtain ⟨i, hi, e⟩ := List.getElem_of_mem hx
    exact A.old i x hi (by rw [List.getElem?_eq_getElem hi, e]) b hb
  obtain ⟨S, hS⟩ : ∃ S, S = st ++ [O.lst (F.map sN)] ++ g := ⟨_, rfl⟩
  rw [← hS] at e3
  have hF : S[st.length]? = some (.lst (F.map sN)) := by rw [hS, List.append_assoc, List.getElem?_append_right (Nat.le_refl _)]; simp
  refine call_rt h rfl (ρ' := [some (cE cs), some (sN a), some (.ref st.length), some (.int ((F.length : Nat) : Int)), none, none]) (s' := S) (d := .tup ((ups cs a).map sN)) ?_ (by rw [hS, List.append_assoc]; exact gc_pure (by simp only [D.pure]; exact (sN_pure _).1))
  unfold B_above
  show exs G (call G T (k + 1)) _ [some (cE cs), some (sN a), none, none, none, none] st = _
  refine exs_nx (ρ' := [some (cE cs), some (sN a), some (.ref st.length), none, none, none]) (s' := st ++ [.lst ((par cs a).map sN)]) (by simp [e1, blt, seqAt]) ?_
  refine exs_nx (ρ' := [some (cE cs), some (sN a), some (.ref st.length), some (.int 0), none, none]) (s' := st ++ [.lst ((par cs a).map sN)]) (by simp) ?_
  refine exs_nx (by rw [ex_whl]; exact e3) ?_
  refine exs_rt ?_
  have gg := ev_gen_of (G := G) (C := call G T (k + 1)) (ρ := [some (cE cs), some (sN a), some (.ref st.length), some (.int ((F.length : Nat) : Int)), none, none]) (st := S) (k := .tup) (vs := [4]) (elt := .idx (.var 4) (.lit (.int 0))) (tg := .nm 4) (it := .any (.var 0)) (c := .yes (.cmp .in_ (.idx (.var 4) (.lit (.int 0))) (.var 2))) (w := ⟨cs.map Row.enc, []⟩) (s1 := S) (by rw [evI_any]; simp [cE])
  have lt := loopT_pure (w := ⟨cs.map Row.enc, []⟩) (st := S) (f := gstep G (call G T (k + 1)) (.nm 4) (.yes (.cmp .in_ (.idx (.var 4) (.lit (.int 0))) (.var 2))) (.idx (.var 4) (.lit (.int 0))) (wipe [some (cE cs), some (sN a), some (.ref st.length), some (.int ((F.length : Nat) : Int)), none, none] [4])) (g := fun d => match d with
      | .tup [.str [b], y, z] => if b ∈ F then some (.str [b]) else none
      | _ => none) ok_nil (cs.map Row.enc) [] (fun d hd => by
      obtain ⟨r, hr, rfl⟩ := List.mem_map.mp hd
      have e1 : ∀ s, idxop r.enc (.int 0) s = some (sN r.nm) := fun _ => rfl
      have i1 := in_sNr (a := r.nm) hF
      by_cases h : r.nm ∈ F
      · simp only [h, decide_true] at i1
        simp only [gstep, wipe, List.foldl, List.set_cons_succ, List.set_cons_zero, asg_nm, evC_yes, evT_cmp, ev_var, ev_idx, ev_lit, List.getElem?_cons_zero, List.getElem?_cons_succ, e1, cmp_in, i1, Option.map_some]
        simp [Row.enc, sN, h]
      · simp only [h, decide_false] at i1
        simp only [gstep, wipe, List.foldl, List.set_cons_succ, List.set_cons_zero, asg_nm, evC_yes, evT_cmp, ev_var, ev_idx, ev_lit, List.getElem?_cons_zero, List.getElem?_cons_succ, e1, cmp_in, i1, Option.map_some]
        simp [Row.enc, sN, h])
  have fm : ∀ l : List Row, (l.map Row.enc).filterMap (fun d => match d with
      | .tup [.str [b], y, z] => if b ∈ F then some (.str [b]) else none
      | _ => none) = ((nms l).filter fun b => decide (b ∈ F)).map sN := fun l => by
    unfold nms
    induction l with
    | nil => rfl
    | cons r l ih =>
      rw [List.map_cons, List.filterMap_cons, ih]
      by_cases h : r.nm ∈ F
      · simp [Row.enc, sN, h]
      · simp [Row.enc, sN, h]
  simp only [fm, List.nil_append, fe] at lt
  have ll : ((ups cs a).map sN).length < sizeLine := by
    rw [List.length_map, ← fe]
    have h1 := List.length_filter_le (fun b => decide (b ∈ F)) (nms cs)
    have h2 : (nms cs).length = cs.length := List.length_map ..
    have := K.len
    rw [szL]
    omega
  simp only [ex_ret, gg, genK, lt, ll, if_true]
/-! ### the law's own search -/
def push1 : List Nat × List Nat → Nat → List Nat × List Nat := fun s p => if p ∈ s.1 then s else (s.1 ++ [p], s.2 ++ [p])
theorem push_inv : ∀ (ps F W : List Nat), ∃ N, ps.foldl push1 (F, W) = (F ++ N, W ++ N) ∧ (∀ x ∈ N, x ∈ ps) ∧ (∀ x ∈ ps, x ∈ F ++ N) ∧ (F.Nodup → (F ++ N).Nodup)
  | [], F, W => ⟨[], by simp, fun x h => (by cases h), fun x h => (by cases h), fun h => by simpa using h⟩
  | p :: ps, F, W => by
    rw [List.foldl_cons]
    by_cases h : p ∈ F
    · have e : push1 (F, W) p = (F, W) := by simp [push1, h]
      rw [e]
      obtain ⟨N, e1, h1, h2, h3⟩ := push_inv ps F W
      refine ⟨N, e1, fun x hx => List.mem_cons_of_mem _ (h1 x hx), fun x hx => ?_, h3⟩
      rcases List.mem_cons.mp hx with rfl | hx
      · exact List.mem_append_left _ h
      · exact h2 x hx
    · have e : push1 (F, W) p = (F ++ [p], W ++ [p]) := by simp [push1, h]
      rw [e]
      obtain ⟨N, e1, h1, h2, h3⟩ := push_inv ps (F ++ [p]) (W ++ [p])
      refine ⟨p :: N, by rw [e1]; simp, fun x hx => ?_, fun x hx => ?_, fun hn => ?_⟩
      · rcases List.mem_cons.mp hx with rfl | hx
        · exact List.mem_cons_self
        · exact List.mem_cons_of_mem _ (h1 x hx)
      · rcases List.mem_cons.mp hx with rfl | hx
        · simp
        · have := h2 x hx
          simpa using this
      · have := h3 (List.nodup_append.mpr ⟨hn, by simp, fun y hy z hz e => by simp at hz; subst e; subst hz; exact h hy⟩)
        simpa using this
def a8 (cs : List Row) (a n : Nat) (x4 x5 x6 : Option D) : En := [some (cE cs), some (sN a), some (.ref n), some (.ref (n + 1)), x4, x5, x6, none]
theorem ain_loop {C : Cl} {items : List D} {x4 x5 : Option D} : ∀ (ps F W : List Nat) (g : Sto) (x6 : Option D), F.length + ps.length < 1000 → W.length + ps.length < 1000 → ∃ y6, loopF ⟨items, []⟩ (fun d ρ s' => match asg G C (.nm 6) d ρ s' with
        | some (ρ'', s'') => exs G C aIn ρ'' s''
        | none => none) (ps.map sN) (a8 cs a st.length x4 x5 x6) (st ++ [.lst (F.map sN), .lst (W.map sN)] ++ g) = some (.nx, a8 cs a st.length x4 x5 y6, st ++ [.lst ((ps.foldl push1 (F, W)).1.map sN), .lst ((ps.foldl push1 (F, W)).2.map sN)] ++ g)
  | [], F, W, g, x6, _, _ => ⟨x6, by simp⟩
  | p :: ps, F, W, g, x6, h1, h2 => by
    simp only [List.length_cons] at h1 h2
    have hF : (st ++ [O.lst (F.map sN), .lst (W.map sN)] ++ g)[st.length]? = some (.lst (F.map sN)) := by rw [List.append_assoc, List.getElem?_append_right (Nat.le_refl _)]; simp
    have i1 := in_sNr (a := p) hF
    by_cases h : p ∈ F
    · have e : push1 (F, W) p = (F, W) := by simp [push1, h]
      rw [List.foldl_cons, e]
      obtain ⟨y6, e2⟩ := ain_loop (C := C) (items := items) (x4 := x4) (x5 := x5) ps F W g (some (sN p)) (by omega) (by omega)
      refine ⟨y6, ?_⟩
      rw [List.map_cons, loopF_cons]
      have s1 : exs G C aIn (a8 cs a st.length x4 x5 (some (sN p))) (st ++ [.lst (F.map sN), .lst (W.map sN)] ++ g) = some (.nx, a8 cs a st.length x4 x5 (some (sN p)), st ++ [.lst (F.map sN), .lst (W.map sN)] ++ g) := by
        unfold aIn a8
        simp only [h, decide_true] at i1
        simp only [exs_cons, ex_ifs, evT_cmp, ev_var, List.getElem?_cons_zero, List.getElem?_cons_succ, cmp_notin, i1, Option.map_some, Bool.not_true, exs_nil]
      have sa : asg G C (.nm 6) (sN p) (a8 cs a st.length x4 x5 x6) (st ++ [.lst (F.map sN), .lst (W.map sN)] ++ g) = some (a8 cs a st.length x4 x5 (some (sN p)), st ++ [.lst (F.map sN), .lst (W.map sN)] ++ g) := by rw [asg_nm]; rfl
      simp only [sa, s1]
      exact e2
    · have e : push1 (F, W) p = (F ++ [p], W ++ [p]) := by simp [push1, h]
      rw [List.foldl_cons, e]
      obtain ⟨y6, e2⟩ := ain_loop (C := C) (items := items) (x4 := x4) (x5 := x5) ps (F ++ [p]) (W ++ [p]) g (some (sN p)) (by simp; omega) (by simp; omega)
      refine ⟨y6, ?_⟩
      rw [List.map_cons, loopF_cons]
      have m1 : mth .append (.ref st.length) [sN p] (st ++ [.lst (F.map sN), .lst (W.map sN)] ++ g) = some (.non, st ++ [.lst ((F ++ [p]).map sN), .lst (W.map sN)] ++ g) := by
        rw [m_append hF (by rw [szL]; simp; omega)]
        simp
      have hW : (st ++ [O.lst ((F ++ [p]).map sN), .lst (W.map sN)] ++ g)[st.length + 1]? = some (.lst (W.map sN)) := by rw [List.append_assoc, List.getElem?_append_right (by omega), Nat.add_sub_cancel_left]; rfl
      have m2 : mth .append (.ref (st.length + 1)) [sN p] (st ++ [.lst ((F ++ [p]).map sN), .lst (W.map sN)] ++ g) = some (.non, st ++ [.lst ((F ++ [p]).map sN), .lst ((W ++ [p]).map sN)] ++ g) := by
        rw [m_append hW (by rw [szL]; simp; omega)]
        rw [List.append_assoc, List.set_append_right _ _ (by omega), Nat.add_sub_cancel_left]
        simp
      have s1 : exs G C aIn (a8 cs a st.length x4 x5 (some (sN p))) (st ++ [.lst (F.map sN), .lst (W.map sN)] ++ g) = some (.nx, a8 cs a st.length x4 x5 (some (sN p)), st ++ [.lst ((F ++ [p]).map sN), .lst ((W ++ [p]).map sN)] ++ g) := by
        have hm1 : mty .append (st ++ [O.lst (F.map sN), .lst (W.map sN)] ++ g) (.ref st.length) = true := (mty_lst hF).1
        have hm2 : mty .append (st ++ [O.lst ((F ++ [p]).map sN), .lst (W.map sN)] ++ g) (.ref (st.length + 1)) = true := (mty_lst hW).1
        unfold aIn a8
        simp only [h, decide_false] at i1
        simp only [exs_cons, ex_ifs, evT_cmp, ev_var, List.getElem?_cons_zero, List.getElem?_cons_succ, cmp_notin, i1, Option.map_some, Bool.not_false, exs_nil, ex_exp, ev_mth, evs_cons, evs_nil, hm1, hm2, if_true, m1, m2]
      have sa : asg G C (.nm 6) (sN p) (a8 cs a st.length x4 x5 x6) (st ++ [.lst (F.map sN), .lst (W.map sN)] ++ g) = some (a8 cs a st.length x4 x5 (some (sN p)), st ++ [.lst (F.map sN), .lst (W.map sN)] ++ g) := by rw [asg_nm]; rfl
      simp only [sa, s1]
      exact e2
structure LI (cs : List Row) (a : Nat) (F W : List Nat) (t : Nat) : Prop where
  nd : F.Nodup
  up : ∀ b ∈ F, Up cs a b
  sub : ∀ x ∈ W, x = a ∨ x ∈ F
  clo : ∀ x, x = a ∨ x ∈ F → x ∉ W → ∀ b ∈ par cs x, b ∈ F
  cnt : W = [] ∨ t + W.length = F.length + 1
theorem LI.step {F V : List Nat} {x t : Nat} (K : Okc cs) (L : LI cs a F (V ++ [x]) t) : LI cs a ((par cs x).foldl push1 (F, V)).1 ((par cs x).foldl push1 (F, V)).2 (t + 1) := by
  obtain ⟨N, e, h1, h2, h3⟩ := push_inv (par cs x) F V
  rw [e]
  have hx := L.sub x (by simp)
  refine ⟨h3 L.nd, fun b hb => ?_, fun y hy => ?_, fun y hy hw b hb => ?_, .inr ?_⟩
  · rcases List.mem_append.mp hb with hb | hb
    · exact L.up b hb
    · rcases hx with rfl | hx
      · exact .base (h1 b hb)
      · exact .step (L.up x hx) (h1 b hb)
  · rcases List.mem_append.mp hy with hy | hy
    · exact (L.sub y (List.mem_append_left _ hy)).imp_right fun h => List.mem_append_left _ h
    · exact .inr (List.mem_append_right _ hy)
  · by_cases e : y = x
    · subst e
      exact h2 b hb
    · have n1 : y ∉ V := fun h => hw (List.mem_append_left _ h)
      have n2 : y ∉ N := fun h => hw (List.mem_append_right _ h)
      have hy' : y = a ∨ y ∈ F := hy.imp_right fun h => (List.mem_append.mp h).resolve_right n2
      exact List.mem_append_left _ (L.clo y hy' (fun h => by
        rcases List.mem_append.mp h with h | h
        · exact n1 h
        · simp at h; exact e h) b hb)
  · rcases L.cnt with h | h
    · simp at h
    · simp only [List.length_append, List.length_cons, List.length_nil] at h ⊢
      omega
theorem lup_ok (h : T[f]? = some ⟨nm, 2, 8, B_law_all_above⟩) (K : Okc cs) (ha : a ∈ nms cs) : call G T (k + 1) f [cE cs, sN a] st = some (.ref st.length, st ++ [.lst ((ups cs a).map sN)]) := by
  have L := ex_for (G := G) (C := call G T k) (tg := .nm 4) (it := .rng [.lit (.int 80)]) (w := ⟨(List.range 80).map fun k => .int (k : Nat), []⟩) (s1 := st ++ [.lst [], .lst [sN a]]) (ρ := a8 cs a st.length none none none) (st := st ++ [.lst [], .lst [sN a]]) (x := aOut)
    (fun t ρ s => ∃ F W x4 x5 x6 g, ρ = a8 cs a st.length x4 x5 x6 ∧ s = st ++ [.lst (F.map sN), .lst (W.map sN)] ++ g ∧ LI cs a F W t)
    (evI_rng1 (n := 80) (by simp) (by decide)) (fun _ _ _ _ => ok_nil) ⟨[], [a], none, none, none, [], rfl, by simp, ⟨List.nodup_nil, fun b hb => (by cases hb), fun x hx => .inl (by simpa using hx), fun x hx hw => by simp at hx hw; exact absurd hx hw, .inr rfl⟩⟩ (fun j d ρ s hj ⟨F, W, x4, x5, x6, g, hρ, hs, LI⟩ => by
      subst hρ
      subst hs
      refine ⟨a8 cs a st.length (some d) x5 x6, _, by rw [asg_nm]; rfl, ?_⟩
      have hW : ∀ s : List Nat, (st ++ [O.lst (F.map sN), .lst (s.map sN)] ++ g)[st.length + 1]? = some (.lst (s.map sN)) := fun s => by rw [List.append_assoc, List.getElem?_append_right (by omega), Nat.add_sub_cancel_left]; rfl
      have wc : W = [] ∨ ∃ V x, W = V ++ [x] := by
        rcases List.eq_nil_or_concat W with h | ⟨V, x, h⟩
        · exact .inl h
        · exact .inr ⟨V, x, by rw [h, List.concat_eq_append]⟩
      rcases wc with rfl | ⟨V, x, rfl⟩
      · refine ⟨a8 cs a st.length (some d) x5 x6, st ++ [.lst (F.map sN), .lst []] ++ g, ?_, F, [], some d, x5, x6, g, rfl, rfl, ⟨LI.nd, LI.up, LI.sub, LI.clo, .inl rfl⟩⟩
        have hW0 := hW []
        unfold aOut a8
        simp only [List.map_nil] at hW0 ⊢
        have lt : cmpop .gt (.int (([] : List D).length : Int)) (.int 0) (st ++ [O.lst (F.map sN), .lst []] ++ g) = some false := by simp
        simp only [Option.map_some, exs_cons, ex_ifs, evT_cmp, ev_blt, evs_cons, evs_nil, ev_var, List.getElem?_cons_zero, List.getElem?_cons_succ, u_lenl hW0, ev_lit, lt, exs_nil]
      · have hx := LI.sub x (by simp)
        have xn : x ∈ nms cs := by
          rcases hx with rfl | hx
          · exact ha
          · exact (LI.up x hx).nm K
        have S1 := LI.step K
        have fl := nd_le K LI.nd LI.up
        have pl : (par cs x).length ≤ 5 := nd_le K (a := x) (par_nd K x) fun b hb => .base hb
        have vl : V.length ≤ 5 := by
          rcases LI.cnt with h | h
          · simp at h
          · simp only [List.length_append, List.length_cons, List.length_nil] at h; omega
        obtain ⟨y6, e6⟩ := ain_loop (G := G) (C := call G T k) (cs := cs) (a := a) (st := st) (items := (par cs x).map sN) (x4 := some d) (x5 := some (sN x)) (par cs x) F V (g ++ [.lst ((cs.filter fun r => decide (r.nm = x)).map fun r => .tup (r.ps.map sN))]) x6 (by omega) (by omega)
        refine ⟨a8 cs a st.length (some d) (some (sN x)) y6, st ++ [.lst (((par cs x).foldl push1 (F, V)).1.map sN), .lst (((par cs x).foldl push1 (F, V)).2.map sN)] ++ (g ++ [.lst ((cs.filter fun r => decide (r.nm = x)).map fun r => .tup (r.ps.map sN))]), ?_, _, _, some d, some (sN x), y6, _, rfl, rfl, S1⟩
        have hW0 := hW (V ++ [x])
        have lt : cmpop .gt (.int (((V ++ [x]).map sN).length : Int)) (.int 0) (st ++ [O.lst (F.map sN), .lst ((V ++ [x]).map sN)] ++ g) = some true := by simp
        have mp : mth .pop (.ref (st.length + 1)) [] (st ++ [.lst (F.map sN), .lst ((V ++ [x]).map sN)] ++ g) = some (sN x, st ++ [.lst (F.map sN), .lst (V.map sN)] ++ g) := by
          have l1 : ((V ++ [x]).map sN)[((V ++ [x]).map sN).length - 1]? = some (sN x) := by simp
          have l2 : ((V ++ [x]).map sN).dropLast = V.map sN := by simp
          simp only [mth, hW0, l1, l2]
          rw [List.append_assoc, List.set_append_right _ _ (by omega), Nat.add_sub_cancel_left]
          simp
        have hm : mty .pop (st ++ [O.lst (F.map sN), .lst ((V ++ [x]).map sN)] ++ g) (.ref (st.length + 1)) = true := (mty_lst hW0).2.2
        obtain ⟨S, hS⟩ : ∃ S, S = st ++ [O.lst (F.map sN), .lst (V.map sN)] ++ g := ⟨_, rfl⟩
        have lc := rows_lc (G := G) (C := call G T k) (vs := [7]) (i := 0) (j := 5) (q := 7) (ρ := a8 cs a st.length (some d) (some (sN x)) x6) (st := S) (a := x) (cs := cs) (by rfl) (fun d => by rfl) (by rfl) K.len
        have hd := rows_head (cs := cs) (a := x) (s := S ++ [.lst ((cs.filter fun r => decide (r.nm = x)).map fun r => .tup (r.ps.map sN))]) (r := S.length) xn (by simp)
        have ae : S ++ [O.lst ((cs.filter fun r => decide (r.nm = x)).map fun r => .tup (r.ps.map sN))] = st ++ [O.lst (F.map sN), .lst (V.map sN)] ++ (g ++ [.lst ((cs.filter fun r => decide (r.nm = x)).map fun r => .tup (r.ps.map sN))]) := by rw [hS, List.append_assoc]
        rw [← ae] at e6
        rw [← hS] at mp
        unfold aOut
        simp only [Option.map_some, exs_cons, exs_nil, ex_ifs, evT_cmp, ev_blt, evs_cons, evs_nil, ev_var, a8, List.getElem?_cons_zero, List.getElem?_cons_succ, u_lenl hW0, ev_lit, lt]
        simp only [ex_asg, ev_mth, ev_var, List.getElem?_cons_zero, List.getElem?_cons_succ, evs_nil, hm, if_true, mp, asg_nm, List.set_cons_succ, List.set_cons_zero]
        unfold a8 at lc e6
        have ei : evI G (call G T k) (.any (.idx (.lc [7] (.idx (.var 7) (.lit (.int 1))) (.nm 7) (.any (.var 0)) (.yes (.cmp .eq (.idx (.var 7) (.lit (.int 0))) (.var 5)))) (.lit (.int 0)))) [some (cE cs), some (sN a), some (.ref st.length), some (.ref (st.length + 1)), some d, some (sN x), x6, none] S = some (⟨(par cs x).map sN, []⟩, S ++ [O.lst ((cs.filter fun r => decide (r.nm = x)).map fun r => .tup (r.ps.map sN))]) := by
          rw [evI_any]
          simp only [ev_idx, lc, ev_lit, hd, walk_tup, Option.map_some]
        have ef : ex G (call G T k) (.frr (.nm 6) (.any (.idx (.lc [7] (.idx (.var 7) (.lit (.int 1))) (.nm 7) (.any (.var 0)) (.yes (.cmp .eq (.idx (.var 7) (.lit (.int 0))) (.var 5)))) (.lit (.int 0)))) aIn) [some (cE cs), some (sN a), some (.ref st.length), some (.ref (st.length + 1)), some d, some (sN x), x6, none] S = some (.nx, [some (cE cs), some (sN a), some (.ref st.length), some (.ref (st.length + 1)), some d, some (sN x), y6, none], st ++ [.lst (((par cs x).foldl push1 (F, V)).1.map sN), .lst (((par cs x).foldl push1 (F, V)).2.map sN)] ++ (g ++ [.lst ((cs.filter fun r => decide (r.nm = x)).map fun r => .tup (r.ps.map sN))])) := by
          rw [ex_frr, ei]
          exact e6
        unfold aIn at ef
        simp only [ef])
  obtain ⟨ρ', s', eL, F, W, x4, x5, x6, g, hρ, hs, LI⟩ := L
  subst hρ
  subst hs
  have fl := nd_le K LI.nd LI.up
  have w0 : W = [] := by
    rcases LI.cnt with h | h
    · exact h
    · simp only [List.length_map, List.length_range] at h; omega
  subst w0
  have fe := filt_eq LI.up (LI.clo a (.inl rfl) (by simp)) fun x hx => LI.clo x (.inr hx) (by simp)
  obtain ⟨S, hS⟩ : ∃ S, S = st ++ [O.lst (F.map sN), .lst (([] : List Nat).map sN)] ++ g := ⟨_, rfl⟩
  rw [← hS] at eL
  have hF : ∀ l, (S ++ l)[st.length]? = some (.lst (F.map sN)) := fun l => by rw [hS, List.append_assoc, List.append_assoc, List.getElem?_append_right (Nat.le_refl _)]; simp
  have lc := ev_lc_pure (G := G) (C := call G T k) (ρ := a8 cs a st.length x4 x5 x6) (st := S) (vs := [7]) (elt := .idx (.var 7) (.lit (.int 0))) (tg := .nm 7) (it := .any (.var 0)) (c := .yes (.cmp .in_ (.idx (.var 7) (.lit (.int 0))) (.var 2))) (w := ⟨cs.map Row.enc, []⟩) (s1 := S) (g := fun d => match d with
      | .tup [.str [b], y, z] => if b ∈ F then some (.str [b]) else none
      | _ => none) (by rw [evI_any]; simp [cE, a8]) (fun _ => ok_nil) (by have := K.len; simp only [List.length_map]; rw [szL]; omega) (fun d hd l => by
      obtain ⟨r, hr, rfl⟩ := List.mem_map.mp hd
      have e1 : ∀ s, idxop r.enc (.int 0) s = some (sN r.nm) := fun _ => rfl
      have i1 := in_sNr (a := r.nm) (hF [.lst l])
      by_cases h : r.nm ∈ F
      · simp only [h, decide_true] at i1
        simp only [gstep, wipe, a8, List.foldl, List.set_cons_succ, List.set_cons_zero, asg_nm, evC_yes, evT_cmp, ev_var, ev_idx, ev_lit, List.getElem?_cons_zero, List.getElem?_cons_succ, e1, cmp_in, i1, Option.map_some]
        simp [Row.enc, sN, h]
      · simp only [h, decide_false] at i1
        simp only [gstep, wipe, a8, List.foldl, List.set_cons_succ, List.set_cons_zero, asg_nm, evC_yes, evT_cmp, ev_var, ev_idx, ev_lit, List.getElem?_cons_zero, List.getElem?_cons_succ, e1, cmp_in, i1, Option.map_some]
        simp [Row.enc, sN, h])
  have fm : ∀ l : List Row, (l.map Row.enc).filterMap (fun d => match d with
      | .tup [.str [b], y, z] => if b ∈ F then some (.str [b]) else none
      | _ => none) = ((nms l).filter fun b => decide (b ∈ F)).map sN := fun l => by
    unfold nms
    induction l with
    | nil => rfl
    | cons r l ih =>
      rw [List.map_cons, List.filterMap_cons, ih]
      by_cases h : r.nm ∈ F
      · simp [Row.enc, sN, h]
      · simp [Row.enc, sN, h]
  simp only [fm, fe] at lc
  have gcv : gc st (.ref S.length) (S ++ [.lst ((ups cs a).map sN)]) = (.ref st.length, st ++ [.lst ((ups cs a).map sN)]) := by
    have := gc_obj (st := st) (st1 := st) (l := [O.lst (F.map sN), .lst (([] : List Nat).map sN)] ++ g ++ [.lst ((ups cs a).map sN)]) (j := ([O.lst (F.map sN), .lst (([] : List Nat).map sN)] ++ g).length) (o := .lst ((ups cs a).map sN)) rfl (fun i o e => .inl e) (by simp) (by
      simp only [O.bel]
      exact pures_bel _ (sN_pure _).1)
    rw [hS]
    have e1 : st ++ [O.lst (F.map sN), .lst (([] : List Nat).map sN)] ++ g ++ [.lst ((ups cs a).map sN)] = st ++ ([O.lst (F.map sN), .lst (([] : List Nat).map sN)] ++ g ++ [.lst ((ups cs a).map sN)]) := by simp
    have e2 : (st ++ [O.lst (F.map sN), .lst (([] : List Nat).map sN)] ++ g).length = st.length + ([O.lst (F.map sN), .lst (([] : List Nat).map sN)] ++ g).length := by rw [List.append_assoc, List.length_append]
    rw [e1, e2]
    exact this
  refine call_rt h rfl (ρ' := a8 cs a st.length x4 x5 x6) (s' := S ++ [.lst ((ups cs a).map sN)]) (d := .ref S.length) ?_ gcv
  unfold B_law_all_above
  show exs G (call G T k) _ [some (cE cs), some (sN a), none, none, none, none, none, none] st = _
  refine exs_nx (ρ' := [some (cE cs), some (sN a), some (.ref st.length), none, none, none, none, none]) (s' := st ++ [.lst []]) (by simp) ?_
  refine exs_nx (ρ' := a8 cs a st.length none none none) (s' := st ++ [.lst [], .lst [sN a]]) (by simp [a8]) ?_
  refine exs_nx eL ?_
  exact exs_rt (by simp only [ex_ret, lc])
end
end CL

namespace CL
open PySem PySem.Spec PyProof.Rows L2
/-! NW: ways that fit, the nearest; classes drawn (k78). -/
def B_law_some_classes (c_law_draw : Nat) : List S :=
  [.asg (.nm 2) (.lst []), .frr (.nm 3) (.rng [.bin .add (.lit (.int 1)) (.call c_law_draw [.var 0, .var 1])]) [.asg (.nm 4) (.lc [6] (.idx (.var 6) (.lit (.int 0))) (.nm 6) (.any (.var 2)) (.yes (.cmp .eq (.call c_law_draw [.var 0, .lit (.int 3)]) (.lit (.int 0))))), .ifs (.cmp .eq (.call c_law_draw [.var 0, .lit (.int 3)]) (.lit (.int 0))) [.asg (.nm 4) (.rev (.var 4))] [], .asg (.nm 5) (.lc [7] (.tup [.var 7, .call c_law_draw [.var 0, .lit (.int 9)]]) (.nm 7) (.any (.lst [.lit (.str [103, 111]), .lit (.str [114, 117, 110]), .lit (.str [115, 97, 121])])) (.yes (.cmp .eq (.call c_law_draw [.var 0, .lit (.int 3)]) (.lit (.int 0))))), .exp (.mth .append (.var 2) [.tup [.idx (.lit (.str [65, 66, 67, 68, 69, 70, 71])) (.var 3), .blt .tuple [.var 4], .blt .tuple [.var 5]]])], .ret (.blt .tuple [.var 2])]
def scBody (fd : Nat) : List S := [.asg (.nm 4) (.lc [6] (.idx (.var 6) (.lit (.int 0))) (.nm 6) (.any (.var 2)) (.yes (.cmp .eq (.call fd [.var 0, .lit (.int 3)]) (.lit (.int 0))))), .ifs (.cmp .eq (.call fd [.var 0, .lit (.int 3)]) (.lit (.int 0))) [.asg (.nm 4) (.rev (.var 4))] [], .asg (.nm 5) (.lc [7] (.tup [.var 7, .call fd [.var 0, .lit (.int 9)]]) (.nm 7) (.any (.lst [.lit (.str [103, 111]), .lit (.str [114, 117, 110]), .lit (.str [115, 97, 121])])) (.yes (.cmp .eq (.call fd [.var 0, .lit (.int 3)]) (.lit (.int 0))))), .exp (.mth .append (.var 2) [.tup [.idx (.lit (.str [65, 66, 67, 68, 69, 70, 71])) (.var 3), .blt .tuple [.var 4], .blt .tuple [.var 5]]])]
def pE (w : Nat × Nat) : D := .tup [sN w.1, sN w.2]
def wsE (ws : List (Nat × Nat)) : D := .tup (ws.map pE)
def iE (l : List Nat) : List D := l.map fun (i : Nat) => D.int (i : Int)
noncomputable def le1 (cs : List Row) (o k : Nat) : Bool := decide (o = k ∨ k ∈ ups cs o)
noncomputable def fitB (cs : List Row) (o w : Nat × Nat) : Bool := le1 cs o.1 w.1 && le1 cs o.2 w.2
def wy (ws : List (Nat × Nat)) (i : Nat) : Nat × Nat := ws.getD i (0, 0)
noncomputable def fi (cs : List Row) (ws : List (Nat × Nat)) (o : Nat × Nat) : List Nat := (List.range ws.length).filter fun i => fitB cs o (wy ws i)
noncomputable def near (cs : List Row) (ws : List (Nat × Nat)) (i j : Nat) : Bool := decide (wy ws i ≠ wy ws j) && fitB cs (wy ws i) (wy ws j)
noncomputable def bsl (cs : List Row) (ws : List (Nat × Nat)) (o : Nat × Nat) : List Nat := (fi cs ws o).filter fun j => !(fi cs ws o).any fun i => near cs ws i j
def dueW : List Nat → D
  | [] => .tup [.str [110, 111, 110, 101]]
  | [j] => .tup [.str [119, 97, 121], .int (j : Int)]
  | l => .tup [.str [109, 97, 110, 121], .tup (iE l)]
theorem pE_pure (w : Nat × Nat) : (pE w).pure = true ∧ (pE w).dep ≤ 1 := ⟨rfl, by simp [pE, sN, D.dep, D.deps]⟩
theorem eq_pE {st : Sto} {w v : Nat × Nat} : eqAt st (pE w) (pE v) = some (decide (w = v)) := by
  rw [eq_pure (pE_pure w).1 (pE_pure v).1 (.inl (by have := (pE_pure w).2; omega))]
  congr 1
  obtain ⟨a, b⟩ := w
  obtain ⟨c, d⟩ := v
  have : ((pE (a, b)).norm = (pE (c, d)).norm) ↔ ((a, b) = (c, d)) := by simp [pE, sN, D.norm, D.norms]
  simp only [this]
theorem iE_pure : ∀ l : List Nat, D.pures (iE l) = true
  | [] => rfl
  | i :: l => by
    have := iE_pure l
    unfold iE at this ⊢
    rw [List.map_cons]; simp only [D.pures, D.pure, this, Bool.and_self]
theorem iE_dep : ∀ l : List Nat, D.deps (iE l) = 0 ∧ D.wids (iE l) = 0
  | [] => ⟨rfl, rfl⟩
  | i :: l => by
    have := iE_dep l
    unfold iE at this ⊢
    rw [List.map_cons]; simp only [D.deps, D.dep, D.wids, D.wid, this]; exact ⟨rfl, rfl⟩
theorem dueW_pure (l : List Nat) : (dueW l).pure = true := by
  match l with
  | [] => rfl
  | [j] => rfl
  | i :: j :: l =>
    have := iE_pure (i :: j :: l)
    simp only [dueW, D.pure, D.pures, this, Bool.and_self]
section
variable {G : List D} {T : List Fn} {f fp fa ff fn fd k : Nat} {nm nm1 nm2 nm3 : Str} {st : Sto} {cs : List Row} {a : Nat}
theorem fits_k (h : T[f]? = some ⟨nm, 3, 5, B_fits_kinds fa⟩) (hA : T[fa]? = some ⟨nm1, 2, 6, B_above fp⟩) (hp : T[fp]? = some ⟨nm2, 2, 3, B_parents_of⟩) (K : Okc cs) {o w : Nat × Nat} (h1 : o.1 ∈ nms cs) (h2 : o.2 ∈ nms cs) : call G T (k + 3) f [cE cs, pE w, pE o] st = some (.bl (fitB cs o w), st) := by
  have up := fun a (ha : a ∈ nms cs) => above_ok (G := G) (k := k) (st := st) hA hp K ha
  have hw : evI G (call G T (k + 2)) (.zip (.var 2) (.var 1)) [some (cE cs), some (pE w), some (pE o), none, none] st = some (⟨[.tup [sN o.1, sN w.1], .tup [sN o.2, sN w.2]], []⟩, st) := by
    simp only [evI, ev_var, List.getElem?_cons_zero, List.getElem?_cons_succ, pE, seq_tup, sameKind, if_true, ownOf]
    rfl
  have gg := ev_gen_of (G := G) (C := call G T (k + 2)) (st := st) (ρ := [some (cE cs), some (pE w), some (pE o), none, none]) (k := .all) (vs := [3, 4]) (elt := .or (.cmp .eq (.var 3) (.var 4)) (.cmp .in_ (.var 4) (.call fa [.var 0, .var 3]))) (tg := .tp [.nm 3, .nm 4]) (it := .zip (.var 2) (.var 1)) (c := .no) hw
  have step : ∀ a b, a ∈ nms cs → gstep G (call G T (k + 2)) (.tp [.nm 3, .nm 4]) .no (.or (.cmp .eq (.var 3) (.var 4)) (.cmp .in_ (.var 4) (.call fa [.var 0, .var 3]))) (wipe [some (cE cs), some (pE w), some (pE o), none, none] [3, 4]) (.tup [sN a, sN b]) st = some (some (.bl (le1 cs a b)), st) := fun a b ha => by
    have i1 := in_sNt (st := st) (a := b) (l := ups cs a)
    by_cases e : a = b
    · simp only [gstep, wipe, List.foldl, List.set_cons_succ, List.set_cons_zero, asg_tp, seq_tup, List.length_cons, List.length_nil, if_true, asgs_cons, asgs_nil, asg_nm, evC_no, ev_or, ev_cmp, ev_var, List.getElem?_cons_zero, List.getElem?_cons_succ, cmp_eq, eq_sN, Option.map_some, tr_bl, e, decide_true]
      simp [le1]
    · simp only [gstep, wipe, List.foldl, List.set_cons_succ, List.set_cons_zero, asg_tp, seq_tup, List.length_cons, List.length_nil, if_true, asgs_cons, asgs_nil, asg_nm, evC_no, ev_or, ev_cmp, ev_var, List.getElem?_cons_zero, List.getElem?_cons_succ, cmp_eq, eq_sN, Option.map_some, tr_bl, e, decide_false, ev_call, evs_cons, evs_nil, up a ha, cmp_in, i1]
      simp [le1, e]
  refine call_rt h rfl (ρ' := [some (cE cs), some (pE w), some (pE o), none, none]) (s' := st) (d := .bl (fitB cs o w)) ?_ gc_self
  unfold B_fits_kinds
  show exs G (call G T (k + 2)) _ [some (cE cs), some (pE w), some (pE o), none, none] st = _
  refine exs_rt ?_
  have e1 := step o.1 w.1 h1
  have e2 := step o.2 w.2 h2
  simp only [ex_ret, gg, genK]
  rw [loopQ_cons, e1]
  cases q1 : le1 cs o.1 w.1
  · simp [fitB, q1]
  · simp only [tr_bl, Bool.true_eq_false, if_false]
    rw [loopQ_cons, e2]
    cases q2 : le1 cs o.2 w.2 <;> simp [fitB, q1, q2]
theorem nearer_ok (h : T[f]? = some ⟨nm, 3, 3, B_is_nearer ff⟩) (hF : T[ff]? = some ⟨nm3, 3, 5, B_fits_kinds fa⟩) (hA : T[fa]? = some ⟨nm1, 2, 6, B_above fp⟩) (hp : T[fp]? = some ⟨nm2, 2, 3, B_parents_of⟩) (K : Okc cs) {w v : Nat × Nat} (h1 : w.1 ∈ nms cs) (h2 : w.2 ∈ nms cs) : call G T (k + 4) f [cE cs, pE w, pE v] st = some (.bl (decide (w ≠ v) && fitB cs w v), st) := by
  have e := fits_k (G := G) (k := k) (st := st) hF hA hp K (o := w) (w := v) h1 h2
  refine call_rt h rfl (ρ' := [some (cE cs), some (pE w), some (pE v)]) (s' := st) (d := .bl (decide (w ≠ v) && fitB cs w v)) ?_ gc_self
  unfold B_is_nearer
  show exs G (call G T (k + 3)) _ [some (cE cs), some (pE w), some (pE v)] st = _
  refine exs_rt ?_
  by_cases q : w = v
  · simp [eq_pE, q]
  · simp [eq_pE, q, e]
structure Wok (cs : List Row) (w : Nat × Nat) : Prop where
  l : w.1 ∈ nms cs
  r : w.2 ∈ nms cs
theorem enum_get {ws : List (Nat × Nat)} {d : D} (h : d ∈ enumOf (ws.map pE)) : ∃ i, i < ws.length ∧ d = .tup [.int (i : Int), pE (wy ws i)] := by
  unfold enumOf at h
  obtain ⟨j, hj, e⟩ := List.getElem_of_mem h
  simp only [List.length_zipWith, List.length_range, List.length_map, Nat.min_self] at hj
  simp only [List.getElem_zipWith, List.getElem_range, List.getElem_map] at e
  refine ⟨j, hj, ?_⟩
  rw [← e]
  unfold wy
  rw [List.getD_eq_getElem?_getD, List.getElem?_eq_getElem hj]
  rfl
theorem enum_list (ws : List (Nat × Nat)) : enumOf (ws.map pE) = (List.range ws.length).map fun (i : Nat) => D.tup [.int (i : Int), pE (wy ws i)] := by
  unfold enumOf
  rw [List.length_map]
  refine List.ext_getElem (by simp) fun i h1 h2 => ?_
  simp only [List.getElem_zipWith, List.getElem_range, List.getElem_map]
  have hi : i < ws.length := by simpa using h2
  unfold wy
  rw [List.getD_eq_getElem?_getD, List.getElem?_eq_getElem hi]
  rfl
theorem wy_ok {ws : List (Nat × Nat)} (W : ∀ w ∈ ws, Wok cs w) {i : Nat} (hi : i < ws.length) : Wok cs (wy ws i) := by
  unfold wy
  rw [List.getD_eq_getElem?_getD, List.getElem?_eq_getElem hi]
  exact W _ (List.getElem_mem hi)
theorem fi_lt {ws : List (Nat × Nat)} {o : Nat × Nat} {i : Nat} (h : i ∈ fi cs ws o) : i < ws.length := by
  unfold fi at h
  exact List.mem_range.mp (List.mem_filter.mp h).1
theorem idx_ws {ws : List (Nat × Nat)} {i : Nat} (hi : i < ws.length) {s : Sto} : idxop (wsE ws) (.int (i : Int)) s = some (pE (wy ws i)) := by
  unfold wsE
  rw [idx_tup, at_nn (by omega), Int.toNat_natCast, List.getElem?_map]
  unfold wy
  rw [List.getD_eq_getElem?_getD, List.getElem?_eq_getElem hi]
  rfl
theorem best_ok {nm4 : Str} (h : T[f]? = some ⟨nm, 3, 8, B_best_way ff fn⟩) (hn : T[fn]? = some ⟨nm4, 3, 3, B_is_nearer ff⟩) (hF : T[ff]? = some ⟨nm3, 3, 5, B_fits_kinds fa⟩) (hA : T[fa]? = some ⟨nm1, 2, 6, B_above fp⟩) (hp : T[fp]? = some ⟨nm2, 2, 3, B_parents_of⟩) (K : Okc cs) {ws : List (Nat × Nat)} {o : Nat × Nat} (W : ∀ w ∈ ws, Wok cs w) (Ow : Wok cs o) (hl : ws.length ≤ 100) : call G T (k + 5) f [cE cs, wsE ws, pE o] st = some (dueW (bsl cs ws o), st) := by
  have ef := fun w st => fits_k (G := G) (k := k + 1) (st := st) hF hA hp K (o := o) (w := w) Ow.l Ow.r
  have en := fun w v st (h : Wok cs w) => nearer_ok (G := G) (k := k) (st := st) hn hF hA hp K (w := w) (v := v) h.l h.r
  have lc := ev_lc_pure (G := G) (C := call G T (k + 4)) (ρ := [some (cE cs), some (wsE ws), some (pE o), none, none, none, none, none]) (st := st) (vs := [5, 6]) (elt := .var 5) (tg := .tp [.nm 5, .nm 6]) (it := .enm (.var 1)) (c := .yes (.tru (.call ff [.var 0, .var 6, .var 2]))) (w := ⟨enumOf (ws.map pE), []⟩) (s1 := st)
    (g := fun d => match d with
      | .tup [.int i, x] => if fitB cs o (wy ws i.toNat) then some (.int i) else none
      | _ => none) (by simp only [evI, ev_var, List.getElem?_cons_zero, List.getElem?_cons_succ, wsE, seq_tup, ownOf]) (fun _ => ok_nil) (by rw [enum_list, List.length_map, List.length_range, szL]; omega) (fun d hd l => by
      obtain ⟨i, hi, rfl⟩ := enum_get hd
      simp only [gstep, wipe, List.foldl, List.set_cons_succ, List.set_cons_zero, asg_tp, seq_tup, List.length_cons, List.length_nil, if_true, asgs_cons, asgs_nil, asg_nm, evC_yes, evT_tru, ev_call, evs_cons, evs_nil, ev_var, List.getElem?_cons_zero, List.getElem?_cons_succ, ef, tr_bl, Option.map_some, Int.toNat_natCast]
      rcases Bool.eq_false_or_eq_true (fitB cs o (wy ws i)) with q | q <;> simp [q])
  have fm : ∀ l : List Nat, ((l.map fun (i : Nat) => D.tup [.int (i : Int), pE (wy ws i)]).filterMap fun d => match d with
      | .tup [.int i, x] => if fitB cs o (wy ws i.toNat) then some (.int i) else none
      | _ => none) = iE (l.filter fun i => fitB cs o (wy ws i)) := fun l => by
    induction l with
    | nil => rfl
    | cons i l ih =>
      rw [List.map_cons, List.filterMap_cons, ih]
      cases q : fitB cs o (wy ws i) <;> simp [q, iE]
  simp only [enum_list, fm] at lc
  obtain ⟨F, hF0⟩ : ∃ F, F = fi cs ws o := ⟨_, rfl⟩
  have hF1 : (List.range ws.length).filter (fun i => fitB cs o (wy ws i)) = F := hF0.symm
  rw [hF1] at lc
  have Flt : ∀ i ∈ F, i < ws.length := fun i hi => fi_lt (cs := cs) (o := o) (by rw [← hF0]; exact hi)
  have Fl : F.length ≤ 100 := by
    rw [← hF1]
    exact Nat.le_trans (List.length_filter_le _ _) (by rw [List.length_range]; exact hl)
  obtain ⟨S, hS⟩ : ∃ S, S = st ++ [O.lst (iE F)] := ⟨_, rfl⟩
  have hr : ∀ y, (S ++ y)[st.length]? = some (.lst (iE F)) := fun y => by rw [hS, List.append_assoc, List.getElem?_append_right (Nat.le_refl _)]; simp
  have hr0 : S[st.length]? = some (.lst (iE F)) := by have := hr []; rwa [List.append_nil] at this
  rw [← hS] at lc
  have inner : ∀ (s : Sto) (ρ : En) (j : Nat), (s[st.length]? = some (.lst (iE F))) → j ∈ F → ρ = [some (cE cs), some (wsE ws), some (pE o), some (.ref st.length), none, some (.int (j : Int)), none, none] → ev G (call G T (k + 4)) (.gen .any [7] (.call fn [.var 0, .idx (.var 1) (.var 7), .idx (.var 1) (.var 5)]) (.nm 7) (.any (.var 3)) .no) ρ s = some (.bl (F.any fun i => near cs ws i j), s) := fun s ρ j hs hj hρ => by
    subst hρ
    have gg := ev_gen_of (G := G) (C := call G T (k + 4)) (st := s) (ρ := [some (cE cs), some (wsE ws), some (pE o), some (.ref st.length), none, some (.int (j : Int)), none, none]) (k := .any) (vs := [7]) (elt := .call fn [.var 0, .idx (.var 1) (.var 7), .idx (.var 1) (.var 5)]) (tg := .nm 7) (it := .any (.var 3)) (c := .no) (w := ⟨iE F, [(st.length, .lst (iE F))]⟩) (s1 := s) (by rw [evI_any]; simp only [ev_var, List.getElem?_cons_zero, List.getElem?_cons_succ]; rw [walk_lst hs]; rfl)
    have ok : (Wk.mk (iE F) [(st.length, O.lst (iE F))]).ok s := fun p hp => by
      simp only [List.mem_singleton] at hp
      subst hp
      exact hs
    have lq := loopQ_pure (b := true) (w := ⟨iE F, [(st.length, .lst (iE F))]⟩) (st := s) (f := gstep G (call G T (k + 4)) (.nm 7) .no (.call fn [.var 0, .idx (.var 1) (.var 7), .idx (.var 1) (.var 5)]) (wipe [some (cE cs), some (wsE ws), some (pE o), some (.ref st.length), none, some (.int (j : Int)), none, none] [7])) (g := fun d => match d with
        | .int i => some (.bl (near cs ws i.toNat j))
        | _ => none) (t := fun d => match d with
        | .int i => near cs ws i.toNat j
        | _ => false) ok (iE F) (fun d hd => by
      obtain ⟨i, hi, rfl⟩ := List.mem_map.mp hd
      refine ⟨?_, fun y hy => ?_⟩
      · simp only [gstep, wipe, List.foldl, List.set_cons_succ, List.set_cons_zero, asg_nm, evC_no, ev_call, evs_cons, evs_nil, ev_idx, ev_var, List.getElem?_cons_zero, List.getElem?_cons_succ, idx_ws (Flt i hi), idx_ws (Flt j hj), Option.map_some, en _ _ _ (wy_ok W (Flt i hi)), Int.toNat_natCast]
        rfl
      · simp only [Option.some.injEq] at hy
        subst hy
        rfl)
    have fa : ((iE F).any fun d => (match d with
        | .int i => some (D.bl (near cs ws i.toNat j))
        | _ => none).isSome && ((match d with
        | .int i => near cs ws i.toNat j
        | _ => false) == true)) = F.any fun i => near cs ws i j := by
      unfold iE
      rw [List.any_map]
      congr 1
      funext i
      simp [Function.comp]
    rw [gg, genK, lq, fa]
    cases F.any fun i => near cs ws i j <;> rfl
  have lc2 := ev_lc_pure (G := G) (C := call G T (k + 4)) (ρ := [some (cE cs), some (wsE ws), some (pE o), some (.ref st.length), none, none, none, none]) (st := S) (vs := [5]) (elt := .var 5) (tg := .nm 5) (it := .any (.var 3)) (c := .yes (.not (.tru (.gen .any [7] (.call fn [.var 0, .idx (.var 1) (.var 7), .idx (.var 1) (.var 5)]) (.nm 7) (.any (.var 3)) .no)))) (w := ⟨iE F, [(st.length, .lst (iE F))]⟩) (s1 := S)
    (g := fun d => match d with
      | .int j => if F.any fun i => near cs ws i j.toNat then none else some d
      | _ => none) (by rw [evI_any]; simp only [ev_var, List.getElem?_cons_zero, List.getElem?_cons_succ]; rw [walk_lst hr0]; rfl) (fun l p hp => by
      simp only [List.mem_singleton] at hp
      subst hp
      exact hr l) (by unfold iE; rw [List.length_map, szL]; omega) (fun d hd l => by
      obtain ⟨j, hj, rfl⟩ := List.mem_map.mp hd
      have i1 := inner (S ++ [.lst l]) _ j (hr _) hj rfl
      simp only [gstep, wipe, List.foldl, List.set_cons_succ, List.set_cons_zero, asg_nm, evC_yes, evT_not, evT_tru, i1, tr_bl, Option.map_some, ev_var, List.getElem?_cons_zero, List.getElem?_cons_succ, Int.toNat_natCast]
      rcases Bool.eq_false_or_eq_true (F.any fun i => near cs ws i j) with q | q <;> simp [q])
  have fm2 : ∀ l : List Nat, ((iE l).filterMap fun d => match d with
      | .int j => if F.any fun i => near cs ws i j.toNat then none else some d
      | _ => none) = iE (l.filter fun j => !F.any fun i => near cs ws i j) := fun l => by
    unfold iE
    induction l with
    | nil => rfl
    | cons i l ih =>
      rw [List.map_cons, List.filterMap_cons, ih]
      cases q : F.any fun i' => near cs ws i' i <;> simp [q]
  simp only [fm2] at lc2
  have hB : F.filter (fun j => !F.any fun i => near cs ws i j) = bsl cs ws o := by rw [hF0]; rfl
  rw [hB] at lc2
  obtain ⟨Bs, hBs⟩ : ∃ Bs, Bs = bsl cs ws o := ⟨_, rfl⟩
  rw [← hBs] at lc2 ⊢
  have bl : Bs.length ≤ 100 := by rw [hBs, ← hB]; exact Nat.le_trans (List.length_filter_le _ _) Fl
  obtain ⟨S2, hS2⟩ : ∃ S2, S2 = S ++ [O.lst (iE Bs)] := ⟨_, rfl⟩
  rw [← hS2] at lc2
  have q4 : S2[S.length]? = some (.lst (iE Bs)) := by rw [hS2]; simp
  refine call_rt h rfl (ρ' := [some (cE cs), some (wsE ws), some (pE o), some (.ref st.length), some (.ref S.length), none, none, none]) (s' := S2) (d := dueW Bs) ?_ (by rw [hS2, hS, List.append_assoc]; exact gc_pure (dueW_pure _))
  unfold B_best_way
  show exs G (call G T (k + 4)) _ [some (cE cs), some (wsE ws), some (pE o), none, none, none, none, none] st = _
  refine exs_nx (ρ' := [some (cE cs), some (wsE ws), some (pE o), some (.ref st.length), none, none, none, none]) (s' := S) (by simp only [ex_asg, lc, asg_nm, List.set_cons_succ, List.set_cons_zero]) ?_
  refine exs_nx (ρ' := [some (cE cs), some (wsE ws), some (pE o), some (.ref st.length), some (.ref S.length), none, none, none]) (s' := S2) (by simp only [ex_asg, lc2, asg_nm, List.set_cons_succ, List.set_cons_zero]) ?_
  have tr : truth S2 (.ref S.length) = some (!(iE Bs).isEmpty) := by simp only [truth, q4]
  have ln := u_lenl q4
  have tp : blt .tuple [.ref S.length] S2 = some (.tup (iE Bs), S2) := by simp only [blt, seqAt, lstAt, q4]
  match Bs with
  | [] => exact exs_rt (by simp only [ex_ifs, evT_not, evT_tru, ev_var, List.getElem?_cons_zero, List.getElem?_cons_succ, tr, Option.map_some]; simp [iE, dueW])
  | [j] =>
    refine exs_nx (ρ' := [some (cE cs), some (wsE ws), some (pE o), some (.ref st.length), some (.ref S.length), none, none, none]) (s' := S2) (by simp only [ex_ifs, evT_not, evT_tru, ev_var, List.getElem?_cons_zero, List.getElem?_cons_succ, tr, Option.map_some]; simp [iE]) ?_
    refine exs_rt ?_
    simp only [ex_ret, ev_ite, evT_cmp, ev_blt, evs_cons, evs_nil, ev_var, List.getElem?_cons_zero, List.getElem?_cons_succ, ln, ev_lit, cmp_eq, eq_int, Option.map_some]
    simp [iE, dueW, idx_lst q4, at_nn]
  | i :: j :: l =>
    refine exs_nx (ρ' := [some (cE cs), some (wsE ws), some (pE o), some (.ref st.length), some (.ref S.length), none, none, none]) (s' := S2) (by simp only [ex_ifs, evT_not, evT_tru, ev_var, List.getElem?_cons_zero, List.getElem?_cons_succ, tr, Option.map_some]; simp [iE]) ?_
    refine exs_rt ?_
    have l1 : ¬ (((iE (i :: j :: l)).length : Int) = 1) := by unfold iE; simp; omega
    simp only [ex_ret, ev_ite, evT_cmp, ev_blt, evs_cons, evs_nil, ev_var, List.getElem?_cons_zero, List.getElem?_cons_succ, ln, ev_lit, cmp_eq, eq_int, Option.map_some, l1, decide_false, ev_tup, tp]
    simp [dueW]
/-! ### classes drawn -/
structure Sk (cs : List Row) (k : Nat) : Prop where
  nm : nms cs = (List.range k).map (65 + ·)
  par : ∀ r ∈ cs, ∀ p ∈ r.ps, p ∈ nms cs
  pnd : ∀ r ∈ cs, r.ps.Nodup
  pu : ∀ r ∈ cs, D.pures r.tl = true
theorem Sk.len {cs : List Row} {k : Nat} (h : Sk cs k) : cs.length = k := by
  have := congrArg List.length h.nm
  simpa [nms] using this
theorem Sk.nd {cs : List Row} {k : Nat} (h : Sk cs k) : (nms cs).Nodup := by
  rw [h.nm]
  exact List.Pairwise.map _ (fun a b hab e => hab (by omega)) List.nodup_range
theorem Sk.add {cs : List Row} {k : Nat} (h : Sk cs k) {ps : List Nat} {tl : List D} (h1 : ∀ p ∈ ps, p ∈ nms cs) (h2 : ps.Nodup) (h3 : D.pures tl = true) : Sk (cs ++ [⟨65 + k, ps, tl⟩]) (k + 1) where
  nm := by
    have : nms (cs ++ [⟨65 + k, ps, tl⟩]) = nms cs ++ [65 + k] := by simp [nms]
    rw [this, h.nm, List.range_succ, List.map_append]
    rfl
  par := fun r hr p hp => by
    have e : nms (cs ++ [⟨65 + k, ps, tl⟩]) = nms cs ++ [65 + k] := by simp [nms]
    rw [e]
    rcases List.mem_append.mp hr with hr | hr
    · exact List.mem_append_left _ (h.par r hr p hp)
    · simp only [List.mem_singleton] at hr
      subst hr
      exact List.mem_append_left _ (h1 p hp)
  pnd := fun r hr => by
    rcases List.mem_append.mp hr with hr | hr
    · exact h.pnd r hr
    · simp only [List.mem_singleton] at hr
      subst hr
      exact h2
  pu := fun r hr => by
    rcases List.mem_append.mp hr with hr | hr
    · exact h.pu r hr
    · simp only [List.mem_singleton] at hr
      subst hr
      exact h3
theorem cE_pure {cs : List Row} {k : Nat} (h : Sk cs k) : (cE cs).pure = true := by
  have : ∀ l : List Row, (∀ r ∈ l, D.pures r.tl = true) → D.pures (l.map Row.enc) = true := fun l hl => by
    induction l with
    | nil => rfl
    | cons r l ih =>
      rw [List.map_cons]
      have h1 := hl r List.mem_cons_self
      have h2 := ih fun r hr => hl r (List.mem_cons_of_mem _ hr)
      simp only [D.pures, h2, Row.enc, D.pure, (sN_pure r.ps).1, h1, sN, Bool.and_self]
  simp only [cE, D.pure]
  exact this cs h.pu
theorem Sk.okc {cs : List Row} {k : Nat} (h : Sk cs k) (hk : k ≤ 5) : Okc cs := ⟨by rw [h.len]; exact hk, h.par, h.pnd⟩
variable {q b : Nat} {ds : List Int}
/-- names drawn of the classes so far -/
theorem pick_lc (hd : T[fd]? = some ⟨nm1, 2, 3, B_law_draw⟩) {S : Sto} (B : Box b q ds 0 S) (hk : 0 < k) {rc n : Nat} (K : Sk cs n) (hn : n ≤ 5) (hr : S[rc]? = some (.lst (cs.map Row.enc))) (hb : rc ≠ b) (p : Nat) {x1 x3 x4 x5 x7 : Option D} :
    ∃ (l : List Nat) (p' : Nat), ev G (call G T k) (.lc [6] (.idx (.var 6) (.lit (.int 0))) (.nm 6) (.any (.var 2)) (.yes (.cmp .eq (.call fd [.var 0, .lit (.int 3)]) (.lit (.int 0))))) [some (.ref b), x1, some (.ref rc), x3, x4, x5, none, x7] (mv S b q p) = some (.ref S.length, mv S b q p' ++ [.lst (l.map sN)]) ∧ (∀ x ∈ l, x ∈ nms cs) ∧ l.Nodup := by
  have hrm : ∀ p y, (mv S b q p ++ y)[rc]? = some (.lst (cs.map Row.enc)) := fun p y => by
    have hlt : rc < S.length := (List.getElem?_eq_some_iff.mp hr).1
    rw [List.getElem?_append_left (by rw [mv_len]; exact hlt)]
    unfold mv
    rw [List.getElem?_set_ne (Ne.symm hb)]
    exact hr
  obtain ⟨s', e, l, p', hs, h1⟩ := ev_lc_inv (G := G) (C := call G T k) (ρ := [some (.ref b), x1, some (.ref rc), x3, x4, x5, none, x7]) (st := mv S b q p) (vs := [6]) (elt := .idx (.var 6) (.lit (.int 0))) (tg := .nm 6) (it := .any (.var 2)) (cc := .yes (.cmp .eq (.call fd [.var 0, .lit (.int 3)]) (.lit (.int 0)))) (w := ⟨cs.map Row.enc, [(rc, .lst (cs.map Row.enc))]⟩) (s1 := mv S b q p)
    (fun j s => ∃ l p', s = mv S b q p' ++ [.lst (l.map sN)] ∧ l.Sublist ((nms cs).take j))
    (by rw [evI_any]; simp only [ev_var, List.getElem?_cons_zero, List.getElem?_cons_succ]; rw [walk_lst (by have := hrm p []; rwa [List.append_nil] at this)]; rfl) (fun j s ⟨l, p', hs, _⟩ => by
      intro pr hpr
      simp only [List.mem_singleton] at hpr
      subst hpr
      rw [hs]
      exact hrm p' _) ⟨[], p, by simp, List.nil_sublist _⟩ (fun j d s hj ⟨l, p', hs, hl⟩ => by
      subst hs
      have hj' : (cs.map Row.enc)[j]? = some d := hj
      rw [List.getElem?_map] at hj'
      obtain ⟨r, hr1, rfl⟩ := Option.map_eq_some_iff.mp hj'
      have tk : (nms cs).take (j + 1) = (nms cs).take j ++ [r.nm] := by
        rw [List.take_add_one]
        unfold nms
        rw [List.getElem?_map, hr1]
        rfl
      have dr := draw_mv (G := G) (k := k) hd (B.app [.lst (l.map sN)]) hk p' (m := 3) (by decide)
      rw [← mv_app B, ← mv_app B] at dr
      refine ⟨[some (.ref b), x1, some (.ref rc), x3, x4, x5, some r.enc, x7], mv S b q p' ++ [.lst (l.map sN)], by simp only [wipe, List.foldl, List.set_cons_succ, List.set_cons_zero, asg_nm], ?_⟩
      by_cases q0 : dv ds p' 3 = 0
      · refine .inr ⟨mv S b q (p' + 1) ++ [.lst (l.map sN)], sN r.nm, mv S b q (p' + 1) ++ [.lst (l.map sN)], mv S b q (p' + 1) ++ [.lst ((l ++ [r.nm]).map sN)], by simp only [evC_yes, evT_cmp, ev_call, evs_cons, evs_nil, ev_var, ev_lit, List.getElem?_cons_zero, List.getElem?_cons_succ, dr, cmp_eq, eq_int, Option.map_some, q0, decide_true], by simp only [ev_idx, ev_var, ev_lit, List.getElem?_cons_zero, List.getElem?_cons_succ]; rfl, ?_, l ++ [r.nm], p' + 1, rfl, ?_⟩
        · have ll := hl.length_le
          rw [List.length_take] at ll
          have e2 : (nms cs).length = cs.length := List.length_map ..
          have e3 := K.len
          have := push_top (st := mv S b q (p' + 1)) (xs := l.map sN) (d := sN r.nm) (by rw [List.length_map]; omega)
          rw [mv_len] at this
          rw [mv_len, this, List.map_append]
          rfl
        · rw [tk]
          exact hl.append (List.Sublist.refl _)
      · refine .inl ⟨mv S b q (p' + 1) ++ [.lst (l.map sN)], by simp only [evC_yes, evT_cmp, ev_call, evs_cons, evs_nil, ev_var, ev_lit, List.getElem?_cons_zero, List.getElem?_cons_succ, dr, cmp_eq, eq_int, Option.map_some, q0, decide_false], l, p' + 1, rfl, ?_⟩
        rw [tk]
        exact hl.trans (List.sublist_append_left _ _))
  rw [mv_len, hs] at e
  have h2 : l.Sublist (nms cs) := h1.trans (List.take_sublist _ _)
  exact ⟨l, p', e, fun x hx => h2.subset hx, h2.nodup K.nd⟩
/-- what a class answers -/
theorem told_lc (hd : T[fd]? = some ⟨nm1, 2, 3, B_law_draw⟩) {S : Sto} (B : Box b q ds 0 S) (hk : 0 < k) (p : Nat) {x1 x2 x3 x4 x5 x6 : Option D} :
    ∃ (t : List D) (p' : Nat), ev G (call G T k) (.lc [7] (.tup [.var 7, .call fd [.var 0, .lit (.int 9)]]) (.nm 7) (.any (.lst [.lit (.str [103, 111]), .lit (.str [114, 117, 110]), .lit (.str [115, 97, 121])])) (.yes (.cmp .eq (.call fd [.var 0, .lit (.int 3)]) (.lit (.int 0))))) [some (.ref b), x1, x2, x3, x4, x5, x6, none] (mv S b q p) = some (.ref (S.length + 1), mv S b q p' ++ [.lst [.str [103, 111], .str [114, 117, 110], .str [115, 97, 121]], .lst t]) ∧ D.pures t = true := by
  let ws : List D := [.str [103, 111], .str [114, 117, 110], .str [115, 97, 121]]
  have B1 := B.app [.lst ws]
  obtain ⟨s', e, t, p', hs, h1, _⟩ := ev_lc_inv (G := G) (C := call G T k) (ρ := [some (.ref b), x1, x2, x3, x4, x5, x6, none]) (st := mv S b q p) (vs := [7]) (elt := .tup [.var 7, .call fd [.var 0, .lit (.int 9)]]) (tg := .nm 7) (it := .any (.lst [.lit (.str [103, 111]), .lit (.str [114, 117, 110]), .lit (.str [115, 97, 121])])) (cc := .yes (.cmp .eq (.call fd [.var 0, .lit (.int 3)]) (.lit (.int 0)))) (w := ⟨ws, [(S.length, .lst ws)]⟩) (s1 := mv (S ++ [.lst ws]) b q p)
    (fun j s => ∃ t p', s = mv (S ++ [.lst ws]) b q p' ++ [.lst t] ∧ D.pures t = true ∧ t.length ≤ j)
    (by
      rw [evI_any]
      simp only [ev_lst, evs_cons, evs_nil, ev_lit, mv_len]
      rw [mv_app B, walk_lst (xs := ws) (by rw [← mv_app B, List.getElem?_append_right (by rw [mv_len]; exact Nat.le_refl _), mv_len, Nat.sub_self]; rfl)]
      rfl) (fun j s ⟨t, p', hs, _⟩ => by
      intro pr hpr
      simp only [List.mem_singleton] at hpr
      subst hpr
      rw [hs, ← mv_app B, List.append_assoc, List.getElem?_append_right (by rw [mv_len]; exact Nat.le_refl _), mv_len, Nat.sub_self]
      rfl) ⟨[], p, by simp, rfl, by simp⟩ (fun j d s hj ⟨t, p', hs, ht, hl⟩ => by
      subst hs
      have dr := fun (m : Int) p' (hm : 0 < m) => draw_mv (G := G) (k := k) hd (B1.app [.lst t]) hk p' (m := m) hm
      simp only [← mv_app B1] at dr
      have hj3 : j < 3 := (List.getElem?_eq_some_iff.mp hj).1
      have dp : d.pure = true := by
        have hm := List.mem_of_getElem? hj
        simp only [ws, List.mem_cons, List.not_mem_nil, or_false] at hm
        rcases hm with rfl | rfl | rfl <;> rfl
      refine ⟨[some (.ref b), x1, x2, x3, x4, x5, x6, some d], mv (S ++ [.lst ws]) b q p' ++ [.lst t], by simp only [wipe, List.foldl, List.set_cons_succ, List.set_cons_zero, asg_nm], ?_⟩
      by_cases q0 : dv ds p' 3 = 0
      · refine .inr ⟨mv (S ++ [.lst ws]) b q (p' + 1) ++ [.lst t], .tup [d, .int (dv ds (p' + 1) 9)], mv (S ++ [.lst ws]) b q (p' + 1 + 1) ++ [.lst t], mv (S ++ [.lst ws]) b q (p' + 1 + 1) ++ [.lst (t ++ [.tup [d, .int (dv ds (p' + 1) 9)]])], by simp only [evC_yes, evT_cmp, ev_call, evs_cons, evs_nil, ev_var, ev_lit, List.getElem?_cons_zero, List.getElem?_cons_succ, dr 3 p' (by decide), cmp_eq, eq_int, Option.map_some, q0, decide_true], by simp only [ev_tup, ev_call, evs_cons, evs_nil, ev_var, ev_lit, List.getElem?_cons_zero, List.getElem?_cons_succ, dr 9 (p' + 1) (by decide)], ?_, _, _, rfl, ?_, by simp; omega⟩
        · have := push_top (st := mv (S ++ [.lst ws]) b q (p' + 1 + 1)) (xs := t) (d := .tup [d, .int (dv ds (p' + 1) 9)]) (by omega)
          rw [mv_len] at this
          rw [mv_len, this]
        · have : ∀ t : List D, D.pures t = true → D.pures (t ++ [.tup [d, .int (dv ds (p' + 1) 9)]]) = true := fun t ht => by
            induction t with
            | nil => simp [D.pures, D.pure, dp]
            | cons x t ih =>
              simp only [D.pures, Bool.and_eq_true] at ht
              rw [List.cons_append]
              simp only [D.pures, ht.1, ih ht.2, Bool.and_self]
          exact this t ht
      · exact .inl ⟨mv (S ++ [.lst ws]) b q (p' + 1) ++ [.lst t], by simp only [evC_yes, evT_cmp, ev_call, evs_cons, evs_nil, ev_var, ev_lit, List.getElem?_cons_zero, List.getElem?_cons_succ, dr 3 p' (by decide), cmp_eq, eq_int, Option.map_some, q0, decide_false], t, p' + 1, rfl, ht, by omega⟩)
  rw [mv_len, List.length_append, hs, ← mv_app B, List.append_assoc] at e
  exact ⟨t, p', e, h1⟩
end
end CL

namespace CL
open PySem PySem.Spec PyProof.Rows L2
/-! NX: classes drawn, flags (k78). -/
section
variable {G : List D} {T : List Fn} {f fp fa ff fn fd fu k : Nat} {nm nm1 nm2 nm3 : Str} {st : Sto} {cs : List Row} {a q b : Nat} {ds : List Int}
theorem mv_set {S : Sto} {p rc : Nat} {o : O} (h : rc ≠ b) : (mv S b q p).set rc o = mv (S.set rc o) b q p := by
  unfold mv
  rw [List.set_comm _ _ (Ne.symm h)]
theorem mv_get {S : Sto} {p rc : Nat} (h : rc ≠ b) : (mv S b q p)[rc]? = S[rc]? := by
  unfold mv
  rw [List.getElem?_set_ne (Ne.symm h)]
def c8 (b r : Nat) (x3 x4 x5 : Option D) : En := [some (.ref b), some (.int 5), some (.ref r), x3, x4, x5, none, none]
theorem sc_step (hd : T[fd]? = some ⟨nm1, 2, 3, B_law_draw⟩) (B : Box b q ds 0 st) (hk : 0 < k) {j : Nat} (K : Sk cs j) (hj : j < 5) (g : Sto) (p : Nat) (x4 x5 : Option D) :
    ∃ cs' y4 y5 p' g', exs G (call G T k) (scBody fd) (c8 b st.length (some (.int (j : Int))) x4 x5) (mv (st ++ [.lst (cs.map Row.enc)] ++ g) b q p) = some (.nx, c8 b st.length (some (.int (j : Int))) y4 y5, mv (st ++ [.lst (cs'.map Row.enc)] ++ g') b q p') ∧ Sk cs' (j + 1) := by
  have hb : st.length ≠ b := fun e => absurd B.lt (by omega)
  obtain ⟨S, hS⟩ : ∃ S, S = st ++ [O.lst (cs.map Row.enc)] ++ g := ⟨_, rfl⟩
  have hr : ∀ y, (S ++ y)[st.length]? = some (.lst (cs.map Row.enc)) := fun y => by rw [hS, List.append_assoc, List.append_assoc, List.getElem?_append_right (Nat.le_refl _)]; simp
  have hr0 : S[st.length]? = some (.lst (cs.map Row.enc)) := by have := hr []; rwa [List.append_nil] at this
  have BS : Box b q ds 0 S := by rw [hS]; exact (B.app _).app _
  obtain ⟨l, p1, e1, l1, l2⟩ := pick_lc (G := G) (k := k) hd BS hk K (by omega) hr0 hb p (x1 := some (.int 5)) (x3 := some (.int (j : Int))) (x4 := x4) (x5 := x5) (x7 := none)
  rw [mv_app BS] at e1
  obtain ⟨S2, hS2⟩ : ∃ S2, S2 = S ++ [O.lst (l.map sN)] := ⟨_, rfl⟩
  have B2 : Box b q ds 0 S2 := by rw [hS2]; exact BS.app _
  rw [← hS2] at e1
  have d2 := draw_mv (G := G) (k := k) hd B2 hk p1 (m := 3) (by decide)
  have q2 : S2[S.length]? = some (.lst (l.map sN)) := by rw [hS2]; simp
  have sb : S.length ≠ b := fun e => absurd BS.lt (by omega)
  -- turned about or not
  have turn : ∃ (r4 : Nat) (l' : List Nat) (g3 : Sto), ex G (call G T k) (.ifs (.cmp .eq (.call fd [.var 0, .lit (.int 3)]) (.lit (.int 0))) [.asg (.nm 4) (.rev (.var 4))] []) (c8 b st.length (some (.int (j : Int))) (some (.ref S.length)) x5) (mv S2 b q p1) = some (.nx, c8 b st.length (some (.int (j : Int))) (some (.ref r4)) x5, mv (S2 ++ g3) b q (p1 + 1)) ∧ (S2 ++ g3)[r4]? = some (.lst (l'.map sN)) ∧ r4 ≠ b ∧ (∀ x ∈ l', x ∈ nms cs) ∧ l'.Nodup := by
    by_cases z : dv ds p1 3 = 0
    · refine ⟨S2.length, l.reverse, [.lst (l.reverse.map sN)], ?_, by simp, fun e => absurd B2.lt (by omega), fun x hx => l1 x (List.mem_reverse.mp hx), List.pairwise_reverse.mpr (l2.imp Ne.symm)⟩
      have q3 : (mv S2 b q (p1 + 1))[S.length]? = some (.lst (l.map sN)) := by rw [mv_get sb]; exact q2
      unfold c8
      simp only [ex_ifs, evT_cmp, ev_call, evs_cons, evs_nil, ev_var, ev_lit, List.getElem?_cons_zero, List.getElem?_cons_succ, d2, cmp_eq, eq_int, z, decide_true, Option.map_some, exs_cons, exs_nil, ex_asg, ev_rev, q3, asg_nm, List.set_cons_succ, List.set_cons_zero, mv_len, lstAt]
      rw [mv_app B2, List.map_reverse]
    · refine ⟨S.length, l, [], ?_, by rw [List.append_nil]; exact q2, sb, l1, l2⟩
      unfold c8
      simp only [ex_ifs, evT_cmp, ev_call, evs_cons, evs_nil, ev_var, ev_lit, List.getElem?_cons_zero, List.getElem?_cons_succ, d2, cmp_eq, eq_int, z, decide_false, Option.map_some, exs_nil, List.append_nil]
  obtain ⟨r4, l', g3, e2, q4, rb, n1, n2⟩ := turn
  obtain ⟨S3, hS3⟩ : ∃ S3, S3 = S2 ++ g3 := ⟨_, rfl⟩
  have B3 : Box b q ds 0 S3 := by rw [hS3]; exact B2.app _
  rw [← hS3] at e2 q4
  obtain ⟨t, p3, e3, t1⟩ := told_lc (G := G) (k := k) hd B3 hk (p1 + 1) (x1 := some (.int 5)) (x2 := some (.ref st.length)) (x3 := some (.int (j : Int))) (x4 := some (.ref r4)) (x5 := x5) (x6 := none)
  rw [mv_app B3] at e3
  obtain ⟨S4, hS4⟩ : ∃ S4, S4 = S3 ++ [O.lst [.str [103, 111], .str [114, 117, 110], .str [115, 97, 121]], .lst t] := ⟨_, rfl⟩
  rw [← hS4] at e3
  have hr4 : S4[st.length]? = some (.lst (cs.map Row.enc)) := by
    rw [hS4, hS3, hS2, List.append_assoc, List.append_assoc]
    exact hr _
  have q5 : S4[r4]? = some (.lst (l'.map sN)) := by
    rw [hS4, List.getElem?_append_left (List.getElem?_eq_some_iff.mp q4).1]; exact q4
  have q6 : S4[S3.length + 1]? = some (.lst t) := by
    rw [hS4, List.getElem?_append_right (by omega), Nat.add_sub_cancel_left]; rfl
  have b3 : S3.length + 1 ≠ b := fun e => absurd B3.lt (by omega)
  have tp : ∀ r xs, r ≠ b → S4[r]? = some (.lst xs) → blt .tuple [.ref r] (mv S4 b q p3) = some (.tup xs, mv S4 b q p3) := fun r xs h1 h2 => by
    have : (mv S4 b q p3)[r]? = some (.lst xs) := by rw [mv_get h1]; exact h2
    simp only [blt, seqAt, lstAt, this]
  have ix : idxop (.str [65, 66, 67, 68, 69, 70, 71]) (.int (j : Int)) (mv S4 b q p3) = some (sN (65 + j)) := by
    rw [idx_str, at_nn (by omega), Int.toNat_natCast]
    match j, hj with
    | 0, _ => rfl
    | 1, _ => rfl
    | 2, _ => rfl
    | 3, _ => rfl
    | 4, _ => rfl
  have hr5 : (mv S4 b q p3)[st.length]? = some (.lst (cs.map Row.enc)) := by rw [mv_get hb]; exact hr4
  have ap := m_append (d := (Row.mk (65 + j) l' t).enc) hr5 (by rw [List.length_map, K.len, szL]; omega)
  have hm := (mty_lst hr5).1
  rw [mv_set hb] at ap
  refine ⟨cs ++ [Row.mk (65 + j) l' t], some (.ref r4), some (.ref (S3.length + 1)), p3, g ++ [.lst (l.map sN)] ++ g3 ++ [.lst [.str [103, 111], .str [114, 117, 110], .str [115, 97, 121]], .lst t], ?_, K.add n1 n2 t1⟩
  rw [← hS]
  have se : S4.set st.length (.lst (cs.map Row.enc ++ [(Row.mk (65 + j) l' t).enc])) = st ++ [.lst ((cs ++ [Row.mk (65 + j) l' t]).map Row.enc)] ++ (g ++ [.lst (l.map sN)] ++ g3 ++ [.lst [.str [103, 111], .str [114, 117, 110], .str [115, 97, 121]], .lst t]) := by
    rw [hS4, hS3, hS2, hS]
    simp
  rw [se] at ap
  unfold scBody
  refine exs_nx (ρ' := c8 b st.length (some (.int (j : Int))) (some (.ref S.length)) x5) (s' := mv S2 b q p1) (by unfold c8; simp only [ex_asg, e1, asg_nm, List.set_cons_succ, List.set_cons_zero]) ?_
  refine exs_nx e2 ?_
  refine exs_nx (ρ' := c8 b st.length (some (.int (j : Int))) (some (.ref r4)) (some (.ref (S3.length + 1)))) (s' := mv S4 b q p3) (by unfold c8; simp only [ex_asg, e3, asg_nm, List.set_cons_succ, List.set_cons_zero]) ?_
  refine exs_nx (ρ' := c8 b st.length (some (.int (j : Int))) (some (.ref r4)) (some (.ref (S3.length + 1)))) ?_ exs_nil
  unfold c8
  have en : (Row.mk (65 + j) l' t).enc = .tup [sN (65 + j), .tup (l'.map sN), .tup t] := rfl
  rw [en] at ap
  simp only [ex_exp, ev_mth, ev_var, List.getElem?_cons_zero, List.getElem?_cons_succ, evs_cons, evs_nil, ev_tup, ev_idx, ev_lit, ix, Option.map_some, ev_blt, tp r4 _ rb q5, tp _ _ b3 q6, hm, if_true, ap]
theorem classes_ok (h : T[f]? = some ⟨nm, 2, 8, B_law_some_classes fd⟩) (hd : T[fd]? = some ⟨nm1, 2, 3, B_law_draw⟩) (B : Box b q ds 0 st) (hk : 0 < k) (p : Nat) : ∃ cs n p', call G T (k + 1) f [.ref b, .int 5] (mv st b q p) = some (cE cs, mv st b q p') ∧ Sk cs n ∧ 1 ≤ n ∧ n ≤ 5 := by
  obtain ⟨n, hn⟩ : ∃ n : Nat, dv ds p 5 = (n : Int) := ⟨(dv ds p 5).toNat, by have := dv_bd (ds := ds) (p := p) (m := 5) (by decide); omega⟩
  have nb : n < 5 := by have := dv_bd (ds := ds) (p := p) (m := 5) (by decide); omega
  have d1 := draw_mv (G := G) (k := k) hd (B.app [.lst []]) hk p (m := 5) (by decide)
  rw [hn] at d1
  have i1 : ∀ s, binop .add (.int 1) (.int (n : Int)) s = some (.int ((n + 1 : Nat) : Int), s) := fun s => by rw [bin_add]; congr 3; omega
  have L := ex_for (G := G) (C := call G T k) (tg := .nm 3) (it := .rng [.bin .add (.lit (.int 1)) (.call fd [.var 0, .var 1])]) (w := ⟨(List.range (n + 1)).map fun k => .int (k : Nat), []⟩) (s1 := mv (st ++ [.lst []]) b q (p + 1)) (ρ := c8 b st.length none none none) (st := mv (st ++ [.lst []]) b q p) (x := scBody fd)
    (fun j ρ s => ∃ cs x3 x4 x5 p' g, ρ = c8 b st.length x3 x4 x5 ∧ s = mv (st ++ [.lst (cs.map Row.enc)] ++ g) b q p' ∧ Sk cs j)
    (evI_rng1 (n := n + 1) (by unfold c8; simp only [ev_bin, ev_lit, ev_call, evs_cons, evs_nil, ev_var, List.getElem?_cons_zero, List.getElem?_cons_succ, d1, i1]) (by omega)) (fun _ _ _ _ => ok_nil) ⟨[], none, none, none, p + 1, [], rfl, by simp, ⟨rfl, fun r hr => (by cases hr), fun r hr => (by cases hr), fun r hr => (by cases hr)⟩⟩ (fun j d ρ s hj ⟨cs, x3, x4, x5, p', g, hρ, hs, K⟩ => by
      obtain ⟨hj, rfl⟩ := rng_get hj
      subst hρ
      subst hs
      obtain ⟨cs', y4, y5, p2, g', e, K'⟩ := sc_step (G := G) (k := k) hd B hk K (by omega) g p' x4 x5
      exact ⟨c8 b st.length (some (.int (j : Int))) x4 x5, _, by rw [asg_nm]; rfl, _, _, e, cs', _, y4, y5, p2, g', rfl, rfl, K'⟩)
  obtain ⟨ρ', s', eL, cs, x3, x4, x5, p', g, hρ, hs, K⟩ := L
  simp only [List.length_map, List.length_range] at K
  subst hρ
  subst hs
  have hb : st.length ≠ b := fun e => absurd B.lt (by omega)
  refine ⟨cs, n + 1, p', ?_, K, by omega, by omega⟩
  have tp : blt .tuple [.ref st.length] (mv (st ++ [.lst (cs.map Row.enc)] ++ g) b q p') = some (cE cs, mv (st ++ [.lst (cs.map Row.enc)] ++ g) b q p') := by
    have : (mv (st ++ [.lst (cs.map Row.enc)] ++ g) b q p')[st.length]? = some (.lst (cs.map Row.enc)) := by rw [mv_get hb, List.append_assoc, List.getElem?_append_right (Nat.le_refl _)]; simp
    simp only [blt, seqAt, lstAt, this, cE]
  refine call_rt h rfl (ρ' := c8 b st.length x3 x4 x5) (s' := mv (st ++ [.lst (cs.map Row.enc)] ++ g) b q p') (d := cE cs) ?_ (by rw [List.append_assoc]; exact B.gcml (cE_pure K))
  unfold B_law_some_classes
  show exs G (call G T k) _ [some (.ref b), some (.int 5), none, none, none, none, none, none] (mv st b q p) = _
  refine exs_nx (ρ' := c8 b st.length none none none) (s' := mv (st ++ [.lst []]) b q p) (by unfold c8; simp only [ex_asg, ev_lst, evs_nil, asg_nm, mv_len, List.set_cons_succ, List.set_cons_zero, mv_app B]) ?_
  refine exs_nx eL ?_
  exact exs_rt (by unfold c8; simp only [ex_ret, ev_blt, evs_cons, evs_nil, ev_var, List.getElem?_cons_zero, List.getElem?_cons_succ, tp])
/-! ### a flag that falls -/
def flB (fu n : Nat) (e1 e2 : E) : List S := [.ifs (.and (.cmp .ne e1 e2) (.cmp .notin e2 (.call fu [.var 2, e1]))) [.asg (.nm n) (.lit (.bl false))] []]
theorem flag_ok (hu : T[fu]? = some ⟨nm, 2, 8, B_law_all_above⟩) (K : Okc cs) {ρ : En} {e1 e2 : E} {n c : Nat} {x : Bool} (h1 : ∀ s, ev G (call G T (k + 1)) e1 ρ s = some (sN a, s)) (h2 : ∀ s, ev G (call G T (k + 1)) e2 ρ s = some (sN c, s)) (hc : ρ[2]? = some (some (cE cs))) (hn : ρ[n]? = some (some (.bl x))) (ha : a ∈ nms cs) (s : Sto) : ∃ g, exs G (call G T (k + 1)) (flB fu n e1 e2) ρ s = some (.nx, ρ.set n (some (.bl (x && le1 cs a c))), s ++ g) := by
  have same : ρ.set n (some (.bl x)) = ρ := by
    obtain ⟨hlt, he⟩ := List.getElem?_eq_some_iff.mp hn
    rw [← he]
    exact List.set_getElem_self hlt
  have up := lup_ok (G := G) (k := k) (st := s) hu K ha
  have i1 := in_sNr (st := s ++ [.lst ((ups cs a).map sN)]) (a := c) (r := s.length) (l := ups cs a) (by simp)
  unfold flB
  by_cases q1 : a = c
  · refine ⟨[], ?_⟩
    have : le1 cs a c = true := by simp [le1, q1]
    rw [this, Bool.and_true, same]
    simp only [exs_cons, exs_nil, ex_ifs, evT_and, evT_cmp, h1, h2, cmp_ne, eq_sN, q1, decide_true, Option.map_some, Bool.not_true, List.append_nil]
  · by_cases q2 : c ∈ ups cs a
    · refine ⟨[.lst ((ups cs a).map sN)], ?_⟩
      have : le1 cs a c = true := by simp [le1, q2]
      rw [this, Bool.and_true, same]
      simp only [exs_cons, exs_nil, ex_ifs, evT_and, evT_cmp, h1, h2, cmp_ne, eq_sN, q1, decide_false, Option.map_some, Bool.not_false, ev_call, evs_cons, evs_nil, ev_var, hc, up, cmp_notin, i1, q2, decide_true, Bool.not_true]
    · refine ⟨[.lst ((ups cs a).map sN)], ?_⟩
      have : le1 cs a c = false := by simp [le1, q1, q2]
      rw [this, Bool.and_false]
      simp only [exs_cons, exs_nil, ex_ifs, evT_and, evT_cmp, h1, h2, cmp_ne, eq_sN, q1, decide_false, Option.map_some, Bool.not_false, ev_call, evs_cons, evs_nil, ev_var, hc, up, cmp_notin, i1, q2, ex_asg, ev_lit, asg_nm]
/-- a name drawn -/
theorem name_ok (hd : T[fd]? = some ⟨nm1, 2, 3, B_law_draw⟩) {S : Sto} (B : Box b q ds 0 S) (hk : 0 < k) {rn : Nat} (hb : rn ≠ b) (hr : S[rn]? = some (.lst ((nms cs).map sN))) (h0 : 0 < (nms cs).length) {ρ : En} (h1 : ρ[1]? = some (some (.ref b))) (h3 : ρ[3]? = some (some (.ref rn))) (p : Nat) : ∃ a, a ∈ nms cs ∧ ev G (call G T k) (.idx (.var 3) (.call fd [.var 1, .blt .len [.var 3]])) ρ (mv S b q p) = some (sN a, mv S b q (p + 1)) := by
  have hm : ∀ p, (mv S b q p)[rn]? = some (.lst ((nms cs).map sN)) := fun p => by rw [mv_get hb]; exact hr
  have ln := u_lenl (hm p)
  rw [List.length_map] at ln
  have dr := draw_mv (G := G) (k := k) hd B hk p (m := ((nms cs).length : Int)) (by omega)
  have bd := dv_bd (ds := ds) (p := p) (m := ((nms cs).length : Int)) (by omega)
  obtain ⟨i, hi⟩ : ∃ i : Nat, dv ds p ((nms cs).length : Int) = (i : Int) := ⟨(dv ds p ((nms cs).length : Int)).toNat, by omega⟩
  have il : i < (nms cs).length := by omega
  refine ⟨(nms cs)[i], List.getElem_mem il, ?_⟩
  rw [hi] at dr
  have ix : idxop (.ref rn) (.int (i : Int)) (mv S b q (p + 1)) = some (sN (nms cs)[i]) := by
    rw [idx_lst (hm (p + 1)), at_nn (by omega), Int.toNat_natCast, List.getElem?_map, List.getElem?_eq_getElem il]
    rfl
  simp only [ev_idx, ev_var, h3, ev_call, evs_cons, evs_nil, h1, ev_blt, ln, dr, ix, Option.map_some]
end
end CL

namespace CL
open PySem PySem.Spec PyProof.Rows L2
def B_law_19 (c_law_all_above c_law_box c_law_draw c_law_same c_law_some_classes c_best_way c_fits_kinds : Nat) : List S :=
  [.asg (.nm 1) (.call c_law_box [.var 0, .lit (.int 0), .lit (.int 62)]), .asg (.nm 2) (.call c_law_some_classes [.var 1, .lit (.int 5)]), .asg (.nm 3) (.lc [13] (.idx (.var 13) (.lit (.int 0))) (.nm 13) (.any (.var 2)) .no), .asg (.nm 4) (.blt .tuple [.lc [7] (.tup [.idx (.var 3) (.call c_law_draw [.var 1, .blt .len [.var 3]]), .idx (.var 3) (.call c_law_draw [.var 1, .blt .len [.var 3]])]) (.nm 7) (.rng [.call c_law_draw [.var 1, .lit (.int 6)]]) .no]), .asg (.nm 5) (.tup [.idx (.var 3) (.call c_law_draw [.var 1, .blt .len [.var 3]]), .idx (.var 3) (.call c_law_draw [.var 1, .blt .len [.var 3]])]), .asg (.nm 6) (.lst []), .frr (.nm 7) (.rng [.blt .len [.var 4]]) [.asg (.nm 10) (.lit (.bl true)), .frr (.nm 11) (.rng [.lit (.int 2)]) [.ifs (.and (.cmp .ne (.idx (.var 5) (.var 11)) (.idx (.idx (.var 4) (.var 7)) (.var 11))) (.cmp .notin (.idx (.idx (.var 4) (.var 7)) (.var 11)) (.call c_law_all_above [.var 2, .idx (.var 5) (.var 11)]))) [.asg (.nm 10) (.lit (.bl false))] []], .ifs (.not (.tru (.call c_law_same [.call c_fits_kinds [.var 2, .idx (.var 4) (.var 7), .var 5], .var 10]))) [.ret (.lit (.bl false))] [], .ifs (.tru (.var 10)) [.exp (.mth .append (.var 6) [.var 7])] []], .asg (.nm 8) (.lst []), .frr (.nm 7) (.any (.var 6)) [.asg (.nm 12) (.lit (.bl false)), .frr (.nm 11) (.any (.var 6)) [.asg (.nm 14) (.cmp .ne (.idx (.var 4) (.var 11)) (.idx (.var 4) (.var 7))), .frr (.nm 15) (.rng [.lit (.int 2)]) [.ifs (.and (.cmp .ne (.idx (.idx (.var 4) (.var 11)) (.var 15)) (.idx (.idx (.var 4) (.var 7)) (.var 15))) (.cmp .notin (.idx (.idx (.var 4) (.var 7)) (.var 15)) (.call c_law_all_above [.var 2, .idx (.idx (.var 4) (.var 11)) (.var 15)]))) [.asg (.nm 14) (.lit (.bl false))] []], .asg (.nm 12) (.or (.var 12) (.var 14))], .ifs (.not (.tru (.var 12))) [.exp (.mth .append (.var 8) [.var 7])] []], .asg (.nm 9) (.tup [.lit (.str [109, 97, 110, 121]), .blt .tuple [.var 8]]), .ifs (.cmp .eq (.blt .len [.var 8]) (.lit (.int 0))) [.asg (.nm 9) (.tup [.lit (.str [110, 111, 110, 101])])] [], .ifs (.cmp .eq (.blt .len [.var 8]) (.lit (.int 1))) [.asg (.nm 9) (.tup [.lit (.str [119, 97, 121]), .idx (.var 8) (.lit (.int 0))])] [], .ret (.call c_law_same [.call c_best_way [.var 2, .var 4, .var 5], .var 9])]
def lE (cs : List Row) (ws : List (Nat × Nat)) (o : Nat × Nat) (rn rf : Nat) (x7 x8 x9 x10 x11 x12 x14 x15 : Option D) : En := [some (.ref 0), some (.ref 2), some (cE cs), some (.ref rn), some (wsE ws), some (pE o), some (.ref rf), x7, x8, x9, x10, x11, x12, none, x14, x15]
def lb1 : List S := [.asg (.nm 10) (.lit (.bl true)), .frr (.nm 11) (.rng [.lit (.int 2)]) [.ifs (.and (.cmp .ne (.idx (.var 5) (.var 11)) (.idx (.idx (.var 4) (.var 7)) (.var 11))) (.cmp .notin (.idx (.idx (.var 4) (.var 7)) (.var 11)) (.call 10 [.var 2, .idx (.var 5) (.var 11)]))) [.asg (.nm 10) (.lit (.bl false))] []], .ifs (.not (.tru (.call 11 [.call 2 [.var 2, .idx (.var 4) (.var 7), .var 5], .var 10]))) [.ret (.lit (.bl false))] [], .ifs (.tru (.var 10)) [.exp (.mth .append (.var 6) [.var 7])] []]
def lb2 : List S := [.asg (.nm 12) (.lit (.bl false)), .frr (.nm 11) (.any (.var 6)) [.asg (.nm 14) (.cmp .ne (.idx (.var 4) (.var 11)) (.idx (.var 4) (.var 7))), .frr (.nm 15) (.rng [.lit (.int 2)]) [.ifs (.and (.cmp .ne (.idx (.idx (.var 4) (.var 11)) (.var 15)) (.idx (.idx (.var 4) (.var 7)) (.var 15))) (.cmp .notin (.idx (.idx (.var 4) (.var 7)) (.var 15)) (.call 10 [.var 2, .idx (.idx (.var 4) (.var 11)) (.var 15)]))) [.asg (.nm 14) (.lit (.bl false))] []], .asg (.nm 12) (.or (.var 12) (.var 14))], .ifs (.not (.tru (.var 12))) [.exp (.mth .append (.var 8) [.var 7])] []]
def lb3 : List S := [.asg (.nm 14) (.cmp .ne (.idx (.var 4) (.var 11)) (.idx (.var 4) (.var 7))), .frr (.nm 15) (.rng [.lit (.int 2)]) [.ifs (.and (.cmp .ne (.idx (.idx (.var 4) (.var 11)) (.var 15)) (.idx (.idx (.var 4) (.var 7)) (.var 15))) (.cmp .notin (.idx (.idx (.var 4) (.var 7)) (.var 15)) (.call 10 [.var 2, .idx (.idx (.var 4) (.var 11)) (.var 15)]))) [.asg (.nm 14) (.lit (.bl false))] []], .asg (.nm 12) (.or (.var 12) (.var 14))]
end CL
namespace K78
open PySem L2 CL
def top (i : Nat) : Stmt := PySem.Challenge.pw_sensehouse_k78_the_nearest_way.main.body.getD i (.Pass ⟨0, 0, 0, 0⟩)
def d0 : Df := ⟨top 1, "parents_of", ["classes", "name"], ["classes", "name", "row"], false, B_parents_of⟩
def d1 : Df := ⟨top 2, "above", ["classes", "name"], ["classes", "name", "found", "place", "row", "own"], true, B_above 0⟩
def d2 : Df := ⟨top 3, "fits_kinds", ["classes", "kinds", "names"], ["classes", "kinds", "names", "name", "kind"], true, B_fits_kinds 1⟩
def d3 : Df := ⟨top 4, "is_nearer", ["classes", "kinds", "others"], ["classes", "kinds", "others"], false, B_is_nearer 2⟩
def d4 : Df := ⟨top 5, "best_way", ["classes", "ways", "names"], ["classes", "ways", "names", "fitting", "best", "number", "kinds", "other"], true, B_best_way 2 3⟩
def d5 : Df := ⟨top 7, "_law_box", ["script", "first", "last"], ["script", "first", "last"], false, B_law_box 6⟩
def d6 : Df := ⟨top 8, "_law_digits", ["script", "first", "last"], ["script", "first", "last", "digits", "k", "cell", "turn", "seed"], false, B_law_digits 7⟩
def d7 : Df := ⟨top 9, "_law_cell", ["script", "k"], ["script", "k"], false, B_law_cell⟩
def d8 : Df := ⟨top 10, "_law_some_classes", ["box", "most"], ["box", "most", "classes", "k", "parents", "told", "row", "word"], false, B_law_some_classes 9⟩
def d9 : Df := ⟨top 11, "_law_draw", ["box", "many"], ["box", "many", "at"], false, B_law_draw⟩
def d10 : Df := ⟨top 12, "_law_all_above", ["classes", "name"], ["classes", "name", "found", "waiting", "turn", "own", "parent", "row"], false, B_law_all_above⟩
def d11 : Df := ⟨top 13, "_law_same", ["actual", "expected"], ["actual", "expected", "k"], false, B_law_same 11⟩
def d12 : Df := ⟨top 14, "law", ["script"], ["script", "box", "classes", "names", "ways", "own", "fits", "k", "best", "due", "good", "j", "beaten", "row", "nearer", "place"], false, B_law_19 10 5 9 11 8 4 2⟩
def T0 : Tab := ⟨[d0, d1, d2, d3, d4, d5, d6, d7, d8, d9, d10, d11, d12], [], ["len", "int", "list", "tuple", "str", "isinstance", "range", "enumerate", "zip", "bool", "any", "all"], []⟩
theorem tr : ∀ d ∈ T0.defs, T0.tr d = true := by decide +kernel
theorem sc : ∀ d ∈ T0.defs, d.scOk = true := by decide +kernel

section
/-- what the law leans on -/
structure Tb (T : List Fn) : Prop where
  t0 : T[0]? = some ⟨"parents_of", 2, 3, B_parents_of⟩
  t1 : T[1]? = some ⟨"above", 2, 6, B_above 0⟩
  t2 : T[2]? = some ⟨"fits_kinds", 3, 5, B_fits_kinds 1⟩
  t3 : T[3]? = some ⟨"is_nearer", 3, 3, B_is_nearer 2⟩
  t4 : T[4]? = some ⟨"best_way", 3, 8, B_best_way 2 3⟩
  t5 : T[5]? = some ⟨"_law_box", 3, 3, B_law_box 6⟩
  t6 : T[6]? = some ⟨"_law_digits", 3, 8, B_law_digits 7⟩
  t7 : T[7]? = some ⟨"_law_cell", 2, 2, B_law_cell⟩
  t8 : T[8]? = some ⟨"_law_some_classes", 2, 8, B_law_some_classes 9⟩
  t9 : T[9]? = some ⟨"_law_draw", 2, 3, B_law_draw⟩
  t10 : T[10]? = some ⟨"_law_all_above", 2, 8, B_law_all_above⟩
  t11 : T[11]? = some ⟨"_law_same", 2, 3, B_law_same 11⟩
  t12 : T[12]? = some ⟨"law", 1, 16, B_law_19 10 5 9 11 8 4 2⟩
theorem tb : Tb T0.fns := ⟨rfl, rfl, rfl, rfl, rfl, rfl, rfl, rfl, rfl, rfl, rfl, rfl, rfl⟩
end
theorem gc_bl {st : Sto} (b : Bool) (s : Sto) : gc st (.bl b) s = (.bl b, (gc st (.bl b) s).2) := by
  unfold gc
  split
  · rw [if_pos (by rfl)]
  · rfl
section
variable {G : List D} {T : List Fn} {cs : List Row} {ws : List (Nat × Nat)} {o : Nat × Nat} {rn rf : Nat} {x7 x8 x9 x10 x11 x12 x14 x15 : Option D}
theorem rng2 {C : Cl} {ρ : En} {s : Sto} : evI G C (.rng [.lit (.int 2)]) ρ s = some (⟨[.int 0, .int 1], []⟩, s) := evI_rng1 (n := 2) (by simp) (by decide)
theorem c01 (w : Nat × Nat) : ∀ s, idxop (pE w) (.int 0) s = some (sN w.1) ∧ idxop (pE w) (.int 1) s = some (sN w.2) := fun _ => ⟨rfl, rfl⟩
theorem fit_loop (F : Tb T) (K : Okc cs) (Ow : Wok cs o) {i : Nat} (hi : i < ws.length) (s : Sto) : ∃ g, ex G (call G T 109) (.frr (.nm 11) (.rng [.lit (.int 2)]) (flB 10 10 (.idx (.var 5) (.var 11)) (.idx (.idx (.var 4) (.var 7)) (.var 11)))) (lE cs ws o rn rf (some (.int (i : Int))) x8 x9 (some (.bl true)) x11 x12 x14 x15) s = some (.nx, lE cs ws o rn rf (some (.int (i : Int))) x8 x9 (some (.bl (fitB cs o (wy ws i)))) (some (.int 1)) x12 x14 x15, s ++ g) := by
  have iw := fun s => idx_ws (s := s) hi
  obtain ⟨g1, e1⟩ := flag_ok (G := G) (k := 108) (a := o.1) (c := (wy ws i).1) (x := true) (n := 10) (e1 := .idx (.var 5) (.var 11)) (e2 := .idx (.idx (.var 4) (.var 7)) (.var 11)) (ρ := lE cs ws o rn rf (some (.int (i : Int))) x8 x9 (some (.bl true)) (some (.int 0)) x12 x14 x15) F.t10 K (fun s => by unfold lE; simp only [ev_idx, ev_var, List.getElem?_cons_zero, List.getElem?_cons_succ, (c01 o s).1, Option.map_some]) (fun s => by unfold lE; simp only [ev_idx, ev_var, List.getElem?_cons_zero, List.getElem?_cons_succ, iw, (c01 _ s).1, Option.map_some]) rfl rfl Ow.l s
  obtain ⟨g2, e2⟩ := flag_ok (G := G) (k := 108) (a := o.2) (c := (wy ws i).2) (x := true && le1 cs o.1 (wy ws i).1) (n := 10) (e1 := .idx (.var 5) (.var 11)) (e2 := .idx (.idx (.var 4) (.var 7)) (.var 11)) (ρ := lE cs ws o rn rf (some (.int (i : Int))) x8 x9 (some (.bl (true && le1 cs o.1 (wy ws i).1))) (some (.int 1)) x12 x14 x15) F.t10 K (fun s => by unfold lE; simp only [ev_idx, ev_var, List.getElem?_cons_zero, List.getElem?_cons_succ, (c01 o s).2, Option.map_some]) (fun s => by unfold lE; simp only [ev_idx, ev_var, List.getElem?_cons_zero, List.getElem?_cons_succ, iw, (c01 _ s).2, Option.map_some]) rfl rfl Ow.r (s ++ g1)
  refine ⟨g1 ++ g2, ?_⟩
  rw [ex_frr, rng2]
  unfold lE at e1 e2 ⊢
  simp only [List.set_cons_succ, List.set_cons_zero, Bool.true_and] at e1 e2
  simp only [loopF_cons, asg_nm, List.set_cons_succ, List.set_cons_zero, e1, e2, loopF_nil, Bool.true_and, fitB, List.append_assoc]
theorem near_loop (F : Tb T) (K : Okc cs) {i j : Nat} (hi : i < ws.length) (hj : j < ws.length) (Wi : Wok cs (wy ws i)) (x : Bool) (s : Sto) : ∃ g, ex G (call G T 109) (.frr (.nm 15) (.rng [.lit (.int 2)]) (flB 10 14 (.idx (.idx (.var 4) (.var 11)) (.var 15)) (.idx (.idx (.var 4) (.var 7)) (.var 15)))) (lE cs ws o rn rf (some (.int (j : Int))) x8 x9 x10 (some (.int (i : Int))) x12 (some (.bl x)) x15) s = some (.nx, lE cs ws o rn rf (some (.int (j : Int))) x8 x9 x10 (some (.int (i : Int))) x12 (some (.bl (x && fitB cs (wy ws i) (wy ws j)))) (some (.int 1)), s ++ g) := by
  have iw := fun s => idx_ws (s := s) hi
  have jw := fun s => idx_ws (s := s) hj
  obtain ⟨g1, e1⟩ := flag_ok (G := G) (k := 108) (a := (wy ws i).1) (c := (wy ws j).1) (x := x) (n := 14) (e1 := .idx (.idx (.var 4) (.var 11)) (.var 15)) (e2 := .idx (.idx (.var 4) (.var 7)) (.var 15)) (ρ := lE cs ws o rn rf (some (.int (j : Int))) x8 x9 x10 (some (.int (i : Int))) x12 (some (.bl x)) (some (.int 0))) F.t10 K (fun s => by unfold lE; simp only [ev_idx, ev_var, List.getElem?_cons_zero, List.getElem?_cons_succ, iw, (c01 _ s).1, Option.map_some]) (fun s => by unfold lE; simp only [ev_idx, ev_var, List.getElem?_cons_zero, List.getElem?_cons_succ, jw, (c01 _ s).1, Option.map_some]) rfl rfl Wi.l s
  obtain ⟨g2, e2⟩ := flag_ok (G := G) (k := 108) (a := (wy ws i).2) (c := (wy ws j).2) (x := x && le1 cs (wy ws i).1 (wy ws j).1) (n := 14) (e1 := .idx (.idx (.var 4) (.var 11)) (.var 15)) (e2 := .idx (.idx (.var 4) (.var 7)) (.var 15)) (ρ := lE cs ws o rn rf (some (.int (j : Int))) x8 x9 x10 (some (.int (i : Int))) x12 (some (.bl (x && le1 cs (wy ws i).1 (wy ws j).1))) (some (.int 1))) F.t10 K (fun s => by unfold lE; simp only [ev_idx, ev_var, List.getElem?_cons_zero, List.getElem?_cons_succ, iw, (c01 _ s).2, Option.map_some]) (fun s => by unfold lE; simp only [ev_idx, ev_var, List.getElem?_cons_zero, List.getElem?_cons_succ, jw, (c01 _ s).2, Option.map_some]) rfl rfl Wi.r (s ++ g1)
  refine ⟨g1 ++ g2, ?_⟩
  rw [ex_frr, rng2]
  unfold lE at e1 e2 ⊢
  simp only [List.set_cons_succ, List.set_cons_zero, Bool.true_and] at e1 e2
  simp only [loopF_cons, asg_nm, List.set_cons_succ, List.set_cons_zero, e1, e2, loopF_nil, Bool.and_assoc, fitB, List.append_assoc]
theorem b1_step (F : Tb T) (K : Okc cs) (Ow : Wok cs o) (W : ∀ w ∈ ws, Wok cs w) (Z : Sto) {i : Nat} (hi : i < ws.length) (h6 : ws.length ≤ 100) (g : Sto) (l : List Nat) (hl : l.length ≤ 100) : ∃ y10 y11 g', exs G (call G T 109) lb1 (lE cs ws o rn Z.length (some (.int (i : Int))) x8 x9 x10 x11 x12 x14 x15) (Z ++ [.lst (iE l)] ++ g) = some (.nx, lE cs ws o rn Z.length (some (.int (i : Int))) x8 x9 y10 y11 x12 x14 x15, Z ++ [.lst (iE (if fitB cs o (wy ws i) then l ++ [i] else l))] ++ g') := by
  obtain ⟨g1, e1⟩ := fit_loop (G := G) (ws := ws) (rn := rn) (rf := Z.length) (x8 := x8) (x9 := x9) (x11 := x11) (x12 := x12) (x14 := x14) (x15 := x15) F K Ow hi (Z ++ [.lst (iE l)] ++ g)
  obtain ⟨v, hv⟩ : ∃ v, v = fitB cs o (wy ws i) := ⟨_, rfl⟩
  rw [← hv] at e1
  have S0e : Z ++ [O.lst (iE l)] ++ g ++ g1 = Z ++ [O.lst (iE l)] ++ (g ++ g1) := by rw [List.append_assoc]
  rw [S0e] at e1
  obtain ⟨S, hS⟩ : ∃ S, S = Z ++ [O.lst (iE l)] ++ (g ++ g1) := ⟨_, rfl⟩
  have hr : S[Z.length]? = some (.lst (iE l)) := by rw [hS, List.append_assoc, List.getElem?_append_right (Nat.le_refl _)]; simp
  rw [← hS] at e1
  have ef := fits_k (G := G) (k := 106) (st := S) F.t2 F.t1 F.t0 K (o := o) (w := wy ws i) Ow.l Ow.r
  rw [← hv] at ef
  replace ef : call G T 109 2 [cE cs, pE (wy ws i), pE o] S = some (.bl v, S) := ef
  have sm := same_ok (G := G) F.t11 109 (.bl v) S rfl (by simp [D.dep]) (by simp [D.wid])
  have ap := m_append (d := .int (i : Int)) hr (by rw [szL]; unfold iE; simp; omega)
  have hm := (mty_lst hr).1
  have se : S.set Z.length (.lst (iE l ++ [.int (i : Int)])) = Z ++ [.lst (iE (l ++ [i]))] ++ (g ++ g1) := by
    rw [hS]
    simp [iE]
  rw [se] at ap
  have iw := idx_ws (s := S) hi
  refine ⟨some (.bl v), some (.int 1), g ++ g1, ?_⟩
  rw [← hv]
  unfold lb1
  refine exs_nx (ρ' := lE cs ws o rn Z.length (some (.int (i : Int))) x8 x9 (some (.bl true)) x11 x12 x14 x15) (s' := Z ++ [.lst (iE l)] ++ g) (by unfold lE; simp only [ex_ifs, ex_asg, ex_ret, evT_or, evT_not, evT_tru, evT_cmp, ev_cmp, ev_call, evs_cons, evs_nil, ev_var, ev_lit, ev_tup, ev_blt, ev_idx, ev_bin, List.getElem?_cons_zero, List.getElem?_cons_succ, tr_bl, Option.map_some, Bool.not_true, asg_nm, asg_tp, seq_tup, List.length_cons, List.length_nil, if_true, asgs_cons, asgs_nil, List.set_cons_succ, List.set_cons_zero, exs_nil]) ?_
  refine exs_nx e1 ?_
  refine exs_nx (ρ' := lE cs ws o rn Z.length (some (.int (i : Int))) x8 x9 (some (.bl v)) (some (.int 1)) x12 x14 x15) (s' := S) (by unfold lE; simp only [ex_ifs, ex_asg, ex_ret, evT_or, evT_not, evT_tru, evT_cmp, ev_cmp, ev_call, evs_cons, evs_nil, ev_var, ev_lit, ev_tup, ev_blt, ev_idx, ev_bin, List.getElem?_cons_zero, List.getElem?_cons_succ, tr_bl, Option.map_some, Bool.not_true, asg_nm, asg_tp, seq_tup, List.length_cons, List.length_nil, if_true, asgs_cons, asgs_nil, List.set_cons_succ, List.set_cons_zero, exs_nil, iw, ef, sm]) ?_
  refine exs_nx ?_ exs_nil
  unfold lE
  cases v
  · simp only [ex_ifs, ex_asg, ex_ret, evT_or, evT_not, evT_tru, evT_cmp, ev_cmp, ev_call, evs_cons, evs_nil, ev_var, ev_lit, ev_tup, ev_blt, ev_idx, ev_bin, List.getElem?_cons_zero, List.getElem?_cons_succ, tr_bl, Option.map_some, Bool.not_true, asg_nm, asg_tp, seq_tup, List.length_cons, List.length_nil, if_true, asgs_cons, asgs_nil, List.set_cons_succ, List.set_cons_zero, exs_nil, Bool.false_eq_true, if_false, hS]
  · simp only [ex_ifs, ex_asg, ex_ret, evT_or, evT_not, evT_tru, evT_cmp, ev_cmp, ev_call, evs_cons, evs_nil, ev_var, ev_lit, ev_tup, ev_blt, ev_idx, ev_bin, List.getElem?_cons_zero, List.getElem?_cons_succ, tr_bl, Option.map_some, Bool.not_true, asg_nm, asg_tp, seq_tup, List.length_cons, List.length_nil, if_true, asgs_cons, asgs_nil, List.set_cons_succ, List.set_cons_zero, exs_nil, exs_cons, ex_exp, ev_mth, hm, ap]
theorem b3_step (F : Tb T) (K : Okc cs) (W : ∀ w ∈ ws, Wok cs w) {i j : Nat} (hi : i < ws.length) (hj : j < ws.length) (y : Bool) (s : Sto) : ∃ y14 y15 g', exs G (call G T 109) lb3 (lE cs ws o rn rf (some (.int (j : Int))) x8 x9 x10 (some (.int (i : Int))) (some (.bl y)) x14 x15) s = some (.nx, lE cs ws o rn rf (some (.int (j : Int))) x8 x9 x10 (some (.int (i : Int))) (some (.bl (y || near cs ws i j))) y14 y15, s ++ g') := by
  obtain ⟨g1, e1⟩ := near_loop (G := G) (o := o) (rn := rn) (rf := rf) (x8 := x8) (x9 := x9) (x10 := x10) (x12 := some (.bl y)) (x15 := x15) F K hi hj (wy_ok W hi) (decide (wy ws i ≠ wy ws j)) s
  have e0 : (decide (wy ws i ≠ wy ws j) && fitB cs (wy ws i) (wy ws j)) = near cs ws i j := rfl
  rw [e0] at e1
  have iw := idx_ws (s := s) hi
  have jw := idx_ws (s := s) hj
  refine ⟨some (.bl (near cs ws i j)), some (.int 1), g1, ?_⟩
  unfold lb3
  have dn : (!decide (wy ws i = wy ws j)) = decide (wy ws i ≠ wy ws j) := by simp
  refine exs_nx (ρ' := lE cs ws o rn rf (some (.int (j : Int))) x8 x9 x10 (some (.int (i : Int))) (some (.bl y)) (some (.bl (decide (wy ws i ≠ wy ws j)))) x15) (s' := s) (by unfold lE; simp only [ex_ifs, ex_asg, ex_ret, evT_or, evT_not, evT_tru, evT_cmp, ev_cmp, ev_call, evs_cons, evs_nil, ev_var, ev_lit, ev_tup, ev_blt, ev_idx, ev_bin, List.getElem?_cons_zero, List.getElem?_cons_succ, tr_bl, Option.map_some, Bool.not_true, asg_nm, asg_tp, seq_tup, List.length_cons, List.length_nil, if_true, asgs_cons, asgs_nil, List.set_cons_succ, List.set_cons_zero, exs_nil, iw, jw, cmp_ne, eq_pE, dn]) ?_
  refine exs_nx e1 ?_
  refine exs_nx ?_ exs_nil
  unfold lE
  cases y
  · simp only [ex_ifs, ex_asg, ex_ret, evT_or, evT_not, evT_tru, evT_cmp, ev_cmp, ev_call, evs_cons, evs_nil, ev_var, ev_lit, ev_tup, ev_blt, ev_idx, ev_bin, List.getElem?_cons_zero, List.getElem?_cons_succ, tr_bl, Option.map_some, Bool.not_true, asg_nm, asg_tp, seq_tup, List.length_cons, List.length_nil, if_true, asgs_cons, asgs_nil, List.set_cons_succ, List.set_cons_zero, exs_nil, ev_or, Bool.false_or]
  · simp only [ex_ifs, ex_asg, ex_ret, evT_or, evT_not, evT_tru, evT_cmp, ev_cmp, ev_call, evs_cons, evs_nil, ev_var, ev_lit, ev_tup, ev_blt, ev_idx, ev_bin, List.getElem?_cons_zero, List.getElem?_cons_succ, tr_bl, Option.map_some, Bool.not_true, asg_nm, asg_tp, seq_tup, List.length_cons, List.length_nil, if_true, asgs_cons, asgs_nil, List.set_cons_succ, List.set_cons_zero, exs_nil, ev_or, Bool.true_or]
theorem b2_step (F : Tb T) (K : Okc cs) (W : ∀ w ∈ ws, Wok cs w) (Z : Sto) {L : List Nat} (hL : ∀ i ∈ L, i < ws.length) (hl : L.length ≤ 100) {j : Nat} (hj : j < ws.length) (m : List Nat) (hm : m.length ≤ 100) (g g0 : Sto) : ∃ y11 y12 y14 y15 g', exs G (call G T 109) lb2 (lE cs ws o rn Z.length (some (.int (j : Int))) (some (.ref (Z ++ [O.lst (iE L)] ++ g0).length)) x9 x10 x11 x12 x14 x15) (Z ++ [.lst (iE L)] ++ g0 ++ [.lst (iE m)] ++ g) = some (.nx, lE cs ws o rn Z.length (some (.int (j : Int))) (some (.ref (Z ++ [O.lst (iE L)] ++ g0).length)) x9 x10 y11 y12 y14 y15, Z ++ [.lst (iE L)] ++ g0 ++ [.lst (iE (if L.any fun i => near cs ws i j then m else m ++ [j]))] ++ g') := by
  obtain ⟨S, hS⟩ : ∃ S, S = Z ++ [O.lst (iE L)] ++ g0 := ⟨_, rfl⟩
  have hrL : ∀ y, (S ++ y)[Z.length]? = some (.lst (iE L)) := fun y => by rw [hS, List.append_assoc, List.append_assoc, List.getElem?_append_right (Nat.le_refl _)]; simp
  rw [← hS]
  have Lp := ex_for (G := G) (C := call G T 109) (tg := .nm 11) (it := .any (.var 6)) (w := ⟨iE L, [(Z.length, .lst (iE L))]⟩) (s1 := S ++ [.lst (iE m)] ++ g) (ρ := lE cs ws o rn Z.length (some (.int (j : Int))) (some (.ref S.length)) x9 x10 x11 (some (.bl false)) x14 x15) (st := S ++ [.lst (iE m)] ++ g) (x := lb3)
    (fun t ρ s => ∃ y11 y14 y15 g', ρ = lE cs ws o rn Z.length (some (.int (j : Int))) (some (.ref S.length)) x9 x10 y11 (some (.bl ((L.take t).any fun i => near cs ws i j))) y14 y15 ∧ s = S ++ [.lst (iE m)] ++ g')
    (by rw [evI_any]; unfold lE; simp only [ev_var, List.getElem?_cons_zero, List.getElem?_cons_succ]; rw [walk_lst (xs := iE L) (by rw [List.append_assoc]; exact hrL _)]; rfl) (fun t ρ s ⟨_, _, _, g', _, hs⟩ p hp => by
      simp only [List.mem_singleton] at hp
      subst hp
      rw [hs, List.append_assoc]
      exact hrL _) ⟨x11, x14, x15, g, rfl, rfl⟩ (fun t d ρ s ht ⟨y11, y14, y15, g', hρ, hs⟩ => by
      subst hρ
      subst hs
      have ht' : (iE L)[t]? = some d := ht
      unfold iE at ht'
      rw [List.getElem?_map] at ht'
      obtain ⟨i, hi, rfl⟩ := Option.map_eq_some_iff.mp ht'
      have hil := hL i (List.mem_of_getElem? hi)
      obtain ⟨z14, z15, g2, e⟩ := b3_step (G := G) (o := o) (rn := rn) (rf := Z.length) (x8 := some (.ref S.length)) (x9 := x9) (x10 := x10) (x14 := y14) (x15 := y15) F K W hil hj ((L.take t).any fun i => near cs ws i j) (S ++ [.lst (iE m)] ++ g')
      refine ⟨lE cs ws o rn Z.length (some (.int (j : Int))) (some (.ref S.length)) x9 x10 (some (.int (i : Int))) (some (.bl ((L.take t).any fun i => near cs ws i j))) y14 y15, S ++ [.lst (iE m)] ++ g', by rw [asg_nm]; rfl, _, _, e, some (.int (i : Int)), z14, z15, g' ++ g2, ?_, by rw [List.append_assoc]⟩
      have tk : (L.take (t + 1)).any (fun i => near cs ws i j) = ((L.take t).any (fun i => near cs ws i j) || near cs ws i j) := by
        rw [List.take_add_one, hi, List.any_append]
        simp
      rw [tk])
  obtain ⟨ρ', s', eL, y11, y14, y15, g1, hρ, hs⟩ := Lp
  subst hρ
  subst hs
  have tk : L.take (iE L).length = L := by unfold iE; rw [List.length_map]; exact List.take_length
  simp only [tk] at eL
  obtain ⟨v, hv⟩ : ∃ v, v = L.any fun i => near cs ws i j := ⟨_, rfl⟩
  rw [← hv] at eL ⊢
  have hr8 : (S ++ [O.lst (iE m)] ++ g1)[S.length]? = some (.lst (iE m)) := by rw [List.append_assoc, List.getElem?_append_right (Nat.le_refl _)]; simp
  have ap := m_append (d := .int (j : Int)) hr8 (by rw [szL]; unfold iE; simp; omega)
  have hmt := (mty_lst hr8).1
  have se : (S ++ [O.lst (iE m)] ++ g1).set S.length (.lst (iE m ++ [.int (j : Int)])) = S ++ [.lst (iE (m ++ [j]))] ++ g1 := by simp [iE]
  rw [se] at ap
  refine ⟨y11, some (.bl v), y14, y15, g1, ?_⟩
  unfold lb2
  refine exs_nx (ρ' := lE cs ws o rn Z.length (some (.int (j : Int))) (some (.ref S.length)) x9 x10 x11 (some (.bl false)) x14 x15) (s' := S ++ [.lst (iE m)] ++ g) (by unfold lE; simp only [ex_ifs, ex_asg, ex_ret, evT_or, evT_not, evT_tru, evT_cmp, ev_cmp, ev_call, evs_cons, evs_nil, ev_var, ev_lit, ev_tup, ev_blt, ev_idx, ev_bin, List.getElem?_cons_zero, List.getElem?_cons_succ, tr_bl, Option.map_some, Bool.not_true, asg_nm, asg_tp, seq_tup, List.length_cons, List.length_nil, if_true, asgs_cons, asgs_nil, List.set_cons_succ, List.set_cons_zero, exs_nil]) ?_
  refine exs_nx eL ?_
  refine exs_nx ?_ exs_nil
  unfold lE
  cases v
  · simp only [ex_ifs, ex_asg, ex_ret, evT_or, evT_not, evT_tru, evT_cmp, ev_cmp, ev_call, evs_cons, evs_nil, ev_var, ev_lit, ev_tup, ev_blt, ev_idx, ev_bin, List.getElem?_cons_zero, List.getElem?_cons_succ, tr_bl, Option.map_some, Bool.not_true, asg_nm, asg_tp, seq_tup, List.length_cons, List.length_nil, if_true, asgs_cons, asgs_nil, List.set_cons_succ, List.set_cons_zero, exs_nil, Bool.not_false, exs_cons, ex_exp, ev_mth, hmt, ap, Bool.false_eq_true, if_false]
  · simp only [ex_ifs, ex_asg, ex_ret, evT_or, evT_not, evT_tru, evT_cmp, ev_cmp, ev_call, evs_cons, evs_nil, ev_var, ev_lit, ev_tup, ev_blt, ev_idx, ev_bin, List.getElem?_cons_zero, List.getElem?_cons_succ, tr_bl, Option.map_some, Bool.not_true, asg_nm, asg_tp, seq_tup, List.length_cons, List.length_nil, if_true, asgs_cons, asgs_nil, List.set_cons_succ, List.set_cons_zero, exs_nil]
end
theorem law_any (G : List D) : LawTrue T0 G 110 12 := by
  intro ns ob hl ho
  obtain ⟨ds, s1, e1, l1, B1, st1⟩ := box_ok (G := G) (T := T0.fns) (f := 5) (k := 106) (st := [ob]) (s := 0) (a := 0) (b := 62) rfl rfl rfl (c := 6) (c' := 7) rfl ho (by decide) (by decide)
  simp only [List.length_cons, List.length_nil] at e1 l1 B1
  replace e1 : CL.call G T0.fns 109 5 [.ref 0, .int 0, .int 62] [ob] = some (.ref 2, s1) := e1
  have F := tb
  generalize T0.fns = T at *
  replace B1 : Box 2 1 ds 0 s1 := B1
  replace l1 : s1.length = 3 := l1
  have self : mv s1 2 1 0 = s1 := B1.self
  obtain ⟨cs, n, p1, ec, Ks, n1, n5⟩ := classes_ok (G := G) (k := 108) F.t8 F.t9 B1 (by decide) 0
  rw [self] at ec
  replace ec : CL.call G T 109 8 [.ref 2, .int 5] s1 = some (cE cs, mv s1 2 1 p1) := ec
  have K := Ks.okc n5
  have csl := Ks.len
  have nl : (nms cs).length = n := by unfold nms; rw [List.length_map]; exact csl
  -- names
  have en := ev_lc_pure (G := G) (C := CL.call G T 109) (ρ := [some (.ref 0), some (.ref 2), some (cE cs), none, none, none, none, none, none, none, none, none, none, none, none, none]) (st := mv s1 2 1 p1) (vs := [13]) (elt := .idx (.var 13) (.lit (.int 0))) (tg := .nm 13) (it := .any (.var 2)) (c := .no) (w := ⟨cs.map Row.enc, []⟩) (s1 := mv s1 2 1 p1) (g := fun d => idxop d (.int 0) s1) (by rw [evI_any]; simp [cE]) (fun _ => ok_nil) (by rw [List.length_map, szL]; omega) (fun d hd l => by
      obtain ⟨r, hr, rfl⟩ := List.mem_map.mp hd
      have e1 : ∀ s, idxop r.enc (.int 0) s = some (sN r.nm) := fun _ => rfl
      simp only [gstep, CL.wipe, List.foldl, List.set_cons_succ, List.set_cons_zero, asg_nm, evC_no, ev_idx, ev_var, ev_lit, List.getElem?_cons_zero, List.getElem?_cons_succ, e1, Option.map_some])
  have fm : ∀ l : List Row, (l.map Row.enc).filterMap (fun d => idxop d (.int 0) s1) = (nms l).map sN := fun l => by
    unfold nms
    induction l with
    | nil => rfl
    | cons r l ih => rw [List.map_cons, List.filterMap_cons, ih]; rfl
  simp only [fm, mv_len, l1, mv_app B1] at en
  obtain ⟨S1, hS1⟩ : ∃ S1, S1 = s1 ++ [O.lst ((nms cs).map sN)] := ⟨_, rfl⟩
  have B2 : Box 2 1 ds 0 S1 := by rw [hS1]; exact B1.app _
  have hn3 : ∀ y, (S1 ++ y)[3]? = some (.lst ((nms cs).map sN)) := fun y => by rw [hS1, List.append_assoc, List.getElem?_append_right (by omega), l1]; rfl
  have hn3' : S1[3]? = some (.lst ((nms cs).map sN)) := by have := hn3 []; rwa [List.append_nil] at this
  have S1l : S1.length = 4 := by rw [hS1]; simp [l1]
  rw [← hS1] at en
  -- ways
  obtain ⟨m, hm⟩ : ∃ m : Nat, dv ds p1 6 = (m : Int) := ⟨(dv ds p1 6).toNat, by have := dv_bd (ds := ds) (p := p1) (m := 6) (by decide); omega⟩
  have mb : m < 6 := by have := dv_bd (ds := ds) (p := p1) (m := 6) (by decide); omega
  have dr6 := draw_mv (G := G) (k := 109) F.t9 B2 (by decide) p1 (m := 6) (by decide)
  rw [hm] at dr6
  obtain ⟨s', ew, ws, p2, hs', Wk, wl⟩ := ev_lc_inv (G := G) (C := CL.call G T 109) (ρ := [some (.ref 0), some (.ref 2), some (cE cs), some (.ref 3), none, none, none, none, none, none, none, none, none, none, none, none]) (st := mv S1 2 1 p1) (vs := [7]) (elt := .tup [.idx (.var 3) (.call 9 [.var 1, .blt .len [.var 3]]), .idx (.var 3) (.call 9 [.var 1, .blt .len [.var 3]])]) (tg := .nm 7) (it := .rng [.call 9 [.var 1, .lit (.int 6)]]) (cc := .no) (w := ⟨(List.range m).map fun k => .int (k : Nat), []⟩) (s1 := mv S1 2 1 (p1 + 1))
    (fun j s => ∃ l p', s = mv S1 2 1 p' ++ [.lst (l.map pE)] ∧ (∀ w ∈ l, Wok cs w) ∧ l.length = j)
    (evI_rng1 (n := m) (by simp only [ev_call, evs_cons, evs_nil, ev_var, ev_lit, List.getElem?_cons_zero, List.getElem?_cons_succ, dr6]) (by omega)) (fun _ _ _ => ok_nil) ⟨[], p1 + 1, rfl, fun w h => (by cases h), rfl⟩ (fun j d s hj ⟨l, p', hs, hw, hl⟩ => by
      subst hs
      obtain ⟨hj2, rfl⟩ := rng_get hj
      have BS := B2.app [O.lst (l.map pE)]
      obtain ⟨a1, ha1, e1⟩ := name_ok (G := G) (k := 109) (cs := cs) F.t9 BS (by decide) (rn := 3) (by decide) (hn3 _) (by omega) (ρ := [some (.ref 0), some (.ref 2), some (cE cs), some (.ref 3), none, none, none, some (.int (j : Int)), none, none, none, none, none, none, none, none]) rfl rfl p'
      obtain ⟨a2, ha2, e2⟩ := name_ok (G := G) (k := 109) (cs := cs) F.t9 BS (by decide) (rn := 3) (by decide) (hn3 _) (by omega) (ρ := [some (.ref 0), some (.ref 2), some (cE cs), some (.ref 3), none, none, none, some (.int (j : Int)), none, none, none, none, none, none, none, none]) rfl rfl (p' + 1)
      refine ⟨[some (.ref 0), some (.ref 2), some (cE cs), some (.ref 3), none, none, none, some (.int (j : Int)), none, none, none, none, none, none, none, none], mv (S1 ++ [O.lst (l.map pE)]) 2 1 p', by simp only [CL.wipe, List.foldl, List.set_cons_succ, List.set_cons_zero, asg_nm, mv_app B2], .inr ⟨mv (S1 ++ [O.lst (l.map pE)]) 2 1 p', pE (a1, a2), mv (S1 ++ [O.lst (l.map pE)]) 2 1 (p' + 1 + 1), mv S1 2 1 (p' + 1 + 1) ++ [.lst ((l ++ [(a1, a2)]).map pE)], by simp only [evC_no], by simp only [ev_tup, evs_cons, evs_nil, e1, e2]; rfl, ?_, l ++ [(a1, a2)], p' + 1 + 1, rfl, fun w h => ?_, by simp [hl]⟩⟩
      · rw [← mv_app B2]
        have := push_top (st := mv S1 2 1 (p' + 1 + 1)) (xs := l.map pE) (d := pE (a1, a2)) (by rw [List.length_map]; omega)
        rw [mv_len] at this
        rw [mv_len, this, List.map_append]
        rfl
      · rcases List.mem_append.mp h with h | h
        · exact hw w h
        · simp only [List.mem_singleton] at h
          subst h
          exact ⟨ha1, ha2⟩)
  subst hs'
  simp only [List.length_map, List.length_range] at wl
  rw [mv_len, mv_app B2] at ew
  obtain ⟨S2, hS2⟩ : ∃ S2, S2 = S1 ++ [O.lst (ws.map pE)] := ⟨_, rfl⟩
  have B3 : Box 2 1 ds 0 S2 := by rw [hS2]; exact B2.app _
  rw [← hS2] at ew
  have etw : blt .tuple [.ref S1.length] (mv S2 2 1 p2) = some (wsE ws, mv S2 2 1 p2) := by
    have : (mv S2 2 1 p2)[S1.length]? = some (.lst (ws.map pE)) := by rw [mv_get (by omega), hS2]; simp
    simp only [blt, seqAt, lstAt, this, wsE]
  have hn4 : S2[3]? = some (.lst ((nms cs).map sN)) := by rw [hS2]; exact hn3 _
  obtain ⟨o1, ho1, eo1⟩ := name_ok (G := G) (k := 109) (cs := cs) F.t9 B3 (by decide) (rn := 3) (by decide) hn4 (by omega) (ρ := [some (.ref 0), some (.ref 2), some (cE cs), some (.ref 3), some (wsE ws), none, none, none, none, none, none, none, none, none, none, none]) rfl rfl p2
  obtain ⟨o2, ho2, eo2⟩ := name_ok (G := G) (k := 109) (cs := cs) F.t9 B3 (by decide) (rn := 3) (by decide) hn4 (by omega) (ρ := [some (.ref 0), some (.ref 2), some (cE cs), some (.ref 3), some (wsE ws), none, none, none, none, none, none, none, none, none, none, none]) rfl rfl (p2 + 1)
  obtain ⟨o, hoo⟩ : ∃ o : Nat × Nat, o = (o1, o2) := ⟨_, rfl⟩
  have Ow : Wok cs o := by rw [hoo]; exact ⟨ho1, ho2⟩
  have eo : ev G (CL.call G T 109) (.tup [.idx (.var 3) (.call 9 [.var 1, .blt .len [.var 3]]), .idx (.var 3) (.call 9 [.var 1, .blt .len [.var 3]])]) [some (.ref 0), some (.ref 2), some (cE cs), some (.ref 3), some (wsE ws), none, none, none, none, none, none, none, none, none, none, none] (mv S2 2 1 p2) = some (pE o, mv S2 2 1 (p2 + 1 + 1)) := by
    simp only [ev_tup, evs_cons, evs_nil, eo1, eo2, hoo]
    rfl
  obtain ⟨Z, hZ⟩ : ∃ Z, Z = mv S2 2 1 (p2 + 1 + 1) := ⟨_, rfl⟩
  rw [← hZ] at eo
  -- ways that fit
  have L1 := ex_for (G := G) (C := CL.call G T 109) (tg := .nm 7) (it := .rng [.blt .len [.var 4]]) (w := ⟨(List.range ws.length).map fun k => .int (k : Nat), []⟩) (s1 := Z ++ [.lst []]) (ρ := lE cs ws o 3 Z.length none none none none none none none none) (st := Z ++ [.lst []]) (x := lb1)
    (fun t ρ s => ∃ y7 y10 y11 g, ρ = lE cs ws o 3 Z.length y7 none none y10 y11 none none none ∧ s = Z ++ [.lst (iE ((List.range t).filter fun i => fitB cs o (wy ws i)))] ++ g)
    (evI_rng1 (n := ws.length) (by unfold lE; simp [wsE]) (by omega)) (fun _ _ _ _ => ok_nil) ⟨none, none, none, [], rfl, by simp [iE]⟩ (fun t d ρ s ht ⟨y7, y10, y11, g, hρ, hs⟩ => by
      obtain ⟨ht2, rfl⟩ := rng_get ht
      subst hρ
      subst hs
      obtain ⟨z10, z11, g', e⟩ := b1_step (G := G) (rn := 3) (x8 := none) (x9 := none) (x10 := y10) (x11 := y11) (x12 := none) (x14 := none) (x15 := none) F K Ow Wk Z ht2 (by omega) g ((List.range t).filter fun i => fitB cs o (wy ws i)) (Nat.le_trans (List.length_filter_le _ _) (by rw [List.length_range]; omega))
      refine ⟨lE cs ws o 3 Z.length (some (.int (t : Int))) none none y10 y11 none none none, _, by rw [asg_nm]; rfl, _, _, e, some (.int (t : Int)), z10, z11, g', rfl, ?_⟩
      have : (List.range (t + 1)).filter (fun i => fitB cs o (wy ws i)) = if fitB cs o (wy ws t) then (List.range t).filter (fun i => fitB cs o (wy ws i)) ++ [t] else (List.range t).filter fun i => fitB cs o (wy ws i) := by
        rw [List.range_succ, List.filter_append]
        cases q : fitB cs o (wy ws t) <;> simp [q]
      rw [this])
  obtain ⟨ρ1, z1, eL1, y7, y10, y11, g0, hρ1, hz1⟩ := L1
  subst hρ1
  subst hz1
  simp only [List.length_map, List.length_range] at eL1
  have hfi : (List.range ws.length).filter (fun i => fitB cs o (wy ws i)) = fi cs ws o := rfl
  rw [hfi] at eL1
  obtain ⟨L, hL⟩ : ∃ L, L = fi cs ws o := ⟨_, rfl⟩
  rw [← hL] at eL1
  have Llt : ∀ i ∈ L, i < ws.length := fun i hi => fi_lt (cs := cs) (o := o) (by rw [← hL]; exact hi)
  have Ll : L.length ≤ 100 := by
    rw [hL, ← hfi]
    exact Nat.le_trans (List.length_filter_le _ _) (by rw [List.length_range]; omega)
  obtain ⟨S, hS⟩ : ∃ S, S = Z ++ [O.lst (iE L)] ++ g0 := ⟨_, rfl⟩
  have hrL : ∀ y, (S ++ y)[Z.length]? = some (.lst (iE L)) := fun y => by rw [hS, List.append_assoc, List.append_assoc, List.getElem?_append_right (Nat.le_refl _)]; simp
  -- the nearest
  have L2 := ex_for (G := G) (C := CL.call G T 109) (tg := .nm 7) (it := .any (.var 6)) (w := ⟨iE L, [(Z.length, .lst (iE L))]⟩) (s1 := S ++ [.lst []]) (ρ := lE cs ws o 3 Z.length y7 (some (.ref S.length)) none y10 y11 none none none) (st := S ++ [.lst []]) (x := lb2)
    (fun t ρ s => ∃ z7 z11 z12 z14 z15 g, ρ = lE cs ws o 3 Z.length z7 (some (.ref S.length)) none y10 z11 z12 z14 z15 ∧ s = S ++ [.lst (iE ((L.take t).filter fun j => !L.any fun i => near cs ws i j))] ++ g)
    (by rw [evI_any]; unfold lE; simp only [ev_var, List.getElem?_cons_zero, List.getElem?_cons_succ]; rw [walk_lst (xs := iE L) (hrL _)]; rfl) (fun t ρ s ⟨_, _, _, _, _, g', _, hs⟩ p hp => by
      simp only [List.mem_singleton] at hp
      subst hp
      rw [hs, List.append_assoc]
      exact hrL _) ⟨y7, y11, none, none, none, [], rfl, by simp [iE]⟩ (fun t d ρ s ht ⟨z7, z11, z12, z14, z15, g, hρ, hs⟩ => by
      subst hρ
      subst hs
      have ht' : (iE L)[t]? = some d := ht
      unfold iE at ht'
      rw [List.getElem?_map] at ht'
      obtain ⟨j, hj, rfl⟩ := Option.map_eq_some_iff.mp ht'
      have hjl := Llt j (List.mem_of_getElem? hj)
      obtain ⟨w11, w12, w14, w15, g', e⟩ := b2_step (G := G) (o := o) (rn := 3) (x9 := none) (x10 := y10) (x11 := z11) (x12 := z12) (x14 := z14) (x15 := z15) F K Wk Z Llt Ll hjl ((L.take t).filter fun j => !L.any fun i => near cs ws i j) (Nat.le_trans (List.length_filter_le _ _) (by rw [List.length_take]; omega)) g g0
      rw [← hS] at e
      refine ⟨lE cs ws o 3 Z.length (some (.int (j : Int))) (some (.ref S.length)) none y10 z11 z12 z14 z15, _, by rw [asg_nm]; rfl, _, _, e, some (.int (j : Int)), w11, w12, w14, w15, g', rfl, ?_⟩
      have : (L.take (t + 1)).filter (fun j => !L.any fun i => near cs ws i j) = if (L.any fun i => near cs ws i j) = true then (L.take t).filter (fun j => !L.any fun i => near cs ws i j) else (L.take t).filter (fun j => !L.any fun i => near cs ws i j) ++ [j] := by
        rw [List.take_add_one, hj, List.filter_append]
        rcases Bool.eq_false_or_eq_true (L.any fun i => near cs ws i j) with q | q <;> simp [q]
      rw [this])
  obtain ⟨ρ2, z2, eL2, z7, z11, z12, z14, z15, g, hρ2, hz2⟩ := L2
  subst hρ2
  subst hz2
  have tk : L.take (iE L).length = L := by unfold iE; rw [List.length_map]; exact List.take_length
  simp only [tk] at eL2
  have hB : L.filter (fun j => !L.any fun i => near cs ws i j) = bsl cs ws o := by rw [hL]; rfl
  rw [hB] at eL2
  obtain ⟨Bs, hBs⟩ : ∃ Bs, Bs = bsl cs ws o := ⟨_, rfl⟩
  have Bl : Bs.length ≤ 100 := by rw [hBs, ← hB]; exact Nat.le_trans (List.length_filter_le _ _) Ll
  have eb := fun st => best_ok (G := G) (k := 104) (st := st) F.t4 F.t3 F.t2 F.t1 F.t0 K Wk Ow (by omega)
  rw [← hBs] at eL2
  simp only [← hBs] at eb
  replace eb : ∀ st, CL.call G T 109 4 [cE cs, wsE ws, pE o] st = some (dueW Bs, st) := eb
  obtain ⟨R, hR⟩ : ∃ R, R = S ++ [O.lst (iE Bs)] ++ g := ⟨_, rfl⟩
  have hr8 : R[S.length]? = some (.lst (iE Bs)) := by rw [hR, List.append_assoc, List.getElem?_append_right (Nat.le_refl _)]; simp
  rw [← hR] at eL2
  have iEl : (iE Bs).length = Bs.length := List.length_map ..
  have ln := u_lenl hr8
  have tp : blt .tuple [.ref S.length] R = some (.tup (iE Bs), R) := by simp only [blt, seqAt, lstAt, hr8]
  have sm := same_ok (G := G) F.t11 109 (dueW Bs) R (dueW_pure _) (by
    match Bs with
    | [] => simp [dueW, D.dep, D.deps]
    | [j] => simp [dueW, D.dep, D.deps]
    | i :: j :: l => simp only [dueW, D.dep, D.deps, (iE_dep _).1]; omega) (by
    match Bs, Bl with
    | [], _ => simp [dueW, D.wid, D.wids]
    | [j], _ => simp [dueW, D.wid, D.wids]
    | i :: j :: l, Bl => simp only [dueW, D.wid, D.wids, (iE_dep _).2, iEl, List.length_cons, List.length_nil] at Bl ⊢; omega)
  refine ⟨_, call_rt (fn := ⟨"law", 1, 16, B_law_19 10 5 9 11 8 4 2⟩) F.t12 rfl (ρ' := lE cs ws o 3 Z.length z7 (some (.ref S.length)) (some (dueW Bs)) y10 z11 z12 z14 z15) (s' := R) (d := .bl true) ?_ (gc_bl true _)⟩
  unfold B_law_19
  refine exs_nx (ρ' := [some (.ref 0), some (.ref 2), none, none, none, none, none, none, none, none, none, none, none, none, none, none]) (s' := s1) (by simp [e1]) ?_
  refine exs_nx (ρ' := [some (.ref 0), some (.ref 2), some (cE cs), none, none, none, none, none, none, none, none, none, none, none, none, none]) (s' := mv s1 2 1 p1) (by simp only [ex_ifs, ex_asg, ex_ret, evT_or, evT_not, evT_tru, evT_cmp, ev_cmp, ev_call, evs_cons, evs_nil, ev_var, ev_lit, ev_tup, ev_blt, ev_idx, ev_bin, List.getElem?_cons_zero, List.getElem?_cons_succ, tr_bl, Option.map_some, Bool.not_true, asg_nm, asg_tp, seq_tup, List.length_cons, List.length_nil, if_true, asgs_cons, asgs_nil, List.set_cons_succ, List.set_cons_zero, exs_nil, ec]) ?_
  refine exs_nx (ρ' := [some (.ref 0), some (.ref 2), some (cE cs), some (.ref 3), none, none, none, none, none, none, none, none, none, none, none, none]) (s' := mv S1 2 1 p1) (by simp only [ex_ifs, ex_asg, ex_ret, evT_or, evT_not, evT_tru, evT_cmp, ev_cmp, ev_call, evs_cons, evs_nil, ev_var, ev_lit, ev_tup, ev_blt, ev_idx, ev_bin, List.getElem?_cons_zero, List.getElem?_cons_succ, tr_bl, Option.map_some, Bool.not_true, asg_nm, asg_tp, seq_tup, List.length_cons, List.length_nil, if_true, asgs_cons, asgs_nil, List.set_cons_succ, List.set_cons_zero, exs_nil, en]) ?_
  refine exs_nx (ρ' := [some (.ref 0), some (.ref 2), some (cE cs), some (.ref 3), some (wsE ws), none, none, none, none, none, none, none, none, none, none, none]) (s' := mv S2 2 1 p2) (by simp only [ex_asg, ev_blt, evs_cons, evs_nil, ew, etw, asg_nm, List.set_cons_succ, List.set_cons_zero]) ?_
  refine exs_nx (ρ' := [some (.ref 0), some (.ref 2), some (cE cs), some (.ref 3), some (wsE ws), some (pE o), none, none, none, none, none, none, none, none, none, none]) (s' := Z) (by simp only [ex_asg, eo, asg_nm, List.set_cons_succ, List.set_cons_zero]) ?_
  refine exs_nx (ρ' := lE cs ws o 3 Z.length none none none none none none none none) (s' := Z ++ [.lst []]) (by unfold lE; simp only [ex_ifs, ex_asg, ex_ret, evT_or, evT_not, evT_tru, evT_cmp, ev_cmp, ev_call, evs_cons, evs_nil, ev_var, ev_lit, ev_tup, ev_blt, ev_idx, ev_bin, List.getElem?_cons_zero, List.getElem?_cons_succ, tr_bl, Option.map_some, Bool.not_true, asg_nm, asg_tp, seq_tup, List.length_cons, List.length_nil, if_true, asgs_cons, asgs_nil, List.set_cons_succ, List.set_cons_zero, exs_nil, ev_lst]) ?_
  refine exs_nx eL1 ?_
  rw [← hS]
  refine exs_nx (ρ' := lE cs ws o 3 Z.length y7 (some (.ref S.length)) none y10 y11 none none none) (s' := S ++ [.lst []]) (by unfold lE; simp only [ex_ifs, ex_asg, ex_ret, evT_or, evT_not, evT_tru, evT_cmp, ev_cmp, ev_call, evs_cons, evs_nil, ev_var, ev_lit, ev_tup, ev_blt, ev_idx, ev_bin, List.getElem?_cons_zero, List.getElem?_cons_succ, tr_bl, Option.map_some, Bool.not_true, asg_nm, asg_tp, seq_tup, List.length_cons, List.length_nil, if_true, asgs_cons, asgs_nil, List.set_cons_succ, List.set_cons_zero, exs_nil, ev_lst]) ?_
  refine exs_nx eL2 ?_
  refine exs_nx (ρ' := lE cs ws o 3 Z.length z7 (some (.ref S.length)) (some (.tup [.str [109, 97, 110, 121], .tup (iE Bs)])) y10 z11 z12 z14 z15) (s' := R) (by unfold lE; simp only [ex_ifs, ex_asg, ex_ret, evT_or, evT_not, evT_tru, evT_cmp, ev_cmp, ev_call, evs_cons, evs_nil, ev_var, ev_lit, ev_tup, ev_blt, ev_idx, ev_bin, List.getElem?_cons_zero, List.getElem?_cons_succ, tr_bl, Option.map_some, Bool.not_true, asg_nm, asg_tp, seq_tup, List.length_cons, List.length_nil, if_true, asgs_cons, asgs_nil, List.set_cons_succ, List.set_cons_zero, exs_nil, tp]) ?_
  have fin : ∀ _ : Option D, exs G (CL.call G T 109) [.ret (.call 11 [.call 4 [.var 2, .var 4, .var 5], .var 9])] (lE cs ws o 3 Z.length z7 (some (.ref S.length)) (some (dueW Bs)) y10 z11 z12 z14 z15) R = some (.rt (.bl true), lE cs ws o 3 Z.length z7 (some (.ref S.length)) (some (dueW Bs)) y10 z11 z12 z14 z15, R) := fun _ => by
    refine exs_rt ?_
    unfold lE
    simp only [ex_ifs, ex_asg, ex_ret, evT_or, evT_not, evT_tru, evT_cmp, ev_cmp, ev_call, evs_cons, evs_nil, ev_var, ev_lit, ev_tup, ev_blt, ev_idx, ev_bin, List.getElem?_cons_zero, List.getElem?_cons_succ, tr_bl, Option.map_some, Bool.not_true, asg_nm, asg_tp, seq_tup, List.length_cons, List.length_nil, if_true, asgs_cons, asgs_nil, List.set_cons_succ, List.set_cons_zero, exs_nil, eb, sm]
  rw [iEl] at ln
  match Bs, hr8, ln, tp, fin, iEl with
  | [], hr8, ln, tp, fin, iEl =>
    refine exs_nx (ρ' := lE cs ws o 3 Z.length z7 (some (.ref S.length)) (some (dueW [])) y10 z11 z12 z14 z15) (s' := R) (by unfold lE; simp [ln, dueW]) ?_
    refine exs_nx (ρ' := lE cs ws o 3 Z.length z7 (some (.ref S.length)) (some (dueW [])) y10 z11 z12 z14 z15) (s' := R) (by unfold lE; simp [ln, dueW]) ?_
    exact fin none
  | [j], hr8, ln, tp, fin, iEl =>
    refine exs_nx (ρ' := lE cs ws o 3 Z.length z7 (some (.ref S.length)) (some (.tup [.str [109, 97, 110, 121], .tup (iE [j])])) y10 z11 z12 z14 z15) (s' := R) (by unfold lE; simp [ln]) ?_
    refine exs_nx (ρ' := lE cs ws o 3 Z.length z7 (some (.ref S.length)) (some (dueW [j])) y10 z11 z12 z14 z15) (s' := R) (by unfold lE; simp [ln, dueW, idx_lst hr8, iE, at_nn]) ?_
    exact fin none
  | i :: j :: l, hr8, ln, tp, fin, iEl =>
    have l0 : ¬ (((i :: j :: l).length : Int) = 0) := by simp only [List.length_cons]; omega
    have l1 : ¬ (((i :: j :: l).length : Int) = 1) := by simp only [List.length_cons]; omega
    refine exs_nx (ρ' := lE cs ws o 3 Z.length z7 (some (.ref S.length)) (some (dueW (i :: j :: l))) y10 z11 z12 z14 z15) (s' := R) (by unfold lE; simp only [ex_ifs, evT_cmp, ev_blt, evs_cons, evs_nil, ev_var, List.getElem?_cons_zero, List.getElem?_cons_succ, ln, ev_lit, cmp_eq, eq_int, Option.map_some, l0, decide_false, exs_nil, dueW]) ?_
    refine exs_nx (ρ' := lE cs ws o 3 Z.length z7 (some (.ref S.length)) (some (dueW (i :: j :: l))) y10 z11 z12 z14 z15) (s' := R) (by unfold lE; simp only [ex_ifs, evT_cmp, ev_blt, evs_cons, evs_nil, ev_var, List.getElem?_cons_zero, List.getElem?_cons_succ, ln, ev_lit, cmp_eq, eq_int, Option.map_some, l1, decide_false, exs_nil]) ?_
    exact fin none
theorem law_true : LawTrue T0 [] 110 12 := law_any []
theorem all_mk {l : PySem.W.OpenLaw} {w : World} {K : PySem.W.Frag} {h : Heap} {mg : Str → Option Value} {fa f0 f1 f2 f3 f4 f5 f6 f7 f8 f9 f10 f11 f12 : Addr} {q : Program} (X : K.In h) (G : h.Ns mainGlobals mg) (hfa : mg "law" = some (.ref fa)) (hTab : TabsOf q K h)
    {od0 an0 od1 an1 od2 an2 od3 an3 od4 an4 od5 an5 od6 an6 od7 an7 od8 an8 od9 an9 od10 an10 od11 an11 od12 an12 : Option Addr} {sl0 sl1 sl2 sl3 sl4 sl5 sl6 sl7 sl8 sl9 sl10 sl11 sl12 : Array (Option Value)} {oc0 kV0 dc0 pm0 cd0 ct0 oc1 kV1 dc1 pm1 cd1 ct1 oc2 kV2 dc2 pm2 cd2 ct2 oc3 kV3 dc3 pm3 cd3 ct3 oc4 kV4 dc4 pm4 cd4 ct4 oc5 kV5 dc5 pm5 cd5 ct5 oc6 kV6 dc6 pm6 cd6 ct6 oc7 kV7 dc7 pm7 cd7 ct7 oc8 kV8 dc8 pm8 cd8 ct8 oc9 kV9 dc9 pm9 cd9 ct9 oc10 kV10 dc10 pm10 cd10 ct10 oc11 kV11 dc11 pm11 cd11 ct11 oc12 kV12 dc12 pm12 cd12 ct12 : Value}
    {ca1 P1 ca2 P2 ca4 P4 : Addr} {vs1 vs2 vs4 : Array Value} {oq1 oq2 oq4 : Value} {dq1 dq2 dq4 : Option Addr} {sq1 sq2 sq4 : Array (Option Value)}
    (a0 : PySem.W.nsIn K mainGlobals "parents_of" = some (some (.ref f0))) (l0 : K.lookup f0 = some ⟨oc0, od0, .func (PySem.W.fnOf "parents_of" "parents_of" (defArgs d0.st) (defBody d0.st) (defScope d0.st) .none kV0 dc0 pm0 an0 cd0 ct0), sl0⟩) (c0 : PySem.W.codeIn K cd0 "parents_of" = true) (k0 : PySem.W.keepIn K (.ref f0) = true)
    (a1 : PySem.W.nsIn K mainGlobals "above" = some (some (.ref f1))) (l1 : K.lookup f1 = some ⟨oc1, od1, .func (PySem.W.fnOf "above" "above" (defArgs d1.st) (defBody d1.st) (defScope d1.st) .none kV1 dc1 pm1 an1 cd1 ct1), sl1⟩) (c1 : PySem.W.codeIn K cd1 "above" = true) (k1 : PySem.W.keepIn K (.ref f1) = true)
    (a2 : PySem.W.nsIn K mainGlobals "fits_kinds" = some (some (.ref f2))) (l2 : K.lookup f2 = some ⟨oc2, od2, .func (PySem.W.fnOf "fits_kinds" "fits_kinds" (defArgs d2.st) (defBody d2.st) (defScope d2.st) .none kV2 dc2 pm2 an2 cd2 ct2), sl2⟩) (c2 : PySem.W.codeIn K cd2 "fits_kinds" = true) (k2 : PySem.W.keepIn K (.ref f2) = true)
    (a3 : PySem.W.nsIn K mainGlobals "is_nearer" = some (some (.ref f3))) (l3 : K.lookup f3 = some ⟨oc3, od3, .func (PySem.W.fnOf "is_nearer" "is_nearer" (defArgs d3.st) (defBody d3.st) (defScope d3.st) .none kV3 dc3 pm3 an3 cd3 ct3), sl3⟩) (c3 : PySem.W.codeIn K cd3 "is_nearer" = true) (k3 : PySem.W.keepIn K (.ref f3) = true)
    (a4 : PySem.W.nsIn K mainGlobals "best_way" = some (some (.ref f4))) (l4 : K.lookup f4 = some ⟨oc4, od4, .func (PySem.W.fnOf "best_way" "best_way" (defArgs d4.st) (defBody d4.st) (defScope d4.st) .none kV4 dc4 pm4 an4 cd4 ct4), sl4⟩) (c4 : PySem.W.codeIn K cd4 "best_way" = true) (k4 : PySem.W.keepIn K (.ref f4) = true)
    (a5 : PySem.W.nsIn K mainGlobals "_law_box" = some (some (.ref f5))) (l5 : K.lookup f5 = some ⟨oc5, od5, .func (PySem.W.fnOf "_law_box" "_law_box" (defArgs d5.st) (defBody d5.st) (defScope d5.st) .none kV5 dc5 pm5 an5 cd5 ct5), sl5⟩) (c5 : PySem.W.codeIn K cd5 "_law_box" = true) (k5 : PySem.W.keepIn K (.ref f5) = true)
    (a6 : PySem.W.nsIn K mainGlobals "_law_digits" = some (some (.ref f6))) (l6 : K.lookup f6 = some ⟨oc6, od6, .func (PySem.W.fnOf "_law_digits" "_law_digits" (defArgs d6.st) (defBody d6.st) (defScope d6.st) .none kV6 dc6 pm6 an6 cd6 ct6), sl6⟩) (c6 : PySem.W.codeIn K cd6 "_law_digits" = true) (k6 : PySem.W.keepIn K (.ref f6) = true)
    (a7 : PySem.W.nsIn K mainGlobals "_law_cell" = some (some (.ref f7))) (l7 : K.lookup f7 = some ⟨oc7, od7, .func (PySem.W.fnOf "_law_cell" "_law_cell" (defArgs d7.st) (defBody d7.st) (defScope d7.st) .none kV7 dc7 pm7 an7 cd7 ct7), sl7⟩) (c7 : PySem.W.codeIn K cd7 "_law_cell" = true) (k7 : PySem.W.keepIn K (.ref f7) = true)
    (a8 : PySem.W.nsIn K mainGlobals "_law_some_classes" = some (some (.ref f8))) (l8 : K.lookup f8 = some ⟨oc8, od8, .func (PySem.W.fnOf "_law_some_classes" "_law_some_classes" (defArgs d8.st) (defBody d8.st) (defScope d8.st) .none kV8 dc8 pm8 an8 cd8 ct8), sl8⟩) (c8 : PySem.W.codeIn K cd8 "_law_some_classes" = true) (k8 : PySem.W.keepIn K (.ref f8) = true)
    (a9 : PySem.W.nsIn K mainGlobals "_law_draw" = some (some (.ref f9))) (l9 : K.lookup f9 = some ⟨oc9, od9, .func (PySem.W.fnOf "_law_draw" "_law_draw" (defArgs d9.st) (defBody d9.st) (defScope d9.st) .none kV9 dc9 pm9 an9 cd9 ct9), sl9⟩) (c9 : PySem.W.codeIn K cd9 "_law_draw" = true) (k9 : PySem.W.keepIn K (.ref f9) = true)
    (a10 : PySem.W.nsIn K mainGlobals "_law_all_above" = some (some (.ref f10))) (l10 : K.lookup f10 = some ⟨oc10, od10, .func (PySem.W.fnOf "_law_all_above" "_law_all_above" (defArgs d10.st) (defBody d10.st) (defScope d10.st) .none kV10 dc10 pm10 an10 cd10 ct10), sl10⟩) (c10 : PySem.W.codeIn K cd10 "_law_all_above" = true) (k10 : PySem.W.keepIn K (.ref f10) = true)
    (a11 : PySem.W.nsIn K mainGlobals "_law_same" = some (some (.ref f11))) (l11 : K.lookup f11 = some ⟨oc11, od11, .func (PySem.W.fnOf "_law_same" "_law_same" (defArgs d11.st) (defBody d11.st) (defScope d11.st) .none kV11 dc11 pm11 an11 cd11 ct11), sl11⟩) (c11 : PySem.W.codeIn K cd11 "_law_same" = true) (k11 : PySem.W.keepIn K (.ref f11) = true)
    (a12 : PySem.W.nsIn K mainGlobals "law" = some (some (.ref f12))) (l12 : K.lookup f12 = some ⟨oc12, od12, .func (PySem.W.fnOf "law" "law" (defArgs d12.st) (defBody d12.st) (defScope d12.st) .none kV12 dc12 pm12 an12 cd12 ct12), sl12⟩) (c12 : PySem.W.codeIn K cd12 "law" = true) (k12 : PySem.W.keepIn K (.ref f12) = true)
    (q1 : cd1 = .ref ca1) (m1 : K.lookup ca1 = some ⟨oq1, dq1, .fields vs1, sq1⟩) (p1 : vs1[11]? = some (.ref P1)) (n1 : K.lookup P1 = none) (r1 : ((PyProof.Rows.recsOf q).find? fun e => e.name == ("above" : Str)).isSome = true)
    (q2 : cd2 = .ref ca2) (m2 : K.lookup ca2 = some ⟨oq2, dq2, .fields vs2, sq2⟩) (p2 : vs2[11]? = some (.ref P2)) (n2 : K.lookup P2 = none) (r2 : ((PyProof.Rows.recsOf q).find? fun e => e.name == ("fits_kinds" : Str)).isSome = true)
    (q4 : cd4 = .ref ca4) (m4 : K.lookup ca4 = some ⟨oq4, dq4, .fields vs4, sq4⟩) (p4 : vs4[11]? = some (.ref P4)) (n4 : K.lookup P4 = none) (r4 : ((PyProof.Rows.recsOf q).find? fun e => e.name == ("best_way" : Str)).isSome = true)
    (z0 : PySem.W.nsIn K mainGlobals "len" = some none)
    (z1 : PySem.W.nsIn K mainGlobals "int" = some none)
    (z2 : PySem.W.nsIn K mainGlobals "list" = some none)
    (z3 : PySem.W.nsIn K mainGlobals "tuple" = some none)
    (z4 : PySem.W.nsIn K mainGlobals "str" = some none)
    (z5 : PySem.W.nsIn K mainGlobals "isinstance" = some none)
    (z6 : PySem.W.nsIn K mainGlobals "range" = some none)
    (z7 : PySem.W.nsIn K mainGlobals "enumerate" = some none)
    (z8 : PySem.W.nsIn K mainGlobals "zip" = some none)
    (z9 : PySem.W.nsIn K mainGlobals "bool" = some none)
    (z10 : PySem.W.nsIn K mainGlobals "any" = some none)
    (z11 : PySem.W.nsIn K mainGlobals "all" = some none)
    : LawIs l w K (2 * 110) mg fa h := by
  have e := hfa.symm.trans (PySem.W.mg_of X G a12)
  cases e
  have b1 := tabIn_of a1 l1 q1 m1 p1
  have b2 := tabIn_of a2 l2 q2 m2 p2
  have b4 := tabIn_of a4 l4 q4 m4 p4
  have F0 : FunT K d0.name d0.st f0 _ ([(ca1, P1), (ca2, P2), (ca4, P4)] : List (Addr × Addr)) d0.gen := ⟨⟨_, _, _, _, _, _, _, _, _, rfl, l0, c0, fun z => absurd z (by decide)⟩, k0⟩
  have b_0 := (fun_mk (st := d0.st) l0 c0 k0).binds (ps := ["classes", "name"]) fun _ _ _ _ _ _ us hl => match us, hl with | [_, _], _ => rfl
  have F1 : FunT K d1.name d1.st f1 _ ([(ca1, P1), (ca2, P2), (ca4, P4)] : List (Addr × Addr)) d1.gen := ⟨⟨_, _, _, _, _, _, _, _, _, rfl, l1, c1, fun _ => ⟨(ca1, P1), List.mem_of_getElem? (i := 0) rfl, tab_code a1 l1 b1⟩⟩, k1⟩
  have b_1 := (fun_mk (st := d1.st) l1 c1 k1).binds (ps := ["classes", "name"]) fun _ _ _ _ _ _ us hl => match us, hl with | [_, _], _ => rfl
  have F2 : FunT K d2.name d2.st f2 _ ([(ca1, P1), (ca2, P2), (ca4, P4)] : List (Addr × Addr)) d2.gen := ⟨⟨_, _, _, _, _, _, _, _, _, rfl, l2, c2, fun _ => ⟨(ca2, P2), List.mem_of_getElem? (i := 1) rfl, tab_code a2 l2 b2⟩⟩, k2⟩
  have b_2 := (fun_mk (st := d2.st) l2 c2 k2).binds (ps := ["classes", "kinds", "names"]) fun _ _ _ _ _ _ us hl => match us, hl with | [_, _, _], _ => rfl
  have F3 : FunT K d3.name d3.st f3 _ ([(ca1, P1), (ca2, P2), (ca4, P4)] : List (Addr × Addr)) d3.gen := ⟨⟨_, _, _, _, _, _, _, _, _, rfl, l3, c3, fun z => absurd z (by decide)⟩, k3⟩
  have b_3 := (fun_mk (st := d3.st) l3 c3 k3).binds (ps := ["classes", "kinds", "others"]) fun _ _ _ _ _ _ us hl => match us, hl with | [_, _, _], _ => rfl
  have F4 : FunT K d4.name d4.st f4 _ ([(ca1, P1), (ca2, P2), (ca4, P4)] : List (Addr × Addr)) d4.gen := ⟨⟨_, _, _, _, _, _, _, _, _, rfl, l4, c4, fun _ => ⟨(ca4, P4), List.mem_of_getElem? (i := 2) rfl, tab_code a4 l4 b4⟩⟩, k4⟩
  have b_4 := (fun_mk (st := d4.st) l4 c4 k4).binds (ps := ["classes", "ways", "names"]) fun _ _ _ _ _ _ us hl => match us, hl with | [_, _, _], _ => rfl
  have F5 : FunT K d5.name d5.st f5 _ ([(ca1, P1), (ca2, P2), (ca4, P4)] : List (Addr × Addr)) d5.gen := ⟨⟨_, _, _, _, _, _, _, _, _, rfl, l5, c5, fun z => absurd z (by decide)⟩, k5⟩
  have b_5 := (fun_mk (st := d5.st) l5 c5 k5).binds (ps := ["script", "first", "last"]) fun _ _ _ _ _ _ us hl => match us, hl with | [_, _, _], _ => rfl
  have F6 : FunT K d6.name d6.st f6 _ ([(ca1, P1), (ca2, P2), (ca4, P4)] : List (Addr × Addr)) d6.gen := ⟨⟨_, _, _, _, _, _, _, _, _, rfl, l6, c6, fun z => absurd z (by decide)⟩, k6⟩
  have b_6 := (fun_mk (st := d6.st) l6 c6 k6).binds (ps := ["script", "first", "last"]) fun _ _ _ _ _ _ us hl => match us, hl with | [_, _, _], _ => rfl
  have F7 : FunT K d7.name d7.st f7 _ ([(ca1, P1), (ca2, P2), (ca4, P4)] : List (Addr × Addr)) d7.gen := ⟨⟨_, _, _, _, _, _, _, _, _, rfl, l7, c7, fun z => absurd z (by decide)⟩, k7⟩
  have b_7 := (fun_mk (st := d7.st) l7 c7 k7).binds (ps := ["script", "k"]) fun _ _ _ _ _ _ us hl => match us, hl with | [_, _], _ => rfl
  have F8 : FunT K d8.name d8.st f8 _ ([(ca1, P1), (ca2, P2), (ca4, P4)] : List (Addr × Addr)) d8.gen := ⟨⟨_, _, _, _, _, _, _, _, _, rfl, l8, c8, fun z => absurd z (by decide)⟩, k8⟩
  have b_8 := (fun_mk (st := d8.st) l8 c8 k8).binds (ps := ["box", "most"]) fun _ _ _ _ _ _ us hl => match us, hl with | [_, _], _ => rfl
  have F9 : FunT K d9.name d9.st f9 _ ([(ca1, P1), (ca2, P2), (ca4, P4)] : List (Addr × Addr)) d9.gen := ⟨⟨_, _, _, _, _, _, _, _, _, rfl, l9, c9, fun z => absurd z (by decide)⟩, k9⟩
  have b_9 := (fun_mk (st := d9.st) l9 c9 k9).binds (ps := ["box", "many"]) fun _ _ _ _ _ _ us hl => match us, hl with | [_, _], _ => rfl
  have F10 : FunT K d10.name d10.st f10 _ ([(ca1, P1), (ca2, P2), (ca4, P4)] : List (Addr × Addr)) d10.gen := ⟨⟨_, _, _, _, _, _, _, _, _, rfl, l10, c10, fun z => absurd z (by decide)⟩, k10⟩
  have b_10 := (fun_mk (st := d10.st) l10 c10 k10).binds (ps := ["classes", "name"]) fun _ _ _ _ _ _ us hl => match us, hl with | [_, _], _ => rfl
  have F11 : FunT K d11.name d11.st f11 _ ([(ca1, P1), (ca2, P2), (ca4, P4)] : List (Addr × Addr)) d11.gen := ⟨⟨_, _, _, _, _, _, _, _, _, rfl, l11, c11, fun z => absurd z (by decide)⟩, k11⟩
  have b_11 := (fun_mk (st := d11.st) l11 c11 k11).binds (ps := ["actual", "expected"]) fun _ _ _ _ _ _ us hl => match us, hl with | [_, _], _ => rfl
  have F12 : FunT K d12.name d12.st fa _ ([(ca1, P1), (ca2, P2), (ca4, P4)] : List (Addr × Addr)) d12.gen := ⟨⟨_, _, _, _, _, _, _, _, _, rfl, l12, c12, fun z => absurd z (by decide)⟩, k12⟩
  have b_12 := (fun_mk (st := d12.st) l12 c12 k12).binds (ps := ["script"]) fun _ _ _ _ _ _ us hl => match us, hl with | [_], _ => rfl
  have fs : Facts T0 [] K mg (fun k => [f0, f1, f2, f3, f4, f5, f6, f7, f8, f9, f10, f11, fa].getD k 0) (fun k => [PySem.W.fnOf "parents_of" "parents_of" (defArgs d0.st) (defBody d0.st) (defScope d0.st) .none kV0 dc0 pm0 an0 cd0 ct0, PySem.W.fnOf "above" "above" (defArgs d1.st) (defBody d1.st) (defScope d1.st) .none kV1 dc1 pm1 an1 cd1 ct1, PySem.W.fnOf "fits_kinds" "fits_kinds" (defArgs d2.st) (defBody d2.st) (defScope d2.st) .none kV2 dc2 pm2 an2 cd2 ct2, PySem.W.fnOf "is_nearer" "is_nearer" (defArgs d3.st) (defBody d3.st) (defScope d3.st) .none kV3 dc3 pm3 an3 cd3 ct3, PySem.W.fnOf "best_way" "best_way" (defArgs d4.st) (defBody d4.st) (defScope d4.st) .none kV4 dc4 pm4 an4 cd4 ct4, PySem.W.fnOf "_law_box" "_law_box" (defArgs d5.st) (defBody d5.st) (defScope d5.st) .none kV5 dc5 pm5 an5 cd5 ct5, PySem.W.fnOf "_law_digits" "_law_digits" (defArgs d6.st) (defBody d6.st) (defScope d6.st) .none kV6 dc6 pm6 an6 cd6 ct6, PySem.W.fnOf "_law_cell" "_law_cell" (defArgs d7.st) (defBody d7.st) (defScope d7.st) .none kV7 dc7 pm7 an7 cd7 ct7, PySem.W.fnOf "_law_some_classes" "_law_some_classes" (defArgs d8.st) (defBody d8.st) (defScope d8.st) .none kV8 dc8 pm8 an8 cd8 ct8, PySem.W.fnOf "_law_draw" "_law_draw" (defArgs d9.st) (defBody d9.st) (defScope d9.st) .none kV9 dc9 pm9 an9 cd9 ct9, PySem.W.fnOf "_law_all_above" "_law_all_above" (defArgs d10.st) (defBody d10.st) (defScope d10.st) .none kV10 dc10 pm10 an10 cd10 ct10, PySem.W.fnOf "_law_same" "_law_same" (defArgs d11.st) (defBody d11.st) (defScope d11.st) .none kV11 dc11 pm11 an11 cd11 ct11, PySem.W.fnOf "law" "law" (defArgs d12.st) (defBody d12.st) (defScope d12.st) .none kV12 dc12 pm12 an12 cd12 ct12].getD k (PySem.W.fnOf "parents_of" "parents_of" (defArgs d0.st) (defBody d0.st) (defScope d0.st) .none kV0 dc0 pm0 an0 cd0 ct0)) ([(ca1, P1), (ca2, P2), (ca4, P4)] : List (Addr × Addr)) := by
    refine ⟨fun f d e => ?_, fun x hx => ?_, fun j x e => ?_⟩
    · match f, e with
      | 0, e => cases e; exact ⟨F0, PySem.W.mg_of X G a0, b_0⟩
      | 1, e => cases e; exact ⟨F1, PySem.W.mg_of X G a1, b_1⟩
      | 2, e => cases e; exact ⟨F2, PySem.W.mg_of X G a2, b_2⟩
      | 3, e => cases e; exact ⟨F3, PySem.W.mg_of X G a3, b_3⟩
      | 4, e => cases e; exact ⟨F4, PySem.W.mg_of X G a4, b_4⟩
      | 5, e => cases e; exact ⟨F5, PySem.W.mg_of X G a5, b_5⟩
      | 6, e => cases e; exact ⟨F6, PySem.W.mg_of X G a6, b_6⟩
      | 7, e => cases e; exact ⟨F7, PySem.W.mg_of X G a7, b_7⟩
      | 8, e => cases e; exact ⟨F8, PySem.W.mg_of X G a8, b_8⟩
      | 9, e => cases e; exact ⟨F9, PySem.W.mg_of X G a9, b_9⟩
      | 10, e => cases e; exact ⟨F10, PySem.W.mg_of X G a10, b_10⟩
      | 11, e => cases e; exact ⟨F11, PySem.W.mg_of X G a11, b_11⟩
      | 12, e => cases e; exact ⟨F12, PySem.W.mg_of X G a12, b_12⟩
      | _ + 13, e => simp [T0] at e
    · simp only [T0, List.mem_cons, List.not_mem_nil, or_false] at hx
      rcases hx with rfl | rfl | rfl | rfl | rfl | rfl | rfl | rfl | rfl | rfl | rfl | rfl
      · exact PySem.W.mg_none_of X G z0
      · exact PySem.W.mg_none_of X G z1
      · exact PySem.W.mg_none_of X G z2
      · exact PySem.W.mg_none_of X G z3
      · exact PySem.W.mg_none_of X G z4
      · exact PySem.W.mg_none_of X G z5
      · exact PySem.W.mg_none_of X G z6
      · exact PySem.W.mg_none_of X G z7
      · exact PySem.W.mg_none_of X G z8
      · exact PySem.W.mg_none_of X G z9
      · exact PySem.W.mg_none_of X G z10
      · exact PySem.W.mg_none_of X G z11
    · simp [T0] at e
  refine ⟨PySem.W.fnOf "law" "law" (defArgs d12.st) (defBody d12.st) (defScope d12.st) .none kV12 dc12 pm12 an12 cd12 ct12, [(ca1, P1), (ca2, P2), (ca4, P4)], fun p hp => ?_, fun s v => .of_eq rfl, fun base _ _ hT => ?_⟩
  · simp only [List.mem_cons, List.not_mem_nil, or_false] at hp
    rcases hp with rfl | rfl | rfl
    · exact ⟨hTab "above" _ _ r1 b1, n1⟩
    · exact ⟨hTab "fits_kinds" _ _ r2 b2, n2⟩
    · exact ⟨hTab "best_way" _ _ r4 b4, n4⟩
  · exact law_ok (P := l.prog) (w := w) (base := base) fs hT tr sc (k := 110) (f := 12) (d := d12) rfl rfl law_true
end K78
open PySem PySem.W PyProof.Rows
set_option maxRecDepth 100000 in
set_option maxHeartbeats 0 in
theorem PySem.Challenge.cw_sensehouse_k78_the_nearest_way_holds : PySem.Challenge.rw_sensehouse_k78_the_nearest_way.Holds := by
  w_on; o_law; k_head; (case hw => w_witness2)
  k_fill
  refine CL.walk (k := 220) (l := PySem.Challenge.rw_sensehouse_k78_the_nearest_way) rfl rfl ⟨rfl, by decide, by decide⟩ (fun w h Y => PySem.W.kIn_of Y) ?F
  case F =>
    intro w mg fa h KX G hmg hTab
    refine' K78.all_mk KX G hmg hTab ?a0 ?l0 ?c0 ?k0 ?a1 ?l1 ?c1 ?k1 ?a2 ?l2 ?c2 ?k2 ?a3 ?l3 ?c3 ?k3 ?a4 ?l4 ?c4 ?k4 ?a5 ?l5 ?c5 ?k5 ?a6 ?l6 ?c6 ?k6 ?a7 ?l7 ?c7 ?k7 ?a8 ?l8 ?c8 ?k8 ?a9 ?l9 ?c9 ?k9 ?a10 ?l10 ?c10 ?k10 ?a11 ?l11 ?c11 ?k11 ?a12 ?l12 ?c12 ?k12 ?q1 ?m1 ?p1 ?n1 ?r1 ?q2 ?m2 ?p2 ?n2 ?r2 ?q4 ?m4 ?p4 ?n4 ?r4 ?z0 ?z1 ?z2 ?z3 ?z4 ?z5 ?z6 ?z7 ?z8 ?z9 ?z10 ?z11
    (case a0 => k_is)
    (case l0 => k_is)
    (case c0 => k_is)
    (case k0 => k_is)
    (case a1 => k_is)
    (case l1 => k_is)
    (case c1 => k_is)
    (case k1 => k_is)
    (case a2 => k_is)
    (case l2 => k_is)
    (case c2 => k_is)
    (case k2 => k_is)
    (case a3 => k_is)
    (case l3 => k_is)
    (case c3 => k_is)
    (case k3 => k_is)
    (case a4 => k_is)
    (case l4 => k_is)
    (case c4 => k_is)
    (case k4 => k_is)
    (case a5 => k_is)
    (case l5 => k_is)
    (case c5 => k_is)
    (case k5 => k_is)
    (case a6 => k_is)
    (case l6 => k_is)
    (case c6 => k_is)
    (case k6 => k_is)
    (case a7 => k_is)
    (case l7 => k_is)
    (case c7 => k_is)
    (case k7 => k_is)
    (case a8 => k_is)
    (case l8 => k_is)
    (case c8 => k_is)
    (case k8 => k_is)
    (case a9 => k_is)
    (case l9 => k_is)
    (case c9 => k_is)
    (case k9 => k_is)
    (case a10 => k_is)
    (case l10 => k_is)
    (case c10 => k_is)
    (case k10 => k_is)
    (case a11 => k_is)
    (case l11 => k_is)
    (case c11 => k_is)
    (case k11 => k_is)
    (case a12 => k_is)
    (case l12 => k_is)
    (case c12 => k_is)
    (case k12 => k_is)
    (case q1 => exact rfl)
    (case m1 => k_is)
    (case p1 => exact rfl)
    (case n1 => first | k_is | kernel_rfl | decide +kernel)
    (case r1 => first | rfl | decide +kernel)
    (case q2 => exact rfl)
    (case m2 => k_is)
    (case p2 => exact rfl)
    (case n2 => first | k_is | kernel_rfl | decide +kernel)
    (case r2 => first | rfl | decide +kernel)
    (case q4 => exact rfl)
    (case m4 => k_is)
    (case p4 => exact rfl)
    (case n4 => first | k_is | kernel_rfl | decide +kernel)
    (case r4 => first | rfl | decide +kernel)
    (case z0 => k_is)
    (case z1 => k_is)
    (case z2 => k_is)
    (case z3 => k_is)
    (case z4 => k_is)
    (case z5 => k_is)
    (case z6 => k_is)
    (case z7 => k_is)
    (case z8 => k_is)
    (case z9 => k_is)
    (case z10 => k_is)
    (case z11 => k_is)
